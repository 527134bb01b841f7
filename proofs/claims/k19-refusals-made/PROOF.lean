import PyProof.Rows.All
import Wide.All
import OpenK.AllK
import Wide.FinOn
import HandS.ForMost
import HandS.ForExc
import HandS.SortInts
import HandS.More
import HandS.Style
import HandS.IsInst
import HandS.Rev
import HandS.Deep
import HandS.FromBytesMap
import HandS.SortKw
import KE.SortKeyHeap
import HandS.TryOnly
import HandS.DeepEq
import HandS.ListItems
import HandS.Keys
import PyProof.Rows.SortShell
import KE.SortData
import HandS.Flow
import KE.DataMinMax
import HandS.ExcCtx
import HandS.ExcOwn
import HandS.HotCalls
import HandS.ExcField
import KE.KExcIs
import HandS.ExcInit
import HandS.Text
import HandS.Iter
import KE.GoesEnumKw
import HandS.SetFor
import KE.KDictList
import KE.DataEq
import HandS.EndBits
import HandS.WideBits
import KE.IntBitsLaws
import PyProof.StrOps2
import HandS.TupAny
import PySem.Challenge.RW_signforms_k19_refusals_made
set_option Elab.async false
set_option linter.all false
set_option maxRecDepth 100000
set_option maxHeartbeats 4000000
set_option synthInstance.maxSize 2000
namespace Sg
open PySem PySem.Spec PyProof.Rows L2

/-! ### results -/
inductive ED where
  | int (i : Int)
  | ints (l : List Int)
  deriving DecidableEq
structure Err where
  cls : Str
  fs : List (Str × ED)
inductive Res (α : Type) where
  | ok (a : α) | err (e : Err) | stuck
def Res.bind {α β : Type} (m : Res α) (f : α → Res β) : Res β := match m with
  | .ok a => f a
  | .err e => .err e
  | .stuck => .stuck
def Fin {α : Type} (P : α → Prop) (Er : Err → Prop) : Res α → Prop
  | .ok a => P a
  | .err e => Er e
  | .stuck => False
theorem Fin.bind {α β : Type} {P : β → Prop} {Er : Err → Prop} {m : Res α} {f : α → Res β} (h : Fin P Er (m.bind f)) : Fin (fun a => Fin P Er (f a)) Er m := by
  cases m with
  | ok a => exact h
  | err e => exact h
  | stuck => exact h
theorem Fin.unbind {α β : Type} {P : β → Prop} {Er : Err → Prop} {m : Res α} {f : α → Res β} (h : Fin (fun a => Fin P Er (f a)) Er m) : Fin P Er (m.bind f) := by
  cases m with
  | ok a => exact h
  | err e => exact h
  | stuck => exact h
theorem Fin.mono {α : Type} {P P' : α → Prop} {Er Er' : Err → Prop} {m : Res α} (h : Fin P Er m) (k : ∀ a, m = .ok a → P a → P' a) (ke : ∀ e, Er e → Er' e) : Fin P' Er' m := by
  cases m with
  | ok a => exact k a rfl h
  | err e => exact ke e h
  | stuck => exact h
/-- a partial thing -/
def Res.of {α : Type} : Option α → Res α
  | some a => .ok a
  | none => .stuck
/-- a test that must hold -/
@[irreducible] def Res.need {α : Type} (c : Prop) [Decidable c] (m : Res α) : Res α := if c then m else .stuck
theorem Fin.need {α : Type} {c : Prop} [Decidable c] {P : α → Prop} {Er : Err → Prop} {m : Res α} (h : Fin P Er (Res.need c m)) : c ∧ Fin P Er m := by
  unfold Res.need at h
  by_cases hc : c
  · rw [if_pos hc] at h
    exact ⟨hc, h⟩
  · rw [if_neg hc] at h
    exact h.elim

/-! ### heaps -/
def nf : HO → HO
  | .frz _ (.dK k) => .dK k
  | .frz _ (.dT k) => .dT k
  | o => o
/-- what is read in the one is read in the other -/
def Ex (H H' : Hp) : Prop := ∀ a o, H a = some o → ∃ o', H' a = some o' ∧ nf o' = nf o
/-- .. is the same in the other -/
def Sx (H H' : Hp) : Prop := ∀ a o, H a = some o → H' a = some o
theorem Ex.refl (H : Hp) : Ex H H := fun _ o h => ⟨o, h, rfl⟩
theorem Ex.trans {H H1 H2 : Hp} (a : Ex H H1) (b : Ex H1 H2) : Ex H H2 := fun x o h => by
  obtain ⟨o1, h1, e1⟩ := a x o h
  obtain ⟨o2, h2, e2⟩ := b x o1 h1
  exact ⟨o2, h2, e2.trans e1⟩
theorem Sx.refl (H : Hp) : Sx H H := fun _ _ h => h
theorem Sx.trans {H H1 H2 : Hp} (a : Sx H H1) (b : Sx H1 H2) : Sx H H2 := fun x o h => b x o (a x o h)
theorem Sx.ex {H H' : Hp} (a : Sx H H') : Ex H H' := fun x o h => ⟨o, a x o h, rfl⟩
theorem Sx.new {H : Hp} {p : Addr} {o : HO} (h : H p = none) : Sx H (upd H p o) := fun a u e => by
  rw [upd_ne (ne_of_none e h)]
  exact e
theorem Sx.free {H H' : Hp} (e : Sx H H') {l : Addr} (h : H' l = none) : H l = none := by
  cases q : H l with
  | none => rfl
  | some o =>
    rw [e l o q] at h
    cases h
/-- tuples kept -/
def Tx (H H' : Hp) : Prop := ∀ a ys, H a = some (.tup ys) → H' a = some (.tup ys)
theorem nf_lst {o : HO} {xs : List V} (h : nf o = .lst xs) : o = .lst xs := by
  cases o with
  | frz ob u => cases u <;> cases h
  | lst ys => exact h
  | _ => cases h
theorem nf_tup {o : HO} {xs : List V} (h : nf o = .tup xs) : o = .tup xs := by
  cases o with
  | frz ob u => cases u <;> cases h
  | tup ys => exact h
  | _ => cases h
theorem nf_ins {o : HO} {C dx : Addr} {fs : List (Str × V)} (h : nf o = .ins C dx fs) : o = .ins C dx fs := by
  cases o with
  | frz ob u => cases u <;> cases h
  | ins _ _ _ => exact h
  | _ => cases h
theorem nf_dK {o : HO} {k : List (Key × V)} (h : nf o = .dK k) : o = .dK k ∨ ∃ ob, o = .frz ob (.dK k) := by
  cases o with
  | frz ob u => cases u <;> first | (cases h; exact .inr ⟨_, rfl⟩) | cases h
  | dK _ => exact .inl h
  | _ => cases h
theorem nf_dT {o : HO} {k : List (List Key × V)} (h : nf o = .dT k) : o = .dT k ∨ ∃ ob, o = .frz ob (.dT k) := by
  cases o with
  | frz ob u => cases u <;> first | (cases h; exact .inr ⟨_, rfl⟩) | cases h
  | dT _ => exact .inl h
  | _ => cases h
theorem nf_frzL {o : HO} {ob : Obj} {xs : List V} (h : nf o = nf (.frz ob (.lst xs))) : o = .frz ob (.lst xs) := by
  cases o with
  | frz ob' u => cases u <;> first | exact h | cases h
  | _ => cases h
theorem nf_frzT {o : HO} {ob : Obj} {xs : List V} (h : nf o = nf (.frz ob (.tup xs))) : o = .frz ob (.tup xs) := by
  cases o with
  | frz ob' u => cases u <;> first | exact h | cases h
  | _ => cases h
theorem Ex.lst {H H' : Hp} {a : Addr} {xs : List V} (e : Ex H H') (h : H a = some (.lst xs)) : H' a = some (.lst xs) := by
  obtain ⟨o, h1, h2⟩ := e _ _ h
  rw [h1, nf_lst h2]
theorem Ex.tup {H H' : Hp} {a : Addr} {xs : List V} (e : Ex H H') (h : H a = some (.tup xs)) : H' a = some (.tup xs) := by
  obtain ⟨o, h1, h2⟩ := e _ _ h
  rw [h1, nf_tup h2]
theorem Ex.ins {H H' : Hp} {a C dx : Addr} {fs : List (Str × V)} (e : Ex H H') (h : H a = some (.ins C dx fs)) : H' a = some (.ins C dx fs) := by
  obtain ⟨o, h1, h2⟩ := e _ _ h
  rw [h1, nf_ins h2]
theorem Ex.dK {H H' : Hp} {a : Addr} {k : List (Key × V)} (e : Ex H H') (h : Rd H a (.dK k)) : Rd H' a (.dK k) := by
  have key : ∀ o, H a = some o → nf o = .dK k → Rd H' a (.dK k) := fun o h1 h2 => by
    obtain ⟨o', h3, h4⟩ := e _ _ h1
    rcases nf_dK (h4.trans h2) with q | ⟨ob, q⟩
    · exact .inl (by rw [h3, q])
    · exact .inr ⟨ob, by rw [h3, q]⟩
  rcases h with h | ⟨ob, h⟩
  · exact key _ h rfl
  · exact key _ h rfl
theorem Ex.dT {H H' : Hp} {a : Addr} {k : List (List Key × V)} (e : Ex H H') (h : Rd H a (.dT k)) : Rd H' a (.dT k) := by
  have key : ∀ o, H a = some o → nf o = .dT k → Rd H' a (.dT k) := fun o h1 h2 => by
    obtain ⟨o', h3, h4⟩ := e _ _ h1
    rcases nf_dT (h4.trans h2) with q | ⟨ob, q⟩
    · exact .inl (by rw [h3, q])
    · exact .inr ⟨ob, by rw [h3, q]⟩
  rcases h with h | ⟨ob, h⟩
  · exact key _ h rfl
  · exact key _ h rfl
theorem Ex.sqL {K : PySem.W.Frag} {H H' : Hp} {a : Addr} {xs : List V} (e : Ex H H') (h : SqL K H a xs) : SqL K H' a xs := by
  rcases h with (h | ⟨ob, h⟩) | h
  · exact .inl (.inl (e.lst h))
  · obtain ⟨o, h1, h2⟩ := e _ _ h
    exact .inl (.inr ⟨ob, by rw [h1, nf_frzL h2]⟩)
  · exact .inr h
theorem Ex.sqT {K : PySem.W.Frag} {H H' : Hp} {a : Addr} {xs : List V} (e : Ex H H') (h : SqT K H a xs) : SqT K H' a xs := by
  rcases h with (h | ⟨ob, h⟩) | h
  · exact .inl (.inl (e.tup h))
  · obtain ⟨o, h1, h2⟩ := e _ _ h
    exact .inl (.inr ⟨ob, by rw [h1, nf_frzT h2]⟩)
  · exact .inr h

/-! ### what stands for data -/
theorem Ex.rdL {H H' : Hp} {a : Addr} {xs : List V} (e : Ex H H') (h : Rd H a (.lst xs)) : Rd H' a (.lst xs) := by
  rcases h with h | ⟨ob, h⟩
  · exact .inl (e.lst h)
  · obtain ⟨o, h1, h2⟩ := e _ _ h
    exact .inr ⟨ob, by rw [h1, nf_frzL h2]⟩

structure Rel (α : Type) where
  r : Hp → V → α → Prop
  mono : ∀ {H H' : Hp} {v : V} {x : α}, Ex H H' → r H v x → r H' v x
class Imm {α : Type} (R : Rel α) : Prop where
  imm : ∀ {H H' : Hp} {v : V} {x : α}, Tx H H' → R.r H v x → R.r H' v x
/-- never None -/
class NN {α : Type} (R : Rel α) : Prop where
  nn : ∀ {H : Hp} {v : V} {x : α}, R.r H v x → v ≠ .non

theorem pimp {α β : Type} {F G : α → β → Prop} {l₁ : List α} {l₂ : List β} (h : Paired F l₁ l₂) (f : ∀ a b, F a b → G a b) : Paired G l₁ l₂ := Paired.mapP h f

def rInt : Rel Int := ⟨fun _ v x => v = .int x, fun _ h => h⟩
def rBool : Rel Bool := ⟨fun _ v x => v = .bl x, fun _ h => h⟩
def rStr : Rel Str := ⟨fun _ v x => v = .str x, fun _ h => h⟩
def rNon : Rel Unit := ⟨fun _ v _ => v = .non, fun _ h => h⟩
section
variable {α β γ : Type}
def rLst (R : Rel α) : Rel (List α) := ⟨fun H v xs => ∃ p vs, v = .ref p ∧ Rd H p (.lst vs) ∧ Paired (R.r H) vs xs, fun e h => by
  obtain ⟨p, vs, h1, h2, h3⟩ := h
  exact ⟨p, vs, h1, e.rdL h2, pimp h3 fun _ _ q => R.mono e q⟩⟩
def rTup (R : Rel α) : Rel (List α) := ⟨fun H v xs => ∃ p vs, v = .ref p ∧ H p = some (.tup vs) ∧ Paired (R.r H) vs xs, fun e h => by
  obtain ⟨p, vs, h1, h2, h3⟩ := h
  exact ⟨p, vs, h1, e.tup h2, pimp h3 fun _ _ q => R.mono e q⟩⟩
def rPr (R : Rel α) (S : Rel β) : Rel (α × β) := ⟨fun H v x => ∃ p a b, v = .ref p ∧ H p = some (.tup [a, b]) ∧ R.r H a x.1 ∧ S.r H b x.2, fun e h => by
  obtain ⟨p, a, b, h1, h2, h3, h4⟩ := h
  exact ⟨p, a, b, h1, e.tup h2, R.mono e h3, S.mono e h4⟩⟩
def rOpt (R : Rel α) : Rel (Option α) := ⟨fun H v x => match x with
  | none => v = .non
  | some y => v ≠ .non ∧ R.r H v y, fun {H H' v x} e h => by
  cases x with
  | none => exact h
  | some y => exact ⟨h.1, R.mono e h.2⟩⟩
instance : Imm rInt := ⟨fun _ h => h⟩
instance : Imm rBool := ⟨fun _ h => h⟩
instance : Imm rStr := ⟨fun _ h => h⟩
instance : Imm rNon := ⟨fun _ h => h⟩
instance {R : Rel α} [Imm R] : Imm (rTup R) := ⟨fun e h => by
  obtain ⟨p, vs, h1, h2, h3⟩ := h
  exact ⟨p, vs, h1, e _ _ h2, pimp h3 fun _ _ q => Imm.imm e q⟩⟩
instance {R : Rel α} {S : Rel β} [Imm R] [Imm S] : Imm (rPr R S) := ⟨fun e h => by
  obtain ⟨p, a, b, h1, h2, h3, h4⟩ := h
  exact ⟨p, a, b, h1, e _ _ h2, Imm.imm e h3, Imm.imm e h4⟩⟩
instance {R : Rel α} [Imm R] : Imm (rOpt R) := ⟨fun {H H' v x} e h => by
  cases x with
  | none => exact h
  | some y => exact ⟨h.1, Imm.imm e h.2⟩⟩
instance : NN rInt := ⟨fun h => by rw [h]; exact fun q => by cases q⟩
instance : NN rBool := ⟨fun h => by rw [h]; exact fun q => by cases q⟩
instance : NN rStr := ⟨fun h => by rw [h]; exact fun q => by cases q⟩
instance {R : Rel α} : NN (rLst R) := ⟨fun h => by obtain ⟨p, vs, h1, _⟩ := h; rw [h1]; exact fun q => by cases q⟩
instance {R : Rel α} : NN (rTup R) := ⟨fun h => by obtain ⟨p, vs, h1, _⟩ := h; rw [h1]; exact fun q => by cases q⟩
instance {R : Rel α} {S : Rel β} : NN (rPr R S) := ⟨fun h => by obtain ⟨p, a, b, h1, _⟩ := h; rw [h1]; exact fun q => by cases q⟩
end

/-! ### the state within a def -/
/-- the entry: what stays known (B0), all that is known (H0) -/
structure Ent where
  B0 : Hp
  H0 : Hp
abbrev Own := List (Addr × HO)
structure Stt (E : Ent) (own : Own) (B H : Hp) : Prop where
  b0 : Sx E.B0 B
  h0 : Sx E.H0 H
  bh : Sx B H
  tu : Tx H B
  fr : ∀ a o, B a = some o → E.B0 a = some o ∨ E.H0 a = none
  ow : ∀ q ∈ own, E.H0 q.1 = none ∧ B q.1 = none ∧ H q.1 = some q.2
  nd : (own.map (·.1)).Nodup
theorem upd_nd {own : Own} {p : Addr} (h : ∀ q ∈ own, q.1 ≠ p) : p ∉ own.map (·.1) := fun z => by
  obtain ⟨q, hq, e⟩ := List.mem_map.mp z
  exact h q hq e
section
variable {E : Ent} {own new : Own} {B H B' H' : Hp} {p : Addr} {o o' : HO}
theorem Stt.fresh (S : Stt E own B H) (h : H p = none) : E.H0 p = none ∧ B p = none := ⟨S.h0.free h, S.bh.free h⟩
/-- a new object, owned -/
theorem Stt.alloc (S : Stt E own B H) (h : H p = none) (nt : ∀ ys, o ≠ .tup ys) : Stt E ((p, o) :: own) B (upd H p o) where
  b0 := S.b0
  h0 := S.h0.trans (Sx.new h)
  bh := S.bh.trans (Sx.new h)
  tu := fun a ys e => by
    by_cases ha : a = p
    · subst ha
      rw [upd_same] at e
      exact absurd (Option.some.inj e) (nt ys)
    · rw [upd_ne ha] at e
      exact S.tu a ys e
  fr := S.fr
  ow := fun q hq => by
    rcases List.mem_cons.mp hq with rfl | hq
    · exact ⟨S.h0.free h, S.bh.free h, upd_same⟩
    · obtain ⟨h1, h2, h3⟩ := S.ow q hq
      refine ⟨h1, h2, ?_⟩
      rw [upd_ne (ne_of_none h3 h)]
      exact h3
  nd := List.nodup_cons.mpr ⟨upd_nd fun q hq => ne_of_none (S.ow q hq).2.2 h, S.nd⟩
/-- a new object that stays as it is -/
theorem Stt.lay (S : Stt E own B H) (h : H p = none) : Stt E own (upd B p o) (upd H p o) where
  b0 := S.b0.trans (Sx.new (S.bh.free h))
  h0 := S.h0.trans (Sx.new h)
  bh := fun a u e => by
    by_cases ha : a = p
    · subst ha
      rw [upd_same] at e ⊢
      exact e
    · rw [upd_ne ha] at e ⊢
      exact S.bh a u e
  tu := fun a ys e => by
    by_cases ha : a = p
    · subst ha
      rw [upd_same] at e ⊢
      exact e
    · rw [upd_ne ha] at e ⊢
      exact S.tu a ys e
  fr := fun a u e => by
    by_cases ha : a = p
    · subst ha
      exact .inr (S.h0.free h)
    · rw [upd_ne ha] at e
      exact S.fr a u e
  ow := fun q hq => by
    obtain ⟨h1, h2, h3⟩ := S.ow q hq
    have ne : q.1 ≠ p := ne_of_none h3 h
    rw [upd_ne ne, upd_ne ne]
    exact ⟨h1, h2, h3⟩
  nd := S.nd
theorem Stt.layB (S : Stt E own B H) (h : H p = none) : Sx B (upd B p o) := Sx.new (S.bh.free h)
/-- an owned object stays as it is from now on -/
theorem Stt.keep (S : Stt E ((p, o) :: own) B H) : Stt E own (upd B p o) H where
  b0 := S.b0.trans (Sx.new (S.ow _ (List.mem_cons_self ..)).2.1)
  h0 := S.h0
  bh := fun a u e => by
    by_cases ha : a = p
    · subst ha
      rw [upd_same] at e
      rw [← e]
      exact (S.ow _ (List.mem_cons_self ..)).2.2
    · rw [upd_ne ha] at e
      exact S.bh a u e
  tu := fun a ys e => by
    by_cases ha : a = p
    · subst ha
      rw [upd_same]
      rw [← e]
      exact (S.ow _ (List.mem_cons_self ..)).2.2.symm
    · rw [upd_ne ha]
      exact S.tu a ys e
  fr := fun a u e => by
    by_cases ha : a = p
    · subst ha
      exact .inr (S.ow _ (List.mem_cons_self ..)).1
    · rw [upd_ne ha] at e
      exact S.fr a u e
  ow := fun q hq => by
    obtain ⟨h1, h2, h3⟩ := S.ow q (List.mem_cons_of_mem _ hq)
    have ne : q.1 ≠ p := fun z => (List.nodup_cons.mp S.nd).1 (List.mem_map.mpr ⟨q, hq, z⟩)
    rw [upd_ne ne]
    exact ⟨h1, h2, h3⟩
  nd := (List.nodup_cons.mp S.nd).2
/-- fewer, or in another turn -/
theorem Stt.sub (S : Stt E own B H) (h : ∀ q ∈ new, q ∈ own) (hn : (new.map (·.1)).Nodup) : Stt E new B H := ⟨S.b0, S.h0, S.bh, S.tu, S.fr, fun q hq => S.ow q (h q hq), hn⟩
theorem Stt.drop (S : Stt E ((p, o) :: own) B H) : Stt E own B H := S.sub (fun _ h => List.mem_cons_of_mem _ h) (List.nodup_cons.mp S.nd).2
theorem Stt.drops (S : Stt E (new ++ own) B H) : Stt E own B H := by
  refine S.sub (fun _ h => List.mem_append_right _ h) ?_
  have := S.nd
  rw [List.map_append] at this
  exact (List.nodup_append.mp this).2.1
theorem Stt.none (S : Stt E own B H) : Stt E [] B H := S.sub (fun _ h => nomatch h) List.nodup_nil
theorem Stt.swap {q : Addr × HO} {r : Addr × HO} (S : Stt E (q :: r :: own) B H) : Stt E (r :: q :: own) B H := by
  refine S.sub (fun z h => ?_) ?_
  · rcases List.mem_cons.mp h with rfl | h
    · exact List.mem_cons_of_mem _ (List.mem_cons_self ..)
    · rcases List.mem_cons.mp h with rfl | h
      · exact List.mem_cons_self ..
      · exact List.mem_cons_of_mem _ (List.mem_cons_of_mem _ h)
  · have n := S.nd
    rw [List.map_cons, List.map_cons, List.nodup_cons, List.nodup_cons] at n
    rw [List.map_cons, List.map_cons, List.nodup_cons, List.nodup_cons]
    refine ⟨fun z => ?_, fun z => n.1 (List.mem_cons_of_mem _ z), n.2.2⟩
    rcases List.mem_cons.mp z with z | z
    · exact n.1 (by rw [z]; exact List.mem_cons_self ..)
    · exact n.2.1 z
/-- an owned object is written -/
theorem Stt.write (S : Stt E ((p, o) :: own) B H) (nt : ∀ ys, o' ≠ .tup ys) : Stt E ((p, o') :: own) B (upd H p o') where
  b0 := S.b0
  h0 := fun a u e => by
    rw [upd_ne fun z => by
      have := (S.ow _ (List.mem_cons_self ..)).1
      rw [← z, e] at this
      cases this]
    exact S.h0 a u e
  bh := fun a u e => by
    rw [upd_ne fun z => by
      have := (S.ow _ (List.mem_cons_self ..)).2.1
      rw [← z, e] at this
      cases this]
    exact S.bh a u e
  tu := fun a ys e => by
    by_cases ha : a = p
    · subst ha
      rw [upd_same] at e
      exact absurd (Option.some.inj e) (nt ys)
    · rw [upd_ne ha] at e
      exact S.tu a ys e
  fr := S.fr
  ow := fun q hq => by
    rcases List.mem_cons.mp hq with rfl | hq
    · have := S.ow _ (List.mem_cons_self ..)
      exact ⟨this.1, this.2.1, upd_same⟩
    · obtain ⟨h1, h2, h3⟩ := S.ow q (List.mem_cons_of_mem _ hq)
      have ne : q.1 ≠ p := fun z => (List.nodup_cons.mp S.nd).1 (List.mem_map.mpr ⟨q, hq, z⟩)
      rw [upd_ne ne]
      exact ⟨h1, h2, h3⟩
  nd := S.nd
/-- behind a call -/
theorem Stt.call (S : Stt E own B H) (T : Stt ⟨B, H⟩ new B' H') : Stt E (new ++ own) B' H' where
  b0 := S.b0.trans T.b0
  h0 := S.h0.trans T.h0
  bh := T.bh
  tu := T.tu
  fr := fun a u e => by
    rcases T.fr a u e with h | h
    · exact S.fr a u h
    · exact .inr (S.h0.free h)
  ow := fun q hq => by
    rcases List.mem_append.mp hq with hq | hq
    · obtain ⟨h1, h2, h3⟩ := T.ow q hq
      exact ⟨S.h0.free h1, h2, h3⟩
    · obtain ⟨h1, h2, h3⟩ := S.ow q hq
      refine ⟨h1, ?_, T.h0 _ _ h3⟩
      cases e : B' q.1 with
      | none => rfl
      | some u =>
        rcases T.fr _ _ e with z | z
        · have z' : B q.1 = some u := z
          rw [h2] at z'
          cases z'
        · have z' : H q.1 = Option.none := z
          rw [h3] at z'
          cases z'
  nd := by
    rw [List.map_append]
    refine List.nodup_append.mpr ⟨T.nd, S.nd, fun a ha b hb e => ?_⟩
    subst e
    obtain ⟨q, hq, e1⟩ := List.mem_map.mp ha
    obtain ⟨r, hr, e2⟩ := List.mem_map.mp hb
    have h1 := (T.ow q hq).1
    have h2 := (S.ow r hr).2.2
    have h1' : H q.1 = Option.none := h1
    rw [e1, ← e2, h2] at h1'
    cases h1'
theorem Stt.enter (b : Sx B H) (t : Tx H B) : Stt ⟨B, H⟩ [] B H := ⟨Sx.refl _, Sx.refl _, b, t, fun _ _ e => .inl e, (fun _ h => nomatch h), List.nodup_nil⟩
theorem Stt.own1 (S : Stt E ((p, o) :: own) B H) : H p = some o := (S.ow _ (List.mem_cons_self ..)).2.2
end
end Sg

namespace Sg
open PySem PySem.Spec PyProof.Rows L2

/-! ### the weakest readings -/
def WE (X : Cx) (e : Expr) : TE := fun σ H Q => ∀ (pins : List (Addr × Obj)) (s : Shared), Inv X pins σ H s → wpAny (model X.prog X.w) X.A (eval e X.env) (EP X pins σ Q) X.xe s
def WT (X : Cx) (e : Expr) : TT := fun σ H Q => ∀ (pins : List (Addr × Obj)) (s : Shared), Inv X pins σ H s → wpAny (model X.prog X.w) X.A (isTrue e X.env (eval e X.env)) (TP X pins σ Q) X.xe s
def WA (X : Cx) (es : List Expr) : TA := fun σ H Q => ∀ (pos : Pos) (pins : List (Addr × Obj)) (s : Shared), Inv X pins σ H s → wpAny (model X.prog X.w) X.A (spliced (backTo pos (starEach es X.env))) (AP X pins σ Q) X.xe s
def WSs (X : Cx) (st : List Stmt) : TS := fun D σ H => ∀ (pins : List (Addr × Obj)) (s : Shared), Inv X pins σ H s → wpAny (model X.prog X.w) X.A (execs st X.env) (SP X pins D) X.xe s
section
variable {X : Cx} {e : Expr} {es : List Expr} {st : List Stmt} {σ : L2.St} {H : Hp} {D : Ends}
theorem peW : PE X e (WE X e) := ⟨fun pins s _ _ _ I h => h pins s I⟩
theorem ptW : PT X e (WT X e) := ⟨fun pins s _ _ _ I h => h pins s I⟩
theorem paW : PA X es (WA X es) := ⟨fun pos pins s _ _ _ I h => h pos pins s I⟩
theorem pssW : PSs X st (WSs X st) := ⟨fun pins s _ _ _ I h => h pins s I⟩
/-- what a list's length may be -/
def Szd (H : Hp) : Prop := (∀ p vs, Rd H p (.lst vs) → vs.length ≤ sizeLine) ∧ (∀ p vs, Rd H p (.tup vs) → vs.length ≤ sizeLine) ∧ (∀ p ws, Rd H p (.dK ws) → ws.length ≤ sizeLine) ∧ ∀ p ws, Rd H p (.dT ws) → ws.length ≤ sizeLine
theorem Szd.of {pins : List (Addr × Obj)} {s : Shared} (I : Inv X pins σ H s) : Szd H := ⟨fun p vs hp => (hp.ok I.hok).1, fun p vs hp => (hp.ok I.hok).1, fun p vs hp => (hp.ok I.hok).1, fun p vs hp => (hp.ok I.hok).1⟩
theorem WE.sz {Q : VK} (h : WE X e σ H (fun v H' => Szd H' → Q v H')) : WE X e σ H Q := fun pins s I => wpAny_mono (h pins s I) (fun u s' ⟨v, H', I', r, q⟩ => ⟨v, H', I', r, q (Szd.of I')⟩) fun _ _ q => q
theorem WE.of {t : TE} {Q : VK} (h : PE X e t) (q : t σ H Q) : WE X e σ H Q := fun pins s I => h.run pins s σ H Q I q
theorem WT.of {t : TT} {Q : Bool → Hp → Prop} (h : PT X e t) (q : t σ H Q) : WT X e σ H Q := fun pins s I => h.run pins s σ H Q I q
theorem WA.of {t : TA} {Q : List V → Hp → Prop} (h : PA X es t) (q : t σ H Q) : WA X es σ H Q := fun pos pins s I => h.run pos pins s σ H Q I q
theorem WSs.of {t : TS} (h : PSs X st t) (q : t D σ H) : WSs X st D σ H := fun pins s I => h.run pins s σ H D I q
theorem WSs.cons {s1 : Stmt} {t : TS} (h : PS X s1 t) (q : t { D with nx := WSs X st D } σ H) : WSs X (s1 :: st) D σ H := WSs.of (pss_cons h pssW) q
end

/-! ### what an expression comes to -/
section
variable (X : Cx) (E : Ent) (own : Own) (B H : Hp) (σ : L2.St)
/-- .. looked at | kept for good | a new list of one's own | the truth of a test -/
def EvB {α : Type} (e : Expr) (R : Rel α) (x : α) : Prop := ∀ B1 H1, Stt E own B1 H1 → Ex B B1 → Ex H H1 → ∀ Q : VK,
  (∀ v B2 H2, Stt E own B2 H2 → Ex B1 B2 → Ex H1 H2 → R.r H2 v x → Q v H2) → WE X e σ H1 Q
def EvE {α : Type} (e : Expr) (R : Rel α) (x : α) : Prop := ∀ B1 H1, Stt E own B1 H1 → Ex B B1 → Ex H H1 → ∀ Q : VK,
  (∀ v B2 H2, Stt E own B2 H2 → Ex B1 B2 → Ex H1 H2 → R.r B2 v x → Q v H2) → WE X e σ H1 Q
def EvL {α : Type} (e : Expr) (R : Rel α) (xs : List α) : Prop := ∀ B1 H1, Stt E own B1 H1 → Ex B B1 → Ex H H1 → ∀ Q : VK,
  (∀ p vs B2 H2, Stt E ((p, .lst vs) :: own) B2 H2 → Ex B1 B2 → Ex H1 H2 → Paired (R.r B2) vs xs → Q (.ref p) H2) → WE X e σ H1 Q
def EvT (e : Expr) (b : Bool) : Prop := ∀ B1 H1, Stt E own B1 H1 → Ex B B1 → Ex H H1 → ∀ Q : Bool → Hp → Prop,
  (∀ B2 H2, Stt E own B2 H2 → Ex B1 B2 → Ex H1 H2 → Q b H2) → WT X e σ H1 Q
end
section
variable {X : Cx} {E : Ent} {own new : Own} {B H B' H' : Hp} {σ : L2.St} {α β γ : Type} {R : Rel α} {S : Rel β} {T : Rel γ} {e a b c : Expr} {x : α} {y : β} {p pos : Pos}
theorem EvB.up (h : EvB X E own B H σ e R x) (e1 : Ex B B') (e2 : Ex H H') : EvB X E own B' H' σ e R x := fun B1 H1 S a b => h B1 H1 S (e1.trans a) (e2.trans b)
theorem EvE.up (h : EvE X E own B H σ e R x) (e1 : Ex B B') (e2 : Ex H H') : EvE X E own B' H' σ e R x := fun B1 H1 S a b => h B1 H1 S (e1.trans a) (e2.trans b)
theorem EvL.up {xs : List α} (h : EvL X E own B H σ e R xs) (e1 : Ex B B') (e2 : Ex H H') : EvL X E own B' H' σ e R xs := fun B1 H1 S a b => h B1 H1 S (e1.trans a) (e2.trans b)
theorem EvT.up {b : Bool} (h : EvT X E own B H σ e b) (e1 : Ex B B') (e2 : Ex H H') : EvT X E own B' H' σ e b := fun B1 H1 S a b => h B1 H1 S (e1.trans a) (e2.trans b)
theorem EvE.toB (h : EvE X E own B H σ e R x) : EvB X E own B H σ e R x := fun B1 H1 S e1 e2 Q k => h B1 H1 S e1 e2 Q fun v B2 H2 S2 e3 e4 r => k v B2 H2 S2 e3 e4 (R.mono S2.bh.ex r)
theorem EvB.toE [Imm R] (h : EvB X E own B H σ e R x) : EvE X E own B H σ e R x := fun B1 H1 S e1 e2 Q k => h B1 H1 S e1 e2 Q fun v B2 H2 S2 e3 e4 r => k v B2 H2 S2 e3 e4 (Imm.imm S2.tu r)
theorem EvB.is {x' : α} (h : EvB X E own B H σ e R x) (q : x = x') : EvB X E own B H σ e R x' := q ▸ h
theorem EvT.is {b b' : Bool} (h : EvT X E own B H σ e b) (q : b = b') : EvT X E own B H σ e b' := q ▸ h
theorem EvL.is {xs xs' : List α} (h : EvL X E own B H σ e R xs) (q : xs = xs') : EvL X E own B H σ e R xs' := q ▸ h
/-- a new list kept as it is -/
theorem EvL.toE {xs : List α} (h : EvL X E own B H σ e R xs) : EvE X E own B H σ e (rLst R) xs := fun B1 H1 S e1 e2 Q k => h B1 H1 S e1 e2 Q fun p vs B2 H2 S2 e3 e4 r => by
  have n := (S2.ow _ (List.mem_cons_self ..)).2.1
  exact k (.ref p) _ H2 S2.keep (e3.trans (Sx.new n).ex) e4 ⟨p, vs, rfl, Rd.of upd_same, pimp r fun _ _ q => R.mono (Sx.new n).ex q⟩
theorem EvL.toB {xs : List α} (h : EvL X E own B H σ e R xs) : EvB X E own B H σ e (rLst R) xs := h.toE.toB
/-! names, constants -/
theorem ev_v {i : Nat} {v : V} (hp : PE X e (tVar i)) (h : σ[i]? = some (some v)) (r : R.r H v x) : EvB X E own B H σ e R x := fun B1 H1 S e1 e2 Q k => WE.of hp ⟨v, h, k v B1 H1 S (Ex.refl _) (Ex.refl _) (R.mono e2 r)⟩
theorem ee_v {i : Nat} {v : V} (hp : PE X e (tVar i)) (h : σ[i]? = some (some v)) (r : R.r B v x) : EvE X E own B H σ e R x := fun B1 H1 S e1 e2 Q k => WE.of hp ⟨v, h, k v B1 H1 S (Ex.refl _) (Ex.refl _) (R.mono e1 r)⟩
/-- an owned list looked at -/
theorem ev_own {i : Nat} {q : Addr} {vs : List V} {xs : List α} (hp : PE X e (tVar i)) (h : σ[i]? = some (some (.ref q))) (ho : (q, HO.lst vs) ∈ own) (r : Paired (R.r B) vs xs) : EvB X E own B H σ e (rLst R) xs :=
  fun B1 H1 S e1 e2 Q k => WE.of hp ⟨.ref q, h, k _ B1 H1 S (Ex.refl _) (Ex.refl _) ⟨q, vs, rfl, Rd.of (S.ow _ ho).2.2, pimp r fun _ _ z => R.mono (e1.trans S.bh.ex) z⟩⟩
theorem ev_c {v : V} (hp : PE X e (tC v)) (r : ∀ H, R.r H v x) : EvB X E own B H σ e R x := fun B1 H1 S e1 e2 Q k => WE.of hp (k v B1 H1 S (Ex.refl _) (Ex.refl _) (r _))
theorem ev_i {i : Int} {j} : EvB X E own B H σ (.Constant (.int i) j pos) rInt i := ev_c pe_int fun _ => rfl
theorem ev_bl {i : Bool} {j} : EvB X E own B H σ (.Constant (.bool i) j pos) rBool i := ev_c pe_bl fun _ => rfl
theorem ev_s {i : Str} {j} : EvB X E own B H σ (.Constant (.str i) j pos) rStr i := ev_c pe_str fun _ => rfl
theorem ev_n {j} : EvB X E own B H σ (.Constant .none j pos) rNon () := ev_c pe_non fun _ => rfl
/-- None where something or nothing is wanted -/
theorem ev_none {j} : EvB X E own B H σ (.Constant .none j pos) (rOpt R) none := ev_c pe_non fun _ => rfl
theorem ev_some [NN R] (h : EvB X E own B H σ e R x) : EvB X E own B H σ e (rOpt R) (some x) := fun B1 H1 S e1 e2 Q k => h B1 H1 S e1 e2 Q fun v B2 H2 S2 e3 e4 r => k v B2 H2 S2 e3 e4 ⟨NN.nn r, r⟩
theorem ee_some [NN R] (h : EvE X E own B H σ e R x) : EvE X E own B H σ e (rOpt R) (some x) := fun B1 H1 S e1 e2 Q k => h B1 H1 S e1 e2 Q fun v B2 H2 S2 e3 e4 r => k v B2 H2 S2 e3 e4 ⟨NN.nn r, r⟩
/-! operators -/
theorem ev_op {op : Operator} {r2 : R2} {z : γ} (ho : OpR X (binaryOp op) r2) (ha : EvB X E own B H σ a R x) (hb : EvB X E own B H σ b S y)
    (hr : ∀ H1 v w (Q : VK), R.r H1 v x → S.r H1 w y → (∀ u, T.r H1 u z → Q u H1) → r2 v w H1 Q) : EvB X E own B H σ (.BinOp a op b pos) T z := fun B1 H1 S1 e1 e2 Q k =>
  WE.of (pe_op ho peW peW) (ha B1 H1 S1 e1 e2 _ fun v B2 H2 S2 e3 e4 r => hb B2 H2 S2 (e1.trans e3) (e2.trans e4) _ fun w B3 H3 S3 e5 e6 s =>
    hr H3 v w Q (R.mono e6 r) s fun u t => k u B3 H3 S3 (e3.trans e5) (e4.trans e6) t)
theorem rI0_ok {g : Int → Int → Int} {i j : Int} (H1 : Hp) (v w : V) (Q : VK) (h1 : rInt.r H1 v i) (h2 : rInt.r H1 w j) (k : ∀ u, rInt.r H1 u (g i j) → Q u H1) : rI0 (fun i j => .int (g i j)) v w H1 Q := ⟨i, j, h1, h2, k _ rfl⟩
theorem rI_ok {C : Int → Int → Prop} {g : Int → Int → Int} {i j : Int} (hc : C i j) (H1 : Hp) (v w : V) (Q : VK) (h1 : rInt.r H1 v i) (h2 : rInt.r H1 w j) (k : ∀ u, rInt.r H1 u (g i j) → Q u H1) : rI C (fun i j => .int (g i j)) v w H1 Q := ⟨i, j, h1, h2, hc, k _ rfl⟩
variable {i j : Int}
theorem ev_add (ha : EvB X E own B H σ a rInt i) (hb : EvB X E own B H σ b rInt j) : EvB X E own B H σ (.BinOp a .Add b pos) rInt (i + j) := ev_op op_add ha hb rI0_ok
theorem ev_sub (ha : EvB X E own B H σ a rInt i) (hb : EvB X E own B H σ b rInt j) : EvB X E own B H σ (.BinOp a .Sub b pos) rInt (i - j) := ev_op op_sub ha hb rI0_ok
/-- one factor is small -/
theorem ev_mul (ha : EvB X E own B H σ a rInt i) (hb : EvB X E own B H σ b rInt j) (hc : CMul i j) : EvB X E own B H σ (.BinOp a .Mult b pos) rInt (i * j) := ev_op op_mul ha hb (rI_ok hc)
theorem ev_mulL (ha : EvB X E own B H σ a rInt i) (hb : EvB X E own B H σ b rInt j) (hc : (decide (-(2 ^ 64) < i) && decide (i < 2 ^ 64)) = true := by rfl) : EvB X E own B H σ (.BinOp a .Mult b pos) rInt (i * j) :=
  ev_mul ha hb (.inl (by rw [Bool.and_eq_true] at hc; exact ⟨of_decide_eq_true hc.1, of_decide_eq_true hc.2⟩))
theorem ev_mulR (ha : EvB X E own B H σ a rInt i) (hb : EvB X E own B H σ b rInt j) (hc : (decide (-(2 ^ 64) < j) && decide (j < 2 ^ 64)) = true := by rfl) : EvB X E own B H σ (.BinOp a .Mult b pos) rInt (i * j) :=
  ev_mul ha hb (.inr (by rw [Bool.and_eq_true] at hc; exact ⟨of_decide_eq_true hc.1, of_decide_eq_true hc.2⟩))
theorem ev_pow (ha : EvB X E own B H σ a rInt i) (hb : EvB X E own B H σ b rInt j) (hc : (decide (0 ≤ j) && decide (j ≤ 1000000) && decide (i.natAbs < 2 ^ 64)) = true := by rfl) : EvB X E own B H σ (.BinOp a .Pow b pos) rInt (i ^ j.toNat) :=
  ev_op op_pow ha hb (rI_ok (C := CPow) (g := fun i j => i ^ j.toNat) (by
    rw [Bool.and_eq_true, Bool.and_eq_true] at hc
    exact ⟨of_decide_eq_true hc.1.1, of_decide_eq_true hc.1.2, of_decide_eq_true hc.2⟩))
theorem ev_mod (ha : EvB X E own B H σ a rInt i) (hb : EvB X E own B H σ b rInt j) (hc : 0 < j) : EvB X E own B H σ (.BinOp a .Mod b pos) rInt (i % j) := ev_op op_mod ha hb (rI_ok hc)
theorem ev_div (ha : EvB X E own B H σ a rInt i) (hb : EvB X E own B H σ b rInt j) (hc : CDiv i j) : EvB X E own B H σ (.BinOp a .FloorDiv b pos) rInt (i / j) := ev_op op_fdiv ha hb (rI_ok hc)
theorem ev_neg (ha : EvB X E own B H σ a rInt i) : EvB X E own B H σ (.UnaryOp .USub a pos) rInt (-i) := fun B1 H1 S1 e1 e2 Q k =>
  WE.of (pe_un un_neg peW) (ha B1 H1 S1 e1 e2 _ fun v B2 H2 S2 e3 e4 r => ⟨i, r, k _ B2 H2 S2 e3 e4 rfl⟩)
/-! comparisons -/
theorem ev_cmp {op : CmpOp} {r2 : R2} {z : Bool} (ho : OpR X (compareOp op) r2) (ha : EvB X E own B H σ a R x) (hb : EvB X E own B H σ b S y) (hm : behindInMarks op b = false)
    (hr : ∀ H1 v w (Q : VK), R.r H1 v x → S.r H1 w y → Q (.bl z) H1 → r2 v w H1 Q) : EvB X E own B H σ (.Compare a [op] [b] pos) rBool z := fun B1 H1 S1 e1 e2 Q k =>
  WE.of (pe_cmpR ho peW peW hm) (ha B1 H1 S1 e1 e2 _ fun v B2 H2 S2 e3 e4 r => hb B2 H2 S2 (e1.trans e3) (e2.trans e4) _ fun w B3 H3 S3 e5 e6 s =>
    hr H3 v w Q (R.mono e6 r) s (k _ B3 H3 S3 (e3.trans e5) (e4.trans e6) rfl))
theorem et_cmp {op : CmpOp} {r2 : R2} {z : Bool} (ho : OpR X (compareOp op) r2) (ha : EvB X E own B H σ a R x) (hb : EvB X E own B H σ b S y) (hm : behindInMarks op b = false)
    (hr : ∀ H1 v w (Q : VK), R.r H1 v x → S.r H1 w y → Q (.bl z) H1 → r2 v w H1 Q) : EvT X E own B H σ (.Compare a [op] [b] pos) z := fun B1 H1 S1 e1 e2 Q k =>
  WT.of (pt_cmpR ho peW peW hm) (ha B1 H1 S1 e1 e2 _ fun v B2 H2 S2 e3 e4 r => hb B2 H2 S2 (e1.trans e3) (e2.trans e4) _ fun w B3 H3 S3 e5 e6 s =>
    hr H3 v w _ (R.mono e6 r) s ⟨z, rfl, k B3 H3 S3 (e3.trans e5) (e4.trans e6)⟩)
/-- a rule for a comparison of what R and S stand for -/
structure CmpR (X : Cx) (op : CmpOp) (R : Rel α) (S : Rel β) (f : α → β → Bool) : Prop where
  ok : ∃ r2 : R2, OpR X (compareOp op) r2 ∧ ∀ x y H1 v w (Q : VK), R.r H1 v x → S.r H1 w y → Q (.bl (f x y)) H1 → r2 v w H1 Q
  hm : ∀ b, behindInMarks op b = false
theorem CmpR.ev {op : CmpOp} {f : α → β → Bool} (c : CmpR X op R S f) (ha : EvB X E own B H σ a R x) (hb : EvB X E own B H σ b S y) : EvB X E own B H σ (.Compare a [op] [b] pos) rBool (f x y) := by
  obtain ⟨r2, ho, hr⟩ := c.ok
  exact ev_cmp ho ha hb (c.hm b) (hr x y)
theorem CmpR.et {op : CmpOp} {f : α → β → Bool} (c : CmpR X op R S f) (ha : EvB X E own B H σ a R x) (hb : EvB X E own B H σ b S y) : EvT X E own B H σ (.Compare a [op] [b] pos) (f x y) := by
  obtain ⟨r2, ho, hr⟩ := c.ok
  exact et_cmp ho ha hb (c.hm b) (hr x y)
theorem c_lt : CmpR X .Lt rInt rInt (fun i j => decide (i < j)) := ⟨⟨_, op_lt, fun x y _ _ _ _ h1 h2 k => ⟨x, y, h1, h2, k⟩⟩, fun b => nomark b⟩
theorem c_le : CmpR X .LtE rInt rInt (fun i j => decide (i ≤ j)) := ⟨⟨_, op_le, fun x y _ _ _ _ h1 h2 k => ⟨x, y, h1, h2, k⟩⟩, fun b => nomark b⟩
theorem c_gt : CmpR X .Gt rInt rInt (fun i j => decide (j < i)) := ⟨⟨_, op_gt, fun x y _ _ _ _ h1 h2 k => ⟨x, y, h1, h2, k⟩⟩, fun b => nomark b⟩
theorem c_ge : CmpR X .GtE rInt rInt (fun i j => decide (j ≤ i)) := ⟨⟨_, op_ge, fun x y _ _ _ _ h1 h2 k => ⟨x, y, h1, h2, k⟩⟩, fun b => nomark b⟩
theorem deci (i j : Int) : decide (V.int i = V.int j) = decide (i = j) := by simp
theorem decb (i j : Bool) : decide (V.bl i = V.bl j) = decide (i = j) := by simp
theorem decs (i j : Str) : decide (V.str i = V.str j) = decide (i = j) := by simp
theorem c_eqI : CmpR X .Eq rInt rInt (fun i j => decide (i = j)) := ⟨⟨_, op_eq, fun x y _ v w _ h1 h2 k => by rw [show v = .int x from h1, show w = .int y from h2]; exact ⟨rfl, by rw [deci]; exact k⟩⟩, fun b => nomark b⟩
theorem c_neI : CmpR X .NotEq rInt rInt (fun i j => !decide (i = j)) := ⟨⟨_, op_ne, fun x y _ v w _ h1 h2 k => by rw [show v = .int x from h1, show w = .int y from h2]; exact ⟨rfl, by rw [deci]; exact k⟩⟩, fun b => nomark b⟩
theorem c_eqB : CmpR X .Eq rBool rBool (fun i j => decide (i = j)) := ⟨⟨_, op_eq, fun x y _ v w _ h1 h2 k => by rw [show v = .bl x from h1, show w = .bl y from h2]; exact ⟨rfl, by rw [decb]; exact k⟩⟩, fun b => nomark b⟩
theorem c_neB : CmpR X .NotEq rBool rBool (fun i j => !decide (i = j)) := ⟨⟨_, op_ne, fun x y _ v w _ h1 h2 k => by rw [show v = .bl x from h1, show w = .bl y from h2]; exact ⟨rfl, by rw [decb]; exact k⟩⟩, fun b => nomark b⟩
theorem c_eqS : CmpR X .Eq rStr rStr (fun i j => decide (i = j)) := ⟨⟨_, op_eq, fun x y _ v w _ h1 h2 k => by rw [show v = .str x from h1, show w = .str y from h2]; exact ⟨rfl, by rw [decs]; exact k⟩⟩, fun b => nomark b⟩
theorem c_neS : CmpR X .NotEq rStr rStr (fun i j => !decide (i = j)) := ⟨⟨_, op_ne, fun x y _ v w _ h1 h2 k => by rw [show v = .str x from h1, show w = .str y from h2]; exact ⟨rfl, by rw [decs]; exact k⟩⟩, fun b => nomark b⟩
/-- is None of something or nothing -/
theorem opt_non {H1 : Hp} {v : V} {x : Option α} (h : (rOpt R).r H1 v x) : decide (v = .non) = x.isNone := by
  cases x with
  | none =>
    have h' : v = .non := h
    rw [h']
    rfl
  | some y => exact decide_eq_false h.1
theorem c_isN : CmpR X .Is (rOpt R) rNon (fun x _ => x.isNone) := ⟨⟨_, op_isN, fun x y _ v w _ h1 h2 k => ⟨h2, by rw [opt_non h1]; exact k⟩⟩, fun b => nomark b⟩
theorem c_notN : CmpR X .IsNot (rOpt R) rNon (fun x _ => !x.isNone) := ⟨⟨_, op_notN, fun x y _ v w _ h1 h2 k => ⟨h2, by rw [opt_non h1]; exact k⟩⟩, fun b => nomark b⟩
/-! data compared at any depth -/
class Dat (R : Rel α) where
  d : α → PyData
  K : PySem.W.Frag
  rd : ∀ {H : Hp} {v : V} {x : α}, R.r H v x → Dp K H v (d x)
  lay : ∀ x, (d x).canLay0 = true
  n : Nat
  dep : ∀ x, (d x).depth ≤ n
  eq : ∀ x y, PyData.eqv (d x) (d y) = true ↔ x = y
end
end Sg

namespace Sg
open PySem PySem.Spec PyProof.Rows L2

/-! data compared at any depth -/
class DatK (K : PySem.W.Frag) {α : Type} (R : Rel α) where
  d : α → PyData
  rd : ∀ {H : Hp} {v : V} {x : α}, R.r H v x → Dp K H v (d x)
  lay : ∀ x, (d x).canLay0 = true
  n : Nat
  dep : ∀ x, (d x).depth ≤ n
  eq : ∀ x y, PyData.eqv (d x) (d y) = true ↔ x = y
section
variable {K : PySem.W.Frag} {α β : Type} {R : Rel α} {S : Rel β}
instance : DatK K rInt := ⟨PyData.int, fun h => by rw [h]; exact .int _, fun _ => rfl, 0, fun _ => Nat.le_refl _, fun x y => by simp [PyData.eqv]⟩
instance : DatK K rBool := ⟨PyData.bool, fun h => by rw [h]; exact .bl _, fun _ => rfl, 0, fun _ => Nat.le_refl _, fun x y => by simp [PyData.eqv]⟩
theorem dpAll [D : DatK K R] {H : Hp} : ∀ {vs : List V} {xs : List α}, Paired (R.r H) vs xs → DpAll K H vs (xs.map D.d)
  | _, _, .nil => .nil
  | _, _, .cons h t => .cons (D.rd h) (dpAll t)
theorem layAll [D : DatK K R] : ∀ xs : List α, PyData.canLayAll0 (xs.map D.d) = true
  | [] => rfl
  | x :: r => by
    show (PyData.canLay0 (D.d x) && PyData.canLayAll0 (r.map D.d)) = true
    rw [D.lay, layAll r] <;> rfl
theorem depAll [D : DatK K R] : ∀ xs : List α, PyData.depthAll (xs.map D.d) ≤ D.n
  | [] => Nat.zero_le _
  | x :: r => by
    show max (PyData.depth (D.d x)) (PyData.depthAll (r.map D.d)) ≤ D.n
    exact Nat.max_le.mpr ⟨D.dep x, depAll r⟩
theorem eqAll [D : DatK K R] : ∀ xs ys : List α, PyData.eqvAll (xs.map D.d) (ys.map D.d) = true ↔ xs = ys
  | [], [] => by simp [PyData.eqvAll]
  | [], y :: r => by simp [PyData.eqvAll]
  | x :: r, [] => by simp [PyData.eqvAll]
  | x :: r, y :: q => by
    show (PyData.eqv (D.d x) (D.d y) && PyData.eqvAll (r.map D.d) (q.map D.d)) = true ↔ _
    rw [Bool.and_eq_true, D.eq, eqAll r q, List.cons.injEq]
instance [D : DatK K R] : DatK K (rLst R) := ⟨fun xs => .list (xs.map D.d), fun h => by
  obtain ⟨p, vs, h1, h2, h3⟩ := h
  rw [h1]
  exact .lst (.inl h2) (dpAll h3), fun xs => layAll xs, D.n + 1, fun xs => Nat.succ_le_succ (depAll xs), fun x y => eqAll x y⟩
instance [D : DatK K R] : DatK K (rTup R) := ⟨fun xs => .tuple (xs.map D.d), fun h => by
  obtain ⟨p, vs, h1, h2, h3⟩ := h
  rw [h1]
  exact .tup (SqT.of h2) (dpAll h3), fun xs => layAll xs, D.n + 1, fun xs => Nat.succ_le_succ (depAll xs), fun x y => eqAll x y⟩
instance [D : DatK K R] [F : DatK K S] : DatK K (rPr R S) := ⟨fun x => .tuple [D.d x.1, F.d x.2], fun h => by
  obtain ⟨p, a, b, h1, h2, h3, h4⟩ := h
  rw [h1]
  exact .tup (SqT.of h2) (.cons (D.rd h3) (.cons (F.rd h4) .nil)), fun x => by
    show (PyData.canLay0 (D.d x.1) && (PyData.canLay0 (F.d x.2) && true)) = true
    rw [D.lay, F.lay] <;> rfl, max D.n F.n + 1, fun x => by
    show max (PyData.depth (D.d x.1)) (max (PyData.depth (F.d x.2)) 0) + 1 ≤ max D.n F.n + 1
    have := D.dep x.1
    have := F.dep x.2
    omega, fun x y => by
    show (PyData.eqv (D.d x.1) (D.d y.1) && (PyData.eqv (F.d x.2) (F.d y.2) && true)) = true ↔ _
    rw [Bool.and_eq_true, Bool.and_true, D.eq, F.eq]
    exact ⟨fun h => Prod.ext h.1 h.2, fun h => by rw [h]; exact ⟨rfl, rfl⟩⟩⟩
end
/-- data that is never None -/
class NonD (K : PySem.W.Frag) {α : Type} (R : Rel α) [D : DatK K R] : Prop where
  nn : ∀ x, D.d x ≠ .none
section
variable {K : PySem.W.Frag} {α β : Type} {R : Rel α} {S : Rel β}
instance : NonD K rInt := ⟨fun _ h => by cases h⟩
instance [DatK K R] : NonD K (rLst R) := ⟨fun _ h => by cases h⟩
instance [DatK K R] : NonD K (rTup R) := ⟨fun _ h => by cases h⟩
instance [DatK K R] [DatK K S] : NonD K (rPr R S) := ⟨fun _ h => by cases h⟩
theorem eqv_none {d : PyData} (h : d ≠ .none) : PyData.eqv .none d = false ∧ PyData.eqv d .none = false := by
  cases d <;> first | exact absurd rfl h | exact ⟨rfl, rfl⟩
def optD (f : α → PyData) : Option α → PyData
  | none => .none
  | some x => f x
instance [D : DatK K R] [N : NonD K R] : DatK K (rOpt R) := ⟨optD D.d, fun {H v x} h => by
  cases x with
  | none =>
    have h' : v = .non := h
    rw [h']
    exact .non
  | some y => exact D.rd h.2, fun x => by
    cases x with
    | none => rfl
    | some y => exact D.lay y, D.n, fun x => by
    cases x with
    | none => exact Nat.zero_le _
    | some y => exact D.dep y, fun x y => by
    cases x with
    | none =>
      cases y with
      | none => exact ⟨fun _ => rfl, fun _ => rfl⟩
      | some y => exact ⟨fun h => (by rw [show PyData.eqv (optD D.d none) (optD D.d (some y)) = false from (eqv_none (N.nn y)).1] at h; cases h), fun h => (by cases h)⟩
    | some x =>
      cases y with
      | none => exact ⟨fun h => (by rw [show PyData.eqv (optD D.d (some x)) (optD D.d none) = false from (eqv_none (N.nn x)).2] at h; cases h), fun h => (by cases h)⟩
      | some y => exact ⟨fun h => congrArg some ((D.eq x y).mp h), fun h => (D.eq x y).mpr (Option.some.inj h)⟩⟩
end
section
variable {X : Cx} {E : Ent} {own new : Own} {B H B' H' : Hp} {σ : L2.St} {α β γ : Type} {R : Rel α} {S : Rel β} {T : Rel γ} {e a b c : Expr} {x : α} {y : β} {p pos : Pos} {i j : Int} {z w : Bool} {xs : List α}
theorem eqv_dec [DecidableEq α] [D : DatK X.K R] (x y : α) : PyData.eqv (D.d x) (D.d y) = decide (x = y) := by
  rw [Bool.eq_iff_iff, D.eq, decide_eq_true_iff]
theorem dat_sh [D : DatK X.K R] (h : D.n ≤ 64) (x : α) : SeqAt.shaped (D.d x) = true := by
  show (PyData.canLay0 (D.d x) && decide (PyData.depth (D.d x) ≤ 64)) = true
  rw [D.lay, decide_eq_true (Nat.le_trans (D.dep x) h)] <;> rfl
theorem c_eqD [DecidableEq α] [D : DatK X.K R] (hu : X.A.units + 64 < cLine) (h : D.n ≤ 64 := by exact Nat.le_of_ble_eq_true rfl) : CmpR X .Eq R R (fun x y => decide (x = y)) :=
  ⟨⟨_, op_eqD hu, fun x y _ v w _ h1 h2 k => ⟨_, _, D.rd h1, D.rd h2, dat_sh h x, dat_sh h y, by rw [eqv_dec]; exact k⟩⟩, fun b => nomark b⟩
theorem c_neD [DecidableEq α] [D : DatK X.K R] (hu : X.A.units + 64 < cLine) (h : D.n ≤ 64 := by exact Nat.le_of_ble_eq_true rfl) : CmpR X .NotEq R R (fun x y => !decide (x = y)) :=
  ⟨⟨_, op_neD hu, fun x y _ v w _ h1 h2 k => ⟨_, _, D.rd h1, D.rd h2, dat_sh h x, dat_sh h y, by rw [eqv_dec]; exact k⟩⟩, fun b => nomark b⟩

/-! ### tests -/
theorem et_val (ha : EvB X E own B H σ a rBool z) (he : ∀ whole, isTrue a X.env whole = (do let v ← whole; standAt a.pos; holding [v] (truthy v)) := by intro _; rfl) : EvT X E own B H σ a z := fun B1 H1 S1 e1 e2 Q k =>
  WT.of (pt_val peW he) (ha B1 H1 S1 e1 e2 _ fun v B2 H2 S2 e3 e4 r => ⟨z, r, k B2 H2 S2 e3 e4⟩)
theorem et_not (ha : EvT X E own B H σ a z) : EvT X E own B H σ (.UnaryOp .Not a pos) (!z) := fun B1 H1 S1 e1 e2 Q k =>
  WT.of (pt_not ptW) (ha B1 H1 S1 e1 e2 _ fun B2 H2 S2 e3 e4 => k B2 H2 S2 e3 e4)
def WW (X : Cx) (e : Expr) : TT := fun σ H Q => ∀ (whole : Sem Value) (pins : List (Addr × Obj)) (s : Shared), Inv X pins σ H s → wpAny (model X.prog X.w) X.A (isTrue e X.env whole) (TP X pins σ Q) X.xe s
theorem pwW : PW X e (WW X e) := ⟨fun wh pins s _ _ _ I h => h wh pins s I⟩
theorem WW.of {t : TT} {Q : Bool → Hp → Prop} (h : PW X e t) (q : t σ H Q) : WW X e σ H Q := fun wh pins s I => h.run wh pins s σ H Q I q
/-- a chain of and, or -/
def EvW (X : Cx) (E : Ent) (own : Own) (B H : Hp) (σ : L2.St) (e : Expr) (b : Bool) : Prop := ∀ B1 H1, Stt E own B1 H1 → Ex B B1 → Ex H H1 → ∀ Q : Bool → Hp → Prop,
  (∀ B2 H2, Stt E own B2 H2 → Ex B1 B2 → Ex H1 H2 → Q b H2) → WW X e σ H1 Q
theorem EvW.t (h : EvW X E own B H σ e z) : EvT X E own B H σ e z := fun B1 H1 S1 e1 e2 Q k => WT.of pwW.pt (h B1 H1 S1 e1 e2 Q k)
theorem ew_and1 (ha : EvT X E own B H σ a z) : EvW X E own B H σ (.BoolOp .And [a] pos) z := fun B1 H1 S1 e1 e2 Q k => WW.of (pw_and1 ptW) (ha B1 H1 S1 e1 e2 Q k)
theorem ew_or1 (ha : EvT X E own B H σ a z) : EvW X E own B H σ (.BoolOp .Or [a] pos) z := fun B1 H1 S1 e1 e2 Q k => WW.of (pw_or1 ptW) (ha B1 H1 S1 e1 e2 Q k)
variable {es : List Expr}
/-- the right part is asked only where the left one is true: w is the whole's truth -/
theorem ew_and (ha : EvT X E own B H σ a z) (hb : z = true → EvW X E own B H σ (.BoolOp .And (b :: es) pos) w) (hn : z = false → w = false) : EvW X E own B H σ (.BoolOp .And (a :: b :: es) pos) w := fun B1 H1 S1 e1 e2 Q k =>
  WW.of (pw_and ptW pwW) (ha B1 H1 S1 e1 e2 _ fun B2 H2 S2 e3 e4 => by
    cases z with
    | true => exact hb rfl B2 H2 S2 (e1.trans e3) (e2.trans e4) Q fun B3 H3 S3 e5 e6 => k B3 H3 S3 (e3.trans e5) (e4.trans e6)
    | false =>
      have hw := hn rfl
      subst hw
      exact k B2 H2 S2 e3 e4)
theorem ew_or (ha : EvT X E own B H σ a z) (hb : z = false → EvW X E own B H σ (.BoolOp .Or (b :: es) pos) w) (hn : z = true → w = true) : EvW X E own B H σ (.BoolOp .Or (a :: b :: es) pos) w := fun B1 H1 S1 e1 e2 Q k =>
  WW.of (pw_or ptW pwW) (ha B1 H1 S1 e1 e2 _ fun B2 H2 S2 e3 e4 => by
    cases z with
    | false => exact hb rfl B2 H2 S2 (e1.trans e3) (e2.trans e4) Q fun B3 H3 S3 e5 e6 => k B3 H3 S3 (e3.trans e5) (e4.trans e6)
    | true =>
      have hw := hn rfl
      subst hw
      exact k B2 H2 S2 e3 e4)
/-- total parts -/
theorem ew_and' (ha : EvT X E own B H σ a z) (hb : z = true → EvW X E own B H σ (.BoolOp .And (b :: es) pos) w) : EvW X E own B H σ (.BoolOp .And (a :: b :: es) pos) (z && w) :=
  ew_and ha (fun h => by rw [h]; exact hb h) fun h => by rw [h]; rfl
theorem ew_or' (ha : EvT X E own B H σ a z) (hb : z = false → EvW X E own B H σ (.BoolOp .Or (b :: es) pos) w) : EvW X E own B H σ (.BoolOp .Or (a :: b :: es) pos) (z || w) :=
  ew_or ha (fun h => by rw [h]; exact hb h) fun h => by rw [h]; rfl
/-! .. as values -/
theorem ev_one {op} (ha : EvB X E own B H σ a R x) : EvB X E own B H σ (.BoolOp op [a] pos) R x := fun B1 H1 S1 e1 e2 Q k => WE.of (pe_one peW) (ha B1 H1 S1 e1 e2 Q k)
theorem ev_and (ha : EvB X E own B H σ a rBool z) (hb : z = true → EvB X E own B H σ (.BoolOp .And (b :: es) pos) rBool w) (hn : z = false → w = false) : EvB X E own B H σ (.BoolOp .And (a :: b :: es) pos) rBool w := fun B1 H1 S1 e1 e2 Q k =>
  WE.of (pe_and peW peW) (ha B1 H1 S1 e1 e2 _ fun v B2 H2 S2 e3 e4 r => ⟨z, r, by
    cases z with
    | true => exact hb rfl B2 H2 S2 (e1.trans e3) (e2.trans e4) Q fun v B3 H3 S3 e5 e6 => k v B3 H3 S3 (e3.trans e5) (e4.trans e6)
    | false => exact k _ B2 H2 S2 e3 e4 (by rw [hn rfl]; rfl)⟩)
theorem ev_or (ha : EvB X E own B H σ a rBool z) (hb : z = false → EvB X E own B H σ (.BoolOp .Or (b :: es) pos) rBool w) (hn : z = true → w = true) : EvB X E own B H σ (.BoolOp .Or (a :: b :: es) pos) rBool w := fun B1 H1 S1 e1 e2 Q k =>
  WE.of (pe_or peW peW) (ha B1 H1 S1 e1 e2 _ fun v B2 H2 S2 e3 e4 r => ⟨z, r, by
    cases z with
    | false => exact hb rfl B2 H2 S2 (e1.trans e3) (e2.trans e4) Q fun v B3 H3 S3 e5 e6 => k v B3 H3 S3 (e3.trans e5) (e4.trans e6)
    | true => exact k _ B2 H2 S2 e3 e4 (by rw [hn rfl]; rfl)⟩)
theorem ev_and' (ha : EvB X E own B H σ a rBool z) (hb : z = true → EvB X E own B H σ (.BoolOp .And (b :: es) pos) rBool w) : EvB X E own B H σ (.BoolOp .And (a :: b :: es) pos) rBool (z && w) :=
  ev_and ha (fun h => by rw [h]; exact hb h) fun h => by rw [h]; rfl
theorem ev_or' (ha : EvB X E own B H σ a rBool z) (hb : z = false → EvB X E own B H σ (.BoolOp .Or (b :: es) pos) rBool w) : EvB X E own B H σ (.BoolOp .Or (a :: b :: es) pos) rBool (z || w) :=
  ev_or ha (fun h => by rw [h]; exact hb h) fun h => by rw [h]; rfl
theorem ev_not (ha : EvB X E own B H σ a rBool z) : EvB X E own B H σ (.UnaryOp .Not a pos) rBool (!z) := fun B1 H1 S1 e1 e2 Q k =>
  WE.of (pe_not peW) (ha B1 H1 S1 e1 e2 _ fun v B2 H2 S2 e3 e4 r => ⟨z, r, k _ B2 H2 S2 e3 e4 rfl⟩)
/-! ### calls of built-ins -/
/-- f(a), f told by its rule -/
theorem ev_b1 {f : α → γ} {r : List V → Hp → VK → Prop} (hp : PE X e (tCB r (tCons (WE X a) tNil))) (ha : EvB X E own B H σ a R x)
    (hr : ∀ H1 v (Q : VK), R.r H1 v x → (∀ u, T.r H1 u (f x) → Q u H1) → r [v] H1 Q) : EvB X E own B H σ e T (f x) := fun B1 H1 S1 e1 e2 Q k =>
  WE.of hp (ha B1 H1 S1 e1 e2 _ fun v B2 H2 S2 e3 e4 r => hr H2 v Q r fun u t => k u B2 H2 S2 e3 e4 t)
/-- f(a) that lays a new list -/
theorem el_b1 {ys : List γ} {r : List V → Hp → VK → Prop} (hp : PE X e (tCB r (tCons (WE X a) tNil))) (ha : EvB X E own B H σ a R x)
    (hr : ∀ H1 v (Q : VK), R.r H1 v x → (∀ p us, H1 p = none → Paired (T.r H1) us ys → Q (.ref p) (upd H1 p (.lst us))) → r [v] H1 Q) [Imm T] : EvL X E own B H σ e T ys := fun B1 H1 S1 e1 e2 Q k =>
  WE.of hp (ha B1 H1 S1 e1 e2 _ fun v B2 H2 S2 e3 e4 r => hr H2 v Q r fun p us np t => k p us B2 _ (S2.alloc np (fun ys z => by cases z)) e3 (e4.trans (Sx.new np).ex) (pimp t fun _ _ q => Imm.imm S2.tu q))
theorem ints_rel {H1 : Hp} : ∀ {vs : List V} {ns : List Int}, Paired (rInt.r H1) vs ns → vs = ns.map V.int
  | _, _, .nil => rfl
  | _, _, .cons h t => by rw [List.map_cons, ← ints_rel t, show _ = _ from h]
theorem ints_rel' {H1 : Hp} : ∀ ns : List Int, Paired (rInt.r H1) (ns.map V.int) ns
  | [] => .nil
  | n :: r => .cons rfl (ints_rel' r)
theorem bls_rel {H1 : Hp} : ∀ {vs : List V} {ns : List Bool}, Paired (rBool.r H1) vs ns → vs = ns.map V.bl
  | _, _, .nil => rfl
  | _, _, .cons h t => by rw [List.map_cons, ← bls_rel t, show _ = _ from h]
theorem plen {β' : Type} {F : α → β' → Prop} {l₁ : List α} {l₂ : List β'} (h : Paired F l₁ l₂) : l₁.length = l₂.length := Paired.length h
section
variable {k1 : X.mg "len" = none} {he : starEach (a :: []) X.env = (false, eval a X.env) :: starEach [] X.env}
abbrev St1 (X : Cx) (a : Expr) : Prop := starEach (a :: []) X.env = (false, eval a X.env) :: starEach [] X.env
theorem pa1 (hs : St1 X a) : PA X [a] (tCons (WE X a) tNil) := pa_cons peW pa_nil hs
theorem ev_lenL (hg : Gl X "len") (hm : X.mg "len" = none) (ha : EvB X E own B H σ a (rLst R) xs) (hs : St1 X a := by rfl) : EvB X E own B H σ (.Call (.Name "len" p) [a] [] pos) rInt (xs.length : Int) :=
  ev_b1 (f := fun l : List α => (l.length : Int)) (pe_callB call_len_seq hg hm PySem.boot_len (pa1 hs) (he := hs)) ha fun H1 v Q h k => by
    obtain ⟨p, vs, h1, h2, h3⟩ := h
    exact ⟨p, vs, by rw [h1], .inl (.inl h2), k _ (by rw [plen h3]; rfl)⟩
theorem ev_lenT (hg : Gl X "len") (hm : X.mg "len" = none) (ha : EvB X E own B H σ a (rTup R) xs) (hs : St1 X a := by rfl) : EvB X E own B H σ (.Call (.Name "len" p) [a] [] pos) rInt (xs.length : Int) :=
  ev_b1 (f := fun l : List α => (l.length : Int)) (pe_callB call_len_seq hg hm PySem.boot_len (pa1 hs) (he := hs)) ha fun H1 v Q h k => by
    obtain ⟨p, vs, h1, h2, h3⟩ := h
    exact ⟨p, vs, by rw [h1], .inr (SqT.of h2), k _ (by rw [plen h3]; rfl)⟩
/-- list(xs) -/
theorem el_listL [Imm R] (hg : Gl X "list") (hm : X.mg "list" = none) (ha : EvB X E own B H σ a (rLst R) xs) (hs : St1 X a := by rfl) : EvL X E own B H σ (.Call (.Name "list" p) [a] [] pos) R xs :=
  el_b1 (pe_callTy call_list_of hg hm (by decide +kernel) (pa1 hs) (he := hs)) ha fun H1 v Q h k => by
    obtain ⟨p, vs, h1, h2, h3⟩ := h
    exact ⟨p, vs, by rw [h1], .inl (.inl h2), fun l hl => k l vs hl h3⟩
theorem el_listT [Imm R] (hg : Gl X "list") (hm : X.mg "list" = none) (ha : EvB X E own B H σ a (rTup R) xs) (hs : St1 X a := by rfl) : EvL X E own B H σ (.Call (.Name "list" p) [a] [] pos) R xs :=
  el_b1 (pe_callTy call_list_of hg hm (by decide +kernel) (pa1 hs) (he := hs)) ha fun H1 v Q h k => by
    obtain ⟨p, vs, h1, h2, h3⟩ := h
    exact ⟨p, vs, by rw [h1], .inr (SqT.of h2), fun l hl => k l vs hl h3⟩
/-- tuple(xs) -/
theorem ee_tuple [Imm R] (hg : Gl X "tuple") (hm : X.mg "tuple" = none) (ha : EvB X E own B H σ a (rLst R) xs) (hs : St1 X a := by rfl) : EvE X E own B H σ (.Call (.Name "tuple" p) [a] [] pos) (rTup R) xs := fun B1 H1 S1 e1 e2 Q k =>
  WE.of (pe_callTy call_tuple_of hg hm (by decide +kernel) (pa1 hs) (he := hs)) (ha B1 H1 S1 e1 e2 _ fun v B2 H2 S2 e3 e4 r => by
    obtain ⟨p, vs, h1, h2, h3⟩ := r
    refine ⟨p, vs, by rw [h1], .inl ⟨.inl h2, fun l hl => ?_⟩⟩
    exact k (.ref l) _ _ (S2.lay hl) (e3.trans (S2.layB hl).ex) (e4.trans (Sx.new hl).ex) ⟨l, vs, rfl, upd_same, pimp h3 fun _ _ q => R.mono (S2.layB hl).ex (Imm.imm S2.tu q)⟩)
theorem ev_sum {ns : List Int} (hc : X.calm = true) (hg : Gl X "sum") (hm : X.mg "sum" = none) (ha : EvB X E own B H σ a (rLst rInt) ns) (hs : St1 X a := by rfl) : EvB X E own B H σ (.Call (.Name "sum" p) [a] [] pos) rInt ns.sum :=
  ev_b1 (f := List.sum) (pe_callB (cr_sum hc) hg hm (by decide +kernel) (pa1 hs) (he := hs)) ha fun H1 v Q h k => by
    obtain ⟨p, vs, h1, h2, h3⟩ := h
    rw [ints_rel h3] at h2
    exact ⟨p, _, by rw [h1], .inl h2, k _ rfl⟩
theorem ev_all {bs : List Bool} (hc : X.calm = true) (hg : Gl X "all") (hm : X.mg "all" = none) (ha : EvB X E own B H σ a (rLst rBool) bs) (hs : St1 X a := by rfl) : EvB X E own B H σ (.Call (.Name "all" p) [a] [] pos) rBool (bs.all id) :=
  ev_b1 (f := fun l => List.all l id) (pe_callB (cr_all hc) hg hm (by decide +kernel) (pa1 hs) (he := hs)) ha fun H1 v Q h k => by
    obtain ⟨p, vs, h1, h2, h3⟩ := h
    rw [bls_rel h3] at h2
    exact ⟨p, _, by rw [h1], .inl h2, k _ rfl⟩
theorem ev_any {bs : List Bool} (hc : X.calm = true) (hg : Gl X "any") (hm : X.mg "any" = none) (ha : EvB X E own B H σ a (rLst rBool) bs) (hs : St1 X a := by rfl) : EvB X E own B H σ (.Call (.Name "any" p) [a] [] pos) rBool (bs.any id) :=
  ev_b1 (f := fun l => List.any l id) (pe_callB (cr_any hc) hg hm (by decide +kernel) (pa1 hs) (he := hs)) ha fun H1 v Q h k => by
    obtain ⟨p, vs, h1, h2, h3⟩ := h
    rw [bls_rel h3] at h2
    exact ⟨p, _, by rw [h1], .inl h2, k _ rfl⟩
/-- in order -/
def sortI (ns : List Int) : List Int := ns.mergeSort (fun a b => decide (a ≤ b))
theorem sortI_perm (ns : List Int) : (sortI ns).Perm ns := List.mergeSort_perm ns _
theorem sortI_sorted (ns : List Int) : (sortI ns).Pairwise (· ≤ ·) := by
  have h := List.pairwise_mergeSort (le := fun a b : Int => decide (a ≤ b)) (fun a b c h1 h2 => by simp at *; omega) (fun a b => by simp; omega) ns
  exact h.imp fun h => of_decide_eq_true h
theorem sortI_unique {ns ms : List Int} (h : ms.Perm ns) (hs : ms.Pairwise (· ≤ ·)) : ms = sortI ns :=
  List.Perm.eq_of_pairwise (le := (· ≤ ·)) (fun a b _ _ h1 h2 => Int.le_antisymm h1 h2) hs (sortI_sorted ns) (h.trans (sortI_perm ns).symm)
theorem el_sortI {ns : List Int} (hg : Gl X "sorted") (hm : X.mg "sorted" = none) (ha : EvB X E own B H σ a (rLst rInt) ns) (hs : St1 X a := by rfl) : EvL X E own B H σ (.Call (.Name "sorted" p) [a] [] pos) rInt (sortI ns) :=
  el_b1 (pe_callB cr_sortedI hg hm (by decide +kernel) (pa1 hs) (he := hs)) ha fun H1 v Q h k => by
    obtain ⟨p, vs, h1, h2, h3⟩ := h
    rw [ints_rel h3] at h2
    refine ⟨p, _, by rw [h1], .inl h2, fun ns' l hp ho hl => ?_⟩
    rw [sortI_unique hp ho]
    exact k l _ hl (ints_rel' _)
end
end
end Sg

namespace Sg
open PySem PySem.Spec PyProof.Rows L2

/-! ### folds that may stop -/
def sel {α β : Type} {γ : Sort _} (f : α → γ) (g : β → γ) : α ⊕ β → γ
  | .inl u => f u
  | .inr a => g a
def forR {α τ ρ : Type} (step : τ → α → Res (ρ ⊕ τ)) : List α → τ → Res (ρ ⊕ τ)
  | [], a => .ok (.inr a)
  | x :: r, a => (step a x).bind (sel (fun y => .ok (.inl y)) (fun a' => forR step r a'))
def forM {α τ : Type} (step : τ → α → Res τ) : List α → τ → Res τ
  | [], a => .ok a
  | x :: r, a => (step a x).bind fun a' => forM step r a'
def whileR {τ ρ : Type} (step : τ → Res (ρ ⊕ τ)) : Nat → τ → Res ρ
  | 0, _ => .stuck
  | n + 1, a => (step a).bind (sel (fun y => .ok y) (fun a' => whileR step n a'))
/-- what a partial thing gives -/
theorem Fin.of {α β : Type} {P : β → Prop} {Er : Err → Prop} {o : Option α} {f : α → Res β} (h : Fin P Er ((Res.of o).bind f)) : ∃ x, o = some x ∧ Fin P Er (f x) := by
  cases o with
  | none => exact h.elim
  | some x => exact ⟨x, rfl, h⟩
abbrev NoErr : Err → Prop := fun _ => False
/-- what a call gives where nothing is raised -/
theorem Fin.get {α β : Type} {P : β → Prop} {m : Res α} {f : α → Res β} (h : Fin P NoErr (m.bind f)) : ∃ x, m = .ok x ∧ Fin P NoErr (f x) := by
  cases m with
  | ok x => exact ⟨x, rfl, h⟩
  | err e => exact h.elim
  | stuck => exact h.elim
theorem Fin.get0 {β : Type} {P : β → Prop} {m : Res β} (h : Fin P NoErr m) : ∃ x, m = .ok x ∧ P x := by
  cases m with
  | ok x => exact ⟨x, rfl, h⟩
  | err e => exact h.elim
  | stuck => exact h.elim
theorem Fin.tt {β : Type} {P : β → Prop} {Er : Err → Prop} {b : Bool} {m1 m2 : Res β} (h : Fin P Er (if b = true then m1 else m2)) (hb : b = true) : Fin P Er m1 := by
  rw [if_pos hb] at h
  exact h
theorem Fin.ff {β : Type} {P : β → Prop} {Er : Err → Prop} {b : Bool} {m1 m2 : Res β} (h : Fin P Er (if b = true then m1 else m2)) (hb : b = false) : Fin P Er m2 := by
  rw [if_neg (by rw [hb]; exact Bool.false_ne_true)] at h
  exact h
theorem Fin.eq {α : Type} {P : α → Prop} {Er : Err → Prop} {m : Res α} {x : α} (e : m = .ok x) (h : P x) : Fin P Er m := by
  rw [e]
  exact h
theorem Res.bind_ok {α β : Type} {m : Res α} {f : α → Res β} {y : β} (h : m.bind f = .ok y) : ∃ x, m = .ok x ∧ f x = .ok y := by
  cases m with
  | ok x => exact ⟨x, rfl, h⟩
  | err e => cases h
  | stuck => cases h
theorem Res.of_ok {α β : Type} {o : Option α} {f : α → Res β} {y : β} (h : (Res.of o).bind f = .ok y) : ∃ x, o = some x ∧ f x = .ok y := by
  cases o with
  | none => cases h
  | some x => exact ⟨x, rfl, h⟩
theorem Res.need_ok {α : Type} {c : Prop} [Decidable c] {m : Res α} {y : α} (h : Res.need c m = .ok y) : c ∧ m = .ok y := by
  unfold Res.need at h
  by_cases hc : c
  · rw [if_pos hc] at h
    exact ⟨hc, h⟩
  · rw [if_neg hc] at h
    cases h
theorem Res.ok_inj {α : Type} {x y : α} (h : Res.ok x = Res.ok y) : x = y := by
  cases h
  rfl
theorem Res.tt_ok {β : Type} {b : Bool} {m1 m2 : Res β} {y : β} (h : (if b = true then m1 else m2) = .ok y) (hb : b = true) : m1 = .ok y := by
  rw [if_pos hb] at h
  exact h
theorem Res.ff_ok {β : Type} {b : Bool} {m1 m2 : Res β} {y : β} (h : (if b = true then m1 else m2) = .ok y) (hb : b = false) : m2 = .ok y := by
  rw [if_neg (by rw [hb]; exact Bool.false_ne_true)] at h
  exact h

/-! ### what a def hands back -/
abbrev Kind (ρ : Type) := Ent → VK → ρ → Prop
def kE {ρ : Type} (R : Rel ρ) : Kind ρ := fun E Q x => ∀ v B H, Stt E [] B H → R.r B v x → Q v H
def kL {ρ : Type} (R : Rel ρ) : Kind (List ρ) := fun E Q xs => ∀ p vs B H, Stt E [(p, .lst vs)] B H → Paired (R.r B) vs xs → Q (.ref p) H

structure Slot (X : Cx) (i : Nat) (n : Str) : Prop where
  ix : X.N[i]? = some n
  loc : Loc X.env.scope n
  hf : X.fn n = true ∨ X.env.scope.names.lookup n = some .local
/-- the context of a body -/
structure Cok (X : Cx) (k : Nat) : Prop where
  calm : X.calm = true
  nd : X.N.Nodup
  room : Room k X.A
  own : PassesOwn (model X.prog X.w) X.A X.env X.xe
section
variable {X : Cx} {E : Ent} {own new own' : Own} {B H B' H' : Hp} {σ : L2.St} {α β γ τ ρ ρ' : Type} {R : Rel α} {S : Rel β} {T : Rel γ} {e a b c it : Expr} {x : α} {y : β} {p pos pos' : Pos} {i j k : Nat} {z w : Bool} {xs : List α}
variable {n m : Str} {rest body other : List Stmt} {D : Ends} {P : ρ → Prop} {Er : Err → Prop}
theorem WSs.nil (h : D.nx σ H) : WSs X [] D σ H := WSs.of pss_nil h
/-! assignments -/
theorem s_asg (C : Cok X k) (L : Slot X i n) (S0 : Stt E own B H) (he : EvE X E own B H σ e R x)
    (q : ∀ v B' H', Stt E own B' H' → Ex B B' → R.r B' v x → WSs X rest D (σ.set i (some v)) H') (hs : swapsWith e (some (.Name n pos')) pos.line X.env = pure false := by rfl) :
    WSs X (.Assign [.Name n pos'] e pos :: rest) D σ H :=
  WSs.cons (ps_set C.nd L.ix L.loc peW hs L.hf) (he B H S0 (Ex.refl _) (Ex.refl _) _ fun v B2 H2 S2 e1 _ r => q v B2 H2 S2 e1 r)
theorem s_asgI {x : Int} (C : Cok X k) (L : Slot X i n) (S0 : Stt E own B H) (he : EvB X E own B H σ e rInt x)
    (q : ∀ B' H', Stt E own B' H' → Ex B B' → WSs X rest D (σ.set i (some (.int x))) H') (hs : swapsWith e (some (.Name n pos')) pos.line X.env = pure false := by rfl) :
    WSs X (.Assign [.Name n pos'] e pos :: rest) D σ H :=
  s_asg C L S0 he.toE (fun v B' H' S' e1 r => by rw [show v = .int x from r]; exact q B' H' S' e1) hs
theorem s_asgB {x : Bool} (C : Cok X k) (L : Slot X i n) (S0 : Stt E own B H) (he : EvB X E own B H σ e rBool x)
    (q : ∀ B' H', Stt E own B' H' → Ex B B' → WSs X rest D (σ.set i (some (.bl x))) H') (hs : swapsWith e (some (.Name n pos')) pos.line X.env = pure false := by rfl) :
    WSs X (.Assign [.Name n pos'] e pos :: rest) D σ H :=
  s_asg C L S0 he.toE (fun v B' H' S' e1 r => by rw [show v = .bl x from r]; exact q B' H' S' e1) hs
theorem s_asgS {x : Str} (C : Cok X k) (L : Slot X i n) (S0 : Stt E own B H) (he : EvB X E own B H σ e rStr x)
    (q : ∀ B' H', Stt E own B' H' → Ex B B' → WSs X rest D (σ.set i (some (.str x))) H') (hs : swapsWith e (some (.Name n pos')) pos.line X.env = pure false := by rfl) :
    WSs X (.Assign [.Name n pos'] e pos :: rest) D σ H :=
  s_asg C L S0 he.toE (fun v B' H' S' e1 r => by rw [show v = .str x from r]; exact q B' H' S' e1) hs
/-- a name holds a new list of one's own -/
theorem s_asgL (C : Cok X k) (L : Slot X i n) (S0 : Stt E own B H) (he : EvL X E own B H σ e R xs)
    (q : ∀ p vs B' H', Stt E ((p, .lst vs) :: own) B' H' → Ex B B' → Paired (R.r B') vs xs → WSs X rest D (σ.set i (some (.ref p))) H') (hs : swapsWith e (some (.Name n pos')) pos.line X.env = pure false := by rfl) :
    WSs X (.Assign [.Name n pos'] e pos :: rest) D σ H :=
  WSs.cons (ps_set C.nd L.ix L.loc peW hs L.hf) (he B H S0 (Ex.refl _) (Ex.refl _) _ fun p vs B2 H2 S2 e1 _ r => q p vs B2 H2 S2 e1 r)
/-- x = [], x = [a, b] -/
theorem el_nil : EvL X E own B H σ (.List [] pos) R [] := fun B1 H1 S1 e1 e2 Q k =>
  WE.of (pe_lst pa_nil) ⟨Nat.zero_le _, fun p hp => k p [] B1 _ (S1.alloc hp fun ys q => by cases q) (Ex.refl _) (Sx.new hp).ex .nil⟩
/-! written lists and tuples -/
def EvA (X : Cx) (E : Ent) (own : Own) (B H : Hp) (σ : L2.St) (es : List Expr) (R : Rel α) (xs : List α) : Prop := ∀ B1 H1, Stt E own B1 H1 → Ex B B1 → Ex H H1 → ∀ Q : List V → Hp → Prop,
  (∀ vs B2 H2, Stt E own B2 H2 → Ex B1 B2 → Ex H1 H2 → Paired (R.r B2) vs xs → Q vs H2) → WA X es σ H1 Q
theorem ea_nil : EvA X E own B H σ [] R [] := fun B1 H1 S1 e1 e2 Q k => WA.of pa_nil (k [] B1 H1 S1 (Ex.refl _) (Ex.refl _) .nil)
theorem ea_cons {es : List Expr} (he : EvE X E own B H σ e R x) (hr : EvA X E own B H σ es R xs) (hs : starEach (e :: es) X.env = (false, eval e X.env) :: starEach es X.env := by rfl) : EvA X E own B H σ (e :: es) R (x :: xs) := fun B1 H1 S1 e1 e2 Q k =>
  WA.of (pa_cons peW paW hs) (he B1 H1 S1 e1 e2 _ fun v B2 H2 S2 e3 e4 r => hr B2 H2 S2 (e1.trans e3) (e2.trans e4) _ fun vs B3 H3 S3 e5 e6 q => k (v :: vs) B3 H3 S3 (e3.trans e5) (e4.trans e6) (.cons (R.mono e5 r) q))
theorem el_lst {es : List Expr} (ha : EvA X E own B H σ es R xs) (hz : xs.length ≤ sizeLine := by exact Nat.le_of_ble_eq_true rfl) : EvL X E own B H σ (.List es pos) R xs := fun B1 H1 S1 e1 e2 Q k =>
  WE.of (pe_lst paW) (ha B1 H1 S1 e1 e2 _ fun vs B2 H2 S2 e3 e4 r => ⟨by rw [plen r]; exact hz, fun p hp => k p vs B2 _ (S2.alloc hp fun ys q => by cases q) e3 (e4.trans (Sx.new hp).ex) r⟩)
theorem ee_tup {es : List Expr} {x1} (ha : EvA X E own B H σ es R xs) (hz : xs.length ≤ sizeLine := by exact Nat.le_of_ble_eq_true rfl) : EvE X E own B H σ (.Tuple es x1 pos) (rTup R) xs := fun B1 H1 S1 e1 e2 Q k =>
  WE.of (pe_tup paW) (ha B1 H1 S1 e1 e2 _ fun vs B2 H2 S2 e3 e4 r => ⟨by rw [plen r]; exact hz, fun p hp => k (.ref p) _ _ (S2.lay hp) (e3.trans (S2.layB hp).ex) (e4.trans (Sx.new hp).ex) ⟨p, vs, rfl, upd_same, pimp r fun _ _ q => R.mono (S2.layB hp).ex q⟩⟩)
theorem ee_pr {x1} (ha : EvE X E own B H σ a R x) (hb : EvE X E own B H σ b S y) (hs1 : starEach (a :: [b]) X.env = (false, eval a X.env) :: starEach [b] X.env := by rfl) (hs2 : St1 X b := by rfl) : EvE X E own B H σ (.Tuple [a, b] x1 pos) (rPr R S) (x, y) := fun B1 H1 S1 e1 e2 Q k =>
  WE.of (pe_tup (pa_cons peW (pa_cons peW pa_nil hs2) hs1)) (ha B1 H1 S1 e1 e2 _ fun v B2 H2 S2 e3 e4 r => hb B2 H2 S2 (e1.trans e3) (e2.trans e4) _ fun w B3 H3 S3 e5 e6 s =>
    ⟨by show 2 ≤ sizeLine; decide, fun p hp => k (.ref p) _ _ (S3.lay hp) ((e3.trans e5).trans (S3.layB hp).ex) ((e4.trans e6).trans (Sx.new hp).ex) ⟨p, v, w, rfl, upd_same, R.mono (e5.trans (S3.layB hp).ex) r, S.mono (S3.layB hp).ex s⟩⟩)
/-! expressions as statements -/
theorem s_drop (S0 : Stt E own B H) (he : EvB X E own B H σ e R x) (q : ∀ B' H', Stt E own B' H' → Ex B B' → WSs X rest D σ H') (hs : swapsWith e none pos.line X.env = pure false := by rfl) : WSs X (.Expr e pos :: rest) D σ H :=
  WSs.cons (ps_expr peW hs) (he B H S0 (Ex.refl _) (Ex.refl _) _ fun v B2 H2 S2 e1 _ _ => q B2 H2 S2 e1)
/-! owned things at their places -/
theorem set_mem {own : Own} {p : Addr} {o o' : HO} : ∀ {k : Nat} {q : Addr × HO}, own[k]? = some (p, o) → q ∈ own.set k (p, o') → q = (p, o') ∨ (q ∈ own) := by
  intro k q h hq
  rcases List.mem_or_eq_of_mem_set hq with h | h
  · exact .inr h
  · exact .inl h
theorem set_fst {own : Own} {p : Addr} {o o' : HO} {k : Nat} (h : own[k]? = some (p, o)) : (own.set k (p, o')).map (·.1) = own.map (·.1) := by
  rw [List.map_set]
  apply List.ext_getElem?
  intro j
  rw [List.getElem?_set]
  by_cases hj : k = j
  · subst hj
    rw [if_pos rfl, List.getElem?_map, h]
    have : k < (own.map (·.1)).length := by
      rw [List.length_map]
      exact (List.getElem?_eq_some_iff.mp h).1
    rw [if_pos this] <;> rfl
  · rw [if_neg hj]
theorem Stt.put {p : Addr} {o o' : HO} (S : Stt E own B H) (hk : own[k]? = some (p, o)) (nt : ∀ ys, o' ≠ .tup ys) : Stt E (own.set k (p, o')) B (upd H p o') := by
  have hm : (p, o) ∈ own := List.mem_of_getElem? hk
  obtain ⟨o1, o2, o3⟩ := S.ow _ hm
  refine ⟨S.b0, fun a u e => ?_, fun a u e => ?_, fun a ys e => ?_, S.fr, fun q hq => ?_, by rw [set_fst hk]; exact S.nd⟩
  · rw [upd_ne fun z => by
      subst z
      have o1' : E.H0 a = Option.none := o1
      rw [o1'] at e
      cases e]
    exact S.h0 a u e
  · rw [upd_ne fun z => by
      subst z
      have o2' : B a = Option.none := o2
      rw [o2'] at e
      cases e]
    exact S.bh a u e
  · by_cases ha : a = p
    · subst ha
      rw [upd_same] at e
      exact absurd (Option.some.inj e) (nt ys)
    · rw [upd_ne ha] at e
      exact S.tu a ys e
  · by_cases hq1 : q.1 = p
    · -- it is the one that was written
      obtain ⟨j, hj, ej⟩ := List.getElem_of_mem hq
      rw [List.getElem_set] at ej
      by_cases hkj : k = j
      · rw [if_pos hkj] at ej
        subst ej
        exact ⟨o1, o2, upd_same⟩
      · rw [if_neg hkj] at ej
        exfalso
        have hlen : j < own.length := by rwa [List.length_set] at hj
        have hk' := List.getElem?_eq_some_iff.mp hk
        obtain ⟨hk1, hk2⟩ := hk'
        have nd := S.nd
        have e1 : (own.map (·.1))[k]'(by rw [List.length_map]; exact hk1) = (own.map (·.1))[j]'(by rw [List.length_map]; exact hlen) := by
          rw [List.getElem_map, List.getElem_map, hk2, ej, hq1]
        exact hkj ((List.getElem_inj nd).mp e1)
    · have hq' : q ∈ own := by
        rcases List.mem_or_eq_of_mem_set hq with h | h
        · exact h
        · rw [h] at hq1
          exact absurd rfl hq1
      obtain ⟨h1, h2, h3⟩ := S.ow q hq'
      refine ⟨h1, h2, ?_⟩
      rw [upd_ne hq1]
      exact h3
theorem psnoc {α β : Type} {F : α → β → Prop} {l₁ : List α} {l₂ : List β} {u : α} {w : β} (h : Paired F l₁ l₂) (q : F u w) : Paired F (l₁ ++ [u]) (l₂ ++ [w]) := Paired.snoc h q
theorem pappend {α β : Type} {F : α → β → Prop} : ∀ {l₁ m₁ : List α} {l₂ m₂ : List β}, Paired F l₁ l₂ → Paired F m₁ m₂ → Paired F (l₁ ++ m₁) (l₂ ++ m₂)
  | _, _, _, _, .nil, s => s
  | _, _, _, _, .cons h t, s => .cons h (pappend t s)
/-- xs.append(e) of an owned list -/
abbrev BmT (X : Cx) (a : Expr) (m : Str) (apos : Pos) (es : List Expr) (e : Expr) (cpos : Pos) : Prop := (attributeBase a m X.env (eval a X.env) = eval a X.env) ∧ (((backTo cpos (starEach (e :: es) X.env)).all (fun x => !x.1) && (backToKw cpos (keywordEach [] X.env)).all (fun x => x.1.isSome)
      && decide ((e :: es).length + ([] : List Keyword).length + (if ([] : List Keyword).isEmpty then 0 else 1) < 30)) = true) ∧ ((apos.endLine == cpos.line) = true) ∧ (starEach (e :: es) X.env = (false, eval e X.env) :: starEach es X.env) ∧ ((backTo cpos (starEach es X.env)).any (·.1) = false)
abbrev BmT0 (X : Cx) (a : Expr) (m : Str) (apos cpos : Pos) : Prop := (attributeBase a m X.env (eval a X.env) = eval a X.env) ∧ ((apos.endLine == cpos.line) = true)
theorem pe_append {apos : Pos} (ha : PE X a (tVar i)) (t : BmT X a "append" apos [] e p) (hs : St1 X e) : PE X (.Call (.Attribute a "append" apos) [e] [] p) (tBM X.K "list" rAppend (tVar i) (tCons (WE X e) tNil)) :=
  pe_bm PySem.F.plainAttrs_list PySem.F.slot_list_append PySem.F.type_list_append mt_append ha (pa1 hs) t.1 t.2.1 t.2.2.1 t.2.2.2.1 t.2.2.2.2
theorem s_append {apos : Pos} {q : Addr} {vs : List V} (S0 : Stt E own B H) (ha : PE X a (tVar i)) (h : σ[i]? = some (some (.ref q))) (hk : own[k]? = some (q, .lst vs)) (r : Paired (R.r B) vs xs) (he : EvE X E own B H σ e R x) (hz : xs.length < sizeLine)
    (kt : ∀ v B' H', Stt E (own.set k (q, .lst (vs ++ [v]))) B' H' → Ex B B' → Paired (R.r B') (vs ++ [v]) (xs ++ [x]) → WSs X rest D σ H')
    (t : BmT X a "append" apos [] e p := by exact ⟨rfl, rfl, rfl, rfl, rfl⟩) (hs : St1 X e := by rfl) (hw : swapsWith (.Call (.Attribute a "append" apos) [e] [] p) none pos.line X.env = pure false := by rfl) :
    WSs X (.Expr (.Call (.Attribute a "append" apos) [e] [] p) pos :: rest) D σ H :=
  WSs.cons (ps_expr (pe_append ha t hs) hw) ⟨.ref q, h, .inl ⟨rfl, _, SqL.of (S0.ow _ (List.mem_of_getElem? hk)).2.2⟩, he B H S0 (Ex.refl _) (Ex.refl _) _ fun v B2 H2 S2 e1 e2 rv => by
    have hq := (S2.ow _ (List.mem_of_getElem? hk)).2.2
    refine ⟨q, vs, v, rfl, rfl, hq, by rw [plen r]; exact hz, ?_⟩
    exact kt v B2 _ (S2.put hk fun ys z => by cases z) e1 (psnoc (pimp r fun _ _ z => R.mono e1 z) rv)⟩
/-- here = xs.pop() -/
theorem s_pop {apos : Pos} {q : Addr} {vs : List V} (C : Cok X k) (L : Slot X j n) {k' : Nat} (S0 : Stt E own B H) (ha : PE X a (tVar i)) (h : σ[i]? = some (some (.ref q))) (hk : own[k']? = some (q, .lst vs)) (r : Paired (R.r B) vs xs) (hx : xs.getLast? = some x)
    (kt : ∀ v H', Stt E (own.set k' (q, .lst vs.dropLast)) B H' → R.r B v x → Paired (R.r B) vs.dropLast xs.dropLast → WSs X rest D (σ.set j (some v)) H')
    (t : BmT0 X a "pop" apos p := by exact ⟨rfl, rfl⟩) (hw : swapsWith (.Call (.Attribute a "pop" apos) [] [] p) (some (.Name n pos')) pos.line X.env = pure false := by rfl) :
    WSs X (.Assign [.Name n pos'] (.Call (.Attribute a "pop" apos) [] [] p) pos :: rest) D σ H :=
  WSs.cons (ps_set C.nd L.ix L.loc (pe_bm0 PySem.F.plainAttrs_list PySem.F.slot_list_pop PySem.F.type_list_pop mt_pop ha t.1 t.2) hw L.hf) (by
    have hq := (S0.ow _ (List.mem_of_getElem? hk)).2.2
    have key : ∃ v, vs[vs.length - 1]? = some v ∧ R.r B v x ∧ Paired (R.r B) vs.dropLast xs.dropLast := by
      clear kt h hk hq
      induction r generalizing x with
      | nil => cases hx
      | @cons u w us ws h1 t1 ih =>
        cases us with
        | nil =>
          cases t1
          cases hx
          exact ⟨u, rfl, h1, .nil⟩
        | cons u2 us =>
          cases t1 with
          | @cons _ w2 _ ws h2 t2 =>
            rw [List.getLast?_cons_cons] at hx
            obtain ⟨v, e1, e2, e3⟩ := ih hx
            exact ⟨v, e1, e2, .cons h1 e3⟩
    obtain ⟨v, e1, e2, e3⟩ := key
    refine ⟨.ref q, h, .inl ⟨rfl, _, SqL.of hq⟩, q, vs, v, rfl, rfl, hq, e1, ?_⟩
    exact kt v _ (S0.put hk fun ys z => by cases z) e2 e3)
/-! if, return -/
theorem s_if (S0 : Stt E own B H) (hc : EvT X E own B H σ c z)
    (h1 : z = true → ∀ B' H', Stt E own B' H' → Ex B B' → WSs X body { D with nx := WSs X rest D } σ H')
    (h2 : z = false → ∀ B' H', Stt E own B' H' → Ex B B' → WSs X other { D with nx := WSs X rest D } σ H') : WSs X (.If c body other pos :: rest) D σ H :=
  WSs.cons (ps_if ptW pssW pssW) (hc B H S0 (Ex.refl _) (Ex.refl _) _ fun B2 H2 S2 e1 _ => by
    cases z with
    | true => exact h1 rfl B2 H2 S2 e1
    | false => exact h2 rfl B2 H2 S2 e1)
theorem s_retE (S0 : Stt E own B H) (he : EvE X E own B H σ e R x) (F : kE R E D.rt x) : WSs X (.Return (some e) pos :: rest) D σ H :=
  WSs.cons (ps_ret peW) (he B H S0 (Ex.refl _) (Ex.refl _) _ fun v B2 H2 S2 _ _ r => F v B2 H2 S2.none r)
theorem s_retL (S0 : Stt E own B H) (he : EvL X E own B H σ e R xs) (F : kL R E D.rt xs) : WSs X (.Return (some e) pos :: rest) D σ H :=
  WSs.cons (ps_ret peW) (he B H S0 (Ex.refl _) (Ex.refl _) _ fun p vs B2 H2 S2 _ _ r => F p vs B2 H2 (S2.sub (fun q hq => by
    rcases List.mem_singleton.mp hq with rfl
    exact List.mem_cons_self ..) (by simp)) r)
/-- an owned list is handed back -/
theorem s_retO {q : Addr} {vs : List V} (S0 : Stt E own B H) (ha : PE X e (tVar i)) (h : σ[i]? = some (some (.ref q))) (hk : own[k]? = some (q, .lst vs)) (r : Paired (R.r B) vs xs) (F : kL R E D.rt xs) : WSs X (.Return (some e) pos :: rest) D σ H :=
  WSs.cons (ps_ret ha) ⟨.ref q, h, F q vs B H (S0.sub (fun z hz => by
    rcases List.mem_singleton.mp hz with rfl
    exact List.mem_of_getElem? hk) (by simp)) r⟩
theorem s_retN (S0 : Stt E own B H) (F : kE rNon E D.rt ()) : WSs X (.Return none pos :: rest) D σ H := WSs.cons ps_retN (F .non B H S0.none rfl)
theorem s_never {st : Stmt} (h : False) : WSs X (st :: rest) D σ H := h.elim
theorem s_cont (h : D.ct σ H) : WSs X (.Continue pos :: rest) D σ H := WSs.cons ps_continue h
theorem s_brk (h : D.bk σ H) : WSs X (.Break pos :: rest) D σ H := WSs.cons ps_break h
theorem s_pass (h : WSs X rest D σ H) : WSs X (.Pass pos :: rest) D σ H := WSs.cons ps_pass h
end
end Sg

namespace Sg
open PySem PySem.Spec PyProof.Rows L2

/-- an iterator J over xs: what it yields from a state of ours, while Ko holds of what is owned -/
structure Walk (E : Ent) (Ko : Own → Prop) (B2 : Hp) (J : It) {α : Type} (R : Rel α) (xs : List α) : Prop where
  go : ∀ i own' B' H', Stt E own' B' H' → Ex B2 B' → Ko own' → i < xs.length → J.go i H'
  stop : ∀ i own' B' H', Stt E own' B' H' → Ex B2 B' → Ko own' → xs.length ≤ i → J.stop i H'
  yld : ∀ i own' B' H' v H'' x, Stt E own' B' H' → Ex B2 B' → Ko own' → xs[i]? = some x → J.yld i H' v H'' → ∃ B'', Stt E own' B'' H'' ∧ Ex B' B'' ∧ Ex H' H'' ∧ R.r B'' v x
/-- what is walked by a for -/
def EvI (X : Cx) (E : Ent) (own : Own) (B H : Hp) (σ : L2.St) {α : Type} (tg it : Expr) (R : Rel α) (Ko : Own → Prop) (xs : List α) : Prop := ∃ wi : TI, PI X tg it wi ∧ ∀ B1 H1, Stt E own B1 H1 → Ex B B1 → Ex H H1 → ∀ Q : It → Hp → Prop,
  (∀ J B2 H2, Stt E own B2 H2 → Ex B1 B2 → Ex H1 H2 → Walk E Ko B2 J R xs → xs.length ≤ sizeLine → Q J H2) → wi σ H1 Q
/-- a target takes an item -/
def TgOk (X : Cx) (E : Ent) {α : Type} (tg : Expr) (R : Rel α) (T : α → Hp → L2.St → L2.St → Prop) : Prop := ∃ g : TG, PG X tg g ∧ ∀ own B H v x σ, Stt E own B H → R.r B v x → ∀ Q : L2.St → Hp → Prop, (∀ σ', T x B σ σ' → Q σ' H) → g v σ H Q
abbrev KoT : Own → Prop := fun _ => True
def noU {ρ : Type} (u : Empty) : Res ρ := nomatch u
section
variable {X : Cx} {E : Ent} {own new own' : Own} {B H B' H' : Hp} {σ : L2.St} {α β γ τ ρ ρ' : Type} {R : Rel α} {S : Rel β} {T : Rel γ} {e a b c it : Expr} {x : α} {y : β} {p pos pos' : Pos} {i j k : Nat} {z w : Bool} {xs : List α}
variable {n m : Str} {rest body other : List Stmt} {D : Ends} {P : ρ → Prop} {Er : Err → Prop}
/-! what is walked -/
theorem walk_list {q : Addr} {vs : List V} {Ko : Own → Prop} {K : PySem.W.Frag} (hl : ∀ own' B' H', Stt E own' B' H' → Ex B B' → Ko own' → Rd H' q (.lst vs)) (r : Paired (R.r B) vs xs) : Walk E Ko B (Itl K q) R xs := by
  refine ⟨fun i own' B' H' S' e k hi => ?_, fun i own' B' H' S' e k hi => ⟨vs, .inl (hl own' B' H' S' e k), by rw [plen r]; exact hi⟩, fun i own' B' H' v H'' x S' e k hx hy => ?_⟩
  · have h2 : i < vs.length := by rw [plen r]; exact hi
    exact ⟨vs, vs[i], .inl (hl own' B' H' S' e k), List.getElem?_eq_getElem h2⟩
  · obtain ⟨e1, h1⟩ := hy
    subst e1
    have hv := h1 vs (.inl (hl own' B' H'' S' e k))
    obtain ⟨x', hx', rx⟩ := L2.paired_get r hv
    rw [hx] at hx'
    cases hx'
    exact ⟨B', S', Ex.refl _, Ex.refl _, R.mono e rx⟩
theorem walk_tup {q : Addr} {vs : List V} {K : PySem.W.Frag} (hl : B q = some (.tup vs)) (r : Paired (R.r B) vs xs) : Walk E KoT B (Itt K q) R xs := by
  have key : ∀ own' B' H', Stt E own' B' H' → Ex B B' → SqT K H' q vs := fun own' B' H' S' e => SqT.of (S'.bh _ _ (e.tup hl))
  refine ⟨fun i own' B' H' S' e k hi => ?_, fun i own' B' H' S' e k hi => ⟨vs, key own' B' H' S' e, by rw [plen r]; exact hi⟩, fun i own' B' H' v H'' x S' e k hx hy => ?_⟩
  · have h2 : i < vs.length := by rw [plen r]; exact hi
    exact ⟨vs, vs[i], key own' B' H' S' e, List.getElem?_eq_getElem h2⟩
  · obtain ⟨e1, h1⟩ := hy
    subst e1
    have hv := h1 vs (key own' B' H'' S' e)
    obtain ⟨x', hx', rx⟩ := L2.paired_get r hv
    rw [hx] at hx'
    cases hx'
    exact ⟨B', S', Ex.refl _, Ex.refl _, R.mono e rx⟩
/-- a list that was handed in -/
theorem ei_0 [Imm R] {v : V} {tg : Expr} (hp : PE X e (tVar i)) (h : σ[i]? = some (some v)) (r : (rLst R).r E.H0 v xs) : EvI X E own B H σ tg e R KoT xs := ⟨_, pi_list (tl := WE X e) peW, fun B1 H1 S e1 e2 Q k => by
  obtain ⟨q, vs, h1, h2, h3⟩ := r
  subst h1
  exact WE.sz (WE.of hp ⟨_, h, fun sz => ⟨q, rfl, ⟨vs, .inl (S.h0.ex.rdL h2)⟩, k _ B1 H1 S (Ex.refl _) (Ex.refl _) (walk_list (fun own' B' H' S' _ _ => S'.h0.ex.rdL h2) (pimp h3 fun _ _ z => Imm.imm (fun a ys ha => S.tu a ys (S.h0 _ _ ha)) z)) (by rw [← plen h3]; exact sz.1 _ _ (S.h0.ex.rdL h2))⟩⟩)⟩
/-- a list kept for good -/
theorem ei_E {tg : Expr} (he : EvE X E own B H σ e (rLst R) xs) : EvI X E own B H σ tg e R KoT xs := ⟨_, pi_list (tl := WE X e) peW, fun B1 H1 S e1 e2 Q k => WE.sz (he B1 H1 S e1 e2 _ fun v B2 H2 S2 e3 e4 r sz => by
  obtain ⟨q, vs, h1, h2, h3⟩ := r
  subst h1
  exact ⟨q, rfl, ⟨vs, .inl (S2.bh.ex.rdL h2)⟩, k _ B2 H2 S2 e3 e4 (walk_list (fun own' B' H' S' e' _ => S'.bh.ex.rdL (e'.rdL h2)) h3) (by rw [← plen h3]; exact sz.1 _ _ (S2.bh.ex.rdL h2))⟩)⟩
theorem ei_L {tg : Expr} (he : EvL X E own B H σ e R xs) : EvI X E own B H σ tg e R KoT xs := ei_E he.toE
/-- an owned list that stays -/
theorem ei_own {q : Addr} {vs : List V} {k' : Nat} {tg : Expr} (hp : PE X e (tVar i)) (h : σ[i]? = some (some (.ref q))) (hk : own[k']? = some (q, .lst vs)) (r : Paired (R.r B) vs xs) : EvI X E own B H σ tg e R (fun o => (q, .lst vs) ∈ o) xs := ⟨_, pi_list (tl := WE X e) peW, fun B1 H1 S e1 e2 Q k =>
  WE.sz (WE.of hp ⟨_, h, fun sz => ⟨q, rfl, ⟨vs, .inl (.inl (S.ow _ (List.mem_of_getElem? hk)).2.2)⟩, k _ B1 H1 S (Ex.refl _) (Ex.refl _) (walk_list (fun own' B' H' S' _ hk' => .inl (S'.ow _ hk').2.2) (pimp r fun _ _ z => R.mono e1 z)) (by rw [← plen r]; exact sz.1 _ _ (.inl (S.ow _ (List.mem_of_getElem? hk)).2.2))⟩⟩)⟩
/-- a tuple -/
theorem ei_T {tg : Expr} (he : EvE X E own B H σ e (rTup R) xs) : EvI X E own B H σ tg e R KoT xs := ⟨_, pi_tup (tl := WE X e) peW, fun B1 H1 S e1 e2 Q k => WE.sz (he B1 H1 S e1 e2 _ fun v B2 H2 S2 e3 e4 r sz => by
  obtain ⟨q, vs, h1, h2, h3⟩ := r
  subst h1
  exact ⟨q, rfl, ⟨vs, SqT.of (S2.bh _ _ h2)⟩, k _ B2 H2 S2 e3 e4 (walk_tup h2 h3) (by rw [← plen h3]; exact sz.2.1 _ _ (.inl (S2.bh _ _ h2)))⟩)⟩
/-- range(n), range(a, b) -/
def rangeI (a b : Int) : List Int := (List.range (b - a).toNat).map fun i : Nat => a + (i : Int)
theorem rangeI_at {a b : Int} {i : Nat} (h : i < (b - a).toNat) : (rangeI a b)[i]? = some (a + (i : Int)) := by
  unfold rangeI
  rw [List.getElem?_map, List.getElem?_range h]
  rfl
theorem rangeI_len (a b : Int) : (rangeI a b).length = (b - a).toNat := by
  unfold rangeI
  rw [List.length_map, List.length_range]
theorem walk_range {lo hi : Int} : Walk E KoT B (Itr lo (hi - lo).toNat) rInt (rangeI lo hi) := by
  refine ⟨fun i own' B' H' S' e k h => by rw [rangeI_len] at h; exact h, fun i own' B' H' S' e k h => by rw [rangeI_len] at h; exact h, fun i own' B' H' v H'' x S' e k hx hy => ?_⟩
  obtain ⟨e1, h1⟩ := hy
  subst e1
  have hl : i < (hi - lo).toNat := by
    have := (List.getElem?_eq_some_iff.mp hx).1
    rwa [rangeI_len] at this
  rw [rangeI_at hl] at hx
  cases hx
  exact ⟨B', S', Ex.refl _, Ex.refl _, h1⟩
theorem ei_r1 {tg : Expr} {hi : Int} (hg : Gl X "range") (hm : X.mg "range" = none) (ha : EvB X E own B H σ a rInt hi) (hz : -8000000 ≤ hi ∧ hi ≤ 8000000) (hs : St1 X a := by rfl) (hs' : starEach [a] X.env = [(false, eval a X.env)] := by rfl) : EvI X E own B H σ tg (.Call (.Name "range" p) [a] [] pos) rInt KoT (rangeI 0 hi) :=
  ⟨_, pi_range1 hg hm (pa1 hs) hs', fun B1 H1 S e1 e2 Q k => ha B1 H1 S e1 e2 _ fun v B2 H2 S2 e3 e4 r => ⟨hi, by rw [show v = .int hi from r], by omega, by omega, k _ B2 H2 S2 e3 e4 (by
    have q := walk_range (E := E) (B := B2) (lo := 0) (hi := hi)
    rw [Int.sub_zero] at q
    exact q) (by rw [rangeI_len, sizeLine_eq]; omega)⟩⟩
theorem ei_r2 {tg : Expr} {lo hi : Int} (hg : Gl X "range") (hm : X.mg "range" = none) (ha : EvB X E own B H σ a rInt lo) (hb : EvB X E own B H σ b rInt hi) (hz : -8000000 ≤ lo ∧ lo ≤ 8000000 ∧ -8000000 ≤ hi ∧ hi ≤ 8000000)
    (hs : starEach (a :: [b]) X.env = (false, eval a X.env) :: starEach [b] X.env := by rfl) (hs1 : St1 X b := by rfl) (hs' : starEach [a, b] X.env = [(false, eval a X.env), (false, eval b X.env)] := by rfl) (hs2 : starEach [b] X.env = [(false, eval b X.env)] := by rfl) : EvI X E own B H σ tg (.Call (.Name "range" p) [a, b] [] pos) rInt KoT (rangeI lo hi) :=
  ⟨_, pi_range2 hg hm (pa_cons peW (pa1 hs1) hs) hs' hs2, fun B1 H1 S e1 e2 Q k => ha B1 H1 S e1 e2 _ fun v B2 H2 S2 e3 e4 r => hb B2 H2 S2 (e1.trans e3) (e2.trans e4) _ fun w B3 H3 S3 e5 e6 r' =>
    ⟨lo, hi, by rw [show v = .int lo from r, show w = .int hi from r'], by omega, k _ B3 H3 S3 (e3.trans e5) (e4.trans e6) walk_range (by rw [rangeI_len, sizeLine_eq]; omega)⟩⟩
/-- enumerate(list) -/
def enumI (a : Int) (xs : List α) : List (Int × α) := (rangeI a (a + xs.length)).zip xs
theorem enumI_at {a : Int} {xs : List α} {i : Nat} {x : α} (h : xs[i]? = some x) : (enumI a xs)[i]? = some (a + (i : Int), x) := by
  have hl : i < xs.length := (List.getElem?_eq_some_iff.mp h).1
  unfold enumI
  exact (List.getElem?_zip_eq_some (z := (a + (i : Int), x))).mpr ⟨rangeI_at (by omega), h⟩
theorem enumI_len (a : Int) (xs : List α) : (enumI a xs).length = xs.length := by
  unfold enumI
  rw [List.length_zip, rangeI_len]
  omega
theorem walk_enum {q : Addr} {vs : List V} {Ko : Own → Prop} {K : PySem.W.Frag} (hl : ∀ own' B' H', Stt E own' B' H' → Ex B B' → Ko own' → Rd H' q (.lst vs)) (r : Paired (R.r B) vs xs) : Walk E Ko B (Ite K q) (rPr rInt R) (enumI 0 xs) := by
  refine ⟨fun i own' B' H' S' e k hi => ?_, fun i own' B' H' S' e k hi => ⟨vs, .inl (hl own' B' H' S' e k), by rw [enumI_len] at hi; rw [plen r]; exact hi⟩, fun i own' B' H' v H'' x S' e k hx hy => ?_⟩
  · have h2 : i < vs.length := by rw [plen r, ← enumI_len 0 xs]; exact hi
    exact ⟨vs, vs[i], .inl (hl own' B' H' S' e k), List.getElem?_eq_getElem h2⟩
  · obtain ⟨T, u, h1, h2, h3, h4⟩ := hy
    subst h3
    have hv := h4 vs (.inl (hl own' B' H' S' e k))
    obtain ⟨x', hx', rx⟩ := L2.paired_get r hv
    rw [enumI_at hx'] at hx
    cases hx
    refine ⟨_, S'.lay h2, (S'.layB h2).ex, (Sx.new h2).ex, T, .int (i : Nat), u, h1, upd_same, ?_, R.mono (e.trans (S'.layB h2).ex) rx⟩
    show V.int _ = V.int _
    rw [Int.zero_add]
theorem ei_enum0 [Imm R] {v : V} {tgs : List Expr} {kk : Nat} {tpos : Pos} (hg : Gl X "enumerate") (hm : X.mg "enumerate" = none) (hp : PE X a (tVar i)) (h : σ[i]? = some (some v)) (r : (rLst R).r E.H0 v xs) (hs : St1 X a := by rfl) (hs' : starEach [a] X.env = [(false, eval a X.env)] := by rfl) :
    EvI X E own B H σ (.Tuple tgs kk tpos) (.Call (.Name "enumerate" p) [a] [] pos) (rPr rInt R) KoT (enumI 0 xs) := ⟨_, pi_enum hg hm (pa1 hs) hs', fun B1 H1 S e1 e2 Q k => by
  obtain ⟨q, vs, h1, h2, h3⟩ := r
  subst h1
  exact WE.sz (WE.of hp ⟨_, h, fun sz => ⟨q, vs, rfl, .inl (S.h0.ex.rdL h2), k _ B1 H1 S (Ex.refl _) (Ex.refl _) (walk_enum (fun own' B' H' S' _ _ => S'.h0.ex.rdL h2) (pimp h3 fun _ _ z => Imm.imm (fun a ys ha => S.tu a ys (S.h0 _ _ ha)) z)) (by rw [enumI_len, ← plen h3]; exact sz.1 _ _ (S.h0.ex.rdL h2))⟩⟩)⟩
theorem ei_enumE {tgs : List Expr} {kk : Nat} {tpos : Pos} (hg : Gl X "enumerate") (hm : X.mg "enumerate" = none) (he : EvE X E own B H σ a (rLst R) xs) (hs : St1 X a := by rfl) (hs' : starEach [a] X.env = [(false, eval a X.env)] := by rfl) :
    EvI X E own B H σ (.Tuple tgs kk tpos) (.Call (.Name "enumerate" p) [a] [] pos) (rPr rInt R) KoT (enumI 0 xs) := ⟨_, pi_enum hg hm (pa1 hs) hs', fun B1 H1 S e1 e2 Q k => WE.sz (he B1 H1 S e1 e2 _ fun v B2 H2 S2 e3 e4 r sz => by
  obtain ⟨q, vs, h1, h2, h3⟩ := r
  subst h1
  exact ⟨q, vs, rfl, .inl (S2.bh.ex.rdL h2), k _ B2 H2 S2 e3 e4 (walk_enum (fun own' B' H' S' e' _ => S'.bh.ex.rdL (e'.rdL h2)) h3) (by rw [enumI_len, ← plen h3]; exact sz.1 _ _ (S2.bh.ex.rdL h2))⟩)⟩
theorem ei_enumO {q : Addr} {vs : List V} {k' : Nat} {tgs : List Expr} {kk : Nat} {tpos : Pos} (hg : Gl X "enumerate") (hm : X.mg "enumerate" = none) (hp : PE X a (tVar i)) (h : σ[i]? = some (some (.ref q))) (hk : own[k']? = some (q, .lst vs)) (r : Paired (R.r B) vs xs) (hs : St1 X a := by rfl) (hs' : starEach [a] X.env = [(false, eval a X.env)] := by rfl) :
    EvI X E own B H σ (.Tuple tgs kk tpos) (.Call (.Name "enumerate" p) [a] [] pos) (rPr rInt R) (fun o => (q, .lst vs) ∈ o) (enumI 0 xs) := ⟨_, pi_enum hg hm (pa1 hs) hs', fun B1 H1 S e1 e2 Q k =>
  WE.sz (WE.of hp ⟨_, h, fun sz => ⟨q, vs, rfl, .inl (.inl (S.ow _ (List.mem_of_getElem? hk)).2.2), k _ B1 H1 S (Ex.refl _) (Ex.refl _) (walk_enum (fun own' B' H' S' _ hk' => .inl (S'.ow _ hk').2.2) (pimp r fun _ _ z => R.mono e1 z)) (by rw [enumI_len, ← plen r]; exact sz.1 _ _ (.inl (S.ow _ (List.mem_of_getElem? hk)).2.2))⟩⟩)⟩
/-- zip(list, list) -/
theorem walk_zip {q q2 : Addr} {vs us : List V} {ys : List β} {Ko : Own → Prop} {K : PySem.W.Frag} (hl : ∀ own' B' H', Stt E own' B' H' → Ex B B' → Ko own' → Rd H' q (.lst vs)) (hl2 : ∀ own' B' H', Stt E own' B' H' → Ex B B' → Ko own' → Rd H' q2 (.lst us)) (r : Paired (R.r B) vs xs) (r2 : Paired (S.r B) us ys) : Walk E Ko B (Itz K q q2) (rPr R S) (xs.zip ys) := by
  refine ⟨fun i own' B' H' S' e k hi => ?_, fun i own' B' H' S' e k hi => ⟨vs, us, .inl (hl own' B' H' S' e k), .inl (hl2 own' B' H' S' e k), ?_⟩, fun i own' B' H' v H'' x S' e k hx hy => ?_⟩
  · rw [List.length_zip] at hi
    have h2 : i < vs.length := by rw [plen r]; omega
    have h3 : i < us.length := by rw [plen r2]; omega
    exact ⟨vs, us, vs[i], us[i], .inl (hl own' B' H' S' e k), .inl (hl2 own' B' H' S' e k), List.getElem?_eq_getElem h2, List.getElem?_eq_getElem h3⟩
  · rw [List.length_zip] at hi
    rw [plen r, plen r2]
    omega
  · obtain ⟨T, u, w, h1, h2, h3, h4, h5⟩ := hy
    subst h3
    obtain ⟨x', hx', rx⟩ := L2.paired_get r (h4 vs (.inl (hl own' B' H' S' e k)))
    obtain ⟨y', hy', ry⟩ := L2.paired_get r2 (h5 us (.inl (hl2 own' B' H' S' e k)))
    rw [(List.getElem?_zip_eq_some (z := (x', y'))).mpr ⟨hx', hy'⟩] at hx
    cases hx
    exact ⟨_, S'.lay h2, (S'.layB h2).ex, (Sx.new h2).ex, T, u, w, h1, upd_same, R.mono (e.trans (S'.layB h2).ex) rx, S.mono (e.trans (S'.layB h2).ex) ry⟩
theorem ei_zip {ys : List β} {tgs : List Expr} {kk : Nat} {tpos : Pos} (hg : Gl X "zip") (hm : X.mg "zip" = none) (he : EvE X E own B H σ a (rLst R) xs) (he2 : EvE X E own B H σ b (rLst S) ys)
    (hs0 : starEach (a :: [b]) X.env = (false, eval a X.env) :: starEach [b] X.env := by rfl) (hs1 : St1 X b := by rfl) (hpl : (backTo pos (starEach [b] X.env)).any (·.1) = false := by rfl) :
    EvI X E own B H σ (.Tuple tgs kk tpos) (.Call (.Name "zip" p) [a, b] [] pos) (rPr R S) KoT (xs.zip ys) := ⟨_, pi_zip hg hm (pa_cons peW (pa1 hs1) hs0) hs0 hpl, fun B1 H1 S e1 e2 Q k => he B1 H1 S e1 e2 _ fun v B2 H2 S2 e3 e4 r => WE.sz (he2 B2 H2 S2 (e1.trans e3) (e2.trans e4) _ fun w B3 H3 S3 e5 e6 r' sz => by
  obtain ⟨q, vs, h1, h2, h3⟩ := Rel.mono _ e5 r
  obtain ⟨q2, us, h1', h2', h3'⟩ := r'
  subst h1
  subst h1'
  exact ⟨q, q2, vs, us, rfl, .inl (S3.bh.ex.rdL h2), .inl (S3.bh.ex.rdL h2'), k _ B3 H3 S3 (e3.trans e5) (e4.trans e6) (walk_zip (fun own' B' H' S' e' _ => S'.bh.ex.rdL (e'.rdL h2)) (fun own' B' H' S' e' _ => S'.bh.ex.rdL (e'.rdL h2')) h3 h3') (by rw [List.length_zip, ← plen h3]; exact Nat.le_trans (Nat.min_le_left _ _) (sz.1 _ _ (S3.bh.ex.rdL h2)))⟩)⟩
/-! targets -/
def tN (j : Nat) (R : Rel α) : α → Hp → L2.St → L2.St → Prop := fun x B σ σ' => ∃ v, R.r B v x ∧ σ' = σ.set j (some v)
def tP (i j : Nat) (R : Rel α) (S : Rel β) : α × β → Hp → L2.St → L2.St → Prop := fun x B σ σ' => ∃ v w, R.r B v x.1 ∧ S.r B w x.2 ∧ σ' = (σ.set i (some v)).set j (some w)
theorem tg_name {k0 : Nat} (C : Cok X k0) (L : Slot X j n) : TgOk X E (.Name n pos) R (tN j R) := ⟨_, pg_name (i := j) C.nd L.ix L.loc L.hf, fun own B H v x σ S r Q k => k _ ⟨v, r, rfl⟩⟩
theorem tg_pair {k0 : Nat} {m : Str} {k1 : Nat} {q : Pos} (C : Cok X k0) (L : Slot X i n) (L2 : Slot X j m) : TgOk X E (.Tuple [.Name n pos, .Name m pos'] k1 q) (rPr R S) (tP i j R S) :=
  ⟨_, pg_tup (n := 2) C.calm (pgs_cons (pg_name (i := i) C.nd L.ix L.loc L.hf) (pgs_cons (pg_name (i := j) C.nd L2.ix L2.loc L2.hf) pgs_nil)), fun own B H v x σ St r Q k => by
    obtain ⟨q, a, b, h1, h2, h3, h4⟩ := r
    exact ⟨q, [a, b], h1, SqT.of (St.bh _ _ h2), rfl, a, [b], rfl, b, [], rfl, rfl, k _ ⟨a, b, h3, h4, rfl⟩⟩⟩
/-- a turn's end -/
def TurnE (E : Ent) (B : Hp) (Q : τ → Prop) (Inv : τ → L2.St → Own → Hp → Prop) : L2.St → Hp → Prop := fun σ2 H2 => ∃ a' own2 B2, Q a' ∧ Stt E own2 B2 H2 ∧ Ex B B2 ∧ Inv a' σ2 own2 B2
theorem forR_cons {step : τ → α → Res (ρ' ⊕ τ)} {kr : ρ' → Res ρ} {kn : τ → Res ρ} {r : List α} {acc : τ} (F : Fin P Er ((forR step (x :: r) acc).bind (sel kr kn))) : Fin (sel (fun u => Fin P Er (kr u)) (fun a' => Fin P Er ((forR step r a').bind (sel kr kn)))) Er (step acc x) := by
  unfold forR at F
  cases hm : step acc x with
  | ok o =>
    rw [hm] at F
    cases o with
    | inl u => exact F
    | inr a' => exact F
  | err e =>
    rw [hm] at F
    exact F
  | stuck =>
    rw [hm] at F
    exact F
/-- for x in xs: with what may be handed back within -/
theorem s_forR {k0 : Nat} {tg : Expr} {Tg : α → Hp → L2.St → L2.St → Prop} {Ko : Own → Prop} {step : τ → α → Res (ρ' ⊕ τ)} {kr : ρ' → Res ρ} {kn : τ → Res ρ} {a0 : τ} (C : Cok X k0) (ht : TgOk X E tg R Tg) (S0 : Stt E own B H) (hit : EvI X E own B H σ tg it R Ko xs)
    (F : Fin P Er ((forR step xs a0).bind (sel kr kn)))
    (Inv : τ → L2.St → Own → Hp → Prop) (h0 : ∀ B1, Ex B B1 → Inv a0 σ own B1) (hK : ∀ a σ' own' B', Inv a σ' own' B' → Ko own')
    (hup : ∀ a σ' own' B' B'', Inv a σ' own' B' → Ex B' B'' → Inv a σ' own' B'')
    (hs : ∀ a x σ' σ2 own' B' H' (Q : τ → Prop), Inv a σ' own' B' → Stt E own' B' H' → Ex B B' → Tg x B' σ' σ2 → Fin (sel (fun u => Fin P Er (kr u)) Q) Er (step a x) →
      WSs X body { nx := TurnE E B' Q Inv, rt := D.rt, bk := fun σ2 H2 => ∃ a' own2 B2, Fin P Er (kn a') ∧ Stt E own2 B2 H2 ∧ Ex B' B2 ∧ Inv a' σ2 own2 B2, ct := TurnE E B' Q Inv } σ2 H')
    (hd : ∀ a σ' own' B' H', Inv a σ' own' B' → Stt E own' B' H' → Ex B B' → Fin P Er (kn a) → WSs X rest D σ' H')
    (hf : ∀ x, foldedSetIterable it X.env x = pure x := by intro _; rfl) : WSs X (.For tg it body [] pos :: rest) D σ H := by
  obtain ⟨g, pg, hg⟩ := ht
  obtain ⟨wi, pi, hw⟩ := hit
  refine WSs.cons (ps_for C.own C.calm pi pg pssW hf) (hw B H S0 (Ex.refl _) (Ex.refl _) _ fun J B2 H2 S2 e1 e2 W _ => ?_)
  refine ⟨fun i' mm σ' H' => mm = xs.length - i' ∧ i' ≤ xs.length ∧ ∃ a own' B', Fin P Er ((forR step (xs.drop i') a).bind (sel kr kn)) ∧ Stt E own' B' H' ∧ Ex B2 B' ∧ Inv a σ' own' B', ⟨xs.length, by simp, Nat.zero_le _, a0, own, B2, by rw [List.drop_zero]; exact F, S2, Ex.refl _, h0 B2 e1⟩, ?_⟩
  rintro i' mm σ' H' ⟨rfl, hi, a, own', B', F', S', e', iv⟩
  by_cases hlt : i' < xs.length
  · refine .inr ⟨W.go i' own' B' H' S' e' (hK _ _ _ _ iv) hlt, fun σ2 H2 => ∃ a own' B', Fin P Er ((forR step (xs.drop (i' + 1)) a).bind (sel kr kn)) ∧ Stt E own' B' H2 ∧ Ex B2 B' ∧ Inv a σ2 own' B', fun σ2 H2 q => ⟨xs.length - (i' + 1), by omega, rfl, hlt, q⟩, fun v H'' hy => ?_⟩
    have hx : xs[i']? = some xs[i'] := List.getElem?_eq_getElem hlt
    obtain ⟨B'', S'', e3, e4, rx⟩ := W.yld i' own' B' H' v H'' _ S' e' (hK _ _ _ _ iv) hx hy
    refine hg own' B'' H'' v _ σ' S'' rx _ fun σ2 tgx => ?_
    have hdrop : xs.drop i' = xs[i'] :: xs.drop (i' + 1) := List.drop_eq_getElem_cons hlt
    rw [hdrop] at F'
    have F2 := forR_cons F'
    have done := hs a _ σ' σ2 own' B'' H'' _ (hup _ _ _ _ _ iv e3) S'' ((e1.trans e').trans e3) tgx F2
    intro pins s I
    refine wpAny_mono (done pins s I) (fun f s' q => ?_) fun _ _ q => q
    cases f with
    | next =>
      obtain ⟨σ2, H2', I2, a', own2, B3, q1, q2, q3, q4⟩ := q
      exact ⟨σ2, H2', I2, a', own2, B3, q1, q2, (e'.trans e3).trans q3, q4⟩
    | cont =>
      obtain ⟨σ2, H2', I2, a', own2, B3, q1, q2, q3, q4⟩ := q
      exact ⟨σ2, H2', I2, a', own2, B3, q1, q2, (e'.trans e3).trans q3, q4⟩
    | brk =>
      obtain ⟨σ2, H2', I2, a', own2, B3, q1, q2, q3, q4⟩ := q
      exact ⟨σ2, H2', I2, hd a' σ2 own2 B3 H2' q4 q2 (((e1.trans e').trans e3).trans q3) q1⟩
    | ret u => exact q
  · have e : i' = xs.length := by omega
    subst e
    rw [List.drop_length] at F'
    exact .inl ⟨W.stop _ own' B' H' S' e' (hK _ _ _ _ iv) (Nat.le_refl _), hd a σ' own' B' H' iv S' (e1.trans e') F'⟩
/-- for x in xs: nothing is handed back within -/
theorem forM_R {step : τ → α → Res τ} : ∀ (xs : List α) (a : τ) (kn : τ → Res ρ), Fin P Er ((forM step xs a).bind kn) → Fin P Er ((forR (ρ := Empty) (fun a x => (step a x).bind fun a' => .ok (.inr a')) xs a).bind (sel noU kn))
  | [], a, kn, F => F
  | x :: r, a, kn, F => by
    unfold forM at F
    unfold forR
    cases hm : step a x with
    | ok a' =>
      rw [hm] at F
      exact forM_R r a' kn F
    | err e =>
      rw [hm] at F
      exact F
    | stuck =>
      rw [hm] at F
      exact F
theorem s_forM {k0 : Nat} {tg : Expr} {Tg : α → Hp → L2.St → L2.St → Prop} {Ko : Own → Prop} {step : τ → α → Res τ} {kn : τ → Res ρ} {a0 : τ} (C : Cok X k0) (ht : TgOk X E tg R Tg) (S0 : Stt E own B H) (hit : EvI X E own B H σ tg it R Ko xs)
    (F : Fin P Er ((forM step xs a0).bind kn))
    (Inv : τ → L2.St → Own → Hp → Prop) (h0 : ∀ B1, Ex B B1 → Inv a0 σ own B1) (hK : ∀ a σ' own' B', Inv a σ' own' B' → Ko own')
    (hup : ∀ a σ' own' B' B'', Inv a σ' own' B' → Ex B' B'' → Inv a σ' own' B'')
    (hs : ∀ a x σ' σ2 own' B' H' (Q : τ → Prop), Inv a σ' own' B' → Stt E own' B' H' → Ex B B' → Tg x B' σ' σ2 → Fin Q Er (step a x) →
      WSs X body { nx := TurnE E B' Q Inv, rt := D.rt, bk := fun _ _ => False, ct := TurnE E B' Q Inv } σ2 H')
    (hd : ∀ a σ' own' B' H', Inv a σ' own' B' → Stt E own' B' H' → Ex B B' → Fin P Er (kn a) → WSs X rest D σ' H')
    (hf : ∀ x, foldedSetIterable it X.env x = pure x := by intro _; rfl) : WSs X (.For tg it body [] pos :: rest) D σ H :=
  s_forR (ρ' := Empty) (step := fun a x => (step a x).bind fun a' => .ok (.inr a')) (kr := noU) (kn := kn) C ht S0 hit (forM_R xs a0 kn F) Inv h0 hK hup (fun a x σ' σ2 own' B' H' Q iv S' e' rx F' => by
    have F2 : Fin Q Er (step a x) := by
      cases hm : step a x with
      | ok a' =>
        rw [hm] at F'
        exact F'
      | err e =>
        rw [hm] at F'
        exact F'
      | stuck =>
        rw [hm] at F'
        exact F'
    have done := hs a x σ' σ2 own' B' H' Q iv S' e' rx F2
    intro pins s I
    refine wpAny_mono (done pins s I) (fun f s' q => ?_) fun _ _ q => q
    cases f with
    | next => exact q
    | cont => exact q
    | brk =>
      obtain ⟨_, _, _, q⟩ := q
      exact q.elim
    | ret u => exact q) hd hf
/-- while: the mirror's fuel falls -/
theorem s_while {k0 : Nat} {step : τ → Res (ρ' ⊕ τ)} {kn : ρ' → Res ρ} {a0 : τ} {fuel : Nat} (C : Cok X k0) (S0 : Stt E own B H)
    (F : Fin P Er ((whileR step fuel a0).bind kn))
    (Inv : τ → L2.St → Own → Hp → Prop) (h0 : Inv a0 σ own B)
    (hs : ∀ a σ' own' B' H' (Q : τ → Prop), Inv a σ' own' B' → Stt E own' B' H' → Ex B B' → Fin (sel (fun u => Fin P Er (kn u)) Q) Er (step a) →
      ∃ z, EvT X E own' B' H' σ' c z ∧ (z = true → ∀ B2 H2, Stt E own' B2 H2 → Ex B' B2 → WSs X body { nx := TurnE E B' Q Inv, rt := D.rt, bk := WSs X rest D, ct := TurnE E B' Q Inv } σ' H2) ∧
        (z = false → ∀ B2 H2, Stt E own' B2 H2 → Ex B' B2 → WSs X rest D σ' H2)) : WSs X (.While c body [] pos :: rest) D σ H :=
  WSs.cons (ps_while C.own ptW pssW) ⟨fun mm σ' H' => ∃ a own' B', Fin P Er ((whileR step mm a).bind kn) ∧ Stt E own' B' H' ∧ Ex B B' ∧ Inv a σ' own' B', ⟨fuel, a0, own, B, F, S0, Ex.refl _, h0⟩, fun mm σ' H' ⟨a, own', B', F', S', e', iv⟩ => by
    cases mm with
    | zero => exact F'.elim
    | succ mm =>
      have F2 : Fin (sel (fun u => Fin P Er (kn u)) (fun a' => Fin P Er ((whileR step mm a').bind kn))) Er (step a) := by
        unfold whileR at F'
        cases hm : step a with
        | ok o =>
          rw [hm] at F'
          cases o with
          | inl u => exact F'
          | inr a' => exact F'
        | err e =>
          rw [hm] at F'
          exact F'
        | stuck =>
          rw [hm] at F'
          exact F'
      obtain ⟨z, hz, h1, h2⟩ := hs a σ' own' B' H' _ iv S' e' F2
      refine hz B' H' S' (Ex.refl _) (Ex.refl _) _ fun B2 H2 S2 e3 _ => ?_
      cases z with
      | false => exact h2 rfl B2 H2 S2 e3
      | true =>
        refine ⟨fun σ2 H2 => ∃ a' own2 B2, Fin P Er ((whileR step mm a').bind kn) ∧ Stt E own2 B2 H2 ∧ Ex B B2 ∧ Inv a' σ2 own2 B2, fun σ2 H2 q => ⟨mm, Nat.lt_succ_self _, q⟩, ?_⟩
        have done := h1 rfl B2 H2 S2 e3
        intro pins s I
        refine wpAny_mono (done pins s I) (fun f s' q => ?_) fun _ _ q => q
        cases f with
        | next =>
          obtain ⟨σ2, H2', I2, a', own2, B3, q1, q2, q3, q4⟩ := q
          exact ⟨σ2, H2', I2, a', own2, B3, q1, q2, e'.trans q3, q4⟩
        | cont =>
          obtain ⟨σ2, H2', I2, a', own2, B3, q1, q2, q3, q4⟩ := q
          exact ⟨σ2, H2', I2, a', own2, B3, q1, q2, e'.trans q3, q4⟩
        | brk => exact q
        | ret u => exact q⟩
end
end Sg

namespace Sg
open PySem PySem.Spec PyProof.Rows L2

/-! ### names -/
structure Scp (X : Cx) (N : List Str) (sc : Scope) : Prop where
  n : X.N = N
  sc : X.env.scope = sc
def nmOk (sc : Scope) (t : List (Str × NameKind)) : Bool := t.all fun p => decide (sc.names.lookup p.1 = some p.2) && !(p.1 == ("__debug__" : Str)) && !(p.1 == ("__classdict__" : Str))
section
variable {X : Cx} {N : List Str} {sc : Scope} {t : List (Str × NameKind)} {x : Str} {pos : Pos} {kd : NameKind}
theorem nmOk.at (h : nmOk sc t = true) {j : Nat} (hj : t[j]? = some (x, kd)) : sc.names.lookup x = some kd ∧ (x == ("__debug__" : Str)) = false ∧ (x == ("__classdict__" : Str)) = false := by
  have q := List.all_eq_true.mp h _ (List.mem_of_getElem? hj)
  rw [Bool.and_eq_true, Bool.and_eq_true] at q
  obtain ⟨⟨q1, q2⟩, q3⟩ := q
  exact ⟨of_decide_eq_true q1, by simpa using q2, by simpa using q3⟩
theorem Scp.var (V : Scp X N sc) (h : nmOk sc t = true) (i j : Nat) (hi : N[i]? = some x := by rfl) (hj : t[j]? = some (x, kd) := by rfl) (hk : kd = .local ∨ kd = .cell ∨ kd = .free := by first | exact .inl rfl | exact .inr (.inl rfl) | exact .inr (.inr rfl)) : PE X (.Name x pos) (tVar i) := by
  obtain ⟨q1, q2, q3⟩ := nmOk.at h hj
  refine pe_var (by rw [V.n]; exact hi) ?_ q2 q3
  unfold Vis
  rw [V.sc, q1]
  rcases hk with rfl | rfl | rfl
  · exact .inl rfl
  · exact .inr (.inl rfl)
  · exact .inr (.inr rfl)
theorem Scp.gl (V : Scp X N sc) (h : nmOk sc t = true) (j : Nat) (hj : t[j]? = some (x, .globalImplicit) := by rfl) : Gl X x := by
  obtain ⟨q1, _⟩ := nmOk.at h hj
  show X.env.scope.names.lookup x = _
  rw [V.sc, q1]
theorem Scp.slot (V : Scp X N sc) (h : nmOk sc t = true) (fn : ∀ x, X.fn x = true) (i j : Nat) (hi : N[i]? = some x := by rfl) (hj : t[j]? = some (x, kd) := by rfl) (hk : kd = .local ∨ kd = .cell := by first | exact .inl rfl | exact .inr rfl) : Slot X i x := by
  obtain ⟨q1, _⟩ := nmOk.at h hj
  refine ⟨by rw [V.n]; exact hi, ?_, .inl (fn x)⟩
  unfold L2.Loc
  rw [V.sc, q1]
  rcases hk with rfl | rfl
  · exact .inl rfl
  · exact .inr rfl
end

/-! ### arguments -/
structure AR where
  r : List V → Hp → Hp → Prop
  mono : ∀ {B B' H H' : Hp} {vs : List V}, Ex B B' → Ex H H' → r vs B H → r vs B' H'
def aN : AR := ⟨fun vs _ _ => vs = [], fun _ _ h => h⟩
def aC {α : Type} (R : Rel α) (x : α) (A : AR) : AR := ⟨fun vs B H => ∃ v r, vs = v :: r ∧ R.r H v x ∧ A.r r B H, fun b e ⟨v, r, h1, h2, h3⟩ => ⟨v, r, h1, R.mono e h2, A.mono b e h3⟩⟩
/-- .. kept for good -/
def aK {α : Type} (R : Rel α) (x : α) (A : AR) : AR := ⟨fun vs B H => ∃ v r, vs = v :: r ∧ R.r B v x ∧ A.r r B H, fun b e ⟨v, r, h1, h2, h3⟩ => ⟨v, r, h1, R.mono b h2, A.mono b e h3⟩⟩
def EvAs (X : Cx) (E : Ent) (own : Own) (B H : Hp) (σ : L2.St) (es : List Expr) (A : AR) : Prop := ∀ B1 H1, Stt E own B1 H1 → Ex B B1 → Ex H H1 → ∀ Q : List V → Hp → Prop,
  (∀ vs B2 H2, Stt E own B2 H2 → Ex B1 B2 → Ex H1 H2 → A.r vs B2 H2 → Q vs H2) → WA X es σ H1 Q
/-- a def's promise -/
def SpA {δ ρ : Type} (args : δ → AR) (Kd : Kind ρ) (f : δ → Res ρ) : Sp := fun vs H Q _ => ∃ B d, Sx B H ∧ Tx H B ∧ (args d).r vs B H ∧ Fin (Kd ⟨B, H⟩ Q) NoErr (f d)
/-- a def of the module that may be called -/
def Cal (X : Cx) (k : Nat) (n : Str) (ps : List Str) (sp : Sp) : Prop := ∃ (f : Addr) (fd : FuncData), FnOk X.prog X.w X.K X.mg X.base CX0 k f fd ps sp ∧ X.mg n = some (.ref f) ∧ PySem.W.keepIn X.K (.ref f) = true ∧ Binds X.K fd ps []
/-- a method -/
def MCal (X : Cx) (k : Nat) (C : Addr) (n : Str) (ps : List Str) (sp : Sp) : Prop := ∃ (f : Addr) (fd : FuncData), FnOk X.prog X.w X.K X.mg X.base CX0 k f fd ps sp ∧ Meth X.K C n f ∧ Binds X.K fd ps []
section
variable {X : Cx} {E : Ent} {own new own' : Own} {B H B' H' : Hp} {σ : L2.St} {α β γ τ ρ δ : Type} {R : Rel α} {S : Rel β} {T : Rel γ} {e a b c o it : Expr} {x : α} {y : β} {p pos pos' apos : Pos} {i j k k0 : Nat} {z w : Bool} {xs : List α} {es : List Expr}
variable {n m : Str} {rest body other : List Stmt} {D : Ends} {P : ρ → Prop} {Er : Err → Prop} {ps : List Str} {A : AR}
theorem as_nil : EvAs X E own B H σ [] aN := fun B1 H1 S1 e1 e2 Q k => WA.of pa_nil (k [] B1 H1 S1 (Ex.refl _) (Ex.refl _) rfl)
theorem as_cons (he : EvB X E own B H σ e R x) (hr : EvAs X E own B H σ es A) (hs : starEach (e :: es) X.env = (false, eval e X.env) :: starEach es X.env := by rfl) : EvAs X E own B H σ (e :: es) (aC R x A) := fun B1 H1 S1 e1 e2 Q k =>
  WA.of (pa_cons peW paW hs) (he B1 H1 S1 e1 e2 _ fun v B2 H2 S2 e3 e4 r => hr B2 H2 S2 (e1.trans e3) (e2.trans e4) _ fun vs B3 H3 S3 e5 e6 q => k (v :: vs) B3 H3 S3 (e3.trans e5) (e4.trans e6) ⟨v, vs, rfl, R.mono e6 r, q⟩)
theorem ak_cons (he : EvE X E own B H σ e R x) (hr : EvAs X E own B H σ es A) (hs : starEach (e :: es) X.env = (false, eval e X.env) :: starEach es X.env := by rfl) : EvAs X E own B H σ (e :: es) (aK R x A) := fun B1 H1 S1 e1 e2 Q k =>
  WA.of (pa_cons peW paW hs) (he B1 H1 S1 e1 e2 _ fun v B2 H2 S2 e3 e4 r => hr B2 H2 S2 (e1.trans e3) (e2.trans e4) _ fun vs B3 H3 S3 e5 e6 q => k (v :: vs) B3 H3 S3 (e3.trans e5) (e4.trans e6) ⟨v, vs, rfl, R.mono e5 r, q⟩)
/-- how a call's end is told to the caller -/
theorem kE_call {f : δ → Res ρ} {RR : Rel ρ} {d : δ} {r : ρ} {Q : VK} (S2 : Stt E own B H) (hm : f d = .ok r) (k : ∀ v B2 H2, Stt E own B2 H2 → Ex B B2 → Ex H H2 → RR.r B2 v r → Q v H2) : Fin (kE RR ⟨B, H⟩ Q) NoErr (f d) :=
  Fin.eq hm fun v B3 H3 T q => k v B3 H3 (S2.call T) T.b0.ex T.h0.ex q
theorem kL_call {f : δ → Res (List ρ)} {RR : Rel ρ} {d : δ} {r : List ρ} {Q : VK} (S2 : Stt E own B H) (hm : f d = .ok r) (k : ∀ p vs B2 H2, Stt E ((p, .lst vs) :: own) B2 H2 → Ex B B2 → Ex H H2 → Paired (RR.r B2) vs r → Q (.ref p) H2) : Fin (kL RR ⟨B, H⟩ Q) NoErr (f d) :=
  Fin.eq hm fun p vs B3 H3 T q => k p vs B3 H3 (S2.call T) T.b0.ex T.h0.ex q
theorem pe_cal {sp : Sp} (C : Cok X k0) (G : Cal X k n ps sp) (hk : k ≤ k0) (hg : Gl X n) (hdb : (n == ("__debug__" : Str)) = false) (he : starEach (e :: es) X.env = (false, eval e X.env) :: starEach es X.env) (hpl : (backTo pos (starEach es X.env)).any (·.1) = false) :
    PE X (.Call (.Name n p) (e :: es) [] pos) (tCall sp [] E0 (WA X (e :: es))) := by
  obtain ⟨f, fd, F, hm, hkp, hb⟩ := G
  exact pe_call F (C.room.mono hk) hg hm hkp hb .nil pass0 paW hdb he hpl
/-- f(a, ..): something kept for good | a new list -/
theorem ee_call {args : δ → AR} {f : δ → Res ρ} {RR : Rel ρ} {d : δ} {r : ρ} (C : Cok X k0) (G : Cal X k n ps (SpA args (kE RR) f)) (hk : k ≤ k0) (hg : Gl X n) (ha : EvAs X E own B H σ (e :: es) (args d)) (hm : f d = .ok r)
    (hdb : (n == ("__debug__" : Str)) = false := by rfl) (he : starEach (e :: es) X.env = (false, eval e X.env) :: starEach es X.env := by rfl) (hpl : (backTo pos (starEach es X.env)).any (·.1) = false := by rfl) : EvE X E own B H σ (.Call (.Name n p) (e :: es) [] pos) RR r := fun B1 H1 S1 e1 e2 Q q =>
  WE.of (pe_cal C G hk hg hdb he hpl) (ha B1 H1 S1 e1 e2 _ fun vs B2 H2 S2 e3 e4 r => by
    rw [List.append_nil]
    exact ⟨B2, d, S2.bh, S2.tu, r, kE_call S2 hm fun v B3 H3 S3 e5 e6 r => q v B3 H3 S3 (e3.trans e5) (e4.trans e6) r⟩)
theorem el_call {args : δ → AR} {f : δ → Res (List ρ)} {RR : Rel ρ} {d : δ} {r : List ρ} (C : Cok X k0) (G : Cal X k n ps (SpA args (kL RR) f)) (hk : k ≤ k0) (hg : Gl X n) (ha : EvAs X E own B H σ (e :: es) (args d)) (hm : f d = .ok r)
    (hdb : (n == ("__debug__" : Str)) = false := by rfl) (he : starEach (e :: es) X.env = (false, eval e X.env) :: starEach es X.env := by rfl) (hpl : (backTo pos (starEach es X.env)).any (·.1) = false := by rfl) : EvL X E own B H σ (.Call (.Name n p) (e :: es) [] pos) RR r := fun B1 H1 S1 e1 e2 Q q =>
  WE.of (pe_cal C G hk hg hdb he hpl) (ha B1 H1 S1 e1 e2 _ fun vs B2 H2 S2 e3 e4 r => by
    rw [List.append_nil]
    exact ⟨B2, d, S2.bh, S2.tu, r, kL_call S2 hm fun p vs B3 H3 S3 e5 e6 r => q p vs B3 H3 S3 (e3.trans e5) (e4.trans e6) r⟩)
/-- an instance of the class at C, without a field of the method's name -/
def InsOf (C : Addr) (m : Str) (R : Rel α) : Prop := ∀ {H : Hp} {v : V} {x : α}, R.r H v x → ∃ a dx fs, v = .ref a ∧ H a = some (.ins C dx fs) ∧ fs.lookup m = none
theorem ee_meth {args : δ → AR} {f : δ → Res ρ} {RR : Rel ρ} {d : δ} {r : ρ} {CA : Addr} {pl : Sem Bool} (C : Cok X k0) (cls : Cls X.K CA) (G : MCal X k CA m ps (SpA args (kE RR) f)) (hk : k ≤ k0) (ho : EvB X E own B H σ o R x) (hi : InsOf CA m R) (ha : EvAs X E own B H σ (e :: es) A) (hA : args d = aC R x A) (hm : f d = .ok r)
    (hst : starEach (e :: es) X.env = (false, eval e X.env) :: starEach es X.env := by rfl) (hpl : (backTo pos (starEach es X.env)).any (·.1) = false := by rfl)
    (ht : eval (.Call (.Attribute o m apos) (e :: es) [] pos) X.env = (do
      let ov ← eval o X.env
      standAt apos.atName
      let (f, first) ← holding [ov] (getMethod ov m pl)
      callWith pos f first (backTo pos (starEach (e :: es) X.env)) (backToKw pos (keywordEach [] X.env))) := by rfl) : EvE X E own B H σ (.Call (.Attribute o m apos) (e :: es) [] pos) RR r := fun B1 H1 S1 e1 e2 Q q => by
  obtain ⟨f, fd, F, hM, hb⟩ := G
  refine WE.of (pe_meth (pl := pl) peW cls hM F (C.room.mono hk) hb .nil pass0 paW hst hpl ht) (ho B1 H1 S1 e1 e2 _ fun v B2 H2 S2 e3 e4 r => ?_)
  obtain ⟨a, dx, fs, h1, h2, h3⟩ := hi r
  refine ⟨a, dx, fs, h1, h2, h3, ha B2 H2 S2 (e1.trans e3) (e2.trans e4) _ fun vs B3 H3 S3 e5 e6 q2 => ?_⟩
  rw [List.append_nil]
  exact ⟨B3, d, S3.bh, S3.tu, by rw [hA]; exact ⟨v, vs, rfl, R.mono e6 r, q2⟩, kE_call S3 hm fun v B4 H4 S4 e7 e8 r => q v B4 H4 S4 ((e3.trans e5).trans e7) ((e4.trans e6).trans e8) r⟩
theorem el_meth0 {args : δ → AR} {f : δ → Res (List ρ)} {RR : Rel ρ} {d : δ} {r : List ρ} {CA : Addr} {pl : Sem Bool} (C : Cok X k0) (cls : Cls X.K CA) (G : MCal X k CA m ps (SpA args (kL RR) f)) (hk : k ≤ k0) (ho : EvB X E own B H σ o R x) (hi : InsOf CA m R) (hA : args d = aC R x aN) (hm : f d = .ok r)
    (ht : eval (.Call (.Attribute o m apos) [] [] pos) X.env = (do
      let ov ← eval o X.env
      standAt apos.atName
      let (f, first) ← holding [ov] (getMethod ov m pl)
      callWith pos f first (backTo pos (starEach [] X.env)) (backToKw pos (keywordEach [] X.env))) := by rfl) : EvL X E own B H σ (.Call (.Attribute o m apos) [] [] pos) RR r := fun B1 H1 S1 e1 e2 Q q => by
  obtain ⟨f, fd, F, hM, hb⟩ := G
  refine WE.of (pe_meth0 (pl := pl) peW cls hM F (C.room.mono hk) hb .nil pass0 ht) (ho B1 H1 S1 e1 e2 _ fun v B2 H2 S2 e3 e4 r => ?_)
  obtain ⟨a, dx, fs, h1, h2, h3⟩ := hi r
  exact ⟨a, dx, fs, h1, h2, h3, B2, d, S2.bh, S2.tu, by rw [hA]; exact ⟨v, [], rfl, r, rfl⟩, kL_call S2 hm fun p vs B4 H4 S4 e7 e8 r => q p vs B4 H4 S4 (e3.trans e7) (e4.trans e8) r⟩
end

/-! ### a def's promise from its body -/
section
variable {P : Program} {w : World} {K : PySem.W.Frag} {mg : Str → Option Value} {base : Heap}
theorem fun_ok {x qual : Str} {st : Stmt} {f : Addr} {fd : FuncData} {N ps : List Str} {k : Nat} {δ ρ : Type} {args : δ → AR} {Kd : Kind ρ} {g : δ → Res ρ} (F : Fun K x qual st f fd) (S : FnScope N ps (defScope st)) (hl : ∀ d vs B H, (args d).r vs B H → vs.length = ps.length)
    (body : ∀ X : Cx, X.prog = P → X.w = w → X.K = K → X.mg = mg → X.base = base → Cok X k → Scp X N (defScope st) → (∀ x, X.fn x = true) → ∀ B H vs d (Q : VK), Sx B H → Tx H B → (args d).r vs B H → Fin (Kd ⟨B, H⟩ Q) NoErr (g d) →
      WSs X (defBody st) { nx := fun _ H' => Q .non H', rt := Q } (start N vs) H) : FnOk P w K mg base CX0 (k + 1) f fd ps (SpA args Kd g) := by
  refine F.ok S (fun vs H Q E h => ?_) (fun cdv A outer s H vs Q E hr h => ?_)
  · obtain ⟨B, d, _, _, h3, _⟩ := h
    exact hl d vs B H h3
  · obtain ⟨B, d, h1, h2, h3, h4⟩ := h
    exact ⟨_, pssW, body ((cxOf CX0 P w K mg base N qual (defScope st) f cdv A outer s H E).nox) rfl rfl rfl rfl rfl ⟨rfl, S.nd, hr, PassesOwn.never⟩ ⟨rfl, rfl⟩ (fun _ => rfl) B H vs d Q h1 h2 h3 h4⟩
end
end Sg

namespace Sg
open PySem PySem.Spec PyProof.Rows L2

/-! ### dicts as lists of pairs -/
section
variable {κ κ' α β : Type} [DecidableEq κ] [DecidableEq κ']
def dget (kvs : List (κ × α)) (k : κ) : Option α := (kvs.find? fun kv => decide (kv.1 = k)).map (·.2)
def dput (kvs : List (κ × α)) (k : κ) (v : α) : List (κ × α) :=
  if (kvs.any fun kv => decide (kv.1 = k)) = true then kvs.map (fun kv => if kv.1 = k then (kv.1, v) else kv) else kvs ++ [(k, v)]
def dmerge (more : List (κ × α)) : List (κ × α) := more.foldl (fun acc kv => dput acc kv.1 kv.2) []
/-- the keys of w are those of k, told otherwise -/
theorem rel_any {f : κ' → κ} (hf : ∀ a b, f a = f b → a = b) {F : V → α → Prop} {k : κ'} : ∀ {ws : List (κ × V)} {kvs : List (κ' × α)}, Paired (fun w kv => w.1 = f kv.1 ∧ F w.2 kv.2) ws kvs → (ws.any fun w => decide (w.1 = f k)) = (kvs.any fun kv => decide (kv.1 = k))
  | _, _, .nil => rfl
  | _, _, .cons (a := w) (b := kv) h t => by
    rw [List.any_cons, List.any_cons, rel_any hf t, h.1]
    congr 1
    rw [Bool.eq_iff_iff, decide_eq_true_iff, decide_eq_true_iff]
    exact ⟨hf _ _, fun e => by rw [e]⟩
theorem rel_get {f : κ' → κ} (hf : ∀ a b, f a = f b → a = b) {F : V → α → Prop} {k : κ'} : ∀ {ws : List (κ × V)} {kvs : List (κ' × α)}, Paired (fun w kv => w.1 = f kv.1 ∧ F w.2 kv.2) ws kvs →
    match dget kvs k with
    | none => valV ws (f k) = none
    | some x => ∃ v, valV ws (f k) = some v ∧ F v x
  | _, _, .nil => rfl
  | _, _, .cons (a := w) (b := kv) h t => by
    have ih := rel_get hf (k := k) t
    by_cases e : kv.1 = k
    · have e2 : w.1 = f k := by rw [h.1, e]
      unfold dget
      rw [List.find?_cons_of_pos (by simp [e])]
      rw [valV_pos e2]
      exact ⟨w.2, rfl, h.2⟩
    · have e2 : ¬ w.1 = f k := fun q => e (hf _ _ (h.1.symm.trans q))
      unfold dget at ih ⊢
      rw [List.find?_cons_of_neg (by simp [e]), valV_neg e2]
      exact ih
theorem rel_map {f : κ' → κ} (hf : ∀ a b, f a = f b → a = b) {F : V → α → Prop} {k : κ'} {u : V} {x : α} (hx : F u x) : ∀ {ws : List (κ × V)} {kvs : List (κ' × α)}, Paired (fun w kv => w.1 = f kv.1 ∧ F w.2 kv.2) ws kvs →
    Paired (fun w kv => w.1 = f kv.1 ∧ F w.2 kv.2) (ws.map fun kv => if kv.1 = f k then (kv.1, u) else kv) (kvs.map fun kv => if kv.1 = k then (kv.1, x) else kv)
  | _, _, .nil => .nil
  | _, _, .cons (a := w) (b := kv) h t => by
    rw [List.map_cons, List.map_cons]
    refine .cons ?_ (rel_map hf hx t)
    by_cases e : kv.1 = k
    · have e2 : w.1 = f k := by rw [h.1, e]
      rw [if_pos e, if_pos e2]
      exact ⟨h.1, hx⟩
    · have e2 : ¬ w.1 = f k := fun q => e (hf _ _ (h.1.symm.trans q))
      rw [if_neg e, if_neg e2]
      exact h
theorem rel_put {f : κ' → κ} (hf : ∀ a b, f a = f b → a = b) {F : V → α → Prop} {k : κ'} {u : V} {x : α} (hx : F u x) {ws : List (κ × V)} {kvs : List (κ' × α)} (h : Paired (fun w kv => w.1 = f kv.1 ∧ F w.2 kv.2) ws kvs) :
    Paired (fun w kv => w.1 = f kv.1 ∧ F w.2 kv.2) (putK ws (f k) u) (dput kvs k x) := by
  unfold putK dput
  rw [rel_any hf h]
  by_cases e : (kvs.any fun kv => decide (kv.1 = k)) = true
  · rw [if_pos e, if_pos e]
    exact rel_map hf hx h
  · rw [if_neg e, if_neg e]
    exact psnoc h ⟨rfl, hx⟩
end
theorem inl_inj (a b : Int) (h : (Sum.inl a : Key) = Sum.inl b) : a = b := Sum.inl.inj h
theorem inr_inj (a b : Str) (h : (Sum.inr a : Key) = Sum.inr b) : a = b := Sum.inr.inj h
theorem inls_inj : ∀ (a b : List Int), a.map (Sum.inl (β := Str)) = b.map Sum.inl → a = b
  | [], [], _ => rfl
  | [], _ :: _, h => by cases h
  | _ :: _, [], h => by cases h
  | x :: r, y :: q, h => by
    rw [List.map_cons, List.map_cons] at h
    injection h with h1 h2
    rw [Sum.inl.inj h1, inls_inj r q h2]
/-- what a dict holds: ints | texts | tuples of ints as keys -/
def pI {α : Type} (R : Rel α) (H : Hp) (ws : List (Key × V)) (kvs : List (Int × α)) : Prop := Paired (fun w kv => w.1 = Sum.inl kv.1 ∧ R.r H w.2 kv.2) ws kvs
def pS {α : Type} (R : Rel α) (H : Hp) (ws : List (Key × V)) (kvs : List (Str × α)) : Prop := Paired (fun w kv => w.1 = Sum.inr kv.1 ∧ R.r H w.2 kv.2) ws kvs
def pT {α : Type} (R : Rel α) (H : Hp) (ws : List (List Key × V)) (kvs : List (List Int × α)) : Prop := Paired (fun w kv => w.1 = kv.1.map Sum.inl ∧ R.r H w.2 kv.2) ws kvs
section
variable {α : Type} {R : Rel α} {H H' : Hp}
theorem pI.up {ws : List (Key × V)} {kvs : List (Int × α)} (e : Ex H H') (h : pI R H ws kvs) : pI R H' ws kvs := pimp h fun _ _ q => ⟨q.1, R.mono e q.2⟩
theorem pS.up {ws : List (Key × V)} {kvs : List (Str × α)} (e : Ex H H') (h : pS R H ws kvs) : pS R H' ws kvs := pimp h fun _ _ q => ⟨q.1, R.mono e q.2⟩
theorem pT.up {ws : List (List Key × V)} {kvs : List (List Int × α)} (e : Ex H H') (h : pT R H ws kvs) : pT R H' ws kvs := pimp h fun _ _ q => ⟨q.1, R.mono e q.2⟩
end
section
variable {α : Type}
def rDI (R : Rel α) : Rel (List (Int × α)) := ⟨fun H v kvs => ∃ p ws, v = .ref p ∧ Rd H p (.dK ws) ∧ pI R H ws kvs, fun e ⟨p, ws, h1, h2, h3⟩ => ⟨p, ws, h1, e.dK h2, h3.up e⟩⟩
def rDS (R : Rel α) : Rel (List (Str × α)) := ⟨fun H v kvs => ∃ p ws, v = .ref p ∧ Rd H p (.dK ws) ∧ pS R H ws kvs, fun e ⟨p, ws, h1, h2, h3⟩ => ⟨p, ws, h1, e.dK h2, h3.up e⟩⟩
def rDT (R : Rel α) : Rel (List (List Int × α)) := ⟨fun H v kvs => ∃ p ws, v = .ref p ∧ Rd H p (.dT ws) ∧ pT R H ws kvs, fun e ⟨p, ws, h1, h2, h3⟩ => ⟨p, ws, h1, e.dT h2, h3.up e⟩⟩
instance {R : Rel α} : NN (rDI R) := ⟨fun h => by obtain ⟨p, vs, h1, _⟩ := h; rw [h1]; exact fun q => by cases q⟩
end
/-- a tuple of ints as a key -/
theorem tup_ints {H : Hp} {v : V} {ns : List Int} (h : (rTup rInt).r H v ns) : ∃ b, v = .ref b ∧ H b = some (.tup ((ns.map (Sum.inl (β := Str))).map kV)) := by
  obtain ⟨p, vs, h1, h2, h3⟩ := h
  refine ⟨p, h1, ?_⟩
  rw [h2, ints_rel h3, List.map_map]
  rfl
section
variable {X : Cx} {E : Ent} {own new own' : Own} {B H B' H' : Hp} {σ : L2.St} {α β γ τ ρ δ : Type} {R : Rel α} {S : Rel β} {T : Rel γ} {e a b c o it d : Expr} {x : α} {y : β} {p pos pos' apos : Pos} {i j k k0 : Nat} {z w : Bool} {xs : List α} {es : List Expr}
variable {n m : Str} {rest body other : List Stmt} {D : Ends} {P : ρ → Prop} {Er : Err → Prop} {ps : List Str} {A : AR}
/-- what is at a key -/
theorem dg_I {kvs : List (Int × α)} {u : Int} {v w : V} (h : (rDI R).r H v kvs) (hw : w = .int u) : ∃ a, v = .ref a ∧ IsD H a ∧ ∃ r, DGet H a w r ∧ (match dget kvs u with
    | none => r = none
    | some x => ∃ q, r = some q ∧ R.r H q x) := by
  obtain ⟨p, ws, h1, h2, h3⟩ := h
  refine ⟨p, h1, .inl ⟨ws, h2⟩, _, .inl ⟨ws, Sum.inl u, h2, hw, rfl⟩, ?_⟩
  exact rel_get (κ := Key) inl_inj h3
theorem dg_S {kvs : List (Str × α)} {u : Str} {v w : V} (h : (rDS R).r H v kvs) (hw : w = .str u) : ∃ a, v = .ref a ∧ IsD H a ∧ ∃ r, DGet H a w r ∧ (match dget kvs u with
    | none => r = none
    | some x => ∃ q, r = some q ∧ R.r H q x) := by
  obtain ⟨p, ws, h1, h2, h3⟩ := h
  refine ⟨p, h1, .inl ⟨ws, h2⟩, _, .inl ⟨ws, Sum.inr u, h2, hw, rfl⟩, ?_⟩
  exact rel_get (κ := Key) inr_inj h3
theorem dg_T {kvs : List (List Int × α)} {u : List Int} {v w : V} (h : (rDT R).r H v kvs) (hw : (rTup rInt).r H w u) : ∃ a, v = .ref a ∧ IsD H a ∧ ∃ r, DGet H a w r ∧ (match dget kvs u with
    | none => r = none
    | some x => ∃ q, r = some q ∧ R.r H q x) := by
  obtain ⟨p, ws, h1, h2, h3⟩ := h
  obtain ⟨b, hb1, hb2⟩ := tup_ints hw
  refine ⟨p, h1, .inr ⟨ws, h2⟩, _, .inr ⟨ws, u.map Sum.inl, b, h2, hb1, hb2, rfl⟩, ?_⟩
  exact rel_get (κ := List Key) (f := fun l : List Int => l.map (Sum.inl (β := Str))) inls_inj h3
/-- a kind of dicts: how it is read -/
structure DK (R : Rel α) (κ : Type) [DecidableEq κ] (RK : Rel κ) (RD : Rel (List (κ × α))) : Prop where
  d : ∀ {H : Hp} {kvs : List (κ × α)} {v : V}, RD.r H v kvs → ∃ a, v = .ref a ∧ IsD H a
  g : ∀ {H : Hp} {kvs : List (κ × α)} {u : κ} {a : Addr} {w : V}, RD.r H (.ref a) kvs → RK.r H w u → ∃ r, DGet H a w r ∧ (match dget kvs u with
    | none => r = none
    | some x => ∃ q, r = some q ∧ R.r H q x)
theorem dkI : DK R Int rInt (rDI R) := ⟨fun h => by
  obtain ⟨p, ws, h1, h2, h3⟩ := h
  exact ⟨p, h1, .inl ⟨ws, h2⟩⟩, fun h hw => by
  obtain ⟨b, e, _, q⟩ := dg_I h hw
  cases e
  exact q⟩
theorem dkS : DK R Str rStr (rDS R) := ⟨fun h => by
  obtain ⟨p, ws, h1, h2, h3⟩ := h
  exact ⟨p, h1, .inl ⟨ws, h2⟩⟩, fun h hw => by
  obtain ⟨b, e, _, q⟩ := dg_S h hw
  cases e
  exact q⟩
theorem dkT : DK R (List Int) (rTup rInt) (rDT R) := ⟨fun h => by
  obtain ⟨p, ws, h1, h2, h3⟩ := h
  exact ⟨p, h1, .inr ⟨ws, h2⟩⟩, fun h hw => by
  obtain ⟨b, e, _, q⟩ := dg_T h hw
  cases e
  exact q⟩
variable {κ : Type} [DecidableEq κ] {RK : Rel κ} {RD : Rel (List (κ × α))} {kvs : List (κ × α)} {u : κ}
theorem Cok.hu (C : Cok X k) : X.A.units + 1 < cLine := hu_of C.room
theorem Cok.hu64 (C : Cok X k) : X.A.units + 64 < cLine := C.room.units
/-- d.get(k) -/
theorem ev_dget1 (C : Cok X k0) (dk : DK R κ RK RD) [NN R] (ho : EvB X E own B H σ o RD kvs) (ha : EvB X E own B H σ a RK u) (m : M1 X o "get" apos a p := by exact ⟨rfl, rfl, rfl, rfl⟩) : EvB X E own B H σ (.Call (.Attribute o "get" apos) [a] [] p) (rOpt R) (dget kvs u) := fun B1 H1 S1 e1 e2 Q q =>
  WE.of (pe_dget1 C.hu peW peW m) (ho B1 H1 S1 e1 e2 _ fun v B2 H2 S2 e3 e4 r => by
    obtain ⟨da, hv, hd⟩ := dk.d r
    subst hv
    refine ⟨da, rfl, hd, ha B2 H2 S2 (e1.trans e3) (e2.trans e4) _ fun w B3 H3 S3 e5 e6 rw' => ?_⟩
    obtain ⟨r3, g1, g2⟩ := dk.g (RD.mono e6 r) rw'
    refine ⟨r3, g1, q _ B3 H3 S3 (e3.trans e5) (e4.trans e6) ?_⟩
    cases hq : dget kvs u with
    | none =>
      rw [hq] at g2
      have g2' : r3 = Option.none := g2
      subst g2'
      exact (show V.non = V.non from rfl)
    | some x =>
      rw [hq] at g2
      obtain ⟨z, g3, g4⟩ := g2
      subst g3
      exact ⟨NN.nn g4, g4⟩)
/-- d.get(k, y) -/
theorem ev_dget2 {x0 : α} (C : Cok X k0) (dk : DK R κ RK RD) (ho : EvB X E own B H σ o RD kvs) (ha : EvB X E own B H σ a RK u) (hb : EvB X E own B H σ b R x0) (m : M2 X o "get" apos a b p := by exact ⟨rfl, rfl, rfl, rfl⟩) : EvB X E own B H σ (.Call (.Attribute o "get" apos) [a, b] [] p) R ((dget kvs u).getD x0) := fun B1 H1 S1 e1 e2 Q q =>
  WE.of (pe_dget2 C.hu peW peW peW m) (ho B1 H1 S1 e1 e2 _ fun v B2 H2 S2 e3 e4 r => by
    obtain ⟨da, hv, hd⟩ := dk.d r
    subst hv
    refine ⟨da, rfl, hd, ha B2 H2 S2 (e1.trans e3) (e2.trans e4) _ fun w B3 H3 S3 e5 e6 rw' => hb B3 H3 S3 ((e1.trans e3).trans e5) ((e2.trans e4).trans e6) _ fun w2 B4 H4 S4 e7 e8 r0 => ?_⟩
    obtain ⟨r3, g1, g2⟩ := dk.g (RD.mono (e6.trans e8) r) (RK.mono e8 rw')
    refine ⟨r3, g1, q _ B4 H4 S4 ((e3.trans e5).trans e7) ((e4.trans e6).trans e8) ?_⟩
    cases hq : dget kvs u with
    | none =>
      rw [hq] at g2
      have g2' : r3 = Option.none := g2
      subst g2'
      exact r0
    | some x =>
      rw [hq] at g2
      obtain ⟨z, g3, g4⟩ := g2
      subst g3
      exact g4)
/-- d[k] -/
theorem ev_dix (C : Cok X k0) (dk : DK R κ RK RD) (ho : EvB X E own B H σ o RD kvs) (ha : EvB X E own B H σ a RK u) (hx : dget kvs u = some x) (hs : NoSl a := by exact fun _ _ => rfl) : EvB X E own B H σ (.Subscript o a p) R x := fun B1 H1 S1 e1 e2 Q q =>
  WE.of (pe_dget C.hu peW peW hs) (ho B1 H1 S1 e1 e2 _ fun v B2 H2 S2 e3 e4 r => ha B2 H2 S2 (e1.trans e3) (e2.trans e4) _ fun w B3 H3 S3 e5 e6 rw' => by
    obtain ⟨da, hv, hd⟩ := dk.d r
    subst hv
    obtain ⟨r3, g1, g2⟩ := dk.g (RD.mono e6 r) rw'
    rw [hx] at g2
    obtain ⟨z, g3, g4⟩ := g2
    subst g3
    exact ⟨da, z, rfl, g1, q z B3 H3 S3 (e3.trans e5) (e4.trans e6) g4⟩)
/-- k in d -/
theorem dg_some {r : Option V} (h : match dget kvs u with
    | none => r = none
    | some x => ∃ q, r = some q ∧ R.r H q x) : r.isSome = (dget kvs u).isSome := by
  cases hq : dget kvs u with
  | none =>
    rw [hq] at h
    have h' : r = Option.none := h
    rw [h'] <;> rfl
  | some x =>
    rw [hq] at h
    obtain ⟨z, g3, g4⟩ := h
    rw [g3] <;> rfl
theorem et_din (C : Cok X k0) (dk : DK R κ RK RD) (ha : EvB X E own B H σ a RK u) (ho : EvB X E own B H σ o RD kvs) (hm : behindInMarks .In o = false := by rfl) : EvT X E own B H σ (.Compare a [.In] [o] p) (dget kvs u).isSome := fun B1 H1 S1 e1 e2 Q q =>
  WT.of (pt_cmp (pc_din C.hu peW peW) hm) (ha B1 H1 S1 e1 e2 _ fun w B2 H2 S2 e3 e4 rw' => ho B2 H2 S2 (e1.trans e3) (e2.trans e4) _ fun v B3 H3 S3 e5 e6 r => by
    obtain ⟨da, hv, hd⟩ := dk.d r
    subst hv
    obtain ⟨r3, g1, g2⟩ := dk.g r (RK.mono e6 rw')
    exact ⟨da, r3, rfl, g1, _, rfl, by rw [dg_some g2]; exact q B3 H3 S3 (e3.trans e5) (e4.trans e6)⟩)
theorem et_dnin (C : Cok X k0) (dk : DK R κ RK RD) (ha : EvB X E own B H σ a RK u) (ho : EvB X E own B H σ o RD kvs) (hm : behindInMarks .NotIn o = false := by rfl) : EvT X E own B H σ (.Compare a [.NotIn] [o] p) (!(dget kvs u).isSome) := fun B1 H1 S1 e1 e2 Q q =>
  WT.of (pt_cmp (pc_dnotin C.hu peW peW) hm) (ha B1 H1 S1 e1 e2 _ fun w B2 H2 S2 e3 e4 rw' => ho B2 H2 S2 (e1.trans e3) (e2.trans e4) _ fun v B3 H3 S3 e5 e6 r => by
    obtain ⟨da, hv, hd⟩ := dk.d r
    subst hv
    obtain ⟨r3, g1, g2⟩ := dk.g r (RK.mono e6 rw')
    exact ⟨da, r3, rfl, g1, _, rfl, by rw [dg_some g2]; exact q B3 H3 S3 (e3.trans e5) (e4.trans e6)⟩)
theorem ev_din (C : Cok X k0) (dk : DK R κ RK RD) (ha : EvB X E own B H σ a RK u) (ho : EvB X E own B H σ o RD kvs) (hm : behindInMarks .In o = false := by rfl) : EvB X E own B H σ (.Compare a [.In] [o] p) rBool (dget kvs u).isSome := fun B1 H1 S1 e1 e2 Q q =>
  WE.of (pe_cmp (pc_din C.hu peW peW) hm) (ha B1 H1 S1 e1 e2 _ fun w B2 H2 S2 e3 e4 rw' => ho B2 H2 S2 (e1.trans e3) (e2.trans e4) _ fun v B3 H3 S3 e5 e6 r => by
    obtain ⟨da, hv, hd⟩ := dk.d r
    subst hv
    obtain ⟨r3, g1, g2⟩ := dk.g r (RK.mono e6 rw')
    exact ⟨da, r3, rfl, g1, q _ B3 H3 S3 (e3.trans e5) (e4.trans e6) (by rw [dg_some g2]; rfl)⟩)
theorem ev_dnin (C : Cok X k0) (dk : DK R κ RK RD) (ha : EvB X E own B H σ a RK u) (ho : EvB X E own B H σ o RD kvs) (hm : behindInMarks .NotIn o = false := by rfl) : EvB X E own B H σ (.Compare a [.NotIn] [o] p) rBool (!(dget kvs u).isSome) := fun B1 H1 S1 e1 e2 Q q =>
  WE.of (pe_cmp (pc_dnotin C.hu peW peW) hm) (ha B1 H1 S1 e1 e2 _ fun w B2 H2 S2 e3 e4 rw' => ho B2 H2 S2 (e1.trans e3) (e2.trans e4) _ fun v B3 H3 S3 e5 e6 r => by
    obtain ⟨da, hv, hd⟩ := dk.d r
    subst hv
    obtain ⟨r3, g1, g2⟩ := dk.g r (RK.mono e6 rw')
    exact ⟨da, r3, rfl, g1, q _ B3 H3 S3 (e3.trans e5) (e4.trans e6) (by rw [dg_some g2]; rfl)⟩)
/-! owned dicts -/
theorem ev_ownDI {q : Addr} {ws : List (Key × V)} {kvs : List (Int × α)} (hp : PE X e (tVar i)) (h : σ[i]? = some (some (.ref q))) (ho : (q, HO.dK ws) ∈ own) (r : pI R B ws kvs) : EvB X E own B H σ e (rDI R) kvs :=
  fun B1 H1 S e1 e2 Q k => WE.of hp ⟨.ref q, h, k _ B1 H1 S (Ex.refl _) (Ex.refl _) ⟨q, ws, rfl, Rd.of (S.ow _ ho).2.2, r.up (e1.trans S.bh.ex)⟩⟩
theorem ev_ownDT {q : Addr} {ws : List (List Key × V)} {kvs : List (List Int × α)} (hp : PE X e (tVar i)) (h : σ[i]? = some (some (.ref q))) (ho : (q, HO.dT ws) ∈ own) (r : pT R B ws kvs) : EvB X E own B H σ e (rDT R) kvs :=
  fun B1 H1 S e1 e2 Q k => WE.of hp ⟨.ref q, h, k _ B1 H1 S (Ex.refl _) (Ex.refl _) ⟨q, ws, rfl, Rd.of (S.ow _ ho).2.2, r.up (e1.trans S.bh.ex)⟩⟩
theorem ev_ownDS {q : Addr} {ws : List (Key × V)} {kvs : List (Str × α)} (hp : PE X e (tVar i)) (h : σ[i]? = some (some (.ref q))) (ho : (q, HO.dK ws) ∈ own) (r : pS R B ws kvs) : EvB X E own B H σ e (rDS R) kvs :=
  fun B1 H1 S e1 e2 Q k => WE.of hp ⟨.ref q, h, k _ B1 H1 S (Ex.refl _) (Ex.refl _) ⟨q, ws, rfl, Rd.of (S.ow _ ho).2.2, r.up (e1.trans S.bh.ex)⟩⟩
/-- x = {} -/
theorem s_asgDK (C : Cok X k) (L : Slot X i n) (S0 : Stt E own B H)
    (q : ∀ p H', Stt E ((p, .dK []) :: own) B H' → WSs X rest D (σ.set i (some (.ref p))) H') (hs : swapsWith (.Dict [] [] p) (some (.Name n pos')) pos.line X.env = pure false := by rfl) :
    WSs X (.Assign [.Name n pos'] (.Dict [] [] p) pos :: rest) D σ H :=
  WSs.cons (ps_set C.nd L.ix L.loc pe_dnewK hs L.hf) fun p np => q p _ (S0.alloc np fun ys z => by cases z)
theorem s_asgDT (C : Cok X k) (L : Slot X i n) (S0 : Stt E own B H)
    (q : ∀ p H', Stt E ((p, .dT []) :: own) B H' → WSs X rest D (σ.set i (some (.ref p))) H') (hs : swapsWith (.Dict [] [] p) (some (.Name n pos')) pos.line X.env = pure false := by rfl) :
    WSs X (.Assign [.Name n pos'] (.Dict [] [] p) pos :: rest) D σ H :=
  WSs.cons (ps_set C.nd L.ix L.loc pe_dnewT hs L.hf) fun p np => q p _ (S0.alloc np fun ys z => by cases z)
/-- d[k] = v -/
theorem s_dputI {q : Addr} {ws : List (Key × V)} {kvs : List (Int × α)} {u : Int} (C : Cok X k0) (S0 : Stt E own B H) (ho : PE X o (tVar i)) (h : σ[i]? = some (some (.ref q))) (hk : own[k]? = some (q, .dK ws)) (r : pI R B ws kvs)
    (hv : EvE X E own B H σ e R x) (ha : EvB X E own B H σ a rInt u) (hz : kvs.length < sizeLine)
    (kt : ∀ ws' B' H', Stt E (own.set k (q, .dK ws')) B' H' → Ex B B' → pI R B' ws' (dput kvs u x) → WSs X rest D σ H')
    (hs : NoSl a := by exact fun _ _ => rfl) (hw : swapsWith e (some (.Subscript o a pos')) pos.line X.env = pure false := by rfl) : WSs X (.Assign [.Subscript o a pos'] e pos :: rest) D σ H :=
  WSs.cons (ps_dput C.hu ho peW peW hw) (hv B H S0 (Ex.refl _) (Ex.refl _) _ fun v B2 H2 S2 e1 e2 rv => ⟨.ref q, h, ha B2 H2 S2 e1 e2 _ fun w B3 H3 S3 e3 e4 rw' => by
    have hq := (S3.ow _ (List.mem_of_getElem? hk)).2.2
    have rw'' : w = .int u := rw'
    refine ⟨q, _, rfl, .inl ⟨ws, Sum.inl u, hq, rw'', by rw [plen r]; exact hz, rfl⟩, ?_⟩
    exact kt _ B3 _ (S3.put hk fun ys z => by cases z) (e1.trans e3) (rel_put (κ := Key) inl_inj (R.mono e3 rv) (r.up (e1.trans e3)))⟩)
theorem s_dputT {q : Addr} {ws : List (List Key × V)} {kvs : List (List Int × α)} {u : List Int} (C : Cok X k0) (S0 : Stt E own B H) (ho : PE X o (tVar i)) (h : σ[i]? = some (some (.ref q))) (hk : own[k]? = some (q, .dT ws)) (r : pT R B ws kvs)
    (hv : EvE X E own B H σ e R x) (ha : EvB X E own B H σ a (rTup rInt) u) (hz : kvs.length < sizeLine)
    (kt : ∀ ws' B' H', Stt E (own.set k (q, .dT ws')) B' H' → Ex B B' → pT R B' ws' (dput kvs u x) → WSs X rest D σ H')
    (hs : NoSl a := by exact fun _ _ => rfl) (hw : swapsWith e (some (.Subscript o a pos')) pos.line X.env = pure false := by rfl) : WSs X (.Assign [.Subscript o a pos'] e pos :: rest) D σ H :=
  WSs.cons (ps_dput C.hu ho peW peW hw) (hv B H S0 (Ex.refl _) (Ex.refl _) _ fun v B2 H2 S2 e1 e2 rv => ⟨.ref q, h, ha B2 H2 S2 e1 e2 _ fun w B3 H3 S3 e3 e4 rw' => by
    have hq := (S3.ow _ (List.mem_of_getElem? hk)).2.2
    obtain ⟨b, hb1, hb2⟩ := tup_ints rw'
    refine ⟨q, _, rfl, .inr ⟨ws, u.map Sum.inl, b, hq, hb1, hb2, by rw [plen r]; exact hz, rfl⟩, ?_⟩
    exact kt _ B3 _ (S3.put hk fun ys z => by cases z) (e1.trans e3) (rel_put (κ := List Key) (f := fun l : List Int => l.map (Sum.inl (β := Str))) inls_inj (R.mono e3 rv) (r.up (e1.trans e3)))⟩)
end
end Sg

namespace Sg
open PySem PySem.Spec PyProof.Rows L2
/-- a field of an instance -/
structure FldOf (C : Addr) (f : Str) {α β : Type} (R : Rel α) (S : Rel β) (pr : α → β) : Prop where
  g : ∀ {H : Hp} {v : V} {x : α}, R.r H v x → ∃ a dx fs u, v = .ref a ∧ H a = some (.ins C dx fs) ∧ fs.lookup f = some u ∧ S.r H u (pr x)
section
variable {X : Cx} {E : Ent} {own new own' : Own} {B H B' H' : Hp} {σ : L2.St} {α β γ τ ρ δ : Type} {R : Rel α} {S : Rel β} {T : Rel γ} {e a b c o it d : Expr} {x : α} {y : β} {p pos pos' apos : Pos} {i j k k0 : Nat} {z w : Bool} {xs : List α} {es : List Expr}
variable {n m f : Str} {rest body other : List Stmt} {D : Ends} {P : ρ → Prop} {Er : Err → Prop} {ps : List Str} {A : AR} {CA : Addr} {pr : α → β}
theorem ev_fld (cls : Cls X.K CA) (na : NoAttr X.K CA f) (F : FldOf CA f R S pr) (ho : EvB X E own B H σ o R x) (hb : attributeBase o f X.env (eval o X.env) = eval o X.env := by rfl) : EvB X E own B H σ (.Attribute o f pos) S (pr x) := fun B1 H1 S1 e1 e2 Q q =>
  WE.of (pe_fld peW hb) (ho B1 H1 S1 e1 e2 _ fun v B2 H2 S2 e3 e4 r => by
    obtain ⟨a, dx, fs, u, h1, h2, h3, h4⟩ := F.g r
    exact ⟨a, CA, dx, fs, u, h1, h2, cls, na, h3, q u B2 H2 S2 e3 e4 h4⟩)
end
/-! ### a table -/
structure Tab where
  ranks : List (Int × Int)
  parts : List (Int × List Int)
  closed : List Int
  wholes : List (List Int × Int)
  deriving DecidableEq
def tabF (d1 d2 d3 d4 : V) : List (Str × V) := [("ranks", d1), ("parts", d2), ("closed", d3), ("wholes", d4)]
def rTab (C : Addr) : Rel Tab := ⟨fun H v t => ∃ a dx d1 d2 d3 d4, v = .ref a ∧ H a = some (.ins C dx (tabF d1 d2 d3 d4)) ∧ (rDI rInt).r H d1 t.ranks ∧ (rDI (rTup rInt)).r H d2 t.parts ∧ (rLst rInt).r H d3 t.closed ∧ (rDT rInt).r H d4 t.wholes,
  fun e ⟨a, dx, d1, d2, d3, d4, h1, h2, h3, h4, h5, h6⟩ => ⟨a, dx, d1, d2, d3, d4, h1, e.ins h2, Rel.mono _ e h3, Rel.mono _ e h4, Rel.mono _ e h5, Rel.mono _ e h6⟩⟩
theorem tabF_no {m : Str} (h : [("ranks" : Str), "parts", "closed", "wholes"].all (fun x => !(m == x)) = true) (d1 d2 d3 d4 : V) : (tabF d1 d2 d3 d4).lookup m = none := by
  simp only [List.all_cons, List.all_nil, Bool.and_eq_true, Bool.not_eq_true', Bool.and_true] at h
  obtain ⟨h1, h2, h3, h4⟩ := h
  unfold tabF
  rw [List.lookup_cons, h1, List.lookup_cons, h2, List.lookup_cons, h3, List.lookup_cons, h4]
  rfl
theorem insTab {C : Addr} {m : Str} (h : [("ranks" : Str), "parts", "closed", "wholes"].all (fun x => !(m == x)) = true) : InsOf C m (rTab C) := fun r => by
  obtain ⟨a, dx, d1, d2, d3, d4, h1, h2, _⟩ := r
  exact ⟨a, dx, _, h1, h2, tabF_no h _ _ _ _⟩
theorem fldRanks {C : Addr} : FldOf C "ranks" (rTab C) (rDI rInt) Tab.ranks := ⟨fun r => by
  obtain ⟨a, dx, d1, d2, d3, d4, h1, h2, h3, h4, h5, h6⟩ := r
  exact ⟨a, dx, _, d1, h1, h2, rfl, h3⟩⟩
theorem fldParts {C : Addr} : FldOf C "parts" (rTab C) (rDI (rTup rInt)) Tab.parts := ⟨fun r => by
  obtain ⟨a, dx, d1, d2, d3, d4, h1, h2, h3, h4, h5, h6⟩ := r
  exact ⟨a, dx, _, d2, h1, h2, rfl, h4⟩⟩
theorem fldClosed {C : Addr} : FldOf C "closed" (rTab C) (rLst rInt) Tab.closed := ⟨fun r => by
  obtain ⟨a, dx, d1, d2, d3, d4, h1, h2, h3, h4, h5, h6⟩ := r
  exact ⟨a, dx, _, d3, h1, h2, rfl, h5⟩⟩
theorem fldWholes {C : Addr} : FldOf C "wholes" (rTab C) (rDT rInt) Tab.wholes := ⟨fun r => by
  obtain ⟨a, dx, d1, d2, d3, d4, h1, h2, h3, h4, h5, h6⟩ := r
  exact ⟨a, dx, _, d4, h1, h2, rfl, h6⟩⟩
end Sg

namespace Sg
open PySem PySem.Spec PyProof.Rows L2

/-- a comprehension's block -/
def Blk (X : Cx) (scope : Scope) (Xb : Cx) : Prop := ∃ s H C cl fp, Xb = X.blk s H scope (compEnvC scope cl C X.env) fp
/-- kept: condition, element, one by one -/
def mfM {α β : Type} (c : α → Res Bool) (f : α → Res β) : List α → Res (List β)
  | [] => .ok []
  | x :: r => (c x).bind fun b => if b = true then (f x).bind fun y => (mfM c f r).bind fun ys => .ok (y :: ys) else mfM c f r
theorem mfM_cons {α β : Type} {c : α → Res Bool} {f : α → Res β} {x : α} {r : List α} {ys : List β} (h : mfM c f (x :: r) = .ok ys) : ∃ b, c x = .ok b ∧ (b = true → ∃ y zs, f x = .ok y ∧ mfM c f r = .ok zs ∧ ys = y :: zs) ∧ (b = false → mfM c f r = .ok ys) := by
  unfold mfM at h
  obtain ⟨b, hb, h⟩ := Res.bind_ok h
  refine ⟨b, hb, fun e => ?_, fun e => ?_⟩
  · rw [if_pos e] at h
    obtain ⟨y, hy, h⟩ := Res.bind_ok h
    obtain ⟨zs, hz, h⟩ := Res.bind_ok h
    exact ⟨y, zs, hy, hz, (Res.ok_inj h).symm⟩
  · rw [if_neg (by rw [e]; exact Bool.false_ne_true)] at h
    exact h
section
variable {X Xb : Cx} {E : Ent} {own new own' : Own} {B H B' H' : Hp} {σ : L2.St} {α β γ τ ρ δ : Type} {R : Rel α} {S : Rel β} {T : Rel γ} {e a b c o it d elt tg : Expr} {x : α} {y : β} {p pos pos' apos : Pos} {i j k k0 : Nat} {z w : Bool} {xs : List α} {ys : List β} {es : List Expr}
variable {n m f : Str} {rest body other : List Stmt} {D : Ends} {P : ρ → Prop} {Er : Err → Prop} {ps : List Str} {A : AR} {CA : Addr} {scope sc : Scope} {N : List Str}
theorem Blk.cok (h : Blk X scope Xb) (C : Cok X k) : Cok Xb k := by
  obtain ⟨s, H, Cc, cl, fp, rfl⟩ := h
  exact ⟨C.calm, C.nd, C.room, PassesOwn.never⟩
theorem Blk.scp (h : Blk X scope Xb) (V : Scp X N sc) : Scp Xb N (relS scope sc) := by
  obtain ⟨s, H, Cc, cl, fp, rfl⟩ := h
  refine ⟨V.n, ?_⟩
  show relS scope X.env.scope = _
  rw [V.sc]
theorem Blk.cal {sp : Sp} (h : Blk X scope Xb) (G : Cal X k n ps sp) : Cal Xb k n ps sp := by
  obtain ⟨s, H, Cc, cl, fp, rfl⟩ := h
  exact G
theorem Blk.mcal {sp : Sp} (h : Blk X scope Xb) (G : MCal X k CA n ps sp) : MCal Xb k CA n ps sp := by
  obtain ⟨s, H, Cc, cl, fp, rfl⟩ := h
  exact G
theorem Blk.mg (h : Blk X scope Xb) : Xb.mg = X.mg := by
  obtain ⟨s, H, Cc, cl, fp, rfl⟩ := h
  rfl
theorem Blk.K (h : Blk X scope Xb) : Xb.K = X.K := by
  obtain ⟨s, H, Cc, cl, fp, rfl⟩ := h
  rfl
/-- a slot of the block's own name -/
theorem Blk.slot {t : List (Str × NameKind)} (h : Blk X scope Xb) (V : Scp X N sc) (ht : nmOk (relS scope sc) t = true) (i j : Nat) (hi : N[i]? = some n := by rfl) (hj : t[j]? = some (n, .local) := by rfl) : Slot Xb i n := by
  have V2 := h.scp V
  obtain ⟨q1, _⟩ := nmOk.at ht hj
  have e : Xb.env.scope.names.lookup n = some .local := by rw [V2.sc, q1]
  exact ⟨by rw [V2.n]; exact hi, .inl e, .inr e⟩
/-- a block's truth of its test -/
def EvTs (X : Cx) (E : Ent) (own : Own) (B H : Hp) (σ : L2.St) (ifs : List Expr) (b : Bool) : Prop := ∃ tt : TT, PTs X ifs tt ∧ ∀ B1 H1, Stt E own B1 H1 → Ex B B1 → Ex H H1 → ∀ Q : Bool → Hp → Prop,
  (∀ B2 H2, Stt E own B2 H2 → Ex B1 B2 → Ex H1 H2 → Q b H2) → tt σ H1 Q
theorem ets_nil : EvTs X E own B H σ [] true := ⟨tYes, pts_nil, fun B1 H1 S1 e1 e2 Q k => k B1 H1 S1 (Ex.refl _) (Ex.refl _)⟩
theorem ets_one (h : EvT X E own B H σ c z) : EvTs X E own B H σ [c] z := ⟨WT X c, pts_one ptW, h⟩
def WG (X : Cx) (tg : Expr) : TG := fun v σ H Q => ∀ (pins : List (Addr × Obj)) (s : Shared) (u : Value), Inv X pins σ H s → RelV v u → wpAny (model X.prog X.w) X.A (assign tg X.env u) (fun _ s' => ∃ σ' H', Inv X pins σ' H' s' ∧ Q σ' H') X.xe s
def WTs (X : Cx) (ifs : List Expr) : TT := fun σ H Q => ∀ (pins : List (Addr × Obj)) (s : Shared), Inv X pins σ H s →
    wpAny (model X.prog X.w) X.A (forIn ifs true fun c r => if r = true then do let ok ← isTrue c X.env (eval c X.env); pure (ForInStep.yield ok) else pure (ForInStep.yield r)) (TP X pins σ Q) X.xe s
/-- the readings of a block's parts, whatever block it is -/
def gB (X : Cx) (scope : Scope) (tg : Expr) : TG := fun v σ H Q => ∀ Xb, Blk X scope Xb → WG Xb tg v σ H Q
def ttB (X : Cx) (scope : Scope) (ifs : List Expr) : TT := fun σ H Q => ∀ Xb, Blk X scope Xb → WTs Xb ifs σ H Q
def teB (X : Cx) (scope : Scope) (e : Expr) : TE := fun σ H Q => ∀ Xb, Blk X scope Xb → WE Xb e σ H Q
/-- [elt for tg in it if ..] -/
theorem lc_read {Tg : α → Hp → L2.St → L2.St → Prop} {Ko : Own → Prop} {cm : α → Res Bool} {fm : α → Res β} {ifs : List Expr} {vs : List Nat} {Q : VK} {J : It} {B2 H2 : Hp} (S2 : Stt E own B2 H2) (W : Walk E Ko B2 J R xs) (hz : xs.length ≤ sizeLine)
    (hK : ∀ D acc, Ko ((D, .lst acc) :: own)) (ht : ∀ Xb, Blk X scope Xb → TgOk Xb E tg R Tg) (hm : mfM cm fm xs = .ok ys)
    (hc : ∀ Xb x σ2 acc Dd B3 H3 b, Blk X scope Xb → Stt E ((Dd, .lst acc) :: own) B3 H3 → Ex B2 B3 → Tg x B3 (wipe σ vs) σ2 → cm x = .ok b → EvTs Xb E ((Dd, .lst acc) :: own) B3 H3 σ2 ifs b)
    (he : ∀ Xb x y σ2 acc Dd B3 H3, Blk X scope Xb → Stt E ((Dd, .lst acc) :: own) B3 H3 → Ex B2 B3 → Tg x B3 (wipe σ vs) σ2 → cm x = .ok true → fm x = .ok y → EvE Xb E ((Dd, .lst acc) :: own) B3 H3 σ2 elt S y)
    (hwp : ∀ x B3 σ2, Tg x B3 (wipe σ vs) σ2 → wipe σ2 vs = wipe σ vs)
    (hup : ∀ x B3 B4 σ2, Tg x B3 (wipe σ vs) σ2 → Ex B3 B4 → Tg x B4 (wipe σ vs) σ2)
    (kq : ∀ p us B3 H3, Stt E ((p, .lst us) :: own) B3 H3 → Ex B2 B3 → Ex H2 H3 → Paired (S.r B3) us ys → Q (.ref p) H3) :
    ∀ D, H2 D = none → ∃ W : Nat → Nat → Hp → Prop, (∃ m, W 0 m (upd H2 D (.lst []))) ∧ ∀ i m H, W i m H →
      (J.stop i H ∧ Q (.ref D) H) ∨ (J.go i H ∧ ∃ Nx : Hp → Prop, (∀ H', Nx H' → ∃ m', m' < m ∧ W (i + 1) m' H') ∧ ∀ x H', J.yld i H x H' → gB X scope tg x (wipe σ vs) H' fun σ2 H2 => wipe σ2 vs = wipe σ vs ∧ ttB X scope ifs σ2 H2 fun b H3 =>
        if b = true then teB X scope elt σ2 H3 fun y H4 => ∃ acc, H4 D = some (.lst acc) ∧ acc.length < sizeLine ∧ Nx (upd H4 D (.lst (acc ++ [y]))) else Nx H3) := by
  intro Dd hD
  refine ⟨fun i mm H' => mm = xs.length - i ∧ i ≤ xs.length ∧ ∃ acc B' done left, Stt E ((Dd, .lst acc) :: own) B' H' ∧ Ex B2 B' ∧ Ex H2 H' ∧ Paired (S.r B') acc done ∧ mfM cm fm (xs.drop i) = .ok left ∧ done ++ left = ys ∧ acc.length ≤ i,
    ⟨xs.length, by simp, Nat.zero_le _, [], B2, [], ys, S2.alloc hD (fun ys z => by cases z), Ex.refl _, (Sx.new hD).ex, .nil, by rw [List.drop_zero]; exact hm, rfl, Nat.le_refl _⟩, ?_⟩
  rintro i mm H' ⟨rfl, hi, acc, B', done, left, S', e', eh, rp, hmf, hdl, hal⟩
  by_cases hlt : i < xs.length
  · refine .inr ⟨W.go i _ B' H' S' e' (hK _ _) hlt, fun H' => ∃ acc B' done left, Stt E ((Dd, .lst acc) :: own) B' H' ∧ Ex B2 B' ∧ Ex H2 H' ∧ Paired (S.r B') acc done ∧ mfM cm fm (xs.drop (i + 1)) = .ok left ∧ done ++ left = ys ∧ acc.length ≤ i + 1, fun H' q => ⟨xs.length - (i + 1), by omega, rfl, hlt, q⟩, fun v H'' hy => ?_⟩
    have hx : xs[i]? = some xs[i] := List.getElem?_eq_getElem hlt
    obtain ⟨B'', S'', e3, e4, rx⟩ := W.yld i _ B' H' v H'' _ S' e' (hK _ _) hx hy
    rw [List.drop_eq_getElem_cons hlt] at hmf
    obtain ⟨b, hb, h1, h2⟩ := mfM_cons hmf
    intro Xb hX
    obtain ⟨g, pg, hg⟩ := ht Xb hX
    intro pins s u I ru
    refine pg.run pins s _ H'' v u _ I ru (hg _ B'' H'' v _ _ S'' rx _ fun σ2 tgx => ⟨hwp _ _ _ tgx, fun Xc hXc => ?_⟩)
    obtain ⟨tt, pt, htt⟩ := hc Xc _ σ2 acc Dd B'' H'' b hXc S'' (e'.trans e3) tgx hb
    intro pins s I
    refine pt.run pins s σ2 H'' _ I (htt B'' H'' S'' (Ex.refl _) (Ex.refl _) _ fun B4 H4 S4 e5 e6 => ?_)
    cases b with
    | false => exact ⟨acc, B4, done, left, S4, (e'.trans e3).trans e5, (eh.trans e4).trans e6, pimp rp fun _ _ z => S.mono (e3.trans e5) z, h2 rfl, hdl, Nat.le_succ_of_le hal⟩
    | true =>
      obtain ⟨y, zs, hy1, hy2, hy3⟩ := h1 rfl
      intro Xd hXd
      refine he Xd _ y σ2 acc Dd B4 H4 hXd S4 ((e'.trans e3).trans e5) (hup _ _ _ _ tgx e5) hb hy1 B4 H4 S4 (Ex.refl _) (Ex.refl _) _ fun w B5 H5 S5 e7 e8 rw' => ?_
      have hq := (S5.ow _ (List.mem_cons_self ..)).2.2
      refine ⟨acc, hq, Nat.lt_of_le_of_lt hal (Nat.lt_of_lt_of_le hlt hz), acc ++ [w], B5, done ++ [y], zs, S5.write (fun ys z => by cases z), ((e'.trans e3).trans e5).trans e7, ?_, psnoc (pimp rp fun _ _ z => S.mono ((e3.trans e5).trans e7) z) rw', hy2, by rw [List.append_assoc]; rw [← hdl, hy3]; rfl, by rw [List.length_append, List.length_singleton]; omega⟩
      intro a o ha
      have ne : a ≠ Dd := fun z => by
        rw [z, hD] at ha
        cases ha
      rw [upd_ne ne]
      exact ((eh.trans e4).trans (e6.trans e8)) a o ha
  · have e : i = xs.length := by omega
    subst e
    rw [List.drop_length] at hmf
    have hn : left = [] := (Res.ok_inj hmf).symm
    subst hn
    rw [List.append_nil] at hdl
    subst hdl
    exact .inl ⟨W.stop _ _ B' H' S' e' (hK _ _) (Nat.le_refl _), kq Dd acc B' H' S' e' eh rp⟩
theorem pe_lcB {wi : TI} {ifs : List Expr} {ownN : List (Str × Nat)} (C : Cok X k0) (hi : PI X tg it wi) (ok : BlkOk X.N X.env.scope scope ownN) (hs : ∀ x, foldedSetIterable it X.env x = pure x := by intro _; rfl) :
    PE X (.ListComp elt [⟨tg, it, ifs, 0⟩] scope pos) (tLc wi (gB X scope tg) (ttB X scope ifs) (teB X scope elt) (ownN.map (·.2))) :=
  pe_lc C.calm C.nd hi ok (fun s H Cc cl fp => ⟨fun pins s' σ H' v u Q I r h => h _ ⟨s, H, Cc, cl, fp, rfl⟩ pins s' u I r⟩) (fun s H Cc cl fp => ⟨fun pins s' σ H' Q I h => h _ ⟨s, H, Cc, cl, fp, rfl⟩ pins s' I⟩) (fun s H Cc cl fp => ⟨fun pins s' σ H' Q I h => h _ ⟨s, H, Cc, cl, fp, rfl⟩ pins s' I⟩) hs
theorem ps_lcB {wi : TI} {ifs : List Expr} {ownN : List (Str × Nat)} (C : Cok X k0) (hy : X.N[i]? = some n) (hyl : X.env.scope.names.lookup n = some .local) (hsw : swapsWith (.ListComp elt [⟨tg, it, ifs, 0⟩] scope pos) (some (.Name n pos')) p.line X.env = pure true)
    (hi : PI X tg it wi) (ok : BlkOk X.N X.env.scope scope ownN) (hs : ∀ x, foldedSetIterable it X.env x = pure x := by intro _; rfl) :
    PS X (.Assign [.Name n pos'] (.ListComp elt [⟨tg, it, ifs, 0⟩] scope pos) p) (tAsg (tLc wi (gB X scope tg) (ttB X scope ifs) (teB X scope elt) (ownN.map (·.2))) (gName i)) :=
  ps_setLc C.calm C.nd hy hyl hsw hi ok (fun s H Cc cl fp => ⟨fun pins s' σ H' v u Q I r h => h _ ⟨s, H, Cc, cl, fp, rfl⟩ pins s' u I r⟩) (fun s H Cc cl fp => ⟨fun pins s' σ H' Q I h => h _ ⟨s, H, Cc, cl, fp, rfl⟩ pins s' I⟩) (fun s H Cc cl fp => ⟨fun pins s' σ H' Q I h => h _ ⟨s, H, Cc, cl, fp, rfl⟩ pins s' I⟩) hs
/-- a comprehension as a value -/
theorem el_lc {Tg : α → Hp → L2.St → L2.St → Prop} {Ko : Own → Prop} {cm : α → Res Bool} {fm : α → Res β} {ifs : List Expr} {ownN : List (Str × Nat)} (C : Cok X k0) (ok : BlkOk X.N X.env.scope scope ownN) (hit : EvI X E own B H σ tg it R Ko xs)
    (hK : ∀ D acc, Ko ((D, .lst acc) :: own)) (ht : ∀ Xb, Blk X scope Xb → TgOk Xb E tg R Tg) (hm : mfM cm fm xs = .ok ys)
    (hc : ∀ Xb x σ2 acc Dd B3 H3 b, Blk X scope Xb → Stt E ((Dd, .lst acc) :: own) B3 H3 → Ex B B3 → Tg x B3 (wipe σ (ownN.map (·.2))) σ2 → cm x = .ok b → EvTs Xb E ((Dd, .lst acc) :: own) B3 H3 σ2 ifs b)
    (he : ∀ Xb x y σ2 acc Dd B3 H3, Blk X scope Xb → Stt E ((Dd, .lst acc) :: own) B3 H3 → Ex B B3 → Tg x B3 (wipe σ (ownN.map (·.2))) σ2 → cm x = .ok true → fm x = .ok y → EvE Xb E ((Dd, .lst acc) :: own) B3 H3 σ2 elt S y)
    (hwp : ∀ x B3 σ2, Tg x B3 (wipe σ (ownN.map (·.2))) σ2 → wipe σ2 (ownN.map (·.2)) = wipe σ (ownN.map (·.2)))
    (hup : ∀ x B3 B4 σ2, Tg x B3 (wipe σ (ownN.map (·.2))) σ2 → Ex B3 B4 → Tg x B4 (wipe σ (ownN.map (·.2))) σ2)
    (hs : ∀ x, foldedSetIterable it X.env x = pure x := by intro _; rfl) : EvL X E own B H σ (.ListComp elt [⟨tg, it, ifs, 0⟩] scope pos) S ys := fun B1 H1 S1 e1 e2 Q k => by
  obtain ⟨wi, pi, hw⟩ := hit
  exact WE.of (pe_lcB C pi ok hs) (hw B1 H1 S1 e1 e2 _ fun J B2 H2 S2 e3 e4 W hz => lc_read S2 W hz hK ht hm (fun Xb x σ2 acc Dd B3 H3 b hX S3 e5 => hc Xb x σ2 acc Dd B3 H3 b hX S3 ((e1.trans e3).trans e5)) (fun Xb x y σ2 acc Dd B3 H3 hX S3 e5 => he Xb x y σ2 acc Dd B3 H3 hX S3 ((e1.trans e3).trans e5)) hwp hup
    fun p us B3 H3 S3 e5 e6 r => k p us B3 H3 S3 (e3.trans e5) (e4.trans e6) r)
/-- y = [..] on one line -/
theorem s_asgLc {Tg : α → Hp → L2.St → L2.St → Prop} {Ko : Own → Prop} {cm : α → Res Bool} {fm : α → Res β} {ifs : List Expr} {ownN : List (Str × Nat)} (C : Cok X k0) (hy : X.N[i]? = some n) (hyl : X.env.scope.names.lookup n = some .local) (hsw : swapsWith (.ListComp elt [⟨tg, it, ifs, 0⟩] scope pos) (some (.Name n pos')) p.line X.env = pure true) (S0 : Stt E own B H)
    (ok : BlkOk X.N X.env.scope scope ownN) (hit : EvI X E own B H σ tg it R Ko xs)
    (hK : ∀ D acc, Ko ((D, .lst acc) :: own)) (ht : ∀ Xb, Blk X scope Xb → TgOk Xb E tg R Tg) (hm : mfM cm fm xs = .ok ys)
    (hc : ∀ Xb x σ2 acc Dd B3 H3 b, Blk X scope Xb → Stt E ((Dd, .lst acc) :: own) B3 H3 → Ex B B3 → Tg x B3 (wipe σ (ownN.map (·.2))) σ2 → cm x = .ok b → EvTs Xb E ((Dd, .lst acc) :: own) B3 H3 σ2 ifs b)
    (he : ∀ Xb x y σ2 acc Dd B3 H3, Blk X scope Xb → Stt E ((Dd, .lst acc) :: own) B3 H3 → Ex B B3 → Tg x B3 (wipe σ (ownN.map (·.2))) σ2 → cm x = .ok true → fm x = .ok y → EvE Xb E ((Dd, .lst acc) :: own) B3 H3 σ2 elt S y)
    (hwp : ∀ x B3 σ2, Tg x B3 (wipe σ (ownN.map (·.2))) σ2 → wipe σ2 (ownN.map (·.2)) = wipe σ (ownN.map (·.2)))
    (hup : ∀ x B3 B4 σ2, Tg x B3 (wipe σ (ownN.map (·.2))) σ2 → Ex B3 B4 → Tg x B4 (wipe σ (ownN.map (·.2))) σ2)
    (q : ∀ p vs B' H', Stt E ((p, .lst vs) :: own) B' H' → Ex B B' → Paired (S.r B') vs ys → WSs X rest D (σ.set i (some (.ref p))) H')
    (hs : ∀ x, foldedSetIterable it X.env x = pure x := by intro _; rfl) : WSs X (.Assign [.Name n pos'] (.ListComp elt [⟨tg, it, ifs, 0⟩] scope pos) p :: rest) D σ H := by
  obtain ⟨wi, pi, hw⟩ := hit
  exact WSs.cons (ps_lcB C hy hyl hsw pi ok hs) (hw B H S0 (Ex.refl _) (Ex.refl _) _ fun J B2 H2 S2 e3 e4 W hz => lc_read (Q := fun v H1 => WSs X rest D (σ.set i (some v)) H1) S2 W hz hK ht hm (fun Xb x σ2 acc Dd B3 H3 b hX S3 e5 => hc Xb x σ2 acc Dd B3 H3 b hX S3 (e3.trans e5)) (fun Xb x y σ2 acc Dd B3 H3 hX S3 e5 => he Xb x y σ2 acc Dd B3 H3 hX S3 (e3.trans e5)) hwp hup
    fun p us B3 H3 S3 e5 e6 r => q p us B3 H3 S3 (e3.trans e5) r)
end
end Sg

namespace Sg
open PySem PySem.Spec PyProof.Rows L2

/-- xs[lo:hi] -/
def cut {α : Type} (xs : List α) (lo hi : Option Int) : List α := (xs.drop (HT.sIx xs.length 0 lo)).take (HT.sIx xs.length xs.length hi - HT.sIx xs.length 0 lo)
theorem pdrop {α β : Type} {F : α → β → Prop} : ∀ {l₁ : List α} {l₂ : List β} (n : Nat), Paired F l₁ l₂ → Paired F (l₁.drop n) (l₂.drop n)
  | _, _, 0, h => h
  | _, _, _ + 1, .nil => .nil
  | _, _, n + 1, .cons _ t => pdrop n t
theorem ptake {α β : Type} {F : α → β → Prop} : ∀ {l₁ : List α} {l₂ : List β} (n : Nat), Paired F l₁ l₂ → Paired F (l₁.take n) (l₂.take n)
  | _, _, 0, _ => .nil
  | _, _, _ + 1, .nil => .nil
  | _, _, n + 1, .cons h t => .cons h (ptake n t)
theorem pcut {α β : Type} {F : α → β → Prop} {l₁ : List α} {l₂ : List β} (lo hi : Option Int) (h : Paired F l₁ l₂) : Paired F (cut l₁ lo hi) (cut l₂ lo hi) := by
  unfold cut
  rw [plen h]
  exact ptake _ (pdrop _ h)
theorem prev {α β : Type} {F : α → β → Prop} : ∀ {l₁ : List α} {l₂ : List β}, Paired F l₁ l₂ → Paired F l₁.reverse l₂.reverse
  | _, _, .nil => .nil
  | _, _, .cons h t => by
    rw [List.reverse_cons, List.reverse_cons]
    exact psnoc (prev t) h
theorem pat {α β : Type} {F : α → β → Prop} {l₁ : List α} {l₂ : List β} {i : Int} {y : β} (h : Paired F l₁ l₂) (hy : atI l₂ i = some y) : ∃ x, atI l₁ i = some x ∧ F x y := by
  unfold atI at hy ⊢
  rw [plen h]
  cases e : ixN l₂.length i with
  | none => rw [e] at hy; cases hy
  | some j =>
    rw [e] at hy
    have hy' : l₂[j]? = some y := hy
    have hl : j < l₁.length := by
      rw [plen h]
      exact (List.getElem?_eq_some_iff.mp hy').1
    obtain ⟨z, hz, hF⟩ := L2.paired_get h (List.getElem?_eq_getElem hl)
    rw [hy'] at hz
    cases hz
    exact ⟨l₁[j], List.getElem?_eq_getElem hl, hF⟩
theorem pset {α β : Type} {F : α → β → Prop} {u : α} {w : β} (q : F u w) : ∀ {l₁ : List α} {l₂ : List β} (n : Nat), Paired F l₁ l₂ → Paired F (l₁.set n u) (l₂.set n w)
  | _, _, _, .nil => .nil
  | _, _, 0, .cons _ t => .cons q t
  | _, _, n + 1, .cons h t => .cons h (pset q n t)
section
variable {X : Cx} {E : Ent} {own new own' : Own} {B H B' H' : Hp} {σ : L2.St} {α β γ τ ρ δ ε : Type} {R : Rel α} {S : Rel β} {T : Rel γ} {U : Rel ε} {e a b c o it d : Expr} {x : α} {y : β} {u : γ} {t : ε} {p pos pos' apos : Pos} {i j k k0 : Nat} {z w : Bool} {xs ys : List α} {es : List Expr}
variable {n m f : Str} {rest body other : List Stmt} {D : Ends} {P : ρ → Prop} {Er : Err → Prop} {ps : List Str} {A : AR} {CA : Addr}
/-! subscripts -/
theorem ev_ixL {q : Int} (ho : EvB X E own B H σ o (rLst R) xs) (ha : EvB X E own B H σ a rInt q) (hx : atI xs q = some x) (hs : PlainIx a := by exact fun _ _ => rfl) : EvB X E own B H σ (.Subscript o a pos) R x := fun B1 H1 S1 e1 e2 Q k =>
  WE.of (pe_ix ix_list peW peW hs) (ho B1 H1 S1 e1 e2 _ fun v B2 H2 S2 e3 e4 r => ha B2 H2 S2 (e1.trans e3) (e2.trans e4) _ fun w B3 H3 S3 e5 e6 r' => by
    obtain ⟨l, vs, h1, h2, h3⟩ := Rel.mono _ e6 r
    obtain ⟨u, hu, hF⟩ := pat h3 hx
    exact ⟨l, vs, q, u, h1, r', .inl h2, hu, k u B3 H3 S3 (e3.trans e5) (e4.trans e6) hF⟩)
theorem ev_ixT {q : Int} (ho : EvB X E own B H σ o (rTup R) xs) (ha : EvB X E own B H σ a rInt q) (hx : atI xs q = some x) (hs : PlainIx a := by exact fun _ _ => rfl) : EvB X E own B H σ (.Subscript o a pos) R x := fun B1 H1 S1 e1 e2 Q k =>
  WE.of (pe_ix ix_tup peW peW hs) (ho B1 H1 S1 e1 e2 _ fun v B2 H2 S2 e3 e4 r => ha B2 H2 S2 (e1.trans e3) (e2.trans e4) _ fun w B3 H3 S3 e5 e6 r' => by
    obtain ⟨l, vs, h1, h2, h3⟩ := Rel.mono _ e6 r
    obtain ⟨u, hu, hF⟩ := pat h3 hx
    exact ⟨l, vs, q, u, h1, r', SqT.of h2, hu, k u B3 H3 S3 (e3.trans e5) (e4.trans e6) hF⟩)
/-- t[0], t[1] of a pair -/
theorem ev_fst {q : α × β} {kk} {pp : Pos} (ho : EvB X E own B H σ o (rPr R S) q) : EvB X E own B H σ (.Subscript o (.Constant (.int 0) kk pp) pos) R q.1 := fun B1 H1 S1 e1 e2 Q k =>
  WE.of (pe_ix ix_tup peW pe_int (fun _ _ => rfl)) (ho B1 H1 S1 e1 e2 _ fun v B2 H2 S2 e3 e4 r => by
    obtain ⟨l, c, d, h1, h2, h3, h4⟩ := r
    exact ⟨l, [c, d], 0, c, h1, rfl, SqT.of h2, rfl, k c B2 H2 S2 e3 e4 h3⟩)
theorem ev_snd {q : α × β} {kk} {pp : Pos} (ho : EvB X E own B H σ o (rPr R S) q) : EvB X E own B H σ (.Subscript o (.Constant (.int 1) kk pp) pos) S q.2 := fun B1 H1 S1 e1 e2 Q k =>
  WE.of (pe_ix ix_tup peW pe_int (fun _ _ => rfl)) (ho B1 H1 S1 e1 e2 _ fun v B2 H2 S2 e3 e4 r => by
    obtain ⟨l, c, d, h1, h2, h3, h4⟩ := r
    exact ⟨l, [c, d], 1, d, h1, rfl, SqT.of h2, rfl, k d B2 H2 S2 e3 e4 h4⟩)
/-! slices -/
def EvP (X : Cx) (E : Ent) (own : Own) (B H : Hp) (σ : L2.St) (e : Option Expr) (o : Option Int) : Prop := ∃ t : TO, PO X e t ∧ ∀ B1 H1, Stt E own B1 H1 → Ex B B1 → Ex H H1 → ∀ Q : Option Int → Hp → Prop,
  (∀ B2 H2, Stt E own B2 H2 → Ex B1 B2 → Ex H1 H2 → Q o H2) → t σ H1 Q
theorem ep_n : EvP X E own B H σ none none := ⟨_, po_none, fun B1 H1 S1 e1 e2 Q k => k B1 H1 S1 (Ex.refl _) (Ex.refl _)⟩
theorem ep_s {q : Int} (h : EvB X E own B H σ a rInt q) : EvP X E own B H σ (some a) (some q) := ⟨_, po_some peW, fun B1 H1 S1 e1 e2 Q k => h B1 H1 S1 e1 e2 _ fun v B2 H2 S2 e3 e4 r => ⟨q, r, k B2 H2 S2 e3 e4⟩⟩
theorem el_cut [Imm R] {lo hi : Option Expr} {l u : Option Int} (ho : EvB X E own B H σ o (rLst R) xs) (hl : EvP X E own B H σ lo l) (hu : EvP X E own B H σ hi u) : EvL X E own B H σ (.Subscript o (.Slice lo hi none p) pos) R (cut xs l u) := fun B1 H1 S1 e1 e2 Q k => by
  obtain ⟨tl, pl, hl⟩ := hl
  obtain ⟨tu, pu, hu⟩ := hu
  exact WE.of (pe_slice sl_list peW pl pu) (ho B1 H1 S1 e1 e2 _ fun v B2 H2 S2 e3 e4 r => hl B2 H2 S2 (e1.trans e3) (e2.trans e4) _ fun B3 H3 S3 e5 e6 => hu B3 H3 S3 ((e1.trans e3).trans e5) ((e2.trans e4).trans e6) _ fun B4 H4 S4 e7 e8 => by
    obtain ⟨q, vs, h1, h2, h3⟩ := Rel.mono _ (e6.trans e8) r
    exact ⟨q, vs, h1, .inl h2, fun p np => k p _ B4 _ (S4.alloc np fun ys z => by cases z) ((e3.trans e5).trans e7) (((e4.trans e6).trans e8).trans (Sx.new np).ex) (pcut l u (pimp h3 fun _ _ z => Imm.imm S4.tu z))⟩)
/-! list + list -/
theorem Inv.rdL {pins : List (Addr × Obj)} {s : Shared} {l : Addr} {vs : List V} (I : Inv X pins σ H s) (h : Rd H l (.lst vs)) : vs.length ≤ sizeLine ∧ ∃ (its : List Value) (n : Nat), Vals vs its ∧ vs.length = its.length ∧ s.heap.get? l = some { cls := .type "list", data := .seq its.toArray n } := by
  obtain ⟨z, its, n, r, e⟩ := h.ok I.hok
  exact ⟨z, its, n, r, r.length, e⟩
def rCatR : R2 := fun x y H Q => ∃ l b xs zs, x = .ref l ∧ y = .ref b ∧ Rd H l (.lst xs) ∧ Rd H b (.lst zs) ∧ xs.length + zs.length ≤ sizeLine ∧ ∀ p, H p = none → Q (.ref p) (upd H p (.lst (xs ++ zs)))
theorem op_catR : OpR X (binaryOp .Add) rCatR := by
  intro pins s σ H x y v u Q I rx ry h
  obtain ⟨l, b, xs, zs, rfl, rfl, hH, hB, hz, q⟩ := h
  cases rx
  cases ry
  obtain ⟨z, its, n, r, hl, e⟩ := Inv.rdL I hH
  obtain ⟨z2, its2, n2, r2, hl2, e2⟩ := Inv.rdL I hB
  refine PySem.P.add_list e e2 ?_ (by rw [List.size_toArray, List.size_toArray]; omega)
  have ea : its.toArray ++ its2.toArray = (its ++ its2).toArray := by simp
  rw [ea]
  exact ⟨.ref _, _, I.lnew (t' := s.toks) (r.append r2) (by rw [List.length_append]; omega), rfl, q _ I.fresh⟩
theorem el_cat [Imm R] (ha : EvB X E own B H σ a (rLst R) xs) (hb : EvB X E own B H σ b (rLst R) ys) (hz : xs.length + ys.length ≤ sizeLine) : EvL X E own B H σ (.BinOp a .Add b pos) R (xs ++ ys) := fun B1 H1 S1 e1 e2 Q k =>
  WE.of (pe_op op_catR peW peW) (ha B1 H1 S1 e1 e2 _ fun v B2 H2 S2 e3 e4 r => hb B2 H2 S2 (e1.trans e3) (e2.trans e4) _ fun w B3 H3 S3 e5 e6 r' => by
    obtain ⟨l, vs, h1, h2, h3⟩ := Rel.mono _ e6 r
    obtain ⟨l2, us, h1', h2', h3'⟩ := r'
    exact ⟨l, l2, vs, us, h1, h1', h2, h2', by rw [plen h3, plen h3']; exact hz, fun p np => k p _ B3 _ (S3.alloc np fun ys z => by cases z) (e3.trans e5) ((e4.trans e6).trans (Sx.new np).ex) (pimp (pappend h3 h3') fun _ _ z => Imm.imm S3.tu z)⟩)
/-- [..] * n -/
def rRepR : R2 := fun x y H Q => ∃ l k xs, x = .ref l ∧ y = .int k ∧ H l = some (.lst xs) ∧ -(2 ^ 63) ≤ k ∧ k < 2 ^ 63 ∧ xs.length * k.toNat ≤ sizeLine ∧
  ∀ p, H p = none → Q (.ref p) (upd H p (.lst (List.replicate k.toNat xs).flatten))
theorem prep {α β : Type} {F : α → β → Prop} {l₁ : List α} {l₂ : List β} (h : Paired F l₁ l₂) : ∀ n : Nat, Paired F (List.replicate n l₁).flatten (List.replicate n l₂).flatten
  | 0 => .nil
  | n + 1 => by
    rw [List.replicate_succ, List.replicate_succ, List.flatten_cons, List.flatten_cons]
    exact pappend h (prep h n)
theorem el_rep {q : Int} (ha : EvL X E own B H σ a R xs) (hb : ∀ own' B' H', Ex B B' → Ex H H' → EvB X E own' B' H' σ b rInt q) (hz : -(2 ^ 63) ≤ q ∧ q < 2 ^ 63 ∧ xs.length * q.toNat ≤ sizeLine) : EvL X E own B H σ (.BinOp a .Mult b pos) R (List.replicate q.toNat xs).flatten := fun B1 H1 S1 e1 e2 Q k =>
  WE.of (pe_op (show OpR X (binaryOp .Mult) rRepR from op_rep) peW peW) (ha B1 H1 S1 e1 e2 _ fun l vs B2 H2 S2 e3 e4 r => hb _ B2 H2 (e1.trans e3) (e2.trans e4) B2 H2 S2 (Ex.refl _) (Ex.refl _) _ fun w B3 H3 S3 e5 e6 r' => by
    refine ⟨l, q, vs, rfl, r', S3.own1, hz.1, hz.2.1, by rw [plen r]; exact hz.2.2, fun p np => ?_⟩
    have S4 := (S3.alloc np (o := .lst (List.replicate q.toNat vs).flatten) fun ys z => by cases z).swap.drop
    exact k p _ B3 _ S4 (e3.trans e5) ((e4.trans e6).trans (Sx.new np).ex) (prep (pimp r fun _ _ z => R.mono e5 z) _))
/-! x in xs -/
class Flat (R : Rel α) [DecidableEq α] : Prop where
  f : ∀ {H : Hp} {v : V} {x : α}, R.r H v x → flatV v = true
  eq : ∀ {H : Hp} {v w : V} {x y : α}, R.r H v x → R.r H w y → eqV v w = decide (x = y)
instance : Flat rInt := ⟨fun h => by rw [show _ = _ from h]; rfl, fun h h' => by
  rw [show _ = _ from h, show _ = _ from h']
  show (_ == _) = _
  rw [Bool.eq_iff_iff]
  simp⟩
instance : Flat rStr := ⟨fun h => by rw [show _ = _ from h]; rfl, fun h h' => by
  rw [show _ = _ from h, show _ = _ from h']
  show (_ == _) = _
  rw [Bool.eq_iff_iff]
  simp⟩
theorem in_rel [DecidableEq α] [Flat R] {H1 : Hp} {v : V} {x : α} (hx : R.r H1 v x) : ∀ {vs : List V} {xs : List α}, Paired (R.r H1) vs xs → vs.all flatV = true ∧ inV v vs = decide (x ∈ xs)
  | _, _, .nil => ⟨rfl, by simp [inV]⟩
  | _, _, .cons (a := w) (b := y) h t => by
    obtain ⟨h1, h2⟩ := in_rel hx t
    refine ⟨by rw [List.all_cons, Flat.f h, h1] <;> rfl, ?_⟩
    show (eqV w v || inV v _) = _
    rw [h2, Flat.eq h hx, Bool.eq_iff_iff]
    simp only [Bool.or_eq_true, decide_eq_true_iff, List.mem_cons]
    exact ⟨fun h => h.imp Eq.symm id, fun h => h.imp Eq.symm id⟩
theorem in_bh (b : Expr) : True := trivial
theorem ev_in [DecidableEq α] [Flat R] (ha : EvB X E own B H σ a R x) (ho : EvB X E own B H σ o (rLst R) xs) (hm : behindInMarks .In o = false := by rfl) : EvB X E own B H σ (.Compare a [.In] [o] pos) rBool (decide (x ∈ xs)) :=
  ev_cmp op_in_seq ha ho hm fun H1 v w Q h1 h2 k => by
    obtain ⟨l, vs, g1, g2, g3⟩ := h2
    obtain ⟨q1, q2⟩ := in_rel h1 g3
    refine ⟨l, vs, g1, .inl (.inl g2), Flat.f h1, q1, ?_⟩
    rw [q2]
    exact k
theorem et_in [DecidableEq α] [Flat R] (ha : EvB X E own B H σ a R x) (ho : EvB X E own B H σ o (rLst R) xs) (hm : behindInMarks .In o = false := by rfl) : EvT X E own B H σ (.Compare a [.In] [o] pos) (decide (x ∈ xs)) :=
  et_cmp op_in_seq ha ho hm fun H1 v w Q h1 h2 k => by
    obtain ⟨l, vs, g1, g2, g3⟩ := h2
    obtain ⟨q1, q2⟩ := in_rel h1 g3
    refine ⟨l, vs, g1, .inl (.inl g2), Flat.f h1, q1, ?_⟩
    rw [q2]
    exact k
theorem ev_nin [DecidableEq α] [Flat R] (ha : EvB X E own B H σ a R x) (ho : EvB X E own B H σ o (rLst R) xs) (hm : behindInMarks .NotIn o = false := by rfl) : EvB X E own B H σ (.Compare a [.NotIn] [o] pos) rBool (!decide (x ∈ xs)) :=
  ev_cmp op_notIn_seq ha ho hm fun H1 v w Q h1 h2 k => by
    obtain ⟨l, vs, g1, g2, g3⟩ := h2
    obtain ⟨q1, q2⟩ := in_rel h1 g3
    refine ⟨l, vs, g1, .inl (.inl g2), Flat.f h1, q1, ?_⟩
    rw [q2]
    exact k
theorem et_nin [DecidableEq α] [Flat R] (ha : EvB X E own B H σ a R x) (ho : EvB X E own B H σ o (rLst R) xs) (hm : behindInMarks .NotIn o = false := by rfl) : EvT X E own B H σ (.Compare a [.NotIn] [o] pos) (!decide (x ∈ xs)) :=
  et_cmp op_notIn_seq ha ho hm fun H1 v w Q h1 h2 k => by
    obtain ⟨l, vs, g1, g2, g3⟩ := h2
    obtain ⟨q1, q2⟩ := in_rel h1 g3
    refine ⟨l, vs, g1, .inl (.inl g2), Flat.f h1, q1, ?_⟩
    rw [q2]
    exact k
/-! a if t else b -/
theorem ev_ife (hc : EvT X E own B H σ c z) (h1 : z = true → EvB X E own B H σ a R x) (h2 : z = false → EvB X E own B H σ b R x) : EvB X E own B H σ (.IfExp c a b pos) R x := fun B1 H1 S1 e1 e2 Q k =>
  WE.of (pe_ifExp ptW peW peW) (hc B1 H1 S1 e1 e2 _ fun B2 H2 S2 e3 e4 => by
    cases z with
    | true => exact h1 rfl B2 H2 S2 (e1.trans e3) (e2.trans e4) Q fun v B3 H3 S3 e5 e6 => k v B3 H3 S3 (e3.trans e5) (e4.trans e6)
    | false => exact h2 rfl B2 H2 S2 (e1.trans e3) (e2.trans e4) Q fun v B3 H3 S3 e5 e6 => k v B3 H3 S3 (e3.trans e5) (e4.trans e6))
/-! min, max of two -/
theorem pa2 (hs0 : starEach (a :: [b]) X.env = (false, eval a X.env) :: starEach [b] X.env) (hs1 : St1 X b) : PA X [a, b] (tCons (WE X a) (tCons (WE X b) tNil)) := pa_cons peW (pa1 hs1) hs0
theorem ev_max2 {i j : Int} (hc : X.calm = true) (hg : Gl X "max") (hm : X.mg "max" = none) (ha : EvB X E own B H σ a rInt i) (hb : EvB X E own B H σ b rInt j) (hs0 : starEach (a :: [b]) X.env = (false, eval a X.env) :: starEach [b] X.env := by rfl) (hs1 : St1 X b := by rfl) (hpl : (backTo pos (starEach [b] X.env)).any (·.1) = false := by rfl) : EvB X E own B H σ (.Call (.Name "max" p) [a, b] [] pos) rInt (if j > i then j else i) := fun B1 H1 S1 e1 e2 Q k =>
  WE.of (pe_callB (call_max2 hc) hg hm (by decide +kernel) (pa2 hs0 hs1) (he := hs0) (hpl := hpl)) (ha B1 H1 S1 e1 e2 _ fun v B2 H2 S2 e3 e4 r => hb B2 H2 S2 (e1.trans e3) (e2.trans e4) _ fun w B3 H3 S3 e5 e6 r' => ⟨i, j, by rw [show v = .int i from r, show w = .int j from r'], k _ B3 H3 S3 (e3.trans e5) (e4.trans e6) rfl⟩)
theorem ev_min2 {i j : Int} (hc : X.calm = true) (hg : Gl X "min") (hm : X.mg "min" = none) (ha : EvB X E own B H σ a rInt i) (hb : EvB X E own B H σ b rInt j) (hs0 : starEach (a :: [b]) X.env = (false, eval a X.env) :: starEach [b] X.env := by rfl) (hs1 : St1 X b := by rfl) (hpl : (backTo pos (starEach [b] X.env)).any (·.1) = false := by rfl) : EvB X E own B H σ (.Call (.Name "min" p) [a, b] [] pos) rInt (if j < i then j else i) := fun B1 H1 S1 e1 e2 Q k =>
  WE.of (pe_callB (call_min2 hc) hg hm (by decide +kernel) (pa2 hs0 hs1) (he := hs0) (hpl := hpl)) (ha B1 H1 S1 e1 e2 _ fun v B2 H2 S2 e3 e4 r => hb B2 H2 S2 (e1.trans e3) (e2.trans e4) _ fun w B3 H3 S3 e5 e6 r' => ⟨i, j, by rw [show v = .int i from r, show w = .int j from r'], k _ B3 H3 S3 (e3.trans e5) (e4.trans e6) rfl⟩)
/-! int(bool), int(int) -/
theorem ev_intB (hg : Gl X "int") (hm : X.mg "int" = none) (ha : EvB X E own B H σ a rBool z) (hs : St1 X a := by rfl) : EvB X E own B H σ (.Call (.Name "int" p) [a] [] pos) rInt (b2i z) :=
  ev_b1 (f := b2i) (pe_callTy call_int1 hg hm (by decide +kernel) (pa1 hs) (he := hs)) ha fun H1 v Q h k => .inr ⟨z, by rw [show v = .bl z from h], k _ rfl⟩
/-! list(d), sorted(d), dict(pairs) -/
theorem keys_rel {H1 : Hp} : ∀ {ws : List (Key × V)} {kvs : List (Int × α)}, pI R H1 ws kvs → ws.map (·.1) = (kvs.map (·.1)).map Sum.inl
  | _, _, .nil => rfl
  | _, _, .cons h t => by rw [List.map_cons, List.map_cons, List.map_cons, keys_rel t, h.1]
theorem keys_relV {H1 : Hp} : ∀ {ws : List (Key × V)} {kvs : List (Int × α)}, pI R H1 ws kvs → ws.map (fun kv => kV kv.1) = (kvs.map (·.1)).map V.int
  | _, _, .nil => rfl
  | _, _, .cons h t => by rw [List.map_cons, List.map_cons, List.map_cons, keys_relV t, h.1]; rfl
theorem el_listD {kvs : List (Int × α)} (hc : X.calm = true) (hg : Gl X "list") (hm : X.mg "list" = none) (ha : EvB X E own B H σ a (rDI R) kvs) (hs : St1 X a := by rfl) : EvL X E own B H σ (.Call (.Name "list" p) [a] [] pos) rInt (kvs.map (·.1)) :=
  el_b1 (pe_callTy (call_listD hc) hg hm (by decide +kernel) (pa1 hs) (he := hs)) ha fun H1 v Q h k => by
    obtain ⟨q, ws, h1, h2, h3⟩ := h
    refine ⟨q, ws, by rw [h1], h2, fun l hl => ?_⟩
    rw [keys_relV h3]
    exact k l _ hl (ints_rel' _)
theorem el_sortD {kvs : List (Int × α)} (hc : X.calm = true) (hg : Gl X "sorted") (hm : X.mg "sorted" = none) (ha : EvB X E own B H σ a (rDI R) kvs) (hz : kvs.length < 64) (hs : St1 X a := by rfl) : EvL X E own B H σ (.Call (.Name "sorted" p) [a] [] pos) rInt (sortI (kvs.map (·.1))) :=
  el_b1 (pe_callB (call_sortedDI hc) hg hm (by decide +kernel) (pa1 hs) (he := hs)) ha fun H1 v Q h k => by
    obtain ⟨q, ws, h1, h2, h3⟩ := h
    refine ⟨q, ws, kvs.map (·.1), by rw [h1], h2, keys_rel h3, by rw [List.length_map]; exact hz, fun ys l hp ho hl => ?_⟩
    rw [sortI_unique hp ho]
    exact k l _ hl (ints_rel' _)
/-- an owned dict made -/
def EvDI {α : Type} (X : Cx) (E : Ent) (own : Own) (B H : Hp) (σ : L2.St) (e : Expr) (R : Rel α) (kvs : List (Int × α)) : Prop := ∀ B1 H1, Stt E own B1 H1 → Ex B B1 → Ex H H1 → ∀ Q : VK,
  (∀ p ws B2 H2, Stt E ((p, .dK ws) :: own) B2 H2 → Ex B1 B2 → Ex H1 H2 → pI R B2 ws kvs → Q (.ref p) H2) → WE X e σ H1 Q
theorem EvDI.toE {kvs : List (Int × α)} (h : EvDI X E own B H σ e R kvs) : EvE X E own B H σ e (rDI R) kvs := fun B1 H1 S e1 e2 Q k => h B1 H1 S e1 e2 Q fun p ws B2 H2 S2 e3 e4 r => by
  have n := (S2.ow _ (List.mem_cons_self ..)).2.1
  exact k (.ref p) _ H2 S2.keep (e3.trans (Sx.new n).ex) e4 ⟨p, ws, rfl, Rd.of upd_same, r.up (Sx.new n).ex⟩
theorem pairs_split [Imm R] {B2 H2 : Hp} (tu : Tx H2 B2) : ∀ {vs : List V} {kvs : List (Int × α)}, Paired ((rPr rInt R).r H2) vs kvs → ∃ (ps : List Addr) (ws : List (Key × V)), vs = ps.map V.ref ∧ Paired (fun p (kv : Key × V) => SqT X.K H2 p [kV kv.1, kv.2]) ps ws ∧ pI R B2 ws kvs
  | _, _, .nil => ⟨[], [], rfl, .nil, .nil⟩
  | _, _, .cons (b := kv) h t => by
    obtain ⟨ps, ws, h1, h2, h3⟩ := pairs_split tu t
    obtain ⟨q, a, b, g1, g2, g3, g4⟩ := h
    have g3' : a = .int kv.1 := g3
    subst g3'
    exact ⟨q :: ps, (Sum.inl kv.1, b) :: ws, by rw [g1, h1] <;> rfl, .cons (SqT.of g2) h2, .cons ⟨rfl, Imm.imm tu g4⟩ h3⟩
theorem merge_rel {B2 : Hp} : ∀ {ws acc : List (Key × V)} {kvs acc' : List (Int × α)}, pI R B2 ws kvs → pI R B2 acc acc' → pI R B2 (mergeK acc ws) (kvs.foldl (fun acc kv => dput acc kv.1 kv.2) acc')
  | _, _, _, _, .nil, h => h
  | _, _, _, _, .cons h t, h' => by
    show pI R B2 (mergeK (putK _ _ _) _) (List.foldl _ (dput _ _ _) _)
    rw [h.1]
    exact merge_rel t (rel_put (κ := Key) inl_inj h.2 h')
theorem ed_dict [Imm R] {kvs : List (Int × α)} (hc : X.calm = true) (hg : Gl X "dict") (hm : X.mg "dict" = none) (ha : EvB X E own B H σ a (rLst (rPr rInt R)) kvs) (hs : St1 X a := by rfl) : EvDI X E own B H σ (.Call (.Name "dict" p) [a] [] pos) R (dmerge kvs) := fun B1 H1 S1 e1 e2 Q k =>
  WE.of (pe_callTy (call_dictP hc) hg hm (by decide +kernel) (pa1 hs) (he := hs)) (ha B1 H1 S1 e1 e2 _ fun v B2 H2 S2 e3 e4 r => by
    obtain ⟨l, vs, h1, h2, h3⟩ := r
    obtain ⟨ps, ws, g1, g2, g3⟩ := pairs_split (X := X) S2.tu h3
    subst g1
    exact ⟨l, ps, ws, by rw [h1], .inl h2, g2, fun q nq => k q _ B2 _ (S2.alloc nq fun ys z => by cases z) e3 (e4.trans (Sx.new nq).ex) (merge_rel g3 .nil)⟩)
end
end Sg

namespace Sg
open PySem PySem.Spec PyProof.Rows L2
abbrev powI (i j : Int) : Int := i ^ j.toNat
instance {i j : Int} : Decidable (CDiv i j) := by unfold CDiv; infer_instance
instance {i j : Int} : Decidable (CMul i j) := by unfold CMul; infer_instance
/-- the class of tables in the written part -/
structure TabTxt (K : PySem.W.Frag) (CT : Addr) : Prop where
  cls : Cls K CT
  n_ranks : NoAttr K CT "ranks"
  n_parts : NoAttr K CT "parts"
  n_closed : NoAttr K CT "closed"
  n_wholes : NoAttr K CT "wholes"
/-! names without a value in the module: built-ins -/
structure Blt (mg : Str → Option Value) : Prop where
  len : mg "len" = none
  list : mg "list" = none
  sorted : mg "sorted" = none
  isinstance : mg "isinstance" = none
  range : mg "range" = none
  dict : mg "dict" = none
  all : mg "all" = none
  any : mg "any" = none
  min : mg "min" = none
  max : mg "max" = none
  sum : mg "sum" = none
  reversed : mg "reversed" = none
  int : mg "int" = none
  str : mg "str" = none
  enumerate : mg "enumerate" = none
  zip : mg "zip" = none
  tuple : mg "tuple" = none
  abs : mg "abs" = none
  bool : mg "bool" = none
theorem Fin.inl {ρ ρ' τ : Type} {P : ρ → Prop} {Er : Err → Prop} {kn : ρ' → Res ρ} {Q : τ → Prop} {u : ρ'} (F : Fin (sel (fun u => Fin P Er (kn u)) Q) Er (.ok (.inl u))) : Fin P Er (kn u) := F
theorem Fin.inlr {ρ ρ' τ θ : Type} {P : ρ → Prop} {Er : Err → Prop} {f : ρ' → Res ρ} {g : θ → Res ρ} {Q : τ → Prop} {u : θ} (F : Fin (sel (fun u => Fin P Er (sel f g u)) Q) Er (.ok (.inl (.inr u)))) : Fin P Er (g u) := F
theorem mfM_map {α β : Type} (f : α → β) : ∀ xs : List α, mfM (fun _ => .ok true) (fun x => .ok (f x)) xs = .ok (xs.map f)
  | [] => rfl
  | x :: r => by
    have h := mfM_map f r
    unfold mfM
    rw [h]
    rfl
theorem mfM_fm {α β : Type} (c : α → Bool) (f : α → β) : ∀ xs : List α, mfM (fun x => .ok (c x)) (fun x => .ok (f x)) xs = .ok ((xs.filter c).map f)
  | [] => rfl
  | x :: r => by
    have h0 := mfM_fm c f r
    unfold mfM
    rw [h0, List.filter_cons]
    show (if c x = true then _ else _) = _
    by_cases h : c x = true
    · rw [if_pos h, if_pos h]
      rfl
    · rw [if_neg h, if_neg h]
section
variable {X Xb : Cx} {E : Ent} {own new own' : Own} {B H B' H' : Hp} {σ : L2.St} {α β γ δ τ ρ ρ' : Type} {R : Rel α} {S : Rel β} {T : Rel γ} {U : Rel δ} {e a b c d o it : Expr} {x : α} {y : β} {p pos pos' apos : Pos} {i j k k0 : Nat} {z w : Bool} {xs : List α} {ys : List β} {es : List Expr}
variable {n m : Str} {rest body other : List Stmt} {D : Ends} {P : ρ → Prop} {Er : Err → Prop} {scope sc : Scope} {N : List Str} {t : List (Str × NameKind)} {kd : NameKind}
theorem Scp.blk {ownN : List (Str × Nat)} (V : Scp X N sc) (h : blkC N sc scope ownN = true) : BlkOk X.N X.env.scope scope ownN := by
  rw [V.n, V.sc]
  exact blkOk_by h
theorem Scp.lk {x : Str} (V : Scp X N sc) (h : nmOk sc t = true) (j : Nat) (hj : t[j]? = some (x, kd) := by rfl) : X.env.scope.names.lookup x = some kd := by
  rw [V.sc]
  exact (nmOk.at h hj).1
/-! what is owned: kept, picked -/
theorem getE {own : Own} {k : Nat} {q : Addr × HO} (h : own[k]? = some q) : q ∈ own := List.mem_of_getElem? h
theorem Stt.keepAt {q : Addr} {oo : HO} (S0 : Stt E own B H) (hk : own[k]? = some (q, oo)) : Stt E (own.eraseIdx k) (upd B q oo) H where
  b0 := S0.b0.trans (Sx.new (S0.ow _ (getE hk)).2.1)
  h0 := S0.h0
  bh := fun a u e => by
    by_cases ha : a = q
    · subst ha
      rw [upd_same] at e
      rw [← e]
      exact (S0.ow _ (getE hk)).2.2
    · rw [upd_ne ha] at e
      exact S0.bh a u e
  tu := fun a ys e => by
    by_cases ha : a = q
    · subst ha
      rw [upd_same]
      rw [← e]
      exact (S0.ow _ (getE hk)).2.2.symm
    · rw [upd_ne ha]
      exact S0.tu a ys e
  fr := fun a u e => by
    by_cases ha : a = q
    · subst ha
      exact .inr (S0.ow _ (getE hk)).1
    · rw [upd_ne ha] at e
      exact S0.fr a u e
  ow := fun r hr => by
    obtain ⟨h1, h2, h3⟩ := S0.ow r (List.mem_of_mem_eraseIdx hr)
    have ne : r.1 ≠ q := fun z => by
      obtain ⟨j, hj, ej⟩ := List.getElem_of_mem hr
      have hk' := List.getElem?_eq_some_iff.mp hk
      obtain ⟨hk1, hk2⟩ := hk'
      rw [List.getElem_eraseIdx] at ej
      have nd := S0.nd
      have key : ∀ (l : Nat) (hl : l < own.length), own[l] = r → l = k := fun l hl el => by
        have e1 : (own.map (·.1))[l]'(by rw [List.length_map]; exact hl) = (own.map (·.1))[k]'(by rw [List.length_map]; exact hk1) := by
          rw [List.getElem_map, List.getElem_map, hk2, el, z]
        exact (List.getElem_inj nd).mp e1
      split at ej
      · have := key j _ ej
        omega
      · have := key (j + 1) _ ej
        omega
    rw [upd_ne ne]
    exact ⟨h1, h2, h3⟩
  nd := by
    exact S0.nd.sublist ((List.eraseIdx_sublist own k).map _)
theorem rl_keep {q : Addr} {vs : List V} (S0 : Stt E own B H) (hk : own[k]? = some (q, .lst vs)) (r : Paired (R.r B) vs xs) : ∃ B', Stt E (own.eraseIdx k) B' H ∧ Ex B B' ∧ (rLst R).r B' (.ref q) xs := by
  have e := (Sx.new (o := .lst vs) (S0.ow _ (getE hk)).2.1).ex
  exact ⟨_, S0.keepAt hk, e, q, vs, rfl, Rd.of upd_same, pimp r fun _ _ z => R.mono e z⟩
theorem rdi_keep {q : Addr} {ws : List (Key × V)} {kvs : List (Int × α)} (S0 : Stt E own B H) (hk : own[k]? = some (q, .dK ws)) (r : pI R B ws kvs) : ∃ B', Stt E (own.eraseIdx k) B' H ∧ Ex B B' ∧ (rDI R).r B' (.ref q) kvs := by
  have e := (Sx.new (o := .dK ws) (S0.ow _ (getE hk)).2.1).ex
  exact ⟨_, S0.keepAt hk, e, q, ws, rfl, Rd.of upd_same, r.up e⟩
theorem rds_keep {q : Addr} {ws : List (Key × V)} {kvs : List (Str × α)} (S0 : Stt E own B H) (hk : own[k]? = some (q, .dK ws)) (r : pS R B ws kvs) : ∃ B', Stt E (own.eraseIdx k) B' H ∧ Ex B B' ∧ (rDS R).r B' (.ref q) kvs := by
  have e := (Sx.new (o := .dK ws) (S0.ow _ (getE hk)).2.1).ex
  exact ⟨_, S0.keepAt hk, e, q, ws, rfl, Rd.of upd_same, r.up e⟩
theorem rdt_keep {q : Addr} {ws : List (List Key × V)} {kvs : List (List Int × α)} (S0 : Stt E own B H) (hk : own[k]? = some (q, .dT ws)) (r : pT R B ws kvs) : ∃ B', Stt E (own.eraseIdx k) B' H ∧ Ex B B' ∧ (rDT R).r B' (.ref q) kvs := by
  have e := (Sx.new (o := .dT ws) (S0.ow _ (getE hk)).2.1).ex
  exact ⟨_, S0.keepAt hk, e, q, ws, rfl, Rd.of upd_same, r.up e⟩
def pick (own : Own) : List Nat → Own
  | [] => []
  | i :: is => (match own[i]? with | some q => q :: pick own is | none => pick own is)
theorem pick_mem {own : Own} {q : Addr × HO} : ∀ {is : List Nat}, q ∈ pick own is → ∃ i ∈ is, own[i]? = some q
  | i :: is, h => by
    unfold pick at h
    split at h
    · rename_i r hr
      rcases List.mem_cons.mp h with rfl | h
      · exact ⟨i, List.mem_cons_self .., hr⟩
      · obtain ⟨j, hj, e⟩ := pick_mem h
        exact ⟨j, List.mem_cons_of_mem _ hj, e⟩
    · obtain ⟨j, hj, e⟩ := pick_mem h
      exact ⟨j, List.mem_cons_of_mem _ hj, e⟩
theorem pick_nd {own : Own} (nd : (own.map (·.1)).Nodup) : ∀ {is : List Nat}, is.Nodup → ((pick own is).map (·.1)).Nodup
  | [], _ => List.nodup_nil
  | i :: is, h => by
    obtain ⟨h1, h2⟩ := List.nodup_cons.mp h
    unfold pick
    split
    · rename_i r hr
      rw [List.map_cons]
      refine List.nodup_cons.mpr ⟨fun z => ?_, pick_nd nd h2⟩
      obtain ⟨s, hs, es⟩ := List.mem_map.mp z
      obtain ⟨j, hj, ej⟩ := pick_mem hs
      have hi := List.getElem?_eq_some_iff.mp hr
      have hj' := List.getElem?_eq_some_iff.mp ej
      obtain ⟨i1, i2⟩ := hi
      obtain ⟨j1, j2⟩ := hj'
      have e1 : (own.map (·.1))[j]'(by rw [List.length_map]; exact j1) = (own.map (·.1))[i]'(by rw [List.length_map]; exact i1) := by
        rw [List.getElem_map, List.getElem_map, i2, j2, es]
      have e2 := (List.getElem_inj nd).mp e1
      subst e2
      exact h1 hj
    · exact pick_nd nd h2
theorem Stt.pick (is : List Nat) (S0 : Stt E own B H) (hn : is.Nodup := by decide) : Stt E (Sg.pick own is) B H := S0.sub (fun q hq => by
  obtain ⟨i, _, e⟩ := pick_mem hq
  exact List.mem_of_getElem? e) (pick_nd S0.nd hn)
/-! something where something or nothing is -/
theorem ev_unopt {y : Option α} (h : EvB X E own B H σ e (rOpt R) y) (hy : y = some x) : EvB X E own B H σ e R x := fun B1 H1 S1 e1 e2 Q q => h B1 H1 S1 e1 e2 Q fun v B2 H2 S2 e3 e4 r => q v B2 H2 S2 e3 e4 (by subst hy; exact r.2)
theorem ee_unopt {y : Option α} (h : EvE X E own B H σ e (rOpt R) y) (hy : y = some x) : EvE X E own B H σ e R x := fun B1 H1 S1 e1 e2 Q q => h B1 H1 S1 e1 e2 Q fun v B2 H2 S2 e3 e4 r => q v B2 H2 S2 e3 e4 (by subst hy; exact r.2)
theorem ev_ifeP {x' : α} (hc : EvT X E own B H σ c z) (h1 : EvB X E own B H σ a R x) (h2 : EvB X E own B H σ b R x') : EvB X E own B H σ (.IfExp c a b pos) R (if z = true then x else x') :=
  ev_ife hc (fun hz => by rw [if_pos hz]; exact h1) (fun hz => by rw [if_neg (by rw [hz]; exact Bool.false_ne_true)]; exact h2)
/-! a join behind an if -/
theorem WSs.nxm {st : List Stmt} {nx' : L2.St → Hp → Prop} (h : WSs X st { D with nx := nx' } σ H) (f : ∀ σ H, nx' σ H → D.nx σ H) : WSs X st D σ H := fun pins s I =>
  wpAny_mono (h pins s I) (fun fl s' q => by
    cases fl with
    | next =>
      obtain ⟨σ2, H2, I2, q⟩ := q
      exact ⟨σ2, H2, I2, f _ _ q⟩
    | cont => exact q
    | brk => exact q
    | ret u => exact q) fun _ _ q => q
theorem s_ifJ {m1 m2 : Res τ} {kn : τ → Res ρ} (S0 : Stt E own B H) (hc : EvT X E own B H σ c z) (F : Fin P Er ((if z = true then m1 else m2).bind kn)) (Inv : τ → L2.St → Own → Hp → Prop)
    (h1 : z = true → ∀ B' H', Stt E own B' H' → Ex B B' → ∀ Q : τ → Prop, Fin Q Er m1 → WSs X body { D with nx := TurnE E B' Q Inv } σ H')
    (h2 : z = false → ∀ B' H', Stt E own B' H' → Ex B B' → ∀ Q : τ → Prop, Fin Q Er m2 → WSs X other { D with nx := TurnE E B' Q Inv } σ H')
    (hd : ∀ a σ' own' B' H', Inv a σ' own' B' → Stt E own' B' H' → Ex B B' → Fin P Er (kn a) → WSs X rest D σ' H') : WSs X (.If c body other pos :: rest) D σ H :=
  s_if S0 hc (fun hz B' H' S' e' => WSs.nxm (D := { D with nx := WSs X rest D }) (h1 hz B' H' S' e' _ (Fin.bind (by rw [if_pos hz] at F; exact F))) fun σ2 H2 ⟨a', own2, B2, q1, q2, q3, q4⟩ => hd a' σ2 own2 B2 H2 q4 q2 (e'.trans q3) q1)
    (fun hz B' H' S' e' => WSs.nxm (D := { D with nx := WSs X rest D }) (h2 hz B' H' S' e' _ (Fin.bind (by rw [if_neg (by rw [hz]; exact Bool.false_ne_true)] at F; exact F))) fun σ2 H2 ⟨a', own2, B2, q1, q2, q3, q4⟩ => hd a' σ2 own2 B2 H2 q4 q2 (e'.trans q3) q1)
/-! a, b = e -/
theorem s_unp2 {q : α × β} {n1 n2 : Str} {i1 i2 : Nat} {p1 p2 tp : Pos} {kk : Nat} (C : Cok X k) (L1 : Slot X i1 n1) (L2' : Slot X i2 n2) (S0 : Stt E own B H) (he : EvE X E own B H σ e (rPr R S) q)
    (kt : ∀ v w B' H', Stt E own B' H' → Ex B B' → R.r B' v q.1 → S.r B' w q.2 → WSs X rest D ((σ.set i1 (some v)).set i2 (some w)) H')
    (hs : swapsWithSole [.Tuple [.Name n1 p1, .Name n2 p2] kk tp] e pos.line X.env = pure false := by rfl) (hw : swappedStores [.Tuple [.Name n1 p1, .Name n2 p2] kk tp] e X.env = pure none := by rfl) :
    WSs X (.Assign [.Tuple [.Name n1 p1, .Name n2 p2] kk tp] e pos :: rest) D σ H :=
  WSs.cons (ps_asg peW (pg_tup (n := 2) C.calm (pgs_cons (pg_name (i := i1) C.nd L1.ix L1.loc L1.hf) (pgs_cons (pg_name (i := i2) C.nd L2'.ix L2'.loc L2'.hf) pgs_nil))) hs hw) (he B H S0 (Ex.refl _) (Ex.refl _) _ fun v B2 H2 S2 e1 _ r => by
    obtain ⟨l, a, b, h1, h2, h3, h4⟩ := r
    exact ⟨l, [a, b], h1, SqT.of (S2.bh _ _ h2), rfl, a, [b], rfl, b, [], rfl, rfl, kt a b B2 H2 S2 e1 h3 h4⟩)
/-! three, four -/
def rT3 (R : Rel α) (S : Rel β) (T : Rel γ) : Rel (α × β × γ) := ⟨fun H v x => ∃ p a b c, v = .ref p ∧ H p = some (.tup [a, b, c]) ∧ R.r H a x.1 ∧ S.r H b x.2.1 ∧ T.r H c x.2.2, fun e ⟨p, a, b, c, h1, h2, h3, h4, h5⟩ => ⟨p, a, b, c, h1, e.tup h2, R.mono e h3, S.mono e h4, T.mono e h5⟩⟩
def rT4 (R : Rel α) (S : Rel β) (T : Rel γ) (U : Rel δ) : Rel (α × β × γ × δ) := ⟨fun H v x => ∃ p a b c d, v = .ref p ∧ H p = some (.tup [a, b, c, d]) ∧ R.r H a x.1 ∧ S.r H b x.2.1 ∧ T.r H c x.2.2.1 ∧ U.r H d x.2.2.2, fun e ⟨p, a, b, c, d, h1, h2, h3, h4, h5, h6⟩ => ⟨p, a, b, c, d, h1, e.tup h2, R.mono e h3, S.mono e h4, T.mono e h5, U.mono e h6⟩⟩
instance [Imm R] [Imm S] [Imm T] : Imm (rT3 R S T) := ⟨fun e ⟨p, a, b, c, h1, h2, h3, h4, h5⟩ => ⟨p, a, b, c, h1, e _ _ h2, Imm.imm e h3, Imm.imm e h4, Imm.imm e h5⟩⟩
instance [Imm R] [Imm S] [Imm T] [Imm U] : Imm (rT4 R S T U) := ⟨fun e ⟨p, a, b, c, d, h1, h2, h3, h4, h5, h6⟩ => ⟨p, a, b, c, d, h1, e _ _ h2, Imm.imm e h3, Imm.imm e h4, Imm.imm e h5, Imm.imm e h6⟩⟩
instance : NN (rT3 R S T) := ⟨fun ⟨p, a, b, c, h1, _⟩ => by rw [h1]; exact fun q => by cases q⟩
instance : NN (rT4 R S T U) := ⟨fun ⟨p, a, b, c, d, h1, _⟩ => by rw [h1]; exact fun q => by cases q⟩
theorem ee_t3 {x1} {u : γ} (ha : EvE X E own B H σ a R x) (hb : EvE X E own B H σ b S y) (hc : EvE X E own B H σ c T u) (hs1 : starEach (a :: [b, c]) X.env = (false, eval a X.env) :: starEach [b, c] X.env := by rfl) (hs2 : starEach (b :: [c]) X.env = (false, eval b X.env) :: starEach [c] X.env := by rfl) (hs3 : St1 X c := by rfl) : EvE X E own B H σ (.Tuple [a, b, c] x1 pos) (rT3 R S T) (x, y, u) := fun B1 H1 S1 e1 e2 Q k =>
  WE.of (pe_tup (pa_cons peW (pa_cons peW (pa_cons peW pa_nil hs3) hs2) hs1)) (ha B1 H1 S1 e1 e2 _ fun v B2 H2 S2 e3 e4 r => hb B2 H2 S2 (e1.trans e3) (e2.trans e4) _ fun w B3 H3 S3 e5 e6 s => hc B3 H3 S3 ((e1.trans e3).trans e5) ((e2.trans e4).trans e6) _ fun w2 B4 H4 S4 e7 e8 t =>
    ⟨by show 3 ≤ sizeLine; decide, fun p hp => k (.ref p) _ _ (S4.lay hp) (((e3.trans e5).trans e7).trans (S4.layB hp).ex) (((e4.trans e6).trans e8).trans (Sx.new hp).ex) ⟨p, v, w, w2, rfl, upd_same, R.mono ((e5.trans e7).trans (S4.layB hp).ex) r, S.mono (e7.trans (S4.layB hp).ex) s, T.mono (S4.layB hp).ex t⟩⟩)
theorem ee_t4 {x1} {u : γ} {u2 : δ} (ha : EvE X E own B H σ a R x) (hb : EvE X E own B H σ b S y) (hc : EvE X E own B H σ c T u) (hd : EvE X E own B H σ d U u2) (hs1 : starEach (a :: [b, c, d]) X.env = (false, eval a X.env) :: starEach [b, c, d] X.env := by rfl) (hs2 : starEach (b :: [c, d]) X.env = (false, eval b X.env) :: starEach [c, d] X.env := by rfl) (hs3 : starEach (c :: [d]) X.env = (false, eval c X.env) :: starEach [d] X.env := by rfl) (hs4 : St1 X d := by rfl) : EvE X E own B H σ (.Tuple [a, b, c, d] x1 pos) (rT4 R S T U) (x, y, u, u2) := fun B1 H1 S1 e1 e2 Q k =>
  WE.of (pe_tup (pa_cons peW (pa_cons peW (pa_cons peW (pa_cons peW pa_nil hs4) hs3) hs2) hs1)) (ha B1 H1 S1 e1 e2 _ fun v B2 H2 S2 e3 e4 r => hb B2 H2 S2 (e1.trans e3) (e2.trans e4) _ fun w B3 H3 S3 e5 e6 s => hc B3 H3 S3 ((e1.trans e3).trans e5) ((e2.trans e4).trans e6) _ fun w2 B4 H4 S4 e7 e8 t => hd B4 H4 S4 (((e1.trans e3).trans e5).trans e7) (((e2.trans e4).trans e6).trans e8) _ fun w3 B5 H5 S5 e9 e10 t2 =>
    ⟨by show 4 ≤ sizeLine; decide, fun p hp => k (.ref p) _ _ (S5.lay hp) ((((e3.trans e5).trans e7).trans e9).trans (S5.layB hp).ex) ((((e4.trans e6).trans e8).trans e10).trans (Sx.new hp).ex) ⟨p, v, w, w2, w3, rfl, upd_same, R.mono (((e5.trans e7).trans e9).trans (S5.layB hp).ex) r, S.mono ((e7.trans e9).trans (S5.layB hp).ex) s, T.mono (e9.trans (S5.layB hp).ex) t, U.mono (S5.layB hp).ex t2⟩⟩)
theorem ev_t30 {q : α × β × γ} {kk} {pp : Pos} (ho : EvB X E own B H σ o (rT3 R S T) q) : EvB X E own B H σ (.Subscript o (.Constant (.int 0) kk pp) pos) R q.1 := fun B1 H1 S1 e1 e2 Q k =>
  WE.of (pe_ix ix_tup peW pe_int (fun _ _ => rfl)) (ho B1 H1 S1 e1 e2 _ fun v B2 H2 S2 e3 e4 r => by
    obtain ⟨l, c, d, e, h1, h2, h3, h4, h5⟩ := r
    exact ⟨l, [c, d, e], 0, c, h1, rfl, SqT.of h2, rfl, k c B2 H2 S2 e3 e4 h3⟩)
theorem ev_t31 {q : α × β × γ} {kk} {pp : Pos} (ho : EvB X E own B H σ o (rT3 R S T) q) : EvB X E own B H σ (.Subscript o (.Constant (.int 1) kk pp) pos) S q.2.1 := fun B1 H1 S1 e1 e2 Q k =>
  WE.of (pe_ix ix_tup peW pe_int (fun _ _ => rfl)) (ho B1 H1 S1 e1 e2 _ fun v B2 H2 S2 e3 e4 r => by
    obtain ⟨l, c, d, e, h1, h2, h3, h4, h5⟩ := r
    exact ⟨l, [c, d, e], 1, d, h1, rfl, SqT.of h2, rfl, k d B2 H2 S2 e3 e4 h4⟩)
theorem ev_t32 {q : α × β × γ} {kk} {pp : Pos} (ho : EvB X E own B H σ o (rT3 R S T) q) : EvB X E own B H σ (.Subscript o (.Constant (.int 2) kk pp) pos) T q.2.2 := fun B1 H1 S1 e1 e2 Q k =>
  WE.of (pe_ix ix_tup peW pe_int (fun _ _ => rfl)) (ho B1 H1 S1 e1 e2 _ fun v B2 H2 S2 e3 e4 r => by
    obtain ⟨l, c, d, e, h1, h2, h3, h4, h5⟩ := r
    exact ⟨l, [c, d, e], 2, e, h1, rfl, SqT.of h2, rfl, k e B2 H2 S2 e3 e4 h5⟩)
theorem ev_t40 {q : α × β × γ × δ} {kk} {pp : Pos} (ho : EvB X E own B H σ o (rT4 R S T U) q) : EvB X E own B H σ (.Subscript o (.Constant (.int 0) kk pp) pos) R q.1 := fun B1 H1 S1 e1 e2 Q k =>
  WE.of (pe_ix ix_tup peW pe_int (fun _ _ => rfl)) (ho B1 H1 S1 e1 e2 _ fun v B2 H2 S2 e3 e4 r => by
    obtain ⟨l, c, d, e, f, h1, h2, h3, h4, h5, h6⟩ := r
    exact ⟨l, [c, d, e, f], 0, c, h1, rfl, SqT.of h2, rfl, k c B2 H2 S2 e3 e4 h3⟩)
theorem ev_t41 {q : α × β × γ × δ} {kk} {pp : Pos} (ho : EvB X E own B H σ o (rT4 R S T U) q) : EvB X E own B H σ (.Subscript o (.Constant (.int 1) kk pp) pos) S q.2.1 := fun B1 H1 S1 e1 e2 Q k =>
  WE.of (pe_ix ix_tup peW pe_int (fun _ _ => rfl)) (ho B1 H1 S1 e1 e2 _ fun v B2 H2 S2 e3 e4 r => by
    obtain ⟨l, c, d, e, f, h1, h2, h3, h4, h5, h6⟩ := r
    exact ⟨l, [c, d, e, f], 1, d, h1, rfl, SqT.of h2, rfl, k d B2 H2 S2 e3 e4 h4⟩)
theorem ev_t42 {q : α × β × γ × δ} {kk} {pp : Pos} (ho : EvB X E own B H σ o (rT4 R S T U) q) : EvB X E own B H σ (.Subscript o (.Constant (.int 2) kk pp) pos) T q.2.2.1 := fun B1 H1 S1 e1 e2 Q k =>
  WE.of (pe_ix ix_tup peW pe_int (fun _ _ => rfl)) (ho B1 H1 S1 e1 e2 _ fun v B2 H2 S2 e3 e4 r => by
    obtain ⟨l, c, d, e, f, h1, h2, h3, h4, h5, h6⟩ := r
    exact ⟨l, [c, d, e, f], 2, e, h1, rfl, SqT.of h2, rfl, k e B2 H2 S2 e3 e4 h5⟩)
theorem ev_t43 {q : α × β × γ × δ} {kk} {pp : Pos} (ho : EvB X E own B H σ o (rT4 R S T U) q) : EvB X E own B H σ (.Subscript o (.Constant (.int 3) kk pp) pos) U q.2.2.2 := fun B1 H1 S1 e1 e2 Q k =>
  WE.of (pe_ix ix_tup peW pe_int (fun _ _ => rfl)) (ho B1 H1 S1 e1 e2 _ fun v B2 H2 S2 e3 e4 r => by
    obtain ⟨l, c, d, e, f, h1, h2, h3, h4, h5, h6⟩ := r
    exact ⟨l, [c, d, e, f], 3, f, h1, rfl, SqT.of h2, rfl, k f B2 H2 S2 e3 e4 h6⟩)
theorem ee_fst {q : α × β} {kk} {pp : Pos} (ho : EvE X E own B H σ o (rPr R S) q) : EvE X E own B H σ (.Subscript o (.Constant (.int 0) kk pp) pos) R q.1 := fun B1 H1 S1 e1 e2 Q k =>
  WE.of (pe_ix ix_tup peW pe_int (fun _ _ => rfl)) (ho B1 H1 S1 e1 e2 _ fun v B2 H2 S2 e3 e4 r => by
    obtain ⟨l, c, d, h1, h2, h3, h4⟩ := r
    exact ⟨l, [c, d], 0, c, h1, rfl, SqT.of (S2.bh _ _ h2), rfl, k c B2 H2 S2 e3 e4 h3⟩)
theorem ee_snd {q : α × β} {kk} {pp : Pos} (ho : EvE X E own B H σ o (rPr R S) q) : EvE X E own B H σ (.Subscript o (.Constant (.int 1) kk pp) pos) S q.2 := fun B1 H1 S1 e1 e2 Q k =>
  WE.of (pe_ix ix_tup peW pe_int (fun _ _ => rfl)) (ho B1 H1 S1 e1 e2 _ fun v B2 H2 S2 e3 e4 r => by
    obtain ⟨l, c, d, h1, h2, h3, h4⟩ := r
    exact ⟨l, [c, d], 1, d, h1, rfl, SqT.of (S2.bh _ _ h2), rfl, k d B2 H2 S2 e3 e4 h4⟩)
theorem ee_t30 {q : α × β × γ} {kk} {pp : Pos} (ho : EvE X E own B H σ o (rT3 R S T) q) : EvE X E own B H σ (.Subscript o (.Constant (.int 0) kk pp) pos) R q.1 := fun B1 H1 S1 e1 e2 Q k =>
  WE.of (pe_ix ix_tup peW pe_int (fun _ _ => rfl)) (ho B1 H1 S1 e1 e2 _ fun v B2 H2 S2 e3 e4 r => by
    obtain ⟨l, c, d, e, h1, h2, h3, h4, h5⟩ := r
    exact ⟨l, [c, d, e], 0, c, h1, rfl, SqT.of (S2.bh _ _ h2), rfl, k c B2 H2 S2 e3 e4 h3⟩)
theorem ee_t31 {q : α × β × γ} {kk} {pp : Pos} (ho : EvE X E own B H σ o (rT3 R S T) q) : EvE X E own B H σ (.Subscript o (.Constant (.int 1) kk pp) pos) S q.2.1 := fun B1 H1 S1 e1 e2 Q k =>
  WE.of (pe_ix ix_tup peW pe_int (fun _ _ => rfl)) (ho B1 H1 S1 e1 e2 _ fun v B2 H2 S2 e3 e4 r => by
    obtain ⟨l, c, d, e, h1, h2, h3, h4, h5⟩ := r
    exact ⟨l, [c, d, e], 1, d, h1, rfl, SqT.of (S2.bh _ _ h2), rfl, k d B2 H2 S2 e3 e4 h4⟩)
theorem ee_t32 {q : α × β × γ} {kk} {pp : Pos} (ho : EvE X E own B H σ o (rT3 R S T) q) : EvE X E own B H σ (.Subscript o (.Constant (.int 2) kk pp) pos) T q.2.2 := fun B1 H1 S1 e1 e2 Q k =>
  WE.of (pe_ix ix_tup peW pe_int (fun _ _ => rfl)) (ho B1 H1 S1 e1 e2 _ fun v B2 H2 S2 e3 e4 r => by
    obtain ⟨l, c, d, e, h1, h2, h3, h4, h5⟩ := r
    exact ⟨l, [c, d, e], 2, e, h1, rfl, SqT.of (S2.bh _ _ h2), rfl, k e B2 H2 S2 e3 e4 h5⟩)
theorem ee_t40 {q : α × β × γ × δ} {kk} {pp : Pos} (ho : EvE X E own B H σ o (rT4 R S T U) q) : EvE X E own B H σ (.Subscript o (.Constant (.int 0) kk pp) pos) R q.1 := fun B1 H1 S1 e1 e2 Q k =>
  WE.of (pe_ix ix_tup peW pe_int (fun _ _ => rfl)) (ho B1 H1 S1 e1 e2 _ fun v B2 H2 S2 e3 e4 r => by
    obtain ⟨l, c, d, e, f, h1, h2, h3, h4, h5, h6⟩ := r
    exact ⟨l, [c, d, e, f], 0, c, h1, rfl, SqT.of (S2.bh _ _ h2), rfl, k c B2 H2 S2 e3 e4 h3⟩)
theorem ee_t41 {q : α × β × γ × δ} {kk} {pp : Pos} (ho : EvE X E own B H σ o (rT4 R S T U) q) : EvE X E own B H σ (.Subscript o (.Constant (.int 1) kk pp) pos) S q.2.1 := fun B1 H1 S1 e1 e2 Q k =>
  WE.of (pe_ix ix_tup peW pe_int (fun _ _ => rfl)) (ho B1 H1 S1 e1 e2 _ fun v B2 H2 S2 e3 e4 r => by
    obtain ⟨l, c, d, e, f, h1, h2, h3, h4, h5, h6⟩ := r
    exact ⟨l, [c, d, e, f], 1, d, h1, rfl, SqT.of (S2.bh _ _ h2), rfl, k d B2 H2 S2 e3 e4 h4⟩)
theorem ee_t42 {q : α × β × γ × δ} {kk} {pp : Pos} (ho : EvE X E own B H σ o (rT4 R S T U) q) : EvE X E own B H σ (.Subscript o (.Constant (.int 2) kk pp) pos) T q.2.2.1 := fun B1 H1 S1 e1 e2 Q k =>
  WE.of (pe_ix ix_tup peW pe_int (fun _ _ => rfl)) (ho B1 H1 S1 e1 e2 _ fun v B2 H2 S2 e3 e4 r => by
    obtain ⟨l, c, d, e, f, h1, h2, h3, h4, h5, h6⟩ := r
    exact ⟨l, [c, d, e, f], 2, e, h1, rfl, SqT.of (S2.bh _ _ h2), rfl, k e B2 H2 S2 e3 e4 h5⟩)
theorem ee_t43 {q : α × β × γ × δ} {kk} {pp : Pos} (ho : EvE X E own B H σ o (rT4 R S T U) q) : EvE X E own B H σ (.Subscript o (.Constant (.int 3) kk pp) pos) U q.2.2.2 := fun B1 H1 S1 e1 e2 Q k =>
  WE.of (pe_ix ix_tup peW pe_int (fun _ _ => rfl)) (ho B1 H1 S1 e1 e2 _ fun v B2 H2 S2 e3 e4 r => by
    obtain ⟨l, c, d, e, f, h1, h2, h3, h4, h5, h6⟩ := r
    exact ⟨l, [c, d, e, f], 3, f, h1, rfl, SqT.of (S2.bh _ _ h2), rfl, k f B2 H2 S2 e3 e4 h6⟩)
theorem s_unp3 {q : α × β × γ} {n1 n2 n3 : Str} {i1 i2 i3 : Nat} {p1 p2 p3 tp : Pos} {kk : Nat} (C : Cok X k) (L1 : Slot X i1 n1) (L2' : Slot X i2 n2) (L3 : Slot X i3 n3) (S0 : Stt E own B H) (he : EvE X E own B H σ e (rT3 R S T) q)
    (kt : ∀ v w u B' H', Stt E own B' H' → Ex B B' → R.r B' v q.1 → S.r B' w q.2.1 → T.r B' u q.2.2 → WSs X rest D (((σ.set i1 (some v)).set i2 (some w)).set i3 (some u)) H')
    (hs : swapsWithSole [.Tuple [.Name n1 p1, .Name n2 p2, .Name n3 p3] kk tp] e pos.line X.env = pure false := by rfl) (hw : swappedStores [.Tuple [.Name n1 p1, .Name n2 p2, .Name n3 p3] kk tp] e X.env = pure none := by rfl) :
    WSs X (.Assign [.Tuple [.Name n1 p1, .Name n2 p2, .Name n3 p3] kk tp] e pos :: rest) D σ H :=
  WSs.cons (ps_asg peW (pg_tup (n := 3) C.calm (pgs_cons (pg_name (i := i1) C.nd L1.ix L1.loc L1.hf) (pgs_cons (pg_name (i := i2) C.nd L2'.ix L2'.loc L2'.hf) (pgs_cons (pg_name (i := i3) C.nd L3.ix L3.loc L3.hf) pgs_nil)))) hs hw) (he B H S0 (Ex.refl _) (Ex.refl _) _ fun v B2 H2 S2 e1 _ r => by
    obtain ⟨l, a, b, c, h1, h2, h3, h4, h5⟩ := r
    exact ⟨l, [a, b, c], h1, SqT.of (S2.bh _ _ h2), rfl, a, [b, c], rfl, b, [c], rfl, c, [], rfl, rfl, kt a b c B2 H2 S2 e1 h3 h4 h5⟩)
theorem s_unp4 {q : α × β × γ × δ} {n1 n2 n3 n4 : Str} {i1 i2 i3 i4 : Nat} {p1 p2 p3 p4 tp : Pos} {kk : Nat} (C : Cok X k) (L1 : Slot X i1 n1) (L2' : Slot X i2 n2) (L3 : Slot X i3 n3) (L4 : Slot X i4 n4) (S0 : Stt E own B H) (he : EvE X E own B H σ e (rT4 R S T U) q)
    (kt : ∀ v w u u2 B' H', Stt E own B' H' → Ex B B' → R.r B' v q.1 → S.r B' w q.2.1 → T.r B' u q.2.2.1 → U.r B' u2 q.2.2.2 → WSs X rest D ((((σ.set i1 (some v)).set i2 (some w)).set i3 (some u)).set i4 (some u2)) H')
    (hs : swapsWithSole [.Tuple [.Name n1 p1, .Name n2 p2, .Name n3 p3, .Name n4 p4] kk tp] e pos.line X.env = pure false := by rfl) (hw : swappedStores [.Tuple [.Name n1 p1, .Name n2 p2, .Name n3 p3, .Name n4 p4] kk tp] e X.env = pure none := by rfl) :
    WSs X (.Assign [.Tuple [.Name n1 p1, .Name n2 p2, .Name n3 p3, .Name n4 p4] kk tp] e pos :: rest) D σ H :=
  WSs.cons (ps_asg peW (pg_tup (n := 4) C.calm (pgs_cons (pg_name (i := i1) C.nd L1.ix L1.loc L1.hf) (pgs_cons (pg_name (i := i2) C.nd L2'.ix L2'.loc L2'.hf) (pgs_cons (pg_name (i := i3) C.nd L3.ix L3.loc L3.hf) (pgs_cons (pg_name (i := i4) C.nd L4.ix L4.loc L4.hf) pgs_nil))))) hs hw) (he B H S0 (Ex.refl _) (Ex.refl _) _ fun v B2 H2 S2 e1 _ r => by
    obtain ⟨l, a, b, c, d, h1, h2, h3, h4, h5, h6⟩ := r
    exact ⟨l, [a, b, c, d], h1, SqT.of (S2.bh _ _ h2), rfl, a, [b, c, d], rfl, b, [c, d], rfl, c, [d], rfl, d, [], rfl, rfl, kt a b c d B2 H2 S2 e1 h3 h4 h5 h6⟩)
def tP3 (i j l : Nat) (R : Rel α) (S : Rel β) (T : Rel γ) : α × β × γ → Hp → L2.St → L2.St → Prop := fun x B σ σ' => ∃ v w u, R.r B v x.1 ∧ S.r B w x.2.1 ∧ T.r B u x.2.2 ∧ σ' = ((σ.set i (some v)).set j (some w)).set l (some u)
theorem tg_t3 {n3 : Str} {i1 i2 i3 : Nat} {m : Str} {p1 p2 p3 : Pos} {k1 : Nat} {q : Pos} (C : Cok X k0) (L1 : Slot X i1 n) (L2' : Slot X i2 m) (L3 : Slot X i3 n3) : TgOk X E (.Tuple [.Name n p1, .Name m p2, .Name n3 p3] k1 q) (rT3 R S T) (tP3 i1 i2 i3 R S T) :=
  ⟨_, pg_tup (n := 3) C.calm (pgs_cons (pg_name (i := i1) C.nd L1.ix L1.loc L1.hf) (pgs_cons (pg_name (i := i2) C.nd L2'.ix L2'.loc L2'.hf) (pgs_cons (pg_name (i := i3) C.nd L3.ix L3.loc L3.hf) pgs_nil))), fun own B H v x σ St r Q k => by
    obtain ⟨q, a, b, c, h1, h2, h3, h4, h5⟩ := r
    exact ⟨q, [a, b, c], h1, SqT.of (St.bh _ _ h2), rfl, a, [b, c], rfl, b, [c], rfl, c, [], rfl, rfl, k _ ⟨a, b, c, h3, h4, h5, rfl⟩⟩⟩
/-! an owned list changed -/
theorem s_reverse {apos : Pos} {q : Addr} {vs : List V} (S0 : Stt E own B H) (ha : PE X a (tVar i)) (h : σ[i]? = some (some (.ref q))) (hk : own[k]? = some (q, .lst vs)) (r : Paired (R.r B) vs xs)
    (kt : ∀ H', Stt E (own.set k (q, .lst vs.reverse)) B H' → Paired (R.r B) vs.reverse xs.reverse → WSs X rest D σ H')
    (t : BmT0 X a "reverse" apos p := by exact ⟨rfl, rfl⟩) (hw : swapsWith (.Call (.Attribute a "reverse" apos) [] [] p) none pos.line X.env = pure false := by rfl) :
    WSs X (.Expr (.Call (.Attribute a "reverse" apos) [] [] p) pos :: rest) D σ H :=
  WSs.cons (ps_expr (pe_bm0 PySem.F.plainAttrs_list PySem.F.slot_list_reverse PySem.F.type_list_reverse mt_reverse ha t.1 t.2) hw) (by
    have hq := (S0.ow _ (getE hk)).2.2
    exact ⟨.ref q, h, .inl ⟨rfl, _, SqL.of hq⟩, q, vs, rfl, rfl, hq, kt _ (S0.put hk fun ys z => by cases z) (prev r)⟩)
theorem s_clear {apos : Pos} {q : Addr} {vs : List V} (S0 : Stt E own B H) (ha : PE X a (tVar i)) (h : σ[i]? = some (some (.ref q))) (hk : own[k]? = some (q, .lst vs)) (r : Paired (R.r B) vs xs)
    (kt : ∀ H', Stt E (own.set k (q, .lst [])) B H' → Paired (R.r B) [] [] → WSs X rest D σ H')
    (t : BmT0 X a "clear" apos p := by exact ⟨rfl, rfl⟩) (hw : swapsWith (.Call (.Attribute a "clear" apos) [] [] p) none pos.line X.env = pure false := by rfl) :
    WSs X (.Expr (.Call (.Attribute a "clear" apos) [] [] p) pos :: rest) D σ H :=
  WSs.cons (ps_expr (pe_bm0 PySem.F.plainAttrs_list PySem.F.slot_list_clear PySem.F.type_list_clear mt_clear ha t.1 t.2) hw) (by
    have hq := (S0.ow _ (getE hk)).2.2
    exact ⟨.ref q, h, .inl ⟨rfl, _, SqL.of hq⟩, q, vs, rfl, rfl, hq, kt _ (S0.put hk fun ys z => by cases z) .nil⟩)
end
end Sg

namespace Sg
open PySem PySem.Spec PyProof.Rows L2
/-! a block over a dict: the dict is locked, the block runs as a call would -/
def lkB (d : Addr) (f : HO) (B : Hp) : Hp := fun a => if a = d then (B d).map (fun _ => f) else B a
def unB (d : Addr) (B1 B3 : Hp) : Hp := fun a => if a = d then B1 d else B3 a
theorem lkB_ne {d a : Addr} {f : HO} {B : Hp} (h : a ≠ d) : lkB d f B a = B a := if_neg h
theorem lkB_at {d : Addr} {f : HO} {B : Hp} : lkB d f B d = (B d).map (fun _ => f) := if_pos rfl
theorem unB_ne {d a : Addr} {B1 B3 : Hp} (h : a ≠ d) : unB d B1 B3 a = B3 a := if_neg h
theorem unB_at {d : Addr} {B1 B3 : Hp} : unB d B1 B3 d = B1 d := if_pos rfl
section
variable {X Xb : Cx} {E : Ent} {own new own' : Own} {B H B' H' : Hp} {σ : L2.St} {α β γ δ τ ρ ρ' : Type} {R : Rel α} {S : Rel β} {T : Rel γ} {U : Rel δ} {e a b c d o it tg elt : Expr} {x : α} {y : β} {p pos pos' apos : Pos} {i j k k0 : Nat} {z w : Bool} {xs : List α} {ys : List β} {es : List Expr}
variable {n m : Str} {rest body other : List Stmt} {D : Ends} {P : ρ → Prop} {Er : Err → Prop} {scope sc : Scope} {N : List Str} {t : List (Str × NameKind)} {kd : NameKind}
theorem lk_enter {q : Addr} {ws : List (Key × V)} {ob : Obj} (S1 : Stt E own B H) (h : H q = some (.dK ws)) : Stt ⟨lkB q (.frz ob (.dK ws)) B, upd H q (.frz ob (.dK ws))⟩ [] (lkB q (.frz ob (.dK ws)) B) (upd H q (.frz ob (.dK ws))) :=
  Stt.enter (fun a u e => by
    by_cases ha : a = q
    · subst ha
      rw [lkB_at] at e
      rw [upd_same]
      cases hb : B a with
      | none => rw [hb] at e; cases e
      | some v => rw [hb] at e; exact e
    · rw [lkB_ne ha] at e
      rw [upd_ne ha]
      exact S1.bh a u e) fun a ys e => by
    by_cases ha : a = q
    · subst ha
      rw [upd_same] at e
      cases e
    · rw [upd_ne ha] at e
      rw [lkB_ne ha]
      exact S1.tu a ys e
theorem lk_exB {q : Addr} {ws : List (Key × V)} {ob : Obj} (S1 : Stt E own B H) (h : H q = some (.dK ws)) : Ex B (lkB q (.frz ob (.dK ws)) B) := fun a u e => by
  by_cases ha : a = q
  · subst ha
    have e2 := S1.bh a u e
    rw [h] at e2
    cases e2
    exact ⟨.frz ob (.dK ws), by rw [lkB_at, e] <;> rfl, rfl⟩
  · exact ⟨u, by rw [lkB_ne ha]; exact e, rfl⟩
theorem lk_exH {q : Addr} {ws : List (Key × V)} {ob : Obj} (h : H q = some (.dK ws)) : Ex H (upd H q (.frz ob (.dK ws))) := fun a u e => by
  by_cases ha : a = q
  · subst ha
    rw [h] at e
    cases e
    exact ⟨_, upd_same, rfl⟩
  · exact ⟨u, by rw [upd_ne ha]; exact e, rfl⟩
theorem lk_back {q : Addr} {ws : List (Key × V)} {ob : Obj} {B3 H3 : Hp} {r : Addr × HO} (S1 : Stt E own B H) (h : H q = some (.dK ws)) (S3 : Stt ⟨lkB q (.frz ob (.dK ws)) B, upd H q (.frz ob (.dK ws))⟩ [r] B3 H3) : Stt ⟨B, H⟩ [r] (unB q B B3) (upd H3 q (.dK ws)) where
  b0 := fun a u e => by
    by_cases ha : a = q
    · subst ha
      rw [unB_at]
      exact e
    · rw [unB_ne ha]
      exact S3.b0 a u (by show lkB _ _ _ _ = _; rw [lkB_ne ha]; exact e)
  h0 := fun a u e => by
    by_cases ha : a = q
    · subst ha
      have e' : H a = some u := e
      rw [h] at e'
      rw [upd_same]
      exact e'
    · rw [upd_ne ha]
      exact S3.h0 a u (by show upd _ _ _ _ = _; rw [upd_ne ha]; exact e)
  bh := fun a u e => by
    by_cases ha : a = q
    · subst ha
      rw [unB_at] at e
      have e2 := S1.bh a u e
      rw [h] at e2
      rw [upd_same]
      exact e2
    · rw [unB_ne ha] at e
      rw [upd_ne ha]
      exact S3.bh a u e
  tu := fun a ys e => by
    by_cases ha : a = q
    · subst ha
      rw [upd_same] at e
      cases e
    · rw [upd_ne ha] at e
      rw [unB_ne ha]
      exact S3.tu a ys e
  fr := fun a u e => by
    by_cases ha : a = q
    · subst ha
      rw [unB_at] at e
      exact .inl e
    · rw [unB_ne ha] at e
      rcases S3.fr a u e with z | z
      · have z' : lkB q (.frz ob (.dK ws)) B a = some u := z
        rw [lkB_ne ha] at z'
        exact .inl z'
      · have z' : upd H q (.frz ob (.dK ws)) a = Option.none := z
        rw [upd_ne ha] at z'
        exact .inr z'
  ow := fun s hs => by
    obtain ⟨h1, h2, h3⟩ := S3.ow s hs
    have h1' : upd H q (.frz ob (.dK ws)) s.1 = Option.none := h1
    have ne : s.1 ≠ q := fun z => by
      rw [z, upd_same] at h1'
      cases h1'
    rw [upd_ne ne] at h1'
    exact ⟨h1', by rw [unB_ne ne]; exact h2, by rw [upd_ne ne]; exact h3⟩
  nd := S3.nd
theorem lk_exBack {q : Addr} {ws : List (Key × V)} {ob : Obj} {B3 H3 : Hp} {own3 : Own} (S1 : Stt E own B H) (h : H q = some (.dK ws)) (S3 : Stt ⟨lkB q (.frz ob (.dK ws)) B, upd H q (.frz ob (.dK ws))⟩ own3 B3 H3) : Ex B3 (unB q B B3) := fun a u e => by
  by_cases ha : a = q
  · subst ha
    rcases S3.fr a u e with z | z
    · have z' : lkB a (.frz ob (.dK ws)) B a = some u := z
      rw [lkB_at] at z'
      cases hb : B a with
      | none => rw [hb] at z'; cases z'
      | some v =>
        rw [hb] at z'
        cases z'
        have e2 := S1.bh a v hb
        rw [h] at e2
        cases e2
        exact ⟨.dK ws, by rw [unB_at]; exact hb, rfl⟩
    · have z' : upd H a (.frz ob (.dK ws)) a = Option.none := z
      rw [upd_same] at z'
      cases z'
  · exact ⟨u, by rw [unB_ne ha]; exact e, rfl⟩
theorem WE.szI {Q : VK} (h : Szd H → WE X e σ H Q) : WE X e σ H Q := fun pins s I => h (Szd.of I) pins s I
/-- a dict that stands at one place, whoever looks -/
def EvK (X : Cx) (B H : Hp) (σ : L2.St) (e : Expr) (R : Rel α) (kvs : List (Int × α)) : Prop := ∃ q ws, (∀ H', Tx H H' → ∀ Q : VK, Q (.ref q) H' → WE X e σ H' Q) ∧ Rd H q (.dK ws) ∧ pI R H ws kvs
theorem ek_v {v : V} {kvs : List (Int × α)} (hp : PE X e (tVar i)) (h : σ[i]? = some (some v)) (r : (rDI R).r H v kvs) : EvK X B H σ e R kvs := by
  obtain ⟨q, ws, rfl, h2, h3⟩ := r
  exact ⟨q, ws, fun H' _ Q k => WE.of hp ⟨_, h, k⟩, h2, h3⟩
theorem ek_own {q : Addr} {ws : List (Key × V)} {kvs : List (Int × α)} (S0 : Stt E own B H) (hp : PE X e (tVar i)) (h : σ[i]? = some (some (.ref q))) (ho : (q, HO.dK ws) ∈ own) (r : pI R B ws kvs) : EvK X B H σ e R kvs :=
  ⟨q, ws, fun H' _ Q k => WE.of hp ⟨_, h, k⟩, Rd.of (S0.ow _ ho).2.2, r.up S0.bh.ex⟩
/-- .. at a place of a tuple -/
structure TupAt (H : Hp) (v u : V) (j : Int) : Prop where
  t : ∃ p vs, v = .ref p ∧ H p = some (.tup vs) ∧ atI vs j = some u
theorem ek_at {v u : V} {j : Nat} {kvs : List (Int × α)} {kk} {pp : Pos} (hp : PE X o (tVar i)) (h : σ[i]? = some (some v)) (ht : TupAt H v u j) (r : (rDI R).r H u kvs) : EvK X B H σ (.Subscript o (.Constant (.int j) kk pp) pos) R kvs := by
  obtain ⟨q, ws, rfl, h2, h3⟩ := r
  obtain ⟨p, vs, rfl, h5, h6⟩ := ht
  exact ⟨q, ws, fun H' tx Q k => WE.of (pe_ix ix_tup hp pe_int (fun _ _ => rfl)) ⟨_, h, p, vs, j, .ref q, rfl, rfl, SqT.of (tx _ _ h5), h6, k⟩, h2, h3⟩
theorem walk_keysE {q : Addr} {ws : List (Key × V)} {ob : Obj} {kvs : List (Int × α)} {B2 : Hp} (h : E.H0 q = some (.frz ob (.dK ws))) (r : ws.map (·.1) = (kvs.map (·.1)).map (Sum.inl (β := Str))) : Walk E KoT B2 (Itk q ob ws) rInt (kvs.map (·.1)) := by
  have hl : ws.length = (kvs.map (·.1)).length := by
    have := congrArg List.length r
    simpa using this
  refine ⟨fun i own' B' H' S' e k hi => ?_, fun i own' B' H' S' e k hi => ?_, fun i own' B' H' v H'' x S' e k hx hy => ?_⟩
  · exact ⟨S'.h0 _ _ h, by rw [hl]; exact hi⟩
  · exact ⟨S'.h0 _ _ h, by rw [hl]; exact hi⟩
  · obtain ⟨e1, kk, vv, h1, h2⟩ := hy
    subst e1
    refine ⟨B', S', Ex.refl _, Ex.refl _, ?_⟩
    have e3 : (ws.map (·.1))[i]? = some kk := by rw [List.getElem?_map, h1]; rfl
    rw [r, List.getElem?_map, hx] at e3
    have e4 : kk = Sum.inl x := (Option.some.inj e3).symm
    rw [h2, e4]
    rfl
theorem el_lcD {Tg : Int → Hp → L2.St → L2.St → Prop} {cm : Int → Res Bool} {fm : Int → Res β} {ifs : List Expr} {ownN : List (Str × Nat)} {kvs : List (Int × α)} (C : Cok X k0) (ok : BlkOk X.N X.env.scope scope ownN) (hit : EvK X B H σ it R kvs)
    (ht : ∀ Xb Eb, Blk X scope Xb → TgOk Xb Eb tg rInt Tg) (hm : mfM cm fm (kvs.map (·.1)) = .ok ys)
    (hc : ∀ (Eb : Ent) Xb x σ2 acc Dd B3 H3 b, Ex B Eb.B0 → Ex H Eb.H0 → Blk X scope Xb → Stt Eb [(Dd, .lst acc)] B3 H3 → Ex Eb.B0 B3 → Tg x B3 (wipe σ (ownN.map (·.2))) σ2 → cm x = .ok b → EvTs Xb Eb [(Dd, .lst acc)] B3 H3 σ2 ifs b)
    (he : ∀ (Eb : Ent) Xb x y σ2 acc Dd B3 H3, Ex B Eb.B0 → Ex H Eb.H0 → Blk X scope Xb → Stt Eb [(Dd, .lst acc)] B3 H3 → Ex Eb.B0 B3 → Tg x B3 (wipe σ (ownN.map (·.2))) σ2 → cm x = .ok true → fm x = .ok y → EvE Xb Eb [(Dd, .lst acc)] B3 H3 σ2 elt S y)
    (hwp : ∀ x B3 σ2, Tg x B3 (wipe σ (ownN.map (·.2))) σ2 → wipe σ2 (ownN.map (·.2)) = wipe σ (ownN.map (·.2)))
    (hup : ∀ x B3 B4 σ2, Tg x B3 (wipe σ (ownN.map (·.2))) σ2 → Ex B3 B4 → Tg x B4 (wipe σ (ownN.map (·.2))) σ2)
    (hs : ∀ x, foldedSetIterable it X.env x = pure x := by intro _; rfl) : EvL X E own B H σ (.ListComp elt [⟨tg, it, ifs, 0⟩] scope pos) S ys := fun B1 H1 S1 e1 e2 Q k => by
  obtain ⟨q, ws, hv, hq, hp⟩ := hit
  have hq1 := e2.dK hq
  have tx1 : Tx H H1 := fun a ys h => e2.tup h
  have kr := keys_rel hp
  refine WE.szI fun sz => ?_
  have hz : (kvs.map (·.1)).length ≤ sizeLine := by
    have := sz.2.2.1 _ _ hq1
    rw [List.length_map, ← plen hp]
    exact this
  rcases hq1 with hq1 | ⟨ob, hq1⟩
  · refine WE.of (pe_lock (pe_lcB C (pi_keys peW) ok hs)) ⟨q, .dK ws, hq1, trivial, fun ob => ?_⟩
    refine hv _ (fun a ys h => ?_) _ ⟨q, ob, rfl, .inl ⟨ws, upd_same, ?_⟩⟩
    · have h1 := tx1 a ys h
      rw [upd_ne fun z => by rw [z, hq1] at h1; cases h1]
      exact h1
    · have eb := e1.trans (lk_exB (ob := ob) S1 hq1)
      have eh := e2.trans (lk_exH (ob := ob) hq1)
      refine lc_read (Q := fun v H' => H' q = some (.frz ob (.dK ws)) ∧ Q v (upd H' q (.dK ws))) (lk_enter S1 hq1) (walk_keysE upd_same kr) hz (fun _ _ => trivial) (fun Xb hb => ht Xb _ hb) hm (fun Xb x σ2 acc Dd B3 H3 b hX S3 e5 => hc _ Xb x σ2 acc Dd B3 H3 b eb eh hX S3 e5) (fun Xb x y σ2 acc Dd B3 H3 hX S3 e5 => he _ Xb x y σ2 acc Dd B3 H3 eb eh hX S3 e5) hwp hup fun p us B3 H3 S3 e5 e6 r => ?_
      have T := lk_back S1 hq1 S3
      exact ⟨S3.h0 _ _ upd_same, k p us _ _ (S1.call T) T.b0.ex T.h0.ex (pimp r fun _ _ z => S.mono (lk_exBack S1 hq1 S3) z)⟩
  · refine WE.of (pe_lcB C (pi_keys peW) ok hs) (hv _ tx1 _ ⟨q, ob, rfl, .inl ⟨ws, hq1, ?_⟩⟩)
    exact lc_read (Q := Q) (Stt.enter S1.bh S1.tu) (walk_keysE hq1 kr) hz (fun _ _ => trivial) (fun Xb hb => ht Xb _ hb) hm (fun Xb x σ2 acc Dd B3 H3 b hX S3 e5 => hc _ Xb x σ2 acc Dd B3 H3 b e1 e2 hX S3 e5) (fun Xb x y σ2 acc Dd B3 H3 hX S3 e5 => he _ Xb x y σ2 acc Dd B3 H3 e1 e2 hX S3 e5) hwp hup fun p us B3 H3 S3 e5 e6 r =>
      k p us _ _ (S1.call S3) e5 e6 r
/-- y = [.. for x in d ..] on one line -/
theorem s_asgLcD {Tg : Int → Hp → L2.St → L2.St → Prop} {cm : Int → Res Bool} {fm : Int → Res β} {ifs : List Expr} {ownN : List (Str × Nat)} {kvs : List (Int × α)} (C : Cok X k0) (hy : X.N[i]? = some n) (hyl : X.env.scope.names.lookup n = some .local) (hsw : swapsWith (.ListComp elt [⟨tg, it, ifs, 0⟩] scope pos) (some (.Name n pos')) p.line X.env = pure true) (S1 : Stt E own B H)
    (ok : BlkOk X.N X.env.scope scope ownN) (hit : EvK X B H σ it R kvs)
    (ht : ∀ Xb Eb, Blk X scope Xb → TgOk Xb Eb tg rInt Tg) (hm : mfM cm fm (kvs.map (·.1)) = .ok ys)
    (hc : ∀ (Eb : Ent) Xb x σ2 acc Dd B3 H3 b, Ex B Eb.B0 → Ex H Eb.H0 → Blk X scope Xb → Stt Eb [(Dd, .lst acc)] B3 H3 → Ex Eb.B0 B3 → Tg x B3 (wipe σ (ownN.map (·.2))) σ2 → cm x = .ok b → EvTs Xb Eb [(Dd, .lst acc)] B3 H3 σ2 ifs b)
    (he : ∀ (Eb : Ent) Xb x y σ2 acc Dd B3 H3, Ex B Eb.B0 → Ex H Eb.H0 → Blk X scope Xb → Stt Eb [(Dd, .lst acc)] B3 H3 → Ex Eb.B0 B3 → Tg x B3 (wipe σ (ownN.map (·.2))) σ2 → cm x = .ok true → fm x = .ok y → EvE Xb Eb [(Dd, .lst acc)] B3 H3 σ2 elt S y)
    (hwp : ∀ x B3 σ2, Tg x B3 (wipe σ (ownN.map (·.2))) σ2 → wipe σ2 (ownN.map (·.2)) = wipe σ (ownN.map (·.2)))
    (hup : ∀ x B3 B4 σ2, Tg x B3 (wipe σ (ownN.map (·.2))) σ2 → Ex B3 B4 → Tg x B4 (wipe σ (ownN.map (·.2))) σ2)
    (kt : ∀ p vs B' H', Stt E ((p, .lst vs) :: own) B' H' → Ex B B' → Paired (S.r B') vs ys → WSs X rest D (σ.set i (some (.ref p))) H')
    (hs : ∀ x, foldedSetIterable it X.env x = pure x := by intro _; rfl) : WSs X (.Assign [.Name n pos'] (.ListComp elt [⟨tg, it, ifs, 0⟩] scope pos) p :: rest) D σ H := by
  obtain ⟨q, ws, hv, hq1, hp⟩ := hit
  have kr := keys_rel hp
  intro pins s I
  have sz := Szd.of I
  revert pins s
  have hz : (kvs.map (·.1)).length ≤ sizeLine := by
    have := sz.2.2.1 _ _ hq1
    rw [List.length_map, ← plen hp]
    exact this
  show WSs X _ D σ H
  rcases hq1 with hq1 | ⟨ob, hq1⟩
  · refine WSs.cons (ps_lock (ps_lcB C hy hyl hsw (pi_keys peW) ok hs)) ⟨q, .dK ws, hq1, trivial, fun ob => ?_⟩
    refine hv _ (fun a ys h => ?_) _ ⟨q, ob, rfl, .inl ⟨ws, upd_same, ?_⟩⟩
    · rw [upd_ne fun z => by rw [z, hq1] at h; cases h]
      exact h
    · have eb := lk_exB (ob := ob) S1 hq1
      have eh := lk_exH (ob := ob) hq1
      refine lc_read (Q := fun v H1 => H1 q = some (.frz ob (.dK ws)) ∧ WSs X rest D (σ.set i (some v)) (upd H1 q (.dK ws))) (lk_enter S1 hq1) (walk_keysE upd_same kr) hz (fun _ _ => trivial) (fun Xb hb => ht Xb _ hb) hm (fun Xb x σ2 acc Dd B3 H3 b hX S3 e5 => hc _ Xb x σ2 acc Dd B3 H3 b eb eh hX S3 e5) (fun Xb x y σ2 acc Dd B3 H3 hX S3 e5 => he _ Xb x y σ2 acc Dd B3 H3 eb eh hX S3 e5) hwp hup fun p us B3 H3 S3 e5 e6 r => ?_
      have T := lk_back S1 hq1 S3
      exact ⟨S3.h0 _ _ upd_same, kt p us _ _ (S1.call T) T.b0.ex (pimp r fun _ _ z => S.mono (lk_exBack S1 hq1 S3) z)⟩
  · refine WSs.cons (ps_lcB C hy hyl hsw (pi_keys peW) ok hs) (hv _ (fun _ _ h => h) _ ⟨q, ob, rfl, .inl ⟨ws, hq1, ?_⟩⟩)
    exact lc_read (Q := fun v H1 => WSs X rest D (σ.set i (some v)) H1) (Stt.enter S1.bh S1.tu) (walk_keysE hq1 kr) hz (fun _ _ => trivial) (fun Xb hb => ht Xb _ hb) hm (fun Xb x σ2 acc Dd B3 H3 b hX S3 e5 => hc _ Xb x σ2 acc Dd B3 H3 b (Ex.refl _) (Ex.refl _) hX S3 e5) (fun Xb x y σ2 acc Dd B3 H3 hX S3 e5 => he _ Xb x y σ2 acc Dd B3 H3 (Ex.refl _) (Ex.refl _) hX S3 e5) hwp hup fun p us B3 H3 S3 e5 e6 r =>
      kt p us _ _ (S1.call S3) e5 r
end
end Sg

namespace Sg
open PySem PySem.Spec PyProof.Rows L2
/-! list(reversed(x)): a list's own iterator taken up by list -/
structure SelfSrc (prog : Program) (w : World) (T : String) (it d : Addr) (n : Nat) (P : Nat → Value → Prop) (OK : Heap → Prop) : Prop where
  ty : ∀ s : Shared, OK s.heap → s.TypeIs (.ref it) T
  there : ∀ h : Heap, OK h → it < h.objs.size ∧ d < h.objs.size
  keep : ∀ h h' : Heap, OK h → (∀ b, b = it ∨ b = d → ∀ o, h.get? b = some o → h'.get? b = some o) → OK h'
  notList : (Value.type T == Value.type "list") = false
  notTuple : (Value.type T == Value.type "tuple") = false
  hint : ∀ (A : Around) (E : Value → Shared → Prop) (s : Shared) (Q : Bool → Shared → Prop), OK s.heap → (∀ b tk, Q b { s with toks := tk }) → wpAny (model prog w) A (Builtin.List.listLengthHint (.ref it)) Q E s
  iter : ∀ (A : Around) (E : Value → Shared → Prop) (s : Shared) (Q : Value → Shared → Prop), OK s.heap → Q (.ref it) s → wpAny (model prog w) A (pyIter (.ref it)) Q E s
  walk : ∀ A : Around, A.handled = none → ∃ (St : Nat → Heap → Prop), Walks prog w A it [it, d] [it] n P St ∧ ∀ h, OK h → St 0 h
section
variable {prog : Program} {w : World} {A : Around} {E : Value → Shared → Prop} {s : Shared} {T : String} {it d : Addr} {n : Nat} {P : Nat → Value → Prop} {OK : Heap → Prop}
theorem self_extend {R : Result → Shared → Prop} (K : SelfSrc prog w T it d n P OK) (hh : A.handled = none) (hok : OK s.heap) (S : Addr) (hSr : S ≠ it) (hSd : S ≠ d) (res : Value) (c₀ : Nat) (hS : s.heap.get? S = some { cls := .type "list", data := .seq #[] c₀ })
    (hR : ∀ h' tk acc' c', (∀ b o, b ≠ S → b ≠ it → s.heap.get? b = some o → h'.get? b = some o) → h'.get? S = some { cls := .type "list", dict := none, data := .seq acc' c', slots := #[] } → ItemsOf P acc' n → R (.ok (.ret res)) { s with heap := h', toks := tk }) (hn : n ≤ sizeLine) :
    wpAny (model prog w) A.in1 (Builtin.List.listExtendWith (.ref S) (.ref it) res)
      (fun fin s' => match fin with | .done f => R (.ok f) s' | .again c' => c'.quiet = true ∧ codeAny (model prog w) A c' R s') (fun e s' => R (.error e) s') s := by
  have hSf : S ∉ [it, d] := by simp only [List.mem_cons, List.not_mem_nil, or_false, not_or]; exact ⟨hSr, hSd⟩
  obtain ⟨St, W, st⟩ := K.walk A.in1 hh
  unfold Builtin.List.listExtendWith
  refine wpAny_bind (wpAny_typeOf (T := T) (K.ty s hok) ?_)
  have h1 : Builtin.List.listSameRef (.ref S) (.ref it) = false := by simp [Builtin.List.listSameRef, hSr]
  simp only [h1, K.notList, K.notTuple, Bool.or_false, Bool.false_eq_true, if_false]
  have key : ∀ (h : Heap) (c₁ tk : Nat), OK h → (∀ b o, b ≠ S → s.heap.get? b = some o → h.get? b = some o) →
      h.get? S = some { cls := .type "list", data := .seq #[] c₁ } → codeAny (model prog w) A (.builtin "list.extend.loop" ⟨[.ref S, .ref it, res], []⟩) R { s with heap := h, toks := tk } := by
    intro h c₁ tk hst hk hS₁
    refine codeAny_extend_loopS W.toS hn S hSf res n 0 _ #[] c₁ rfl (Nat.zero_le _) (st _ hst) hS₁ (ItemsOf.nil _) fun s' acc' c' hm hS' hacc => ?_
    rw [Moved.eq_with hm]
    refine hR s'.heap s'.toks acc' c' (fun b o hb hb2 e => hm.heap b o (fun hmem => ?_) (hk b o hb e)) hS' hacc
    rcases List.mem_cons.mp hmem with e' | hmem
    · exact hb e'
    · exact hb2 (List.mem_singleton.mp hmem)
  refine wpAny_bind (K.iter _ _ _ _ hok ?_)
  refine wpAny_bind (wpAny_holding (K.hint _ _ _ _ hok fun bb tk => ?_))
  refine wpAny_ite_split (fun _ => ?_) (fun _ => wpAny_pure ⟨plainId_quiet PySem.F.plain_extend_loop _, key _ c₀ _ hok (fun b o _ e => e) hS⟩)
  refine wpAny_bind (wpAny_rule ?_)
  refine wpAny_bind ?_
  show wpAny _ _ (updateSeq S (·.push .none) >>= fun _ => updateSeq S (·.pop)) _ _ _
  refine wpAny_bind (wpAny_updateSeq (s := { s with toks := tk }) hS rfl ?_)
  have hS₂ := Heap.get?_update_self (Obj.mapSeq (·.push Value.none)) hS rfl
  refine wpAny_updateSeq (hz := by seq_fits) hS₂ rfl ?_
  have hS₃ := Heap.get?_update_self (Obj.mapSeq (·.pop)) hS₂ rfl
  refine wpAny_pure ⟨plainId_quiet PySem.F.plain_extend_loop _, key _ _ _ (K.keep _ _ hok fun b hb o e => ?_) (fun b o hb e => ?_) hS₃⟩
  · have hbS : b ≠ S := by rcases hb with rfl | rfl; exact hSr.symm; exact hSd.symm
    exact (Heap.get?_update_other _ _ (Ne.symm hbS)).trans ((Heap.get?_update_other _ _ (Ne.symm hbS)).trans e)
  · exact (Heap.get?_update_other _ _ (Ne.symm hb)).trans ((Heap.get?_update_other _ _ (Ne.symm hb)).trans e)
theorem self_init {R : Result → Shared → Prop} (K : SelfSrc prog w T it d n P OK) (hh : A.handled = none) (hok : OK s.heap) (S : Addr) (hSr : S ≠ it) (hSd : S ≠ d) (hS : s.heap.get? S = some { cls := .type "list", data := .seq #[] })
    (hR : ∀ h' tk acc' c', (∀ b o, b ≠ S → b ≠ it → s.heap.get? b = some o → h'.get? b = some o) → h'.get? S = some { cls := .type "list", dict := none, data := .seq acc' c', slots := #[] } → ItemsOf P acc' n → R (.ok (.ret .none)) { s with heap := h', toks := tk }) (hn : n ≤ sizeLine) :
    wpAny (model prog w) A.in1 (Builtin.«list.__init__» ⟨[.ref S, .ref it], []⟩)
      (fun fin s' => match fin with | .done f => R (.ok f) s' | .again c' => c'.quiet = true ∧ codeAny (model prog w) A c' R s') (fun e s' => R (.error e) s') s := by
  show wpAny _ _ (do let old ← Builtin.List.listItems (.ref S); Builtin.List.listUpdate (.ref S) (fun _ => #[]); letGo old.toList.reverse; Builtin.List.listExtendWith (.ref S) (.ref it) .none) _ _ s
  refine wpAny_bind ?_
  unfold Builtin.List.listItems
  refine wpAny_bind (wpAny_seqItems hS rfl (wpAny_pure ?_))
  show wpAny _ _ (updateSeq S (fun _ => #[]) >>= fun _ => letGo (#[] : Array Value).toList.reverse >>= fun _ => Builtin.List.listExtendWith (.ref S) (.ref it) .none) _ _ s
  refine wpAny_bind (wpAny_updateSeq hS rfl ?_)
  have hS2 := Heap.get?_update_self (Obj.mapSeq (fun _ => (#[] : Array Value))) hS rfl
  have oth : ∀ b o, b ≠ S → s.heap.get? b = some o → (s.heap.update S (Obj.mapSeq (fun _ => (#[] : Array Value)))).get? b = some o :=
    fun b o hb e => (Heap.get?_update_other _ _ (Ne.symm hb)).trans e
  refine wpAny_bind (wpAny_letGo ?_)
  refine self_extend K hh (K.keep _ _ hok fun b hb o e => oth b o (by rcases hb with rfl | rfl; exact hSr.symm; exact hSd.symm) e) S hSr hSd .none _ hS2 (fun h' tk acc' c' hk hS' hacc => ?_) hn
  exact hR h' tk acc' c' (fun b o hb hb2 e => hk b o hb hb2 (oth b o hb e)) hS' hacc
theorem self_call {Q : Value → Shared → Prop} (K : SelfSrc prog w T it d n P OK) (hh : A.handled = none) (hok : OK s.heap) (hn : n ≤ sizeLine)
    (hQ : ∀ h' tk acc' c', (∀ b o, b ≠ it → s.heap.get? b = some o → h'.get? b = some o) → h'.get? s.heap.objs.size = some { cls := .type "list", dict := none, data := .seq acc' c', slots := #[] } → ItemsOf P acc' n → Q (.ref s.heap.objs.size) { s with heap := h', toks := tk }) :
    wpAny (model prog w) A (call (.type "list") [.ref it]) Q E s := by
  refine callType_codes (Q₁ := fun obj s₁ => obj = .ref s.heap.objs.size ∧ s₁ = { s with heap := s.heap.push { cls := .type "list", data := .seq #[] } }) PySem.F.called_list (PySem.F.typeCall_list_1 _) PySem.F.entry_list_init
    (code_list_new _ ⟨rfl, rfl⟩) fun obj s₁ h₁ => ?_
  obtain ⟨rfl, rfl⟩ := h₁
  have hS : (s.heap.push { cls := .type "list", data := .seq #[] }).get? s.heap.objs.size = some { cls := .type "list", data := .seq #[] } := Heap.get?_push_size _ rfl
  have hlt := K.there _ hok
  refine ⟨⟨_, hS, rfl⟩, PySem.F.args_list_init_2 _ _, self_init (A := A.in1) K hh (K.keep _ _ hok fun b _ o e => Heap.get?_push_of_some _ e) _ (Nat.ne_of_gt hlt.1) (Nat.ne_of_gt hlt.2) hS (fun h' tk acc' c' hk hS' hacc => ?_) hn⟩
  exact ⟨rfl, hQ h' tk acc' c' (fun b o hb e => hk b o (Nat.ne_of_lt (Heap.lt_size e)) hb (Heap.get?_push_of_some _ e)) hS' hacc⟩
theorem src_lri {l : Addr} {items : Array Value} (hne : l ≠ it) : SelfSrc prog w "list_reverseiterator" it l items.size (fun i v => items[items.size - 1 - i]? = some v) (fun h => h.IsRevIter it l ((items.size : Int) - 1) ∧ h.IsList l items) where
  ty := fun s h => h.1.typeIs
  there := fun h x => ⟨let ⟨_, e, _⟩ := x.1; Heap.lt_size e, let ⟨_, e, _⟩ := x.2; Heap.lt_size e⟩
  keep := fun h h' x k => ⟨x.1.at fun o e => k it (.inl rfl) o e, x.2.at fun o e => k l (.inr rfl) o e⟩
  notList := by decide
  notTuple := by decide
  hint := fun A E s Q x q => by
    have hT := x.1.typeIs
    unfold Builtin.List.listLengthHint
    refine wpAny_bind (wpAny_specialOf hT RT.nolen_lri ?_)
    show wpAny _ A (specialOf (Value.ref it) (Str.ofString "__length_hint__") >>= _) _ _ _
    refine wpAny_bind (wpAny_specialOf hT RT.hint_lri ?_)
    generalize hid : ("list_reverseiterator.__length_hint__" : String) = id0
    wp_delta
    rw [show splitId id0 = some ("list_reverseiterator", "__length_hint__") from by subst hid; decide +kernel]
    subst hid
    refine wpAny_bind (wpAny_isInstance (b := true) hT (by rw [isSubtype_type]; kernel_rfl) ?_)
    exact wpAny_pure (q false s.toks)
  iter := fun A E s Q x q => wpAny_pyIter_revIter x.1 q
  walk := fun A hh => ⟨_, Walks.listRev hh it l hne items, fun h x => ⟨Nat.zero_le _, by rw [show ((items.size : Nat) : Int) - 1 - ((0 : Nat) : Int) = (items.size : Int) - 1 from by omega]; exact x.1, x.2⟩⟩
theorem nolen_rt : typeLookup (.type "reversed") "__len__" = pure none := by rw [typeLookup_type, builtinLookup_eq_fast]; kernel_rfl
theorem hint_rt : typeLookup (.type "reversed") "__length_hint__" = pure (some (.builtin "reversed.__length_hint__")) := by rw [typeLookup_type, builtinLookup_eq_fast]; kernel_rfl
theorem slot_rt_hint : PySem.Slot "reversed" "__length_hint__" "reversed.__length_hint__" :=
  .of (owner := "reversed") (n := "__length_hint__") (by rw [typeLookup_type, builtinLookup_eq_fast]; kernel_rfl) (by decide +kernel) (by decide +kernel) (by decide +kernel)
    (by first | exact .inl (by decide +kernel) | exact .inr (by decide +kernel)) (by rw [isSubtype_type]; kernel_rfl)
theorem entry_rt_hint : entryFor table "reversed.__length_hint__" = some Builtin.«reversed.__length_hint__» := entryFor_of_tree (by kernel_rfl)
theorem args_rt_hint (a : Value) : argsOk "reversed.__length_hint__" ⟨[a], []⟩ := by
  unfold argsOk; rw [signature?_of (id := "reversed.__length_hint__") (n := ['_', '_', 't', 'n', 'i', 'h', '_', 'h', 't', 'g', 'n', 'e', 'l', '_', '_']) (o := ['d', 'e', 's', 'r', 'e', 'v', 'e', 'r']) (by kernel_rfl) RT.owner_rt]; kernel_rfl
theorem fits63 {n : Nat} (h : n ≤ sizeLine) : Builtin.List.listFitsIndex (n : Int) = true ∧ Builtin.List.listTooLong (n : Int).toNat = false := by
  rw [sizeLine_eq] at h
  refine ⟨?_, ?_⟩
  · unfold Builtin.List.listFitsIndex
    rw [Bool.and_eq_true]
    exact ⟨decide_eq_true (by omega), decide_eq_true (by omega)⟩
  · unfold Builtin.List.listTooLong
    rw [sizeLine_eq]
    exact decide_eq_false (by omega)
theorem walks_rt {t : Addr} {items : Array Value} (hh : A.handled = none) (hne : t ≠ it) (hn : items.size ≤ sizeLine) :
    Walks prog w A it [it, t] [it] items.size (fun i v => items[items.size - 1 - i]? = some v) (fun i h => i ≤ items.size ∧ RT.IsRt h it t ((items.size : Int) - 1 - (i : Int)) ∧ IsTup h t items) where
  sub := fun b hb => by simp at hb; simp [hb]
  frame := fun _ _ _ x hk => ⟨x.1, x.2.1.at fun o e => hk it (by simp) o e, (let ⟨o, ho, r⟩ := x.2.2; ⟨o, hk t (by simp) o ho, r⟩)⟩
  item := fun i s Q E hi x hQ => by
    have e : (items.size : Int) - 1 - (i : Int) = ((items.size - 1 - i : Nat) : Int) := by omega
    have hit := x.2.1
    rw [e] at hit
    have hx : items[items.size - 1 - i]? = some (items[items.size - 1 - i]'(by omega)) := Array.getElem?_eq_getElem (by omega)
    refine RT.next_rt_item hit x.2.2 hx hn fun h' hit' hs' => ?_
    have e2 : ((items.size - 1 - i : Nat) : Int) - 1 = (items.size : Int) - 1 - ((i + 1 : Nat) : Int) := by omega
    rw [e2] at hit'
    exact hQ _ h' _ hx ⟨hi, hit', (let ⟨o, ho, r⟩ := x.2.2; ⟨o, (hs'.2 t hne).trans ho, r⟩)⟩ fun b o hb eo => hs'.extBut b o (fun h => hb (by simp [h])) eo
  done := fun s Q E x hQ => by
    have e : (items.size : Int) - 1 - (items.size : Int) = -1 := by omega
    have hit := x.2.1
    rw [e] at hit
    exact RT.next_rt_end hh hit fun h' he' => hQ h' s.toks fun b o hb eo => he' b o (fun h => hb (by simp [h])) eo
  self := fun _ _ _ _ x hQ => RT.iter_rt x.2.1 hQ
theorem src_rt {t : Addr} {items : Array Value} (hne : t ≠ it) (hn : items.size ≤ sizeLine) : SelfSrc prog w "reversed" it t items.size (fun i v => items[items.size - 1 - i]? = some v) (fun h => RT.IsRt h it t ((items.size : Int) - 1) ∧ IsTup h t items) where
  ty := fun s h => h.1.typeIs
  there := fun h x => ⟨let ⟨_, e, _⟩ := x.1; Heap.lt_size e, let ⟨_, e, _⟩ := x.2; Heap.lt_size e⟩
  keep := fun h h' x k => ⟨x.1.at fun o e => k it (.inl rfl) o e, (let ⟨o, ho, r⟩ := x.2; ⟨o, k t (.inr rfl) o ho, r⟩)⟩
  notList := by decide
  notTuple := by decide
  hint := fun A E s Q x q => by
    have hT := x.1.typeIs
    have h1 := x.1
    unfold Builtin.List.listLengthHint
    refine wpAny_bind (wpAny_specialOf hT nolen_rt ?_)
    show wpAny _ A (specialOf (Value.ref it) (Str.ofString "__length_hint__") >>= _) _ _ _
    refine wpAny_bind (wpAny_specialOf hT hint_rt ?_)
    generalize hid : ("reversed.__length_hint__" : String) = id0
    wp_delta
    rw [show splitId id0 = some ("reversed", "__length_hint__") from by subst hid; decide +kernel]
    subst hid
    refine wpAny_bind (wpAny_isInstance (b := true) hT (by rw [isSubtype_type]; kernel_rfl) ?_)
    refine wpAny_ite_split (fun z => absurd z (by decide)) fun _ => ?_
    try dsimp only
    refine wpAny_ite_split (fun z => ?_) fun _ => ?_
    · exact absurd z (by decide)
    refine wpAny_bind (wpAny_rule ?_)
    try dsimp only
    refine wpAny_bind (wpAny_of_eq (slot_rt_hint.bind _) ?_)
    try dsimp only
    refine wpAny_bind (wpAny_attempt ?_)
    refine wpAny_call_entry slot_rt_hint hT entry_rt_hint ?_ (args_rt_hint _)
    obtain ⟨o, ho, hc, hd⟩ := id h1
    unfold Builtin.«reversed.__length_hint__»
    refine wpAny_bind (wpAny_of_eq (a := Value.ref it) rfl ?_)
    try dsimp only
    refine wpAny_bind (wpAny_field ho hd (x := .ref t) rfl ?_)
    try dsimp only
    refine wpAny_ite_split (fun z => absurd z (by simp)) fun _ => ?_
    try dsimp only
    refine wpAny_bind (PyProof.Rows.len_tuple x.2 (by rw [sizeLine_eq] at hn; have := line63; omega) ?_)
    refine wpAny_bind (wpAny_of_eq (a := some ((items.size : Nat) : Int)) rfl ?_)
    try dsimp only
    refine wpAny_bind (wpAny_field (s := { s with toks := _ }) ho hd (x := rawInt ((items.size : Int) - 1)) rfl ?_)
    show wpAny _ _ (if (items.size : Int) < (items.size : Int) - 1 + 1 then _ else _) _ _ _
    rw [if_neg (by omega)]
    refine wpAny_bind (wpAny_mkInt ?_)
    refine wpAny_pure ?_
    refine ⟨_, rfl, ?_⟩
    try dsimp only
    have en : (items.size : Int) - 1 + 1 = (items.size : Int) := by omega
    rw [en]
    generalize hk : ((items.size : Nat) : Int) = kk
    show wpAny _ _ (asInt? (.int kk _) >>= _) _ _ _
    refine wpAny_bind (wpAny_of_eq (a := some kk) rfl ?_)
    subst hk
    try dsimp only
    obtain ⟨f1, f2⟩ := fits63 hn
    rw [f1, f2, if_neg (by decide), if_neg (Int.not_lt.mpr (Int.natCast_nonneg _)), if_neg (by decide)]
    exact wpAny_pure (q _ _)
  iter := fun A E s Q x q => RT.iter_rt x.1 q
  walk := fun A hh => ⟨_, walks_rt hh hne hn, fun h x => ⟨Nat.zero_le _, by rw [show ((items.size : Nat) : Int) - 1 - ((0 : Nat) : Int) = (items.size : Int) - 1 from by omega]; exact x.1, x.2⟩⟩
end
def tListRev (K : PySem.W.Frag) (te : TE) : TE := fun σ H Q => te σ H fun v H1 => ∃ (a : Addr) (xs : List V), v = .ref a ∧ (SqL K H1 a xs ∨ SqT K H1 a xs) ∧ ∀ q, H1 q = none → Q (.ref q) (upd H1 q (.lst xs.reverse))
section
variable {X : Cx}
theorem pe_listRev {e : Expr} {te : TE} {p p2 pos pos2 : Pos} (hc : X.calm = true) (hg : Gl X "list") (hm : X.mg "list" = none) (hg2 : Gl X "reversed") (hm2 : X.mg "reversed" = none) (he : PE X e te)
    (hs : starEach [e] X.env = (false, eval e X.env) :: starEach [] X.env := by rfl)
    (hs2 : starEach [.Call (.Name "reversed" p2) [e] [] pos2] X.env = (false, eval (.Call (.Name "reversed" p2) [e] [] pos2) X.env) :: starEach [] X.env := by rfl) :
    PE X (.Call (.Name "list" p) [.Call (.Name "reversed" p2) [e] [] pos2] [] pos) (tListRev X.K te) := by
  refine ⟨fun pins s σ H Q I h => ?_⟩
  refine Call_ (ld_blt I hg hm (show bootBuiltins "list" = some (.type "list") from by decide +kernel) (PyProof.Rows.callWith_type1 (args_cons (Call_ (ld_blt I hg2 hm2 PyProof.Rows.boot_reversed (PyProof.Rows.callWith_type1 (args_cons (thn (he.run pins s σ H _ I h) fun u s1 ⟨v, H1, I1, r1, q1⟩ => args_nil ?_) hs) hs rfl))) hs2) hs2 rfl))
  obtain ⟨a, xs, ev, hq, q⟩ := q1
  subst ev
  obtain rfl : u = Value.ref a := r1
  have fin : ∀ (s2 : Shared) (T : String) (n : Nat) (its : List Value) (OK : Heap → Prop) (it : Addr), Vals xs its → n = its.toArray.size → n ≤ sizeLine → Inv X pins σ H1 s2 → FpOk X pins H1 it → OK s2.heap →
      SelfSrc X.prog X.w T it a n (fun i v => its.toArray[its.toArray.size - 1 - i]? = some v) OK →
      wpAny (model X.prog X.w) X.A (call (.type "list") [.ref it]) (EP X pins σ Q) X.xe s2 := by
    intro s2 T n its OK it rv en hn I2 hf ok src
    refine self_call src (I1.ok.hd hc) ok hn fun h' tk acc c' hk hS hacc => ?_
    subst en
    have hT : H1 s2.heap.objs.size = none := I2.hok.fresh (Nat.le_refl _)
    refine ⟨.ref s2.heap.objs.size, _, I2.turnedNew (ch := [it]) (fun b o hb e => hk b o (by simpa using hb) e) (fun b hb => by rw [List.mem_singleton.mp hb]; exact hf) (Nat.le_refl _) (show ObjOk X.prog X.w _ _ _ (.lst xs.reverse) from ⟨by rw [List.length_reverse, rv.length, ← List.size_toArray]; exact hn, acc.toList, c', RT.vals_rev rv hacc, ?_⟩), rfl, q _ hT⟩
    rw [Array.toArray_toList]
    exact hS
  rcases hq with hq | hq
  · obtain ⟨its, rv, p', hz⟩ := I1.list hq
    refine call_reversed_list p'.isList (args_nil ?_)
    have k0 : ∀ b o, s1.heap.get? b = some o → (s1.heap.push (revObj a ((its.toArray.size : Int) - 1))).get? b = some o := fun b o e => Heap.get?_push_of_some _ e
    obtain ⟨ol, hol, _⟩ := id p'.isList
    have hne : a ≠ s1.heap.objs.size := Nat.ne_of_lt (Heap.lt_size hol)
    exact fin { s1 with heap := s1.heap.push (revObj a ((its.toArray.size : Int) - 1)) } _ _ its _ _ rv rfl (by rw [List.size_toArray, ← rv.length]; exact hz) (I1.kept (t' := s1.toks) k0) (I1.fpOk (H' := H1) (b := s1.heap.objs.size) (Nat.le_refl _) (I1.hok.fresh (Nat.le_refl _))) ⟨⟨_, Heap.get?_push_size _ rfl, rfl, rfl⟩, p'.isList.push _⟩ (src_lri hne)
  · obtain ⟨its, rv, p', hz⟩ := I1.tuple hq
    have hn := line63
    refine RT.call_reversed_tup p' (fun A E Q k => PyProof.Rows.len_tuple p' (by simp only [List.size_toArray] <;> (have := rv.length; omega)) k) (args_nil ?_)
    have k0 : ∀ b o, s1.heap.get? b = some o → (s1.heap.push (RT.rtObj a ((its.toArray.size : Int) - 1))).get? b = some o := fun b o e => Heap.get?_push_of_some _ e
    obtain ⟨ol, hol, _⟩ := id p'
    have hne : a ≠ s1.heap.objs.size := Nat.ne_of_lt (Heap.lt_size hol)
    have hz2 : its.toArray.size ≤ sizeLine := by rw [List.size_toArray, ← rv.length]; exact hz
    exact fin { s1 with heap := s1.heap.push (RT.rtObj a ((its.toArray.size : Int) - 1)), toks := s1.toks + 1 + 1 } _ _ its _ _ rv rfl hz2 (I1.kept (t' := s1.toks + 1 + 1) k0) (I1.fpOk (H' := H1) (b := s1.heap.objs.size) (Nat.le_refl _) (I1.hok.fresh (Nat.le_refl _))) ⟨⟨_, Heap.get?_push_size _ rfl, rfl, rfl⟩, p'.push _⟩ (src_rt hne hz2)
end
end Sg

namespace Sg
open PySem PySem.Spec PyProof.Rows L2
section
variable {X Xb : Cx} {E : Ent} {own new own' : Own} {B H B' H' : Hp} {σ : L2.St} {α β γ δ τ ρ ρ' : Type} {R : Rel α} {S : Rel β} {T : Rel γ} {U : Rel δ} {e a b c d o it tg : Expr} {x : α} {y : β} {p pos pos' apos : Pos} {i j k k0 : Nat} {z w : Bool} {xs : List α} {ys : List β} {es : List Expr}
variable {n m : Str} {rest body other : List Stmt} {D : Ends} {P : ρ → Prop} {Er : Err → Prop} {scope sc : Scope} {N : List Str} {t : List (Str × NameKind)} {kd : NameKind}
/-! list(reversed(x)) -/
theorem el_listRL [Imm R] {p2 pos2 : Pos} (hc : X.calm = true) (hg : Gl X "list") (hm : X.mg "list" = none) (hg2 : Gl X "reversed") (hm2 : X.mg "reversed" = none) (ha : EvB X E own B H σ a (rLst R) xs) (hs : St1 X a := by rfl)
    (hs2 : starEach [.Call (.Name "reversed" p2) [a] [] pos2] X.env = (false, eval (.Call (.Name "reversed" p2) [a] [] pos2) X.env) :: starEach [] X.env := by rfl) : EvL X E own B H σ (.Call (.Name "list" p) [.Call (.Name "reversed" p2) [a] [] pos2] [] pos) R xs.reverse := fun B1 H1 S1 e1 e2 Q k =>
  WE.of (pe_listRev hc hg hm hg2 hm2 peW hs hs2) (ha B1 H1 S1 e1 e2 _ fun v B2 H2 S2 e3 e4 r => by
    obtain ⟨q, vs, h1, h2, h3⟩ := r
    exact ⟨q, vs, h1, .inl (.inl h2), fun l hl => k l _ B2 _ (S2.alloc hl fun ys z => by cases z) e3 (e4.trans (Sx.new hl).ex) (prev (pimp h3 fun _ _ z => Imm.imm S2.tu z))⟩)
theorem el_listRT [Imm R] {p2 pos2 : Pos} (hc : X.calm = true) (hg : Gl X "list") (hm : X.mg "list" = none) (hg2 : Gl X "reversed") (hm2 : X.mg "reversed" = none) (ha : EvB X E own B H σ a (rTup R) xs) (hs : St1 X a := by rfl)
    (hs2 : starEach [.Call (.Name "reversed" p2) [a] [] pos2] X.env = (false, eval (.Call (.Name "reversed" p2) [a] [] pos2) X.env) :: starEach [] X.env := by rfl) : EvL X E own B H σ (.Call (.Name "list" p) [.Call (.Name "reversed" p2) [a] [] pos2] [] pos) R xs.reverse := fun B1 H1 S1 e1 e2 Q k =>
  WE.of (pe_listRev hc hg hm hg2 hm2 peW hs hs2) (ha B1 H1 S1 e1 e2 _ fun v B2 H2 S2 e3 e4 r => by
    obtain ⟨q, vs, h1, h2, h3⟩ := r
    exact ⟨q, vs, h1, .inr (SqT.of h2), fun l hl => k l _ B2 _ (S2.alloc hl fun ys z => by cases z) e3 (e4.trans (Sx.new hl).ex) (prev (pimp h3 fun _ _ z => Imm.imm S2.tu z))⟩)
/-! xs[::-1] -/
theorem el_rev [Imm R] {p1 p2 p3 : Pos} {k1} (ha : EvB X E own B H σ a (rLst R) xs) : EvL X E own B H σ (.Subscript a (.Slice none none (some (.UnaryOp .USub (.Constant (.int 1) k1 p1) p2)) p3) pos) R xs.reverse := fun B1 H1 S1 e1 e2 Q k =>
  WE.of (pe_revL peW) (ha B1 H1 S1 e1 e2 _ fun v B2 H2 S2 e3 e4 r => by
    obtain ⟨q, vs, h1, h2, h3⟩ := r
    exact ⟨q, vs, h1, .inl h2, fun l hl => k l _ B2 _ (S2.alloc hl fun ys z => by cases z) e3 (e4.trans (Sx.new hl).ex) (prev (pimp h3 fun _ _ z => Imm.imm S2.tu z))⟩)
/-! range with a step above 0 -/
def rangeS (a b c : Int) : List Int := (List.range (Builtin.Range.rangeSize a b c).toNat).map fun i : Nat => a + (i : Int) * c
theorem rangeS_at {a b c : Int} {i : Nat} (h : i < (Builtin.Range.rangeSize a b c).toNat) : (rangeS a b c)[i]? = some (a + (i : Int) * c) := by
  unfold rangeS
  rw [List.getElem?_map, List.getElem?_range h]
  rfl
theorem rangeS_len (a b c : Int) : (rangeS a b c).length = (Builtin.Range.rangeSize a b c).toNat := by
  unfold rangeS
  rw [List.length_map, List.length_range]
theorem rsz_le {a b c : Int} (hc : 0 < c) (h : -8000000 ≤ a ∧ a ≤ 8000000 ∧ -8000000 ≤ b ∧ b ≤ 8000000) : (Builtin.Range.rangeSize a b c).toNat ≤ 16000001 ∧ 0 ≤ Builtin.Range.rangeSize a b c := by
  unfold Builtin.Range.rangeSize
  rw [if_pos hc]
  by_cases hl : a < b
  · rw [if_pos hl]
    have h1 : (b - a - 1) / c ≤ b - a - 1 := Int.ediv_le_self _ (by omega)
    have h2 : 0 ≤ (b - a - 1) / c := Int.ediv_nonneg (by omega) (by omega)
    omega
  · rw [if_neg hl]
    omega
theorem small_pos {a b c : Int} (hc : 0 < c) (hc' : c < 1000000) (h : -8000000 ≤ a ∧ a ≤ 8000000 ∧ -8000000 ≤ b ∧ b ≤ 8000000) : Builtin.Range.small a b c = true := by
  have q := rsz_le hc h
  unfold Builtin.Range.small
  simp only [Builtin.Range.rangeFitsLong, Bool.and_eq_true, Bool.or_eq_true, decide_eq_true_eq, beq_iff_eq, if_pos hc]
  generalize Builtin.Range.rangeSize a b c = n at q ⊢
  omega
theorem ei_r3 {tg : Expr} {lo hi st : Int} (hg : Gl X "range") (hm : X.mg "range" = none) (ha : EvB X E own B H σ a rInt lo) (hb : EvB X E own B H σ b rInt hi) (hc : EvB X E own B H σ c rInt st) (hz : -8000000 ≤ lo ∧ lo ≤ 8000000 ∧ -8000000 ≤ hi ∧ hi ≤ 8000000) (h0 : 0 < st) (h1 : st < 1000000)
    (hs : starEach [a, b, c] X.env = (false, eval a X.env) :: starEach [b, c] X.env := by rfl) (hs1 : starEach (b :: [c]) X.env = (false, eval b X.env) :: starEach [c] X.env := by rfl) (hs2 : St1 X c := by rfl) (hpl : (backTo pos (starEach [b, c] X.env)).any (·.1) = false := by rfl) : EvI X E own B H σ tg (.Call (.Name "range" p) [a, b, c] [] pos) rInt KoT (rangeS lo hi st) :=
  ⟨_, pi_range3 hg hm (pa_cons peW (pa_cons peW (pa1 hs2) hs1) hs) hs hpl, fun B1 H1 S e1 e2 Q k => ha B1 H1 S e1 e2 _ fun v B2 H2 S2 e3 e4 r => hb B2 H2 S2 (e1.trans e3) (e2.trans e4) _ fun w B3 H3 S3 e5 e6 r' => hc B3 H3 S3 ((e1.trans e3).trans e5) ((e2.trans e4).trans e6) _ fun u B4 H4 S4 e7 e8 r'' => by
    have q := rsz_le h0 hz
    refine ⟨lo, hi, st, (Builtin.Range.rangeSize lo hi st).toNat, by rw [show v = .int lo from r, show w = .int hi from r', show u = .int st from r''], ⟨by omega, by omega, small_pos h0 h1 hz, by omega⟩, k _ B4 H4 S4 ((e3.trans e5).trans e7) ((e4.trans e6).trans e8) ?_ (by rw [rangeS_len, sizeLine_eq]; omega)⟩
    refine ⟨fun i own' B' H' S' e k h => by rw [rangeS_len] at h; exact h, fun i own' B' H' S' e k h => by rw [rangeS_len] at h; exact h, fun i own' B' H' v H'' x S' e k hx hy => ?_⟩
    obtain ⟨e1, h1⟩ := hy
    subst e1
    have hl : i < (Builtin.Range.rangeSize lo hi st).toNat := by
      have := (List.getElem?_eq_some_iff.mp hx).1
      rwa [rangeS_len] at this
    rw [rangeS_at hl] at hx
    cases hx
    exact ⟨B', S', Ex.refl _, Ex.refl _, h1⟩⟩
/-! for x in reversed(list) -/
theorem walk_rev {q : Addr} {vs : List V} {Ko : Own → Prop} {K : PySem.W.Frag} (hl : ∀ own' B' H', Stt E own' B' H' → Ex B B' → Ko own' → Rd H' q (.lst vs)) (r : Paired (R.r B) vs xs) : Walk E Ko B (Itv K q vs.length) R xs.reverse := by
  have hlen := plen r
  refine ⟨fun i own' B' H' S' e k hi => ?_, fun i own' B' H' S' e k hi => by rw [List.length_reverse] at hi; show vs.length ≤ i; rw [hlen]; exact hi, fun i own' B' H' v H'' x S' e k hx hy => ?_⟩
  · rw [List.length_reverse, ← hlen] at hi
    exact ⟨hi, vs, vs[vs.length - 1 - i]'(by omega), .inl (hl own' B' H' S' e k), List.getElem?_eq_getElem _⟩
  · obtain ⟨e1, h1⟩ := hy
    subst e1
    have hi : i < xs.length := by
      have := (List.getElem?_eq_some_iff.mp hx).1
      rwa [List.length_reverse] at this
    have hv := h1 vs (.inl (hl own' B' H'' S' e k))
    obtain ⟨x', hx', rx⟩ := L2.paired_get r hv
    rw [List.getElem?_reverse hi, ← hlen, hx'] at hx
    cases hx
    exact ⟨B', S', Ex.refl _, Ex.refl _, R.mono e rx⟩
theorem ei_revE {tg : Expr} (hg : Gl X "reversed") (hm : X.mg "reversed" = none) (he : EvE X E own B H σ a (rLst R) xs) (hs : St1 X a := by rfl) : EvI X E own B H σ tg (.Call (.Name "reversed" p) [a] [] pos) R KoT xs.reverse := ⟨_, RT.pi_revA hg hm peW hs, fun B1 H1 S e1 e2 Q k => WE.sz (he B1 H1 S e1 e2 _ fun v B2 H2 S2 e3 e4 r sz => by
  obtain ⟨q, vs, h1, h2, h3⟩ := r
  subst h1
  exact ⟨q, vs, rfl, .inl ⟨.inl (S2.bh.ex.rdL h2), k _ B2 H2 S2 e3 e4 (walk_rev (fun own' B' H' S' e' _ => S'.bh.ex.rdL (e'.rdL h2)) h3) (by rw [List.length_reverse, ← plen h3]; exact sz.1 _ _ (S2.bh.ex.rdL h2))⟩⟩)⟩
theorem ei_rev0 [Imm R] {v : V} {tg : Expr} (hg : Gl X "reversed") (hm : X.mg "reversed" = none) (hp : PE X a (tVar i)) (h : σ[i]? = some (some v)) (r : (rLst R).r E.H0 v xs) (hs : St1 X a := by rfl) : EvI X E own B H σ tg (.Call (.Name "reversed" p) [a] [] pos) R KoT xs.reverse := ⟨_, RT.pi_revA hg hm peW hs, fun B1 H1 S e1 e2 Q k => by
  obtain ⟨q, vs, h1, h2, h3⟩ := r
  subst h1
  exact WE.sz (WE.of hp ⟨_, h, fun sz => ⟨q, vs, rfl, .inl ⟨.inl (S.h0.ex.rdL h2), k _ B1 H1 S (Ex.refl _) (Ex.refl _) (walk_rev (fun own' B' H' S' _ _ => S'.h0.ex.rdL h2) (pimp h3 fun _ _ z => Imm.imm (fun a ys ha => S.tu a ys (S.h0 _ _ ha)) z)) (by rw [List.length_reverse, ← plen h3]; exact sz.1 _ _ (S.h0.ex.rdL h2))⟩⟩⟩)⟩
/-! isinstance -/
class TyR (R : Rel α) (T : outParam String) : Prop where
  ty : ∀ {K : PySem.W.Frag} {H : Hp} {v : V} {x : α}, R.r H v x → TyX K H v (.type T)
instance : TyR rInt "int" := ⟨fun {K H v x} h => by rw [show v = .int x from h]; exact .base (.int _)⟩
instance : TyR rBool "bool" := ⟨fun {K H v x} h => by rw [show v = .bl x from h]; exact .base (.bl _)⟩
instance : TyR rStr "str" := ⟨fun {K H v x} h => by rw [show v = .str x from h]; exact .base (.str _)⟩
instance : TyR rNon "NoneType" := ⟨fun {K H v x} h => by rw [show v = .non from h]; exact .base .non⟩
instance : TyR (rLst R) "list" := ⟨fun {K H v x} h => by
  obtain ⟨q, vs, h1, h2 | ⟨ob, h2⟩, h3⟩ := h
  · rw [h1]; exact .base (.lst h2)
  · rw [h1]; exact .base (.frz h2)⟩
instance : TyR (rTup R) "tuple" := ⟨fun {K H v x} h => by
  obtain ⟨q, vs, h1, h2, h3⟩ := h
  rw [h1]; exact .base (.tup h2)⟩
instance : TyR (rPr R S) "tuple" := ⟨fun {K H v x} h => by
  obtain ⟨q, a, b, h1, h2, h3⟩ := h
  rw [h1]; exact .base (.tup h2)⟩
instance : TyR (rT3 R S T) "tuple" := ⟨fun {K H v x} h => by
  obtain ⟨q, a, b, c, h1, h2, h3⟩ := h
  rw [h1]; exact .base (.tup h2)⟩
instance : TyR (rT4 R S T U) "tuple" := ⟨fun {K H v x} h => by
  obtain ⟨q, a, b, c, d, h1, h2, h3⟩ := h
  rw [h1]; exact .base (.tup h2)⟩
instance : TyR (rDI R) "dict" := ⟨fun {K H v x} h => by
  obtain ⟨q, ws, h1, h2 | ⟨ob, h2⟩, h3⟩ := h
  · rw [h1]; exact .base (.dK h2)
  · rw [h1]; exact .fDict h2⟩
theorem ev_isi {tn cn : String} {z : Bool} {cs : Str} {p2 : Pos} [ty : TyR R tn] (hg : Gl X "isinstance") (hm : X.mg "isinstance" = none) (hgc : Gl X cs) (hmc : X.mg cs = none) (hv : bootBuiltins cs = some (.type cn)) (ha : EvB X E own B H σ a R x) (hk : kitB tn cn = some z)
    (hn : cs ≠ "__name__" := by decide) (hd : (cs == ("__debug__" : Str)) = false := by decide)
    (hs : starEach (a :: [.Name cs p2]) X.env = (false, eval a X.env) :: starEach [.Name cs p2] X.env := by rfl) (hs2 : St1 X (.Name cs p2) := by rfl) (hpl : (backTo pos (starEach [.Name cs p2] X.env)).any (·.1) = false := by rfl) :
    EvB X E own B H σ (.Call (.Name "isinstance" p) [a, .Name cs p2] [] pos) rBool z := fun B1 H1 S1 e1 e2 Q k =>
  WE.of (pe_callB call_isi hg hm (by decide +kernel) (pa_cons peW (pa_cons (pe_bltn (v := .ty cn) hgc hmc hv rfl hn hd) pa_nil hs2) hs) (he := hs) (hpl := hpl)) (ha B1 H1 S1 e1 e2 _ fun v B2 H2 S2 e3 e4 r => ⟨v, .ty cn, .type tn, .type cn, z, rfl, .ty cn, ty.ty r, kit_ty hk, k _ B2 H2 S2 e3 e4 rfl⟩)
/-! is True, is False -/
theorem op_isIB : OpR X (compareOp .Is) (fun x y H Q => ∃ (i : Int) (b : Bool), x = .int i ∧ y = .bl b ∧ Q (.bl false) H) := by
  intro pins s σ H x y v u Q I rx ry h
  obtain ⟨i, b, rfl, rfl, q⟩ := h
  obtain ⟨t, rfl⟩ := rx
  cases (show u = Value.bool b from ry)
  exact wpAny_is_other rfl (fun z => by cases z) ⟨.bl false, H, I, rfl, q⟩
theorem c_isIB : CmpR X .Is rInt rBool (fun _ _ => false) := ⟨⟨_, op_isIB, fun x y _ v w _ h1 h2 k => ⟨x, y, h1, h2, k⟩⟩, fun b => nomark b⟩
theorem c_isBB : CmpR X .Is rBool rBool (fun i j => decide (i = j)) := ⟨⟨_, op_isBl, fun x y _ v w _ h1 h2 k => ⟨x, y, h1, h2, k⟩⟩, fun b => nomark b⟩
/-! xs.extend(a new list) -/
theorem s_extendL {apos : Pos} {q : Addr} {vs : List V} {xs zs : List α} (S0 : Stt E own B H) (ha : PE X a (tVar i)) (h : σ[i]? = some (some (.ref q))) (hk : own[k]? = some (q, .lst vs)) (r : Paired (R.r B) vs xs) (he : EvL X E own B H σ e R zs) (hz : xs.length + zs.length ≤ sizeLine)
    (kt : ∀ us B' H', Stt E (own.set k (q, .lst (vs ++ us))) B' H' → Ex B B' → Paired (R.r B') (vs ++ us) (xs ++ zs) → WSs X rest D σ H')
    (t : BmT X a "extend" apos [] e p := by exact ⟨rfl, rfl, rfl, rfl, rfl⟩) (hs : St1 X e := by rfl) (hw : swapsWith (.Call (.Attribute a "extend" apos) [e] [] p) none pos.line X.env = pure false := by rfl) :
    WSs X (.Expr (.Call (.Attribute a "extend" apos) [e] [] p) pos :: rest) D σ H :=
  WSs.cons (ps_expr (pe_bm PySem.F.plainAttrs_list PySem.F.slot_list_extend PySem.F.type_list_extend mt_extend ha (pa1 hs) t.1 t.2.1 t.2.2.1 t.2.2.2.1 t.2.2.2.2) hw) ⟨.ref q, h, .inl ⟨rfl, _, SqL.of (S0.ow _ (getE hk)).2.2⟩, he B H S0 (Ex.refl _) (Ex.refl _) _ fun l us B2 H2 S2 e1 e2 ru => by
    have hq := (S2.ow _ (List.mem_cons_of_mem _ (getE hk))).2.2
    have hl := S2.own1
    refine ⟨q, l, vs, us, rfl, rfl, hq, hl, by rw [plen r, plen ru]; exact hz, ?_⟩
    have hk2 : ((l, HO.lst us) :: own)[k + 1]? = some (q, .lst vs) := hk
    have S3 := (S2.put hk2 (o' := .lst (vs ++ us)) fun ys z => by cases z)
    exact kt us B2 _ S3.drop e1 (pappend (pimp r fun _ _ z => R.mono e1 z) ru)⟩
/-! chains -/
theorem ev_ch {op op' : CmpOp} {r1 r2 : R2} {z1 z2 : Bool} {x : α} {y : β} {u : γ} (h1 : OpR X (compareOp op) r1) (h2 : OpR X (compareOp op') r2) (hm : lastMarks [op, op'] [b, c] = false) (ha : EvB X E own B H σ a R x) (hb : EvB X E own B H σ b S y) (hc : EvB X E own B H σ c T u)
    (k1 : ∀ H1 v w (Q : VK), R.r H1 v x → S.r H1 w y → Q (.bl z1) H1 → r1 v w H1 Q) (k2 : ∀ H1 v w (Q : VK), S.r H1 v y → T.r H1 w u → Q (.bl z2) H1 → r2 v w H1 Q) : EvB X E own B H σ (.Compare a [op, op'] [b, c] pos) rBool (z1 && z2) := fun B1 H1 S1 e1 e2 Q k =>
  WE.of (pe_chain h1 h2 peW peW peW hm) (ha B1 H1 S1 e1 e2 _ fun v B2 H2 S2 e3 e4 r => hb B2 H2 S2 (e1.trans e3) (e2.trans e4) _ fun w B3 H3 S3 e5 e6 s => k1 H3 v w _ (R.mono e6 r) s ⟨z1, rfl, by
    cases z1 with
    | true => exact hc B3 H3 S3 ((e1.trans e3).trans e5) ((e2.trans e4).trans e6) _ fun w2 B4 H4 S4 e7 e8 t => k2 H4 w w2 Q (S.mono e8 s) t (k _ B4 H4 S4 ((e3.trans e5).trans e7) ((e4.trans e6).trans e8) rfl)
    | false => exact k _ B3 H3 S3 (e3.trans e5) (e4.trans e6) rfl⟩)
variable {i0 j0 l0 : Int}
theorem ev_ch_lt_lt (ha : EvB X E own B H σ a rInt i0) (hb : EvB X E own B H σ b rInt j0) (hc : EvB X E own B H σ c rInt l0) (hm : lastMarks [.Lt, .Lt] [b, c] = false := by rfl) : EvB X E own B H σ (.Compare a [.Lt, .Lt] [b, c] pos) rBool (decide (i0 < j0) && decide (j0 < l0)) := ev_ch op_lt op_lt hm ha hb hc (fun _ _ _ _ h1 h2 k => ⟨_, _, h1, h2, k⟩) (fun _ _ _ _ h1 h2 k => ⟨_, _, h1, h2, k⟩)
theorem ev_ch_le_lt (ha : EvB X E own B H σ a rInt i0) (hb : EvB X E own B H σ b rInt j0) (hc : EvB X E own B H σ c rInt l0) (hm : lastMarks [.LtE, .Lt] [b, c] = false := by rfl) : EvB X E own B H σ (.Compare a [.LtE, .Lt] [b, c] pos) rBool (decide (i0 ≤ j0) && decide (j0 < l0)) := ev_ch op_le op_lt hm ha hb hc (fun _ _ _ _ h1 h2 k => ⟨_, _, h1, h2, k⟩) (fun _ _ _ _ h1 h2 k => ⟨_, _, h1, h2, k⟩)
theorem ev_ch_lt_le (ha : EvB X E own B H σ a rInt i0) (hb : EvB X E own B H σ b rInt j0) (hc : EvB X E own B H σ c rInt l0) (hm : lastMarks [.Lt, .LtE] [b, c] = false := by rfl) : EvB X E own B H σ (.Compare a [.Lt, .LtE] [b, c] pos) rBool (decide (i0 < j0) && decide (j0 ≤ l0)) := ev_ch op_lt op_le hm ha hb hc (fun _ _ _ _ h1 h2 k => ⟨_, _, h1, h2, k⟩) (fun _ _ _ _ h1 h2 k => ⟨_, _, h1, h2, k⟩)
theorem ev_ch_le_le (ha : EvB X E own B H σ a rInt i0) (hb : EvB X E own B H σ b rInt j0) (hc : EvB X E own B H σ c rInt l0) (hm : lastMarks [.LtE, .LtE] [b, c] = false := by rfl) : EvB X E own B H σ (.Compare a [.LtE, .LtE] [b, c] pos) rBool (decide (i0 ≤ j0) && decide (j0 ≤ l0)) := ev_ch op_le op_le hm ha hb hc (fun _ _ _ _ h1 h2 k => ⟨_, _, h1, h2, k⟩) (fun _ _ _ _ h1 h2 k => ⟨_, _, h1, h2, k⟩)
theorem et_ch {op op' : CmpOp} {r1 r2 : R2} {z1 z2 : Bool} {x : α} {y : β} {u : γ} (h1 : OpR X (compareOp op) r1) (h2 : OpR X (compareOp op') r2) (hm : lastMarks [op, op'] [b, c] = false) (ha : EvB X E own B H σ a R x) (hb : EvB X E own B H σ b S y) (hc : EvB X E own B H σ c T u)
    (k1 : ∀ H1 v w (Q : VK), R.r H1 v x → S.r H1 w y → Q (.bl z1) H1 → r1 v w H1 Q) (k2 : ∀ H1 v w (Q : VK), S.r H1 v y → T.r H1 w u → Q (.bl z2) H1 → r2 v w H1 Q) : EvT X E own B H σ (.Compare a [op, op'] [b, c] pos) (z1 && z2) := fun B1 H1 S1 e1 e2 Q k =>
  WT.of (pt_chain h1 h2 peW peW peW hm) (ha B1 H1 S1 e1 e2 _ fun v B2 H2 S2 e3 e4 r => hb B2 H2 S2 (e1.trans e3) (e2.trans e4) _ fun w B3 H3 S3 e5 e6 s => k1 H3 v w _ (R.mono e6 r) s ⟨z1, rfl, by
    cases z1 with
    | true => exact hc B3 H3 S3 ((e1.trans e3).trans e5) ((e2.trans e4).trans e6) _ fun w2 B4 H4 S4 e7 e8 t => k2 H4 w w2 _ (S.mono e8 s) t ⟨_, rfl, k B4 H4 S4 ((e3.trans e5).trans e7) ((e4.trans e6).trans e8)⟩
    | false => exact ⟨_, rfl, k B3 H3 S3 (e3.trans e5) (e4.trans e6)⟩⟩)
theorem et_ch_lt_lt (ha : EvB X E own B H σ a rInt i0) (hb : EvB X E own B H σ b rInt j0) (hc : EvB X E own B H σ c rInt l0) (hm : lastMarks [.Lt, .Lt] [b, c] = false := by rfl) : EvT X E own B H σ (.Compare a [.Lt, .Lt] [b, c] pos) (decide (i0 < j0) && decide (j0 < l0)) := et_ch op_lt op_lt hm ha hb hc (fun _ _ _ _ h1 h2 k => ⟨_, _, h1, h2, k⟩) (fun _ _ _ _ h1 h2 k => ⟨_, _, h1, h2, k⟩)
theorem et_ch_lt_le (ha : EvB X E own B H σ a rInt i0) (hb : EvB X E own B H σ b rInt j0) (hc : EvB X E own B H σ c rInt l0) (hm : lastMarks [.Lt, .LtE] [b, c] = false := by rfl) : EvT X E own B H σ (.Compare a [.Lt, .LtE] [b, c] pos) (decide (i0 < j0) && decide (j0 ≤ l0)) := et_ch op_lt op_le hm ha hb hc (fun _ _ _ _ h1 h2 k => ⟨_, _, h1, h2, k⟩) (fun _ _ _ _ h1 h2 k => ⟨_, _, h1, h2, k⟩)
theorem et_ch_le_lt (ha : EvB X E own B H σ a rInt i0) (hb : EvB X E own B H σ b rInt j0) (hc : EvB X E own B H σ c rInt l0) (hm : lastMarks [.LtE, .Lt] [b, c] = false := by rfl) : EvT X E own B H σ (.Compare a [.LtE, .Lt] [b, c] pos) (decide (i0 ≤ j0) && decide (j0 < l0)) := et_ch op_le op_lt hm ha hb hc (fun _ _ _ _ h1 h2 k => ⟨_, _, h1, h2, k⟩) (fun _ _ _ _ h1 h2 k => ⟨_, _, h1, h2, k⟩)
theorem et_ch_le_le (ha : EvB X E own B H σ a rInt i0) (hb : EvB X E own B H σ b rInt j0) (hc : EvB X E own B H σ c rInt l0) (hm : lastMarks [.LtE, .LtE] [b, c] = false := by rfl) : EvT X E own B H σ (.Compare a [.LtE, .LtE] [b, c] pos) (decide (i0 ≤ j0) && decide (j0 ≤ l0)) := et_ch op_le op_le hm ha hb hc (fun _ _ _ _ h1 h2 k => ⟨_, _, h1, h2, k⟩) (fun _ _ _ _ h1 h2 k => ⟨_, _, h1, h2, k⟩)
end
end Sg

namespace Sg
open PySem PySem.Spec PyProof.Rows L2
theorem putF_new {f : Str} {v : V} : ∀ {fs : List (Str × V)}, (fs.map (·.1)).all (fun g => !(g == f)) = true → putF f v fs = fs ++ [(f, v)]
  | [], _ => rfl
  | (g, x) :: r, h => by
    rw [List.map_cons, List.all_cons, Bool.and_eq_true] at h
    have h1 : g ≠ f := by simpa using h.1
    unfold putF
    rw [if_neg h1, putF_new h.2]
    rfl
/-- what __init__ of a table promises -/
def kTab (CT a dx : Addr) : Ent → VK → Tab → Prop := fun E Q t => ∀ d1 d2 d3 d4 B H, Stt E [(a, .ins CT dx (tabF d1 d2 d3 d4))] B H → (rDI rInt).r B d1 t.ranks → (rDI (rTup rInt)).r B d2 t.parts → (rLst rInt).r B d3 t.closed → (rDT rInt).r B d4 t.wholes → Q .non H
def SpInit {δ : Type} (CT : Addr) (args : δ → AR) (f : δ → Res Tab) : Sp := fun vs H Q _ => ∃ B H0 d a dx us, vs = .ref a :: us ∧ H = upd H0 a (.ins CT dx []) ∧ H0 a = none ∧ Sx B H0 ∧ Tx H0 B ∧ (args d).r us B H0 ∧ Fin (kTab CT a dx ⟨B, H0⟩ Q) NoErr (f d)
section
variable {X Xb : Cx} {E : Ent} {own new own' : Own} {B H B' H' : Hp} {σ : L2.St} {α β γ δ τ ρ ρ' : Type} {R : Rel α} {S : Rel β} {T : Rel γ} {U : Rel δ} {e a b c d o it tg : Expr} {x : α} {y : β} {p pos pos' apos : Pos} {i j k k0 : Nat} {z w : Bool} {xs : List α} {ys : List β} {es : List Expr}
variable {n m f : Str} {rest body other : List Stmt} {D : Ends} {P : ρ → Prop} {Er : Err → Prop} {CT : Addr}
/-- self.f = e, the instance one's own -/
theorem s_fset {q dx : Addr} {fs : List (Str × V)} (S0 : Stt E own B H) (hp : PE X o (tVar i)) (h : σ[i]? = some (some (.ref q))) (hk : own[k]? = some (q, .ins CT dx fs)) (cls : Cls X.K CT) (na : NoAttr X.K CT f) (he : EvE X E own B H σ e R x)
    (hl : fs.length < 1000) (hn : (fs.map (·.1)).all (fun g => !(g == f)) = true)
    (kt : ∀ v B' H', Stt E (own.set k (q, .ins CT dx (fs ++ [(f, v)]))) B' H' → Ex B B' → R.r B' v x → WSs X rest D σ H')
    (hs : swapsWith e (some (.Attribute o f pos')) pos.line X.env = pure false := by rfl) : WSs X (.Assign [.Attribute o f pos'] e pos :: rest) D σ H :=
  WSs.cons (ps_fld hp peW hs) (he B H S0 (Ex.refl _) (Ex.refl _) _ fun v B2 H2 S2 e1 e2 r => ⟨.ref q, h, q, CT, dx, fs, rfl, (S2.ow _ (getE hk)).2.2, cls, na, hl, by
    rw [putF_new hn]
    exact kt v B2 _ (S2.put hk fun ys z => by cases z) e1 r⟩)
theorem ee_ofld {q dx : Addr} {fs : List (Str × V)} {u : V} (hp : PE X o (tVar i)) (h : σ[i]? = some (some (.ref q))) (hk : own[k]? = some (q, .ins CT dx fs)) (cls : Cls X.K CT) (na : NoAttr X.K CT f) (hf : fs.lookup f = some u) (r : R.r B u x)
    (hb : attributeBase o f X.env (eval o X.env) = eval o X.env := by rfl) : EvE X E own B H σ (.Attribute o f pos) R x := fun B1 H1 S1 e1 e2 Q qq =>
  WE.of (pe_fld hp hb) ⟨.ref q, h, q, CT, dx, fs, u, rfl, (S1.ow _ (getE hk)).2.2, cls, na, hf, qq u B1 H1 S1 (Ex.refl _) (Ex.refl _) (R.mono e1 r)⟩
/-- Table(..) -/
def MkT (X : Cx) (k : Nat) (n : Str) (CT : Addr) (ps : List Str) (sp : Sp) : Prop := ∃ (f : Addr) (fd : FuncData), Mk X.K CT f ∧ FnOk X.prog X.w X.K X.mg X.base CX0 k f fd ps sp ∧ X.mg n = some (.ref CT) ∧ Binds X.K fd ps []
theorem Blk.mkt {scope : Scope} {ps : List Str} {sp : Sp} (h : Blk X scope Xb) (G : MkT X k n CT ps sp) : MkT Xb k n CT ps sp := by
  obtain ⟨s, H, Cc, cl, fp, rfl⟩ := h
  exact G
theorem ee_make {ps : List Str} {args : δ → AR} {g : δ → Res Tab} {d : δ} {r : Tab} (C : Cok X k0) (G : MkT X k n CT ps (SpInit CT args g)) (hk : k + 1 ≤ k0) (hg : Gl X n) (ha : EvAs X E own B H σ (e :: es) (args d)) (hm : g d = .ok r)
    (hdb : (n == ("__debug__" : Str)) = false := by rfl) (hst : starEach (e :: es) X.env = (false, eval e X.env) :: starEach es X.env := by rfl) (hpl : (backTo pos (starEach es X.env)).any (·.1) = false := by rfl) : EvE X E own B H σ (.Call (.Name n p) (e :: es) [] pos) (rTab CT) r := fun B1 H1 S1 e1 e2 Q kq => by
  obtain ⟨f, fd, M, F, hmg, hb⟩ := G
  refine WE.of (pe_make (dvs := []) (ds := []) M F (C.room.mono hk) hg hmg hb .nil pass0 paW hdb hst hpl) (ha B1 H1 S1 e1 e2 _ fun vs B2 H2 S2 e3 e4 ra => ?_)
  intro x dx hx hdx hne
  rw [List.append_nil]
  have S3 : Stt E own (upd B2 dx (.own x)) (upd H2 dx (.own x)) := S2.lay hdx
  have hx3 : upd H2 dx (.own x) x = none := by rw [upd_ne hne.symm]; exact hx
  refine ⟨upd B2 dx (.own x), upd H2 dx (.own x), d, x, dx, vs, rfl, rfl, hx3, S3.bh, S3.tu, (args d).mono (S2.layB hdx).ex (Sx.new hdx).ex ra, Fin.eq hm fun d1 d2 d3 d4 B4 H4 T h1 h2 h3 h4 => ⟨rfl, ?_⟩⟩
  have S4 := S3.call T
  have nB := (S4.ow _ (List.mem_cons_self ..)).2.1
  have eB := (Sx.new (o := .ins CT dx (tabF d1 d2 d3 d4)) nB).ex
  exact kq (.ref x) _ H4 S4.keep (e3.trans (((S2.layB hdx).ex.trans T.b0.ex).trans eB)) (e4.trans ((Sx.new hdx).ex.trans T.h0.ex)) ⟨x, dx, d1, d2, d3, d4, rfl, upd_same, Rel.mono _ eB h1, Rel.mono _ eB h2, Rel.mono _ eB h3, Rel.mono _ eB h4⟩
end
section
variable {P : Program} {w : World} {K : PySem.W.Frag} {mg : Str → Option Value} {base : Heap}
theorem init_ok {x qual : Str} {st : Stmt} {f : Addr} {fd : FuncData} {N ps : List Str} {k : Nat} {δ : Type} {CT : Addr} {args : δ → AR} {g : δ → Res Tab} (F : Fun K x qual st f fd) (S : FnScope N ps (defScope st)) (hl : ∀ d vs B H, (args d).r vs B H → vs.length + 1 = ps.length)
    (body : ∀ X : Cx, X.prog = P → X.w = w → X.K = K → X.mg = mg → X.base = base → Cok X k → Scp X N (defScope st) → (∀ x, X.fn x = true) → ∀ B H0 a dx us d (Q : VK), H0 a = none → Sx B H0 → Tx H0 B → (args d).r us B H0 → Fin (kTab CT a dx ⟨B, H0⟩ Q) NoErr (g d) →
      WSs X (defBody st) { nx := fun _ H' => Q .non H', rt := Q } (start N (.ref a :: us)) (upd H0 a (.ins CT dx []))) : FnOk P w K mg base CX0 (k + 1) f fd ps (SpInit CT args g) := by
  refine F.ok S (fun vs H Q E h => ?_) (fun cdv A outer s H vs Q E hr h => ?_)
  · obtain ⟨B, H0, d, a, dx, us, rfl, _, _, _, _, h3, _⟩ := h
    exact hl d us B H0 h3
  · obtain ⟨B, H0, d, a, dx, us, rfl, rfl, h0, h1, h2, h3, h4⟩ := h
    exact ⟨_, pssW, body ((cxOf CX0 P w K mg base N qual (defScope st) f cdv A outer s _ E).nox) rfl rfl rfl rfl rfl ⟨rfl, S.nd, hr, PassesOwn.never⟩ ⟨rfl, rfl⟩ (fun _ => rfl) B H0 a dx us d Q h0 h1 h2 h3 h4⟩
end
/-! what is owned, looked at from within a lock -/
section
variable {E : Ent} {own : Own} {B H H' : Hp} {α β γ δ : Type} {R : Rel α} {S : Rel β} {T : Rel γ} {U : Rel δ} {k : Nat}
theorem own_p0 {q : Addr} {vs : List V} {xs : List α} (S0 : Stt E own B H) (hk : own[k]? = some (q, .lst vs)) (r : Paired (R.r B) vs xs) (e : Ex H H') : (rLst R).r H' (.ref q) xs := Rel.mono _ e ⟨q, vs, rfl, Rd.of (S0.ow _ (getE hk)).2.2, pimp r fun _ _ z => R.mono S0.bh.ex z⟩
theorem own_p0I {q : Addr} {ws : List (Key × V)} {xs : List (Int × α)} (S0 : Stt E own B H) (hk : own[k]? = some (q, .dK ws)) (r : pI R B ws xs) (e : Ex H H') : (rDI R).r H' (.ref q) xs := Rel.mono _ e ⟨q, ws, rfl, Rd.of (S0.ow _ (getE hk)).2.2, r.up S0.bh.ex⟩
theorem own_p0S {q : Addr} {ws : List (Key × V)} {xs : List (Str × α)} (S0 : Stt E own B H) (hk : own[k]? = some (q, .dK ws)) (r : pS R B ws xs) (e : Ex H H') : (rDS R).r H' (.ref q) xs := Rel.mono _ e ⟨q, ws, rfl, Rd.of (S0.ow _ (getE hk)).2.2, r.up S0.bh.ex⟩
theorem own_p0T {q : Addr} {ws : List (List Key × V)} {xs : List (List Int × α)} (S0 : Stt E own B H) (hk : own[k]? = some (q, .dT ws)) (r : pT R B ws xs) (e : Ex H H') : (rDT R).r H' (.ref q) xs := Rel.mono _ e ⟨q, ws, rfl, Rd.of (S0.ow _ (getE hk)).2.2, r.up S0.bh.ex⟩
variable {X : Cx} {σ : L2.St} {o : Expr} {pos : Pos} {i : Nat} {v : V}
theorem ek_t41 {x : α × List (Int × β) × γ × δ} {kk} {pp : Pos} (hp : PE X o (tVar i)) (h : σ[i]? = some (some v)) (r : (rT4 R (rDI S) T U).r H v x) : EvK X B H σ (.Subscript o (.Constant (.int 1) kk pp) pos) S x.2.1 := by
  obtain ⟨p, a, b, c, d, h1, h2, h3, h4, h5, h6⟩ := r
  exact ek_at (j := 1) hp h ⟨p, [a, b, c, d], h1, h2, rfl⟩ h4
theorem ek_t42 {x : α × β × List (Int × γ) × δ} {kk} {pp : Pos} (hp : PE X o (tVar i)) (h : σ[i]? = some (some v)) (r : (rT4 R S (rDI T) U).r H v x) : EvK X B H σ (.Subscript o (.Constant (.int 2) kk pp) pos) T x.2.2.1 := by
  obtain ⟨p, a, b, c, d, h1, h2, h3, h4, h5, h6⟩ := r
  exact ek_at (j := 2) hp h ⟨p, [a, b, c, d], h1, h2, rfl⟩ h5
theorem ek_t31 {x : α × List (Int × β) × γ} {kk} {pp : Pos} (hp : PE X o (tVar i)) (h : σ[i]? = some (some v)) (r : (rT3 R (rDI S) T).r H v x) : EvK X B H σ (.Subscript o (.Constant (.int 1) kk pp) pos) S x.2.1 := by
  obtain ⟨p, a, b, c, h1, h2, h3, h4, h5⟩ := r
  exact ek_at (j := 1) hp h ⟨p, [a, b, c], h1, h2, rfl⟩ h4
theorem ek_t32 {x : α × β × List (Int × γ)} {kk} {pp : Pos} (hp : PE X o (tVar i)) (h : σ[i]? = some (some v)) (r : (rT3 R S (rDI T)).r H v x) : EvK X B H σ (.Subscript o (.Constant (.int 2) kk pp) pos) T x.2.2 := by
  obtain ⟨p, a, b, c, h1, h2, h3, h4, h5⟩ := r
  exact ek_at (j := 2) hp h ⟨p, [a, b, c], h1, h2, rfl⟩ h5
end
/-! a name that blocks catch holds a comprehension's list -/
theorem sw_cell {X : Cx} {n : Str} {elt : Expr} {gs : List Comprehension} {sc : Scope} {p1 p2 : Pos} {l : Nat} (h : X.env.scope.names.lookup n = some .cell) : swapsWith (.ListComp elt gs sc p1) (some (.Name n p2)) l X.env = pure false := by
  unfold swapsWith
  have h2 : X.env.kindOf n = some .cell := h
  show pure _ = pure _
  rw [h2]
  have : (some NameKind.cell == some NameKind.local) = false := rfl
  rw [this, Bool.and_false, Bool.false_and, Bool.false_and]
theorem sw_loc {X : Cx} {N : List Str} {sc : Scope} {n : Str} {elt : Expr} {gs : List Comprehension} {sc2 : Scope} {p1 p2 : Pos} {l : Nat} (V : Scp X N sc) (hk : sc.kind = .function) (h : X.env.scope.names.lookup n = some .local) (hl : (p2.line == p1.line) = true := by rfl) (hs : (sc2.names.any fun q => q.1 == n && (q.2 == .local || q.2 == .cell)) = false := by rfl) : swapsWith (.ListComp elt gs sc2 p1) (some (.Name n p2)) l X.env = pure true := by
  unfold swapsWith
  have h2 : X.env.kindOf n = some .local := h
  have h3 : X.env.blockKind = .function := by
    unfold Env.blockKind
    rw [V.sc, hk]
    rfl
  show pure _ = pure _
  have h4 : (some NameKind.local == some NameKind.local) = true := rfl
  have h5 : (ScopeKind.function == ScopeKind.function) = true := rfl
  have h6 : (Expr.ListComp elt gs sc2 p1).pos.line = p1.line := rfl
  have h7 : (sc2.names.any fun (n_1, k) => n_1 == n && (k == NameKind.local || k == NameKind.cell)) = false := hs
  rw [h2, h3, h4, h5, h6, hl, h7]
  rfl
/-! dicts made -/
section
variable {X Xb : Cx} {E : Ent} {own new own' : Own} {B H B' H' : Hp} {σ : L2.St} {α β γ δ : Type} {R : Rel α} {e : Expr} {p pos pos' : Pos} {i j k k0 : Nat} {n : Str} {rest : List Stmt} {D : Ends}
def EvDT {α : Type} (X : Cx) (E : Ent) (own : Own) (B H : Hp) (σ : L2.St) (e : Expr) (R : Rel α) (kvs : List (List Int × α)) : Prop := ∀ B1 H1, Stt E own B1 H1 → Ex B B1 → Ex H H1 → ∀ Q : VK,
  (∀ p ws B2 H2, Stt E ((p, .dT ws) :: own) B2 H2 → Ex B1 B2 → Ex H1 H2 → pT R B2 ws kvs → Q (.ref p) H2) → WE X e σ H1 Q
def EvDS {α : Type} (X : Cx) (E : Ent) (own : Own) (B H : Hp) (σ : L2.St) (e : Expr) (R : Rel α) (kvs : List (Str × α)) : Prop := ∀ B1 H1, Stt E own B1 H1 → Ex B B1 → Ex H H1 → ∀ Q : VK,
  (∀ p ws B2 H2, Stt E ((p, .dK ws) :: own) B2 H2 → Ex B1 B2 → Ex H1 H2 → pS R B2 ws kvs → Q (.ref p) H2) → WE X e σ H1 Q
theorem EvDT.toE {kvs : List (List Int × α)} (h : EvDT X E own B H σ e R kvs) : EvE X E own B H σ e (rDT R) kvs := fun B1 H1 S e1 e2 Q k => h B1 H1 S e1 e2 Q fun p ws B2 H2 S2 e3 e4 r => by
  have n := (S2.ow _ (List.mem_cons_self ..)).2.1
  exact k (.ref p) _ H2 S2.keep (e3.trans (Sx.new n).ex) e4 ⟨p, ws, rfl, Rd.of upd_same, r.up (Sx.new n).ex⟩
theorem EvDS.toE {kvs : List (Str × α)} (h : EvDS X E own B H σ e R kvs) : EvE X E own B H σ e (rDS R) kvs := fun B1 H1 S e1 e2 Q k => h B1 H1 S e1 e2 Q fun p ws B2 H2 S2 e3 e4 r => by
  have n := (S2.ow _ (List.mem_cons_self ..)).2.1
  exact k (.ref p) _ H2 S2.keep (e3.trans (Sx.new n).ex) e4 ⟨p, ws, rfl, Rd.of upd_same, r.up (Sx.new n).ex⟩
theorem ed_nI : EvDI X E own B H σ (.Dict [] [] pos) R [] := fun B1 H1 S1 e1 e2 Q k => WE.of pe_dnewK fun p hp => k p [] B1 _ (S1.alloc hp fun ys z => by cases z) (Ex.refl _) (Sx.new hp).ex .nil
theorem ed_nS : EvDS X E own B H σ (.Dict [] [] pos) R [] := fun B1 H1 S1 e1 e2 Q k => WE.of pe_dnewK fun p hp => k p [] B1 _ (S1.alloc hp fun ys z => by cases z) (Ex.refl _) (Sx.new hp).ex .nil
theorem ed_nT : EvDT X E own B H σ (.Dict [] [] pos) R [] := fun B1 H1 S1 e1 e2 Q k => WE.of pe_dnewT fun p hp => k p [] B1 _ (S1.alloc hp fun ys z => by cases z) (Ex.refl _) (Sx.new hp).ex .nil
theorem s_asgDI {kvs : List (Int × α)} (C : Cok X k) (L : Slot X i n) (S0 : Stt E own B H) (he : EvDI X E own B H σ e R kvs)
    (q : ∀ p ws B' H', Stt E ((p, .dK ws) :: own) B' H' → Ex B B' → pI R B' ws kvs → WSs X rest D (σ.set i (some (.ref p))) H') (hs : swapsWith e (some (.Name n pos')) pos.line X.env = pure false := by rfl) :
    WSs X (.Assign [.Name n pos'] e pos :: rest) D σ H :=
  WSs.cons (ps_set C.nd L.ix L.loc peW hs L.hf) (he B H S0 (Ex.refl _) (Ex.refl _) _ fun p ws B2 H2 S2 e1 _ r => q p ws B2 H2 S2 e1 r)
theorem s_asgDS {kvs : List (Str × α)} (C : Cok X k) (L : Slot X i n) (S0 : Stt E own B H) (he : EvDS X E own B H σ e R kvs)
    (q : ∀ p ws B' H', Stt E ((p, .dK ws) :: own) B' H' → Ex B B' → pS R B' ws kvs → WSs X rest D (σ.set i (some (.ref p))) H') (hs : swapsWith e (some (.Name n pos')) pos.line X.env = pure false := by rfl) :
    WSs X (.Assign [.Name n pos'] e pos :: rest) D σ H :=
  WSs.cons (ps_set C.nd L.ix L.loc peW hs L.hf) (he B H S0 (Ex.refl _) (Ex.refl _) _ fun p ws B2 H2 S2 e1 _ r => q p ws B2 H2 S2 e1 r)
theorem s_asgDT' {kvs : List (List Int × α)} (C : Cok X k) (L : Slot X i n) (S0 : Stt E own B H) (he : EvDT X E own B H σ e R kvs)
    (q : ∀ p ws B' H', Stt E ((p, .dT ws) :: own) B' H' → Ex B B' → pT R B' ws kvs → WSs X rest D (σ.set i (some (.ref p))) H') (hs : swapsWith e (some (.Name n pos')) pos.line X.env = pure false := by rfl) :
    WSs X (.Assign [.Name n pos'] e pos :: rest) D σ H :=
  WSs.cons (ps_set C.nd L.ix L.loc peW hs L.hf) (he B H S0 (Ex.refl _) (Ex.refl _) _ fun p ws B2 H2 S2 e1 _ r => q p ws B2 H2 S2 e1 r)
end
/-! constants of the module -/
section
variable {X Xb : Cx} {E : Ent} {own : Own} {B H : Hp} {σ : L2.St} {n : Str} {pos : Pos} {scope : Scope}
theorem ev_globI {z : Int} (V : ∃ t, X.mg n = some (.int z t)) (hg : Gl X n) (hd : (n == ("__debug__" : Str)) = false := by rfl) : EvB X E own B H σ (.Name n pos) rInt z := by
  obtain ⟨t, h⟩ := V
  exact ev_c (v := .int z) (pe_glob hg h ⟨_, rfl⟩ hd) fun _ => rfl
theorem ev_globS {z : Str} (V : ∃ t, X.mg n = some (.str z t)) (hg : Gl X n) (hd : (n == ("__debug__" : Str)) = false := by rfl) : EvB X E own B H σ (.Name n pos) rStr z := by
  obtain ⟨t, h⟩ := V
  exact ev_c (v := .str z) (pe_glob hg h ⟨_, rfl⟩ hd) fun _ => rfl
theorem Blk.gvI {z : Int} (h : Blk X scope Xb) (V : ∃ t, X.mg n = some (.int z t)) : ∃ t, Xb.mg n = some (.int z t) := by
  rw [h.mg]
  exact V
theorem Blk.gvS {z : Str} (h : Blk X scope Xb) (V : ∃ t, X.mg n = some (.str z t)) : ∃ t, Xb.mg n = some (.str z t) := by
  rw [h.mg]
  exact V
end
end Sg

namespace Sg
open PySem PySem.Spec PyProof.Rows L2
/-! ### the law as a whole -/
/-- no list stands in the written part -/
def noLst (K : PySem.W.Frag) : Bool := K.all fun p => match p.2.cls with
  | .type n => !(n == "list")
  | _ => true
theorem lookup_mem {β : Type} {a : Addr} {b : β} : ∀ {l : List (Addr × β)}, l.lookup a = some b → (a, b) ∈ l
  | [], h => nomatch h
  | (x, y) :: r, h => by
    rw [List.lookup_cons] at h
    cases hx : a == x with
    | true =>
      rw [hx] at h
      have e1 : a = x := by simpa using hx
      have e2 : y = b := Option.some.inj h
      rw [e1, e2]
      exact List.mem_cons_self ..
    | false =>
      rw [hx] at h
      exact List.mem_cons_of_mem _ (lookup_mem h)
theorem noLst.out {K : PySem.W.Frag} (h : noLst K = true) {a : Addr} {o : Obj} (hl : K.lookup a = some o) (hc : o.cls = .type "list") : False := by
  have q := List.all_eq_true.mp h _ (lookup_mem hl)
  simp only [hc] at q
  exact absurd q (by decide)
def spLaw : Sp := fun vs H Q _ => ∃ (a : Addr) (ns : List Int), vs = [.ref a] ∧ Rd H a (.lst (ns.map V.int)) ∧ ns.length ≤ 63 ∧ ∀ H', Q (.bl true) H'
def CalM (P : Program) (w : World) (K : PySem.W.Frag) (mg : Str → Option Value) (base : Heap) (k : Nat) (n : Str) (ps : List Str) (sp : Sp) : Prop := ∃ (f : Addr) (fd : FuncData), FnOk P w K mg base CX0 k f fd ps sp ∧ mg n = some (.ref f) ∧ PySem.W.keepIn K (.ref f) = true ∧ Binds K fd ps []
def MCalM (P : Program) (w : World) (K : PySem.W.Frag) (mg : Str → Option Value) (base : Heap) (k : Nat) (C : Addr) (n : Str) (ps : List Str) (sp : Sp) : Prop := ∃ (f : Addr) (fd : FuncData), FnOk P w K mg base CX0 k f fd ps sp ∧ Meth K C n f ∧ Binds K fd ps []
def MkTM (P : Program) (w : World) (K : PySem.W.Frag) (mg : Str → Option Value) (base : Heap) (k : Nat) (n : Str) (CT : Addr) (ps : List Str) (sp : Sp) : Prop := ∃ (f : Addr) (fd : FuncData), Mk K CT f ∧ FnOk P w K mg base CX0 k f fd ps sp ∧ mg n = some (.ref CT) ∧ Binds K fd ps []
theorem fn_law {P : Program} {w : World} {K : PySem.W.Frag} {mg : Str → Option Value} {base : Heap} {k : Nat} {f : Addr} {fd : FuncData} {p : Str} {m : List Int → Res Bool}
    {args : List Int → AR} (F : FnOk P w K mg base CX0 k f fd [p] (SpA args (kE rBool) m)) (h : ∀ ns : List Int, ns.length ≤ 63 → m ns = .ok true) (ha : ∀ (H : Hp) (v : V) (ns : List Int), (rLst rInt).r H v ns → (args ns).r [v] H H := by exact fun H v ns h => ⟨_, _, rfl, h, rfl⟩) : FnOk P w K mg base CX0 k f fd [p] spLaw := by
  refine F.imp fun vs H Q E hs => ?_
  obtain ⟨a, ns, rfl, hr, hl, hq⟩ := hs
  refine ⟨H, ns, Sx.refl _, fun _ _ e => e, ha _ _ _ ⟨a, _, rfl, hr, ints_rel' ns⟩, ?_⟩
  rw [h ns hl]
  intro v B2 H2 _ r
  rw [show v = .bl true from r]
  exact hq H2
theorem walk_law {l : PySem.W.OpenLaw} {q : Program} {loose : List Str} {XP : (Str → Option Value) → Heap → Prop} {YP : World → Heap → Prop} {d : DefRec} {K : Params → PySem.W.Frag} {k : Nat} {p : Str} (hn : l.most = some 63) (hdf : d.params.defaults = []) (hr : Room k callerA)
    (hY : ∀ (w : World) (h : Heap), YP w h → (K w.params).In h) (hN : ∀ w : World, noLst (K w.params) = true)
    (F : ∀ (w : World) (mg : Str → Option Value) (fa : Addr) (h : Heap), (K w.params).In h → h.Ns mainGlobals mg → mg d.name = some (.ref fa) →
      ∃ fd : FuncData, (∀ (s : Shared) (u : Value), BindsTo s fd ⟨[u], []⟩ [(p, u)]) ∧ ∀ base : Heap, (K w.params).In base → base.Ns mainGlobals mg → FnOk l.prog w (K w.params) mg base CX0 k fa fd [p] spLaw) :
    PySem.W.WalkO q loose XP YP l.row.toRowW d [] (fun f vs => PySem.call f vs) :=
  L2.walk_of (n := 63) (k := k) (x := p) (CX := fun _ => CX0) (sp := fun _ => spLaw) hn (by decide) hdf hr hY F (fun w _ a ns hl _ hS => ⟨a, ns, rfl, by
    rcases hS with h | ⟨o, its, n, h1, h2, _⟩
    · exact h
    · exact (noLst.out (hN w) h1 h2).elim, hl, fun _ => rfl⟩) fun _ _ _ _ _ z => z
end Sg

namespace Sg
open PySem PySem.Spec PyProof.Rows L2
theorem ltSl {n : Nat} (h : n < 1000) : n < sizeLine := by rw [sizeLine_eq]; omega
/-! a list of one's own lists -/
abbrev refs (qs : List (Addr × List V)) : List V := qs.map fun q => V.ref q.1
abbrev lsts (qs : List (Addr × List V)) : Own := qs.map fun q => (q.1, HO.lst q.2)
def rAny : Rel Unit := ⟨fun _ _ _ => True, fun _ h => h⟩
theorem pAny {H : Hp} : ∀ vs : List V, Paired (rAny.r H) vs (vs.map fun _ => ())
  | [] => .nil
  | v :: r => .cons trivial (pAny r)
section
variable {X Xb : Cx} {E : Ent} {own new own' : Own} {B H B' H' : Hp} {σ : L2.St} {α β γ δ τ ρ ρ' : Type} {R : Rel α} {S : Rel β} {T : Rel γ} {U : Rel δ} {e a b c d o it tg : Expr} {x : α} {y : β} {p pos pos' apos : Pos} {i j k k0 : Nat} {z w : Bool} {xs : List α} {ys : List β} {es : List Expr}
variable {n m f : Str} {rest body other : List Stmt} {D : Ends} {P : ρ → Prop} {Er : Err → Prop}
/-- x = [a, b], new lists both -/
theorem s_asgOL2 (C : Cok X k) (L : Slot X i n) (S0 : Stt E own B H) (ha : EvL X E own B H σ a R xs) (hb : ∀ own' B' H', Stt E own' B' H' → Ex B B' → Ex H H' → EvL X E own' B' H' σ b S ys)
    (q : ∀ p q0 q1 us vs B' H', Stt E ((p, .lst [.ref q0, .ref q1]) :: (q0, .lst us) :: (q1, .lst vs) :: own) B' H' → Ex B B' → Paired (R.r B') us xs → Paired (S.r B') vs ys → WSs X rest D (σ.set i (some (.ref p))) H')
    (hst : starEach (a :: [b]) X.env = (false, eval a X.env) :: starEach [b] X.env := by rfl) (hst2 : St1 X b := by rfl)
    (hs : swapsWith (.List [a, b] pos') (some (.Name n p)) pos.line X.env = pure false := by rfl) : WSs X (.Assign [.Name n p] (.List [a, b] pos') pos :: rest) D σ H :=
  WSs.cons (ps_set C.nd L.ix L.loc (pe_lst (pa_cons peW (pa1 hst2) hst)) hs L.hf) (ha B H S0 (Ex.refl _) (Ex.refl _) _ fun q0 us B2 H2 S2 e1 e2 r1 => hb _ B2 H2 S2 e1 e2 B2 H2 S2 (Ex.refl _) (Ex.refl _) _ fun q1 vs B3 H3 S3 e3 e4 r2 =>
    ⟨by show 2 ≤ sizeLine; decide, fun pp hp => q pp q0 q1 us vs B3 _ ((S3.swap.alloc hp fun ys z => by cases z)) (e1.trans e3) (pimp r1 fun _ _ z => R.mono e3 z) r2⟩)
/-- xs.append(a new list) -/
theorem s_appendO {apos : Pos} {q : Addr} {vs : List V} (S0 : Stt E own B H) (ha : PE X a (tVar i)) (h : σ[i]? = some (some (.ref q))) (hk : own[k]? = some (q, .lst vs)) (he : EvL X E own B H σ e R xs) (hz : vs.length < sizeLine)
    (kt : ∀ q2 us B' H', Stt E ((q2, .lst us) :: own.set k (q, .lst (vs ++ [.ref q2]))) B' H' → Ex B B' → Paired (R.r B') us xs → WSs X rest D σ H')
    (t : BmT X a "append" apos [] e p := by exact ⟨rfl, rfl, rfl, rfl, rfl⟩) (hs : St1 X e := by rfl) (hw : swapsWith (.Call (.Attribute a "append" apos) [e] [] p) none pos.line X.env = pure false := by rfl) :
    WSs X (.Expr (.Call (.Attribute a "append" apos) [e] [] p) pos :: rest) D σ H :=
  WSs.cons (ps_expr (pe_append ha t hs) hw) ⟨.ref q, h, .inl ⟨rfl, _, SqL.of (S0.ow _ (getE hk)).2.2⟩, he B H S0 (Ex.refl _) (Ex.refl _) _ fun q2 us B2 H2 S2 e1 e2 ru => by
    have hq := (S2.ow _ (List.mem_cons_of_mem _ (getE hk))).2.2
    refine ⟨q, vs, .ref q2, rfl, rfl, hq, hz, ?_⟩
    have hk2 : ((q2, HO.lst us) :: own)[k + 1]? = some (q, .lst vs) := hk
    have S3 := S2.put (o' := HO.lst (vs ++ [V.ref q2])) hk2 (fun ys z => by cases z)
    exact kt q2 us B2 _ S3 e1 ru⟩
/-- xs[j] of such a list -/
theorem ev_ixO {q qj : Addr} {vs us : List V} {jj : Int} {kk} {pp : Pos} (hp : PE X o (tVar i)) (h : σ[i]? = some (some (.ref q))) (hk : (q, HO.lst vs) ∈ own) (hv : atI vs jj = some (.ref qj)) (hj : (qj, HO.lst us) ∈ own) (r : Paired (R.r B) us xs) : EvB X E own B H σ (.Subscript o (.Constant (.int jj) kk pp) pos) (rLst R) xs := fun B1 H1 S1 e1 e2 Q kq =>
  WE.of (pe_ix ix_list hp pe_int (fun _ _ => rfl)) ⟨.ref q, h, q, vs, jj, .ref qj, rfl, rfl, SqL.of (S1.ow _ hk).2.2, hv, kq _ B1 H1 S1 (Ex.refl _) (Ex.refl _) ⟨qj, us, rfl, Rd.of (S1.ow _ hj).2.2, pimp r fun _ _ z => R.mono (e1.trans S1.bh.ex) z⟩⟩
/-- for x in xs: x.f() -/
theorem s_forOL {g : List V → List V} {tn : Str} {tp : Pos} {q : Addr} {qs : List (Addr × List V)} {own0 : Own} (C : Cok X k) (L : Slot X j tn) (S0 : Stt E ((q, .lst (refs qs)) :: (lsts qs ++ own0)) B H) (hp : PE X it (tVar i)) (h : σ[i]? = some (some (.ref q))) (hj : j < σ.length)
    (hb : ∀ own' B' H' σ' k' qk vk (D' : Ends), Stt E own' B' H' → σ'[j]? = some (some (.ref qk)) → own'[k']? = some (qk, .lst vk) → (∀ H2, Stt E (own'.set k' (qk, .lst (g vk))) B' H2 → D'.nx σ' H2) → WSs X body D' σ' H')
    (hq : qs ≠ []) (kt : ∀ v H', Stt E ((q, .lst (refs qs)) :: (lsts (qs.map fun u => (u.1, g u.2)) ++ own0)) B H' → WSs X rest D (σ.set j v) H')
    (hf : ∀ x, foldedSetIterable it X.env x = pure x := by intro _; rfl) : WSs X (.For (.Name tn tp) it body [] pos :: rest) D σ H := by
  refine WSs.cons (ps_for C.own C.calm (pi_list (tl := WE X it) peW) (pg_name (i := j) C.nd L.ix L.loc L.hf) pssW hf) (WE.of hp ⟨_, h, q, rfl, ⟨refs qs, SqL.of (S0.ow _ (List.mem_cons_self ..)).2.2⟩, ?_⟩)
  refine ⟨fun i' mm σ' H' => mm = qs.length - i' ∧ i' ≤ qs.length ∧ (∃ v, σ' = (if i' = 0 then σ else σ.set j v)) ∧ Stt E ((q, .lst (refs qs)) :: (lsts ((qs.take i').map fun u => (u.1, g u.2)) ++ (lsts (qs.drop i') ++ own0))) B H', ⟨qs.length, rfl, Nat.zero_le _, ⟨none, by rw [if_pos rfl]⟩, by simpa using S0⟩, ?_⟩
  rintro i' mm σ' H' ⟨rfl, hi, ⟨v0, rfl⟩, S'⟩
  have hl := (S'.ow _ (List.mem_cons_self ..)).2.2
  have len : (refs qs).length = qs.length := List.length_map _
  by_cases hlt : i' < qs.length
  · refine .inr ⟨⟨refs qs, (refs qs)[i']'(by rw [len]; exact hlt), SqL.of hl, List.getElem?_eq_getElem _⟩, fun σ2 H2 => (∃ v, σ2 = σ.set j v) ∧ Stt E ((q, .lst (refs qs)) :: (lsts ((qs.take (i' + 1)).map fun u => (u.1, g u.2)) ++ (lsts (qs.drop (i' + 1)) ++ own0))) B H2, fun σ2 H2 ⟨⟨v1, q1⟩, q2⟩ => ⟨qs.length - (i' + 1), by omega, rfl, hlt, ⟨v1, by rw [if_neg (Nat.succ_ne_zero _)]; exact q1⟩, q2⟩, fun v H'' hy => ?_⟩
    obtain ⟨e1, hv⟩ := hy
    subst e1
    have hv1 := hv _ (SqL.of hl)
    rw [List.getElem?_map, List.getElem?_eq_getElem hlt] at hv1
    have hv2 : v = .ref (qs[i']).1 := (Option.some.inj hv1).symm
    subst hv2
    have hset : (if i' = 0 then σ else σ.set j v0).set j (some (V.ref (qs[i']).1)) = σ.set j (some (.ref (qs[i']).1)) := by
      by_cases h0 : i' = 0
      · rw [if_pos h0]
      · rw [if_neg h0, List.set_set]
    show WSs X body _ ((if i' = 0 then σ else σ.set j v0).set j (some (V.ref (qs[i']).1))) H''
    rw [hset]
    have hd : lsts (qs.drop i') = ((qs[i']).1, HO.lst (qs[i']).2) :: lsts (qs.drop (i' + 1)) := by
      rw [List.drop_eq_getElem_cons hlt]
      rfl
    have ht : lsts ((qs.take (i' + 1)).map fun u => (u.1, g u.2)) = lsts ((qs.take i').map fun u => (u.1, g u.2)) ++ [((qs[i']).1, HO.lst (g (qs[i']).2))] := by
      rw [List.take_succ_eq_append_getElem hlt, List.map_append]
      exact List.map_append
    rw [hd] at S'
    rw [ht]
    generalize lsts ((qs.take i').map fun u => (u.1, g u.2)) = A at S' ⊢
    refine hb _ B H'' _ (A.length + 1) (qs[i']).1 (qs[i']).2 _ S' (List.getElem?_set_self hj) (by simp) fun H2 S2 => ⟨⟨_, rfl⟩, ?_⟩
    have e2 : ((q, HO.lst (refs qs)) :: (A ++ (((qs[i']).1, HO.lst (qs[i']).2) :: lsts (qs.drop (i' + 1)) ++ own0))).set (A.length + 1) ((qs[i']).1, .lst (g (qs[i']).2)) = ((q, .lst (refs qs)) :: (A ++ [((qs[i']).1, HO.lst (g (qs[i']).2))] ++ (lsts (qs.drop (i' + 1)) ++ own0))) := by
      simp
    rw [← e2]
    exact S2
  · have e : i' = qs.length := by omega
    subst e
    refine .inl ⟨⟨refs qs, SqL.of hl, Nat.le_of_eq len⟩, ?_⟩
    rw [List.take_length, List.drop_length] at S'
    have := kt v0 H' S'
    rw [if_neg (by intro z; exact hq (List.eq_nil_of_length_eq_zero z))]
    exact this
/-! x in a list of data -/
theorem Cok.hu65 (C : Cok X k) : X.A.units + 65 < cLine := by
  have := C.room.un
  omega
theorem any_in [F : DatK X.K R] (x : α) (xs : List α) [dd : Decidable (x ∈ xs)] : ((xs.map F.d).any fun z => PyData.eqv z (F.d x)) = decide (x ∈ xs) := by
  rw [List.any_map, Bool.eq_iff_iff, List.any_eq_true, decide_eq_true_iff]
  constructor
  · rintro ⟨z, hz, e⟩
    rw [← (F.eq z x).mp e]
    exact hz
  · intro h
    exact ⟨x, h, (F.eq x x).mpr rfl⟩
theorem ev_inD [F : DatK X.K R] [dd : Decidable (x ∈ xs)] (hu : X.A.units + 65 < cLine) (ha : EvB X E own B H σ a R x) (ho : EvB X E own B H σ o (rLst R) xs) (hn : F.n + 1 ≤ 64 := by exact Nat.le_of_ble_eq_true rfl) (hm : behindInMarks .In o = false := by rfl) : EvB X E own B H σ (.Compare a [.In] [o] pos) rBool (decide (x ∈ xs)) :=
  ev_cmp (op_inD hu) ha ho hm fun H1 v w Q h1 h2 k => ⟨F.d x, xs.map F.d, F.rd h1, DatK.rd (R := rLst R) h2, dat_sh (by omega) x, dat_sh (X := X) (R := rLst R) hn xs, by rw [any_in]; exact k⟩
theorem et_inD [F : DatK X.K R] [dd : Decidable (x ∈ xs)] (hu : X.A.units + 65 < cLine) (ha : EvB X E own B H σ a R x) (ho : EvB X E own B H σ o (rLst R) xs) (hn : F.n + 1 ≤ 64 := by exact Nat.le_of_ble_eq_true rfl) (hm : behindInMarks .In o = false := by rfl) : EvT X E own B H σ (.Compare a [.In] [o] pos) (decide (x ∈ xs)) :=
  et_cmp (op_inD hu) ha ho hm fun H1 v w Q h1 h2 k => ⟨F.d x, xs.map F.d, F.rd h1, DatK.rd (R := rLst R) h2, dat_sh (by omega) x, dat_sh (X := X) (R := rLst R) hn xs, by rw [any_in]; exact k⟩
theorem ev_ninD [F : DatK X.K R] [dd : Decidable (x ∈ xs)] (hu : X.A.units + 65 < cLine) (ha : EvB X E own B H σ a R x) (ho : EvB X E own B H σ o (rLst R) xs) (hn : F.n + 1 ≤ 64 := by exact Nat.le_of_ble_eq_true rfl) (hm : behindInMarks .NotIn o = false := by rfl) : EvB X E own B H σ (.Compare a [.NotIn] [o] pos) rBool (!decide (x ∈ xs)) :=
  ev_cmp (op_notInD hu) ha ho hm fun H1 v w Q h1 h2 k => ⟨F.d x, xs.map F.d, F.rd h1, DatK.rd (R := rLst R) h2, dat_sh (by omega) x, dat_sh (X := X) (R := rLst R) hn xs, by rw [any_in]; exact k⟩
theorem et_ninD [F : DatK X.K R] [dd : Decidable (x ∈ xs)] (hu : X.A.units + 65 < cLine) (ha : EvB X E own B H σ a R x) (ho : EvB X E own B H σ o (rLst R) xs) (hn : F.n + 1 ≤ 64 := by exact Nat.le_of_ble_eq_true rfl) (hm : behindInMarks .NotIn o = false := by rfl) : EvT X E own B H σ (.Compare a [.NotIn] [o] pos) (!decide (x ∈ xs)) :=
  et_cmp (op_notInD hu) ha ho hm fun H1 v w Q h1 h2 k => ⟨F.d x, xs.map F.d, F.rd h1, DatK.rd (R := rLst R) h2, dat_sh (by omega) x, dat_sh (X := X) (R := rLst R) hn xs, by rw [any_in]; exact k⟩
end
end Sg

namespace Sg
open PySem PySem.Spec PyProof.Rows L2
/-! xs.extend(a tuple) -/
theorem ext_tup (l : Addr) (items : Array Value) (n : Nat) (b : Addr) (items2 : Array Value) (n2 : Nat) (od : Option Addr) (sl : Array (Option Value)) (hs0 : ¬(!items.isEmpty && Builtin.List.listTooLong (items.size + items2.size)) = true) (hs1 : items.size ≤ sizeLine) (hs2 : items.size + items2.size ≤ sizeLine + 1 := by seq_fits) :
    Meets (Builtin.«list.extend» ⟨[.ref l, .ref b], []⟩) (fun _ R s => s.heap.get? l = some { cls := .type "list", dict := none, data := .seq items n, slots := #[] } ∧ s.heap.get? b = some { cls := .type "tuple", dict := od, data := .seq items2 n2, slots := sl } ∧ R (.ok (.ret Value.none)) { s with heap := s.heap.update l (Obj.mapSeq fun x => x ++ items2), toks := s.toks }) :=
  .of_wp fun prog w A R s h => by
    obtain ⟨hp, g, d, tk, os⟩ := s
    obtain ⟨hl, hb, h⟩ := h
    have f1 := AutoSeq1.idx_int
    have f2 := AutoSeq1.sub_tuple_tuple
    have f3 := AutoSeq1.sub_list_list
    have f4 := AutoSeq1.sub_tuple_list
    have f5 := AutoSeq1.sub_list_tuple
    have fits : (items ++ items2).size ≤ sizeLine + 1 := by
      rw [Array.size_append]
      exact hs2
    wp_walk using (wpAny_updateSeq hl rfl (hz := hs1) (_hz' := fits)), AutoSeq1.wpAny_loadPart' hl, AutoSeq1.wpAny_loadPart' hb
    exact ⟨_, rfl, h⟩
def rExtendT (K : PySem.W.Frag) : V → List V → Hp → VK → Prop := fun x vs H Q => ∃ l b xs zs, x = .ref l ∧ vs = [.ref b] ∧ H l = some (.lst xs) ∧ SqT K H b zs ∧ xs.length + zs.length ≤ sizeLine ∧ Q .non (upd H l (.lst (xs ++ zs)))
theorem notLong' {xs : Array Value} {n : Nat} (h : n ≤ sizeLine) : Builtin.List.listTooLong n = false := by
  unfold Builtin.List.listTooLong
  exact decide_eq_false (by omega)
theorem mt_extendT {X : Cx} : MtM X "list.extend" (rExtendT X.K) := by
  intro pins s σ H x vs v us Q I rx rv h
  obtain ⟨l, b, xs, zs, rfl, rfl, hH, hB, hz, q⟩ := h
  cases rx
  obtain ⟨u, rfl, ru⟩ := rv.one
  cases ru
  obtain ⟨z, its, n, r, hl, e⟩ := I.lstM hH
  obtain ⟨its2, r2, ⟨⟨oc, od, dt, sl⟩, e2, hc, n2, hd⟩, hz2⟩ := I.tuple hB
  simp only at hc hd
  subst hc hd
  have hl2 := r2.length
  have hsz : its.toArray.size + its2.toArray.size ≤ sizeLine := by rw [List.size_toArray, List.size_toArray]; omega
  have hlong : ¬ (!its.toArray.isEmpty && Builtin.List.listTooLong (its.toArray.size + its2.toArray.size)) = true := by
    rw [notLong' (xs := its.toArray) hsz, Bool.and_false]
    exact Bool.false_ne_true
  refine call_meets PySem.F.slot_list_extend ⟨_, e, rfl⟩ PySem.F.entry_list_extend (PySem.F.args_list_extend_2 _ _)
    (ext_tup l its.toArray n b its2.toArray n2 od sl hlong (by rw [List.size_toArray]; omega) (by omega)) ⟨e, e2, ?_⟩
  refine ⟨.non, _, I.lset (its' := its ++ its2) hH e (by simp) (r.append r2) ?_, rfl, q⟩
  rw [List.length_append]
  omega
section
variable {X Xb : Cx} {E : Ent} {own new own' : Own} {B H B' H' : Hp} {σ : L2.St} {α β γ δ τ ρ ρ' : Type} {R : Rel α} {S : Rel β} {T : Rel γ} {U : Rel δ} {e a b c d o it tg : Expr} {x : α} {y : β} {p pos pos' apos : Pos} {i j k k0 : Nat} {z w : Bool} {xs : List α} {ys : List β} {es : List Expr}
variable {n m f : Str} {rest body other : List Stmt} {D : Ends} {P : ρ → Prop} {Er : Err → Prop}
theorem s_extendT {apos : Pos} {q : Addr} {vs : List V} {xs zs : List α} (S0 : Stt E own B H) (ha : PE X a (tVar i)) (h : σ[i]? = some (some (.ref q))) (hk : own[k]? = some (q, .lst vs)) (r : Paired (R.r B) vs xs) (he : EvE X E own B H σ e (rTup R) zs) (hz : xs.length + zs.length ≤ sizeLine)
    (kt : ∀ us B' H', Stt E (own.set k (q, .lst (vs ++ us))) B' H' → Ex B B' → Paired (R.r B') (vs ++ us) (xs ++ zs) → WSs X rest D σ H')
    (t : BmT X a "extend" apos [] e p := by exact ⟨rfl, rfl, rfl, rfl, rfl⟩) (hs : St1 X e := by rfl) (hw : swapsWith (.Call (.Attribute a "extend" apos) [e] [] p) none pos.line X.env = pure false := by rfl) :
    WSs X (.Expr (.Call (.Attribute a "extend" apos) [e] [] p) pos :: rest) D σ H :=
  WSs.cons (ps_expr (pe_bm PySem.F.plainAttrs_list PySem.F.slot_list_extend PySem.F.type_list_extend mt_extendT ha (pa1 hs) t.1 t.2.1 t.2.2.1 t.2.2.2.1 t.2.2.2.2) hw) ⟨.ref q, h, .inl ⟨rfl, _, SqL.of (S0.ow _ (getE hk)).2.2⟩, he B H S0 (Ex.refl _) (Ex.refl _) _ fun v B2 H2 S2 e1 e2 ru => by
    obtain ⟨l, us, rfl, hl, hp⟩ := ru
    have hq := (S2.ow _ (getE hk)).2.2
    refine ⟨q, l, vs, us, rfl, rfl, hq, SqT.of (S2.bh _ _ hl), by rw [plen r, plen hp]; exact hz, ?_⟩
    exact kt us B2 _ (S2.put hk (o' := .lst (vs ++ us)) fun ys z => by cases z) e1 (pappend (pimp r fun _ _ z => R.mono e1 z) hp)⟩
/-- x += e, numbers -/
theorem s_augI {u w : Int} (C : Cok X k) (L : Slot X i n) (S0 : Stt E own B H) (h : σ[i]? = some (some (.int u))) (he : EvB X E own B H σ e rInt w)
    (q : ∀ B' H', Stt E own B' H' → Ex B B' → WSs X rest D (σ.set i (some (.int (u + w)))) H') : WSs X (.AugAssign (.Name n pos') .Add e pos :: rest) D σ H :=
  WSs.cons (ps_aug C.nd L.ix L.loc peW ip_add L.hf) ⟨_, h, he B H S0 (Ex.refl _) (Ex.refl _) _ fun v B2 H2 S2 e1 _ r => ⟨u, w, rfl, r, q B2 H2 S2 e1⟩⟩
/-! chains whose third part is asked only where the first pair holds -/
theorem ev_chP {op op' : CmpOp} {r1 r2 : R2} {z1 w : Bool} {x : α} {y : β} (h1 : OpR X (compareOp op) r1) (h2 : OpR X (compareOp op') r2) (hm : lastMarks [op, op'] [b, c] = false) (ha : EvB X E own B H σ a R x) (hb : EvB X E own B H σ b S y)
    (k1 : ∀ H1 v w (Q : VK), R.r H1 v x → S.r H1 w y → Q (.bl z1) H1 → r1 v w H1 Q) (hc : z1 = true → ∃ u : γ, EvB X E own B H σ c T u ∧ ∀ H1 v v' (Q : VK), S.r H1 v y → T.r H1 v' u → Q (.bl w) H1 → r2 v v' H1 Q) (hn : z1 = false → w = false) : EvB X E own B H σ (.Compare a [op, op'] [b, c] pos) rBool w := fun B1 H1 S1 e1 e2 Q k =>
  WE.of (pe_chain h1 h2 peW peW peW hm) (ha B1 H1 S1 e1 e2 _ fun v B2 H2 S2 e3 e4 r => hb B2 H2 S2 (e1.trans e3) (e2.trans e4) _ fun w1 B3 H3 S3 e5 e6 s => k1 H3 v w1 _ (R.mono e6 r) s ⟨z1, rfl, by
    cases z1 with
    | true =>
      obtain ⟨u, hu, k2⟩ := hc rfl
      exact hu B3 H3 S3 ((e1.trans e3).trans e5) ((e2.trans e4).trans e6) _ fun w2 B4 H4 S4 e7 e8 t => k2 H4 w1 w2 Q (S.mono e8 s) t (k _ B4 H4 S4 ((e3.trans e5).trans e7) ((e4.trans e6).trans e8) rfl)
    | false => exact k _ B3 H3 S3 (e3.trans e5) (e4.trans e6) (by rw [hn rfl]; rfl)⟩)
theorem et_chP {op op' : CmpOp} {r1 r2 : R2} {z1 w : Bool} {x : α} {y : β} (h1 : OpR X (compareOp op) r1) (h2 : OpR X (compareOp op') r2) (hm : lastMarks [op, op'] [b, c] = false) (ha : EvB X E own B H σ a R x) (hb : EvB X E own B H σ b S y)
    (k1 : ∀ H1 v w (Q : VK), R.r H1 v x → S.r H1 w y → Q (.bl z1) H1 → r1 v w H1 Q) (hc : z1 = true → ∃ u : γ, EvB X E own B H σ c T u ∧ ∀ H1 v v' (Q : VK), S.r H1 v y → T.r H1 v' u → Q (.bl w) H1 → r2 v v' H1 Q) (hn : z1 = false → w = false) : EvT X E own B H σ (.Compare a [op, op'] [b, c] pos) w := fun B1 H1 S1 e1 e2 Q k =>
  WT.of (pt_chain h1 h2 peW peW peW hm) (ha B1 H1 S1 e1 e2 _ fun v B2 H2 S2 e3 e4 r => hb B2 H2 S2 (e1.trans e3) (e2.trans e4) _ fun w1 B3 H3 S3 e5 e6 s => k1 H3 v w1 _ (R.mono e6 r) s ⟨z1, rfl, by
    cases z1 with
    | true =>
      obtain ⟨u, hu, k2⟩ := hc rfl
      exact hu B3 H3 S3 ((e1.trans e3).trans e5) ((e2.trans e4).trans e6) _ fun w2 B4 H4 S4 e7 e8 t => k2 H4 w1 w2 _ (S.mono e8 s) t ⟨_, rfl, k B4 H4 S4 ((e3.trans e5).trans e7) ((e4.trans e6).trans e8)⟩
    | false => exact ⟨_, rfl, by rw [hn rfl] at k; exact k B3 H3 S3 (e3.trans e5) (e4.trans e6)⟩⟩)
variable {i0 j0 : Int} {w0 : Bool}
theorem ev_chP_lt_lt (ha : EvB X E own B H σ a rInt i0) (hb : EvB X E own B H σ b rInt j0) (hc : decide (i0 < j0) = true → ∃ l0, EvB X E own B H σ c rInt l0 ∧ w0 = decide (j0 < l0)) (hn : decide (i0 < j0) = false → w0 = false) (hm : lastMarks [.Lt, .Lt] [b, c] = false := by rfl) : EvB X E own B H σ (.Compare a [.Lt, .Lt] [b, c] pos) rBool w0 := ev_chP (T := rInt) op_lt op_lt hm ha hb (fun _ _ _ _ h1 h2 k => ⟨_, _, h1, h2, k⟩) (fun hz => by
  obtain ⟨l0, h3, h4⟩ := hc hz
  subst h4; exact ⟨l0, h3, fun _ _ _ _ h1 h2 k => ⟨_, _, h1, h2, k⟩⟩) hn
theorem et_chP_lt_lt (ha : EvB X E own B H σ a rInt i0) (hb : EvB X E own B H σ b rInt j0) (hc : decide (i0 < j0) = true → ∃ l0, EvB X E own B H σ c rInt l0 ∧ w0 = decide (j0 < l0)) (hn : decide (i0 < j0) = false → w0 = false) (hm : lastMarks [.Lt, .Lt] [b, c] = false := by rfl) : EvT X E own B H σ (.Compare a [.Lt, .Lt] [b, c] pos) w0 := et_chP (T := rInt) op_lt op_lt hm ha hb (fun _ _ _ _ h1 h2 k => ⟨_, _, h1, h2, k⟩) (fun hz => by
  obtain ⟨l0, h3, h4⟩ := hc hz
  subst h4; exact ⟨l0, h3, fun _ _ _ _ h1 h2 k => ⟨_, _, h1, h2, k⟩⟩) hn
theorem ev_chP_lt_le (ha : EvB X E own B H σ a rInt i0) (hb : EvB X E own B H σ b rInt j0) (hc : decide (i0 < j0) = true → ∃ l0, EvB X E own B H σ c rInt l0 ∧ w0 = decide (j0 ≤ l0)) (hn : decide (i0 < j0) = false → w0 = false) (hm : lastMarks [.Lt, .LtE] [b, c] = false := by rfl) : EvB X E own B H σ (.Compare a [.Lt, .LtE] [b, c] pos) rBool w0 := ev_chP (T := rInt) op_lt op_le hm ha hb (fun _ _ _ _ h1 h2 k => ⟨_, _, h1, h2, k⟩) (fun hz => by
  obtain ⟨l0, h3, h4⟩ := hc hz
  subst h4; exact ⟨l0, h3, fun _ _ _ _ h1 h2 k => ⟨_, _, h1, h2, k⟩⟩) hn
theorem et_chP_lt_le (ha : EvB X E own B H σ a rInt i0) (hb : EvB X E own B H σ b rInt j0) (hc : decide (i0 < j0) = true → ∃ l0, EvB X E own B H σ c rInt l0 ∧ w0 = decide (j0 ≤ l0)) (hn : decide (i0 < j0) = false → w0 = false) (hm : lastMarks [.Lt, .LtE] [b, c] = false := by rfl) : EvT X E own B H σ (.Compare a [.Lt, .LtE] [b, c] pos) w0 := et_chP (T := rInt) op_lt op_le hm ha hb (fun _ _ _ _ h1 h2 k => ⟨_, _, h1, h2, k⟩) (fun hz => by
  obtain ⟨l0, h3, h4⟩ := hc hz
  subst h4; exact ⟨l0, h3, fun _ _ _ _ h1 h2 k => ⟨_, _, h1, h2, k⟩⟩) hn
theorem ev_chP_le_lt (ha : EvB X E own B H σ a rInt i0) (hb : EvB X E own B H σ b rInt j0) (hc : decide (i0 ≤ j0) = true → ∃ l0, EvB X E own B H σ c rInt l0 ∧ w0 = decide (j0 < l0)) (hn : decide (i0 ≤ j0) = false → w0 = false) (hm : lastMarks [.LtE, .Lt] [b, c] = false := by rfl) : EvB X E own B H σ (.Compare a [.LtE, .Lt] [b, c] pos) rBool w0 := ev_chP (T := rInt) op_le op_lt hm ha hb (fun _ _ _ _ h1 h2 k => ⟨_, _, h1, h2, k⟩) (fun hz => by
  obtain ⟨l0, h3, h4⟩ := hc hz
  subst h4; exact ⟨l0, h3, fun _ _ _ _ h1 h2 k => ⟨_, _, h1, h2, k⟩⟩) hn
theorem et_chP_le_lt (ha : EvB X E own B H σ a rInt i0) (hb : EvB X E own B H σ b rInt j0) (hc : decide (i0 ≤ j0) = true → ∃ l0, EvB X E own B H σ c rInt l0 ∧ w0 = decide (j0 < l0)) (hn : decide (i0 ≤ j0) = false → w0 = false) (hm : lastMarks [.LtE, .Lt] [b, c] = false := by rfl) : EvT X E own B H σ (.Compare a [.LtE, .Lt] [b, c] pos) w0 := et_chP (T := rInt) op_le op_lt hm ha hb (fun _ _ _ _ h1 h2 k => ⟨_, _, h1, h2, k⟩) (fun hz => by
  obtain ⟨l0, h3, h4⟩ := hc hz
  subst h4; exact ⟨l0, h3, fun _ _ _ _ h1 h2 k => ⟨_, _, h1, h2, k⟩⟩) hn
theorem ev_chP_le_le (ha : EvB X E own B H σ a rInt i0) (hb : EvB X E own B H σ b rInt j0) (hc : decide (i0 ≤ j0) = true → ∃ l0, EvB X E own B H σ c rInt l0 ∧ w0 = decide (j0 ≤ l0)) (hn : decide (i0 ≤ j0) = false → w0 = false) (hm : lastMarks [.LtE, .LtE] [b, c] = false := by rfl) : EvB X E own B H σ (.Compare a [.LtE, .LtE] [b, c] pos) rBool w0 := ev_chP (T := rInt) op_le op_le hm ha hb (fun _ _ _ _ h1 h2 k => ⟨_, _, h1, h2, k⟩) (fun hz => by
  obtain ⟨l0, h3, h4⟩ := hc hz
  subst h4; exact ⟨l0, h3, fun _ _ _ _ h1 h2 k => ⟨_, _, h1, h2, k⟩⟩) hn
theorem et_chP_le_le (ha : EvB X E own B H σ a rInt i0) (hb : EvB X E own B H σ b rInt j0) (hc : decide (i0 ≤ j0) = true → ∃ l0, EvB X E own B H σ c rInt l0 ∧ w0 = decide (j0 ≤ l0)) (hn : decide (i0 ≤ j0) = false → w0 = false) (hm : lastMarks [.LtE, .LtE] [b, c] = false := by rfl) : EvT X E own B H σ (.Compare a [.LtE, .LtE] [b, c] pos) w0 := et_chP (T := rInt) op_le op_le hm ha hb (fun _ _ _ _ h1 h2 k => ⟨_, _, h1, h2, k⟩) (fun hz => by
  obtain ⟨l0, h3, h4⟩ := hc hz
  subst h4; exact ⟨l0, h3, fun _ _ _ _ h1 h2 k => ⟨_, _, h1, h2, k⟩⟩) hn
/-! x[i], x[j] = e -/
def PlSub (X : Cx) (o i : Expr) (pos : Pos) : Prop := ∀ v, assign (.Subscript o i pos) X.env v = (do
      let ov ← holding [v] (eval o X.env)
      let iv ← holding [v, ov] (eval i X.env)
      standAt pos
      holding [v, ov, iv] (setItem ov iv v)
      release [v, ov, iv] [])
def setI {α : Type} (xs : List α) (i : Int) (x : α) : Option (List α) := (ixN xs.length i).map fun j => xs.set j x
theorem setI_get {xs ys : List α} {i : Int} {x : α} (h : setI xs i x = some ys) : ∃ j, ixN xs.length i = some j ∧ ys = xs.set j x := by
  unfold setI at h
  cases hj : ixN xs.length i with
  | none => rw [hj] at h; cases h
  | some j => rw [hj] at h; exact ⟨j, rfl, (Option.some.inj h).symm⟩
theorem psetJ {α β : Type} {F : α → β → Prop} {l₁ : List α} {l₂ : List β} {x : α} {y : β} (h : Paired F l₁ l₂) (hx : F x y) (j : Nat) : Paired F (l₁.set j x) (l₂.set j y) := by
  induction h generalizing j with
  | nil => exact .nil
  | cons a b ih =>
    cases j with
    | zero => exact .cons hx b
    | succ j => exact .cons a (ih j)
theorem s_set2 {o2 : Expr} {p1 p2 tp : Pos} {kk : Nat} {q : Addr} {vs : List V} {xs ys zs : List α} {u w : Int} {pq : α × α} (C : Cok X k0) (S0 : Stt E own B H) (ho : PE X o (tVar i)) (ho2 : PE X o2 (tVar i)) (h : σ[i]? = some (some (.ref q))) (hk : own[k]? = some (q, .lst vs)) (r : Paired (R.r B) vs xs)
    (he : EvE X E own B H σ e (rPr R R) pq) (ha : EvB X E own B H σ a rInt u) (h1 : setI xs u pq.1 = some ys)
    (hb : ∀ vs' B' H', Stt E (own.set k (q, .lst vs')) B' H' → Ex B B' → Paired (R.r B') vs' ys → EvB X E (own.set k (q, .lst vs')) B' H' σ b rInt w) (h2 : setI ys w pq.2 = some zs)
    (kt : ∀ vs' B' H', Stt E (own.set k (q, .lst vs')) B' H' → Ex B B' → Paired (R.r B') vs' zs → WSs X rest D σ H')
    (g1 : PlSub X o a p1 := by exact fun _ => rfl) (g2 : PlSub X o2 b p2 := by exact fun _ => rfl)
    (hs : swapsWithSole [.Tuple [.Subscript o a p1, .Subscript o2 b p2] kk tp] e pos.line X.env = pure false := by rfl) (hw : swappedStores [.Tuple [.Subscript o a p1, .Subscript o2 b p2] kk tp] e X.env = pure none := by rfl) :
    WSs X (.Assign [.Tuple [.Subscript o a p1, .Subscript o2 b p2] kk tp] e pos :: rest) D σ H :=
  WSs.cons (ps_asg peW (pg_tup (n := 2) C.calm (pgs_cons (pg_sub ho peW set_list g1) (pgs_cons (pg_sub ho2 peW set_list g2) pgs_nil))) hs hw) (he B H S0 (Ex.refl _) (Ex.refl _) _ fun v B2 H2 S2 e1 e2 rp => by
    obtain ⟨l, va, vb, hl, hl2, hr1, hr2⟩ := rp
    obtain ⟨j1, hj1, rfl⟩ := setI_get h1
    obtain ⟨j2, hj2, rfl⟩ := setI_get h2
    refine ⟨l, [va, vb], hl, SqT.of (S2.bh _ _ hl2), rfl, va, [vb], rfl, .ref q, h, ?_⟩
    refine ha B2 H2 S2 e1 e2 _ fun w1 B3 H3 S3 e3 e4 rw1 => ?_
    have hq := (S3.ow _ (List.mem_of_getElem? hk)).2.2
    have r3 := pimp r fun _ _ z => R.mono (e1.trans e3) z
    have r4 := psetJ r3 (R.mono e3 hr1) j1
    refine ⟨q, vs, u, j1, rfl, rw1, hq, by rw [plen r]; exact hj1, vb, [], rfl, .ref q, h, ?_⟩
    have S3' := S3.put hk (o' := .lst (vs.set j1 va)) fun ys z => by cases z
    refine hb _ B3 _ S3' (e1.trans e3) r4 B3 _ S3' (Ex.refl _) (Ex.refl _) _ fun w2 B4 H4 S4 e5 e6 rw2 => ?_
    have hk4 : (own.set k (q, HO.lst (vs.set j1 va)))[k]? = some (q, HO.lst (vs.set j1 va)) := by
      rw [List.getElem?_set_self (List.getElem?_eq_some_iff.mp hk).1]
    have hq4 := (S4.ow _ (List.mem_of_getElem? hk4)).2.2
    refine ⟨q, _, w, j2, rfl, rw2, hq4, by rw [plen r4]; exact hj2, rfl, ?_⟩
    have S4' := S4.put hk4 (o' := .lst ((vs.set j1 va).set j2 vb)) fun ys z => by cases z
    rw [List.set_set] at S4'
    exact kt _ B4 _ S4' ((e1.trans e3).trans e5) (psetJ (pimp r4 fun _ _ z => R.mono e5 z) (R.mono (e3.trans e5) hr2) j2))
end
end Sg

namespace Sg
open PySem PySem.Spec PyProof.Rows L2
/-! for x in d: the dict is locked while the rows within run -/
def upE (E : Ent) (B : Hp) (q : Addr) (f : HO) : Ent := ⟨unB q (lkB q f B) E.B0, upd E.H0 q f⟩
section
variable {X Xb : Cx} {E : Ent} {own new own' : Own} {B H B' H' : Hp} {σ : L2.St} {α β γ δ τ ρ ρ' : Type} {R : Rel α} {S : Rel β} {T : Rel γ} {U : Rel δ} {e a b c d o it tg : Expr} {x : α} {y : β} {p pos pos' apos : Pos} {i j k k0 : Nat} {z w : Bool} {xs : List α} {ys : List β} {es : List Expr}
variable {n m f : Str} {rest body other : List Stmt} {D : Ends} {P : ρ → Prop} {Er : Err → Prop}
/-- the thing at q is none of those owned here -/
def NoOwn (E : Ent) (B : Hp) (q : Addr) : Prop := B q ≠ Option.none ∨ E.H0 q ≠ Option.none
theorem own_ne {q : Addr} (S0 : Stt E own B H) (h : NoOwn E B q) : ∀ r ∈ own, r.1 ≠ q := fun r hr z => by
  obtain ⟨h1, h2, _⟩ := S0.ow r hr
  rw [z] at h1 h2
  rcases h with h | h
  · exact h h2
  · exact h h1
/-- the thing at q is taken for f -/
theorem up_enter {q : Addr} {u f : HO} (S0 : Stt E own B H) (h : H q = some u) (no : NoOwn E B q) (nu : ∀ ys, f ≠ .tup ys) : Stt (upE E B q f) own (lkB q f B) (upd H q f) where
  b0 := fun a v e => by
    by_cases ha : a = q
    · subst ha; have e' : unB a (lkB a f B) E.B0 a = some v := e; rw [unB_at] at e'; exact e'
    · have e' : unB q (lkB q f B) E.B0 a = some v := e; rw [unB_ne ha] at e'; rw [lkB_ne ha]; exact S0.b0 a v e'
  h0 := fun a v e => by
    by_cases ha : a = q
    · subst ha; rw [upd_same]; have e' : upd E.H0 a f a = some v := e; rw [upd_same] at e'; exact e'
    · rw [upd_ne ha]; have e' : upd E.H0 q f a = some v := e; rw [upd_ne ha] at e'; exact S0.h0 a v e'
  bh := fun a v e => by
    by_cases ha : a = q
    · subst ha
      rw [lkB_at] at e
      rw [upd_same]
      cases hb : B a with
      | none => rw [hb] at e; cases e
      | some w => rw [hb] at e; exact e
    · rw [lkB_ne ha] at e; rw [upd_ne ha]; exact S0.bh a v e
  tu := fun a ys e => by
    by_cases ha : a = q
    · subst ha; rw [upd_same] at e; exact absurd (Option.some.inj e) (nu ys)
    · rw [upd_ne ha] at e; rw [lkB_ne ha]; exact S0.tu a ys e
  fr := fun a v e => by
    by_cases ha : a = q
    · subst ha; exact .inl (by show unB a _ _ a = _; rw [unB_at]; exact e)
    · rw [lkB_ne ha] at e
      rcases S0.fr a v e with z | z
      · exact .inl (by show unB q _ _ a = _; rw [unB_ne ha]; exact z)
      · exact .inr (by show upd E.H0 q f a = _; rw [upd_ne ha]; exact z)
  ow := fun r hr => by
    have ne := own_ne S0 no r hr
    obtain ⟨h1, h2, h3⟩ := S0.ow r hr
    exact ⟨by show upd E.H0 q f r.1 = _; rw [upd_ne ne]; exact h1, by rw [lkB_ne ne]; exact h2, by rw [upd_ne ne]; exact h3⟩
  nd := S0.nd
theorem up_back {q : Addr} {u f : HO} {own3 : Own} {B3 H3 : Hp} (S0 : Stt E own B H) (h : H q = some u) (nu : ∀ ys, u ≠ .tup ys) (S3 : Stt (upE E B q f) own3 B3 H3) : Stt E own3 (unB q B B3) (upd H3 q u) where
  b0 := fun a v e => by
    by_cases ha : a = q
    · subst ha; rw [unB_at]; exact S0.b0 a v e
    · rw [unB_ne ha]; exact S3.b0 a v (by show unB q _ _ a = _; rw [unB_ne ha]; exact e)
  h0 := fun a v e => by
    by_cases ha : a = q
    · subst ha; rw [upd_same]; have := S0.h0 a v e; rw [h] at this; exact this
    · rw [upd_ne ha]; exact S3.h0 a v (by show upd E.H0 q f a = _; rw [upd_ne ha]; exact e)
  bh := fun a v e => by
    by_cases ha : a = q
    · subst ha; rw [unB_at] at e; rw [upd_same]; have := S0.bh a v e; rw [h] at this; exact this
    · rw [unB_ne ha] at e; rw [upd_ne ha]; exact S3.bh a v e
  tu := fun a ys e => by
    by_cases ha : a = q
    · subst ha; rw [upd_same] at e; exact absurd (Option.some.inj e) (nu ys)
    · rw [upd_ne ha] at e; rw [unB_ne ha]; exact S3.tu a ys e
  fr := fun a v e => by
    by_cases ha : a = q
    · subst ha; rw [unB_at] at e; exact S0.fr a v e
    · rw [unB_ne ha] at e
      rcases S3.fr a v e with z | z
      · have z' : unB q (lkB q f B) E.B0 a = some v := z; rw [unB_ne ha] at z'; exact .inl z'
      · have z' : upd E.H0 q f a = Option.none := z; rw [upd_ne ha] at z'; exact .inr z'
  ow := fun r hr => by
    obtain ⟨h1, h2, h3⟩ := S3.ow r hr
    have h1' : upd E.H0 q f r.1 = Option.none := h1
    have ne : r.1 ≠ q := fun z => by rw [z, upd_same] at h1'; cases h1'
    rw [upd_ne ne] at h1'
    exact ⟨h1', by rw [unB_ne ne]; exact h2, by rw [upd_ne ne]; exact h3⟩
  nd := S3.nd
theorem up_at {q : Addr} {f : HO} {own3 : Own} {B3 H3 : Hp} (S3 : Stt (upE E B q f) own3 B3 H3) : H3 q = some f := S3.h0 q f upd_same
theorem up_exB {q : Addr} {u f : HO} (S0 : Stt E own B H) (h : H q = some u) (hc : nf f = nf u) : Ex B (lkB q f B) := fun a v e => by
  by_cases ha : a = q
  · subst ha
    have := S0.bh a v e
    rw [h] at this
    cases this
    exact ⟨f, by rw [lkB_at, e] <;> rfl, hc⟩
  · exact ⟨v, by rw [lkB_ne ha]; exact e, rfl⟩
theorem up_exE {q : Addr} {u f : HO} (S0 : Stt E own B H) (h : H q = some u) (hc : nf f = nf u) : Ex E.H0 (upE E B q f).H0 := fun a v e => by
  by_cases ha : a = q
  · subst ha
    have := S0.h0 a v e
    rw [h] at this
    cases this
    exact ⟨f, upd_same, hc⟩
  · exact ⟨v, by show upd E.H0 q f a = _; rw [upd_ne ha]; exact e, rfl⟩
theorem up_exBack {q : Addr} {u f : HO} {own3 : Own} {B3 H3 : Hp} (S0 : Stt E own B H) (h : H q = some u) (hc : nf u = nf f) (S3 : Stt (upE E B q f) own3 B3 H3) : Ex B3 (unB q B B3) := fun a v e => by
  by_cases ha : a = q
  · subst ha
    rcases S3.fr a v e with z | z
    · have z' : unB a (lkB a f B) E.B0 a = some v := z
      rw [unB_at, lkB_at] at z'
      cases hb : B a with
      | none => rw [hb] at z'; cases z'
      | some w =>
        rw [hb] at z'
        cases z'
        have := S0.bh a w hb
        rw [h] at this
        cases this
        exact ⟨u, by rw [unB_at]; exact hb, hc⟩
    · have z' : upd E.H0 a f a = Option.none := z
      rw [upd_same] at z'
      cases z'
  · exact ⟨v, by rw [unB_ne ha]; exact e, rfl⟩
theorem upd_id {q : Addr} {u : HO} {B : Hp} (h : B q = some u) : upd B q u = B := by
  funext a
  by_cases ha : a = q
  · subst ha; rw [upd_same, h]
  · rw [upd_ne ha]
theorem forM_cons {step : τ → α → Res τ} {kn : τ → Res ρ} {r : List α} {acc : τ} (F : Fin P Er ((forM step (x :: r) acc).bind kn)) : Fin (fun a' => Fin P Er ((forM step r a').bind kn)) Er (step acc x) := by
  unfold forM at F
  cases hm : step acc x with
  | ok o => rw [hm] at F; exact F
  | err e => rw [hm] at F; exact F
  | stuck => rw [hm] at F; exact F
theorem forM_core {B2 H2 : Hp} {J : It} {g : TG} {Tg : α → Hp → L2.St → L2.St → Prop} {step : τ → α → Res τ} {kn : τ → Res ρ} {a0 : τ}
    (hg : ∀ own B H v x σ, Stt E own B H → R.r B v x → ∀ Q : L2.St → Hp → Prop, (∀ σ', Tg x B σ σ' → Q σ' H) → g v σ H Q) (S2 : Stt E own B2 H2) (W : Walk E KoT B2 J R xs)
    (F : Fin P Er ((forM step xs a0).bind kn)) (Inv : τ → L2.St → Own → Hp → Prop) (h0 : Inv a0 σ own B2) (hup : ∀ a σ' own' B' B'', Inv a σ' own' B' → Ex B' B'' → Inv a σ' own' B'')
    (hs : ∀ a x σ' σ2 own' B' H' (Q : τ → Prop), Inv a σ' own' B' → Stt E own' B' H' → Ex B2 B' → Tg x B' σ' σ2 → Fin Q Er (step a x) →
      WSs X body { nx := TurnE E B' Q Inv, rt := fun _ _ => False, bk := fun _ _ => False, ct := TurnE E B' Q Inv } σ2 H')
    (hd : ∀ a σ' own' B' H', Inv a σ' own' B' → Stt E own' B' H' → Ex B2 B' → Fin P Er (kn a) → D.nx σ' H') :
    ∃ W : Nat → Nat → L2.St → Hp → Prop, (∃ m, W 0 m σ H2) ∧ ∀ i m σ H, W i m σ H →
      (J.stop i H ∧ D.nx σ H) ∨ (J.go i H ∧ ∃ N : L2.St → Hp → Prop, (∀ σ' H', N σ' H' → ∃ m', m' < m ∧ W (i + 1) m' σ' H') ∧ ∀ x H', J.yld i H x H' → g x σ H' fun σ2 H2 => WSs X body { D with nx := N, ct := N, bk := D.nx } σ2 H2) := by
  refine ⟨fun i' mm σ' H' => mm = xs.length - i' ∧ i' ≤ xs.length ∧ ∃ a own' B', Fin P Er ((forM step (xs.drop i') a).bind kn) ∧ Stt E own' B' H' ∧ Ex B2 B' ∧ Inv a σ' own' B', ⟨xs.length, by simp, Nat.zero_le _, a0, own, B2, by rw [List.drop_zero]; exact F, S2, Ex.refl _, h0⟩, ?_⟩
  rintro i' mm σ' H' ⟨rfl, hi, a, own', B', F', S', e', iv⟩
  by_cases hlt : i' < xs.length
  · refine .inr ⟨W.go i' own' B' H' S' e' trivial hlt, fun σ2 H2 => ∃ a own' B', Fin P Er ((forM step (xs.drop (i' + 1)) a).bind kn) ∧ Stt E own' B' H2 ∧ Ex B2 B' ∧ Inv a σ2 own' B', fun σ2 H2 q => ⟨xs.length - (i' + 1), by omega, rfl, hlt, q⟩, fun v H'' hy => ?_⟩
    have hx : xs[i']? = some xs[i'] := List.getElem?_eq_getElem hlt
    obtain ⟨B'', S'', e3, e4, rx⟩ := W.yld i' own' B' H' v H'' _ S' e' trivial hx hy
    refine hg own' B'' H'' v _ σ' S'' rx _ fun σ2 tgx => ?_
    have hdrop : xs.drop i' = xs[i'] :: xs.drop (i' + 1) := List.drop_eq_getElem_cons hlt
    rw [hdrop] at F'
    have F2 := forM_cons F'
    have done := hs a _ σ' σ2 own' B'' H'' _ (hup _ _ _ _ _ iv e3) S'' (e'.trans e3) tgx F2
    intro pins s I
    refine wpAny_mono (done pins s I) (fun f s' q => ?_) fun _ _ q => q
    cases f with
    | next =>
      obtain ⟨σ2, H2', I2, a', own2, B3, q1, q2, q3, q4⟩ := q
      exact ⟨σ2, H2', I2, a', own2, B3, q1, q2, (e'.trans e3).trans q3, q4⟩
    | cont =>
      obtain ⟨σ2, H2', I2, a', own2, B3, q1, q2, q3, q4⟩ := q
      exact ⟨σ2, H2', I2, a', own2, B3, q1, q2, (e'.trans e3).trans q3, q4⟩
    | brk =>
      obtain ⟨_, _, _, h⟩ := q
      exact h.elim
    | ret u =>
      obtain ⟨_, _, _, _, _, h⟩ := q
      exact h.elim
  · have e : i' = xs.length := by omega
    subst e
    rw [List.drop_length] at F'
    exact .inl ⟨W.stop _ own' B' H' S' e' trivial (Nat.le_refl _), hd a σ' own' B' H' iv S' e' F'⟩
/-- .. none of those owned here -/
def EvKB (X : Cx) (E : Ent) (B H : Hp) (σ : L2.St) (e : Expr) (R : Rel α) (kvs : List (Int × α)) : Prop := ∃ q ws, (∀ H', Tx H H' → ∀ Q : VK, Q (.ref q) H' → WE X e σ H' Q) ∧ Rd H q (.dK ws) ∧ NoOwn E B q ∧ pI R H ws kvs
/-- what is known of K is known here, and none of it is owned -/
structure KOk (E : Ent) (B H K : Hp) : Prop where
  ex : Ex K H
  no : ∀ q, K q ≠ Option.none → NoOwn E B q
theorem kokB (S0 : Stt E own B H) : KOk E B H B := ⟨S0.bh.ex, fun _ h => .inl h⟩
theorem kok0 (S0 : Stt E own B H) : KOk E B H E.H0 := ⟨S0.h0.ex, fun _ h => .inr h⟩
theorem KOk.rd {K : Hp} {q : Addr} {u : HO} (k : KOk E B H K) (h : Rd K q u) : NoOwn E B q := k.no q (by rcases h with h | ⟨_, h⟩ <;> rw [h] <;> exact fun z => by cases z)
theorem ekb_v {K : Hp} {v : V} {kvs : List (Int × α)} (k : KOk E B H K) (hp : PE X e (tVar i)) (h : σ[i]? = some (some v)) (r : (rDI R).r K v kvs) : EvKB X E B H σ e R kvs := by
  obtain ⟨q, ws, rfl, h2, h3⟩ := r
  exact ⟨q, ws, fun H' _ Q k => WE.of hp ⟨_, h, k⟩, k.ex.dK h2, k.rd h2, h3.up k.ex⟩
theorem ekb_at {K : Hp} {v u : V} {j : Nat} {kvs : List (Int × α)} {kk} {pp : Pos} (k : KOk E B H K) (hp : PE X o (tVar i)) (h : σ[i]? = some (some v)) (ht : TupAt K v u j) (r : (rDI R).r K u kvs) : EvKB X E B H σ (.Subscript o (.Constant (.int j) kk pp) pos) R kvs := by
  obtain ⟨q, ws, rfl, h2, h3⟩ := r
  obtain ⟨p, vs, rfl, h5, h6⟩ := ht
  exact ⟨q, ws, fun H' tx Q k' => WE.of (pe_ix ix_tup hp pe_int (fun _ _ => rfl)) ⟨_, h, p, vs, j, .ref q, rfl, rfl, SqT.of (tx _ _ (k.ex.tup h5)), h6, k'⟩, k.ex.dK h2, k.rd h2, h3.up k.ex⟩
theorem ekb_t41 {K : Hp} {v : V} {x : α × List (Int × β) × γ × δ} {kk} {pp : Pos} (k : KOk E B H K) (hp : PE X o (tVar i)) (h : σ[i]? = some (some v)) (r : (rT4 R (rDI S) T U).r K v x) : EvKB X E B H σ (.Subscript o (.Constant (.int 1) kk pp) pos) S x.2.1 := by
  obtain ⟨p, a, b, c, d, h1, h2, h3, h4, h5, h6⟩ := r
  exact ekb_at (j := 1) k hp h ⟨p, [a, b, c, d], h1, h2, rfl⟩ h4
theorem ekb_t42 {K : Hp} {v : V} {x : α × β × List (Int × γ) × δ} {kk} {pp : Pos} (k : KOk E B H K) (hp : PE X o (tVar i)) (h : σ[i]? = some (some v)) (r : (rT4 R S (rDI T) U).r K v x) : EvKB X E B H σ (.Subscript o (.Constant (.int 2) kk pp) pos) T x.2.2.1 := by
  obtain ⟨p, a, b, c, d, h1, h2, h3, h4, h5, h6⟩ := r
  exact ekb_at (j := 2) k hp h ⟨p, [a, b, c, d], h1, h2, rfl⟩ h5
theorem ekb_t31 {K : Hp} {v : V} {x : α × List (Int × β) × γ} {kk} {pp : Pos} (k : KOk E B H K) (hp : PE X o (tVar i)) (h : σ[i]? = some (some v)) (r : (rT3 R (rDI S) T).r K v x) : EvKB X E B H σ (.Subscript o (.Constant (.int 1) kk pp) pos) S x.2.1 := by
  obtain ⟨p, a, b, c, h1, h2, h3, h4, h5⟩ := r
  exact ekb_at (j := 1) k hp h ⟨p, [a, b, c], h1, h2, rfl⟩ h4
theorem ekb_t32 {K : Hp} {v : V} {x : α × β × List (Int × γ)} {kk} {pp : Pos} (k : KOk E B H K) (hp : PE X o (tVar i)) (h : σ[i]? = some (some v)) (r : (rT3 R S (rDI T)).r K v x) : EvKB X E B H σ (.Subscript o (.Constant (.int 2) kk pp) pos) T x.2.2 := by
  obtain ⟨p, a, b, c, h1, h2, h3, h4, h5⟩ := r
  exact ekb_at (j := 2) k hp h ⟨p, [a, b, c], h1, h2, rfl⟩ h5
def TgOkA (X : Cx) {α : Type} (tg : Expr) (R : Rel α) (T : α → Hp → L2.St → L2.St → Prop) : Prop := ∃ g : TG, PG X tg g ∧ ∀ (E : Ent) own B H v x σ, Stt E own B H → R.r B v x → ∀ Q : L2.St → Hp → Prop, (∀ σ', T x B σ σ' → Q σ' H) → g v σ H Q
theorem s_forD {tg : Expr} {Tg : Int → Hp → L2.St → L2.St → Prop} {step : τ → Int → Res τ} {kn : τ → Res ρ} {a0 : τ} {kvs : List (Int × α)} (C : Cok X k0) (ht : TgOkA X tg rInt Tg) (S0 : Stt E own B H) (hit : EvKB X E B H σ it R kvs)
    (F : Fin P Er ((forM step (kvs.map (·.1)) a0).bind kn))
    (Inv : τ → L2.St → Own → Hp → Prop) (h0 : ∀ B1, Ex B B1 → Inv a0 σ own B1) (hup : ∀ a σ' own' B' B'', Inv a σ' own' B' → Ex B' B'' → Inv a σ' own' B'')
    (hs : ∀ E', Ex E.H0 (Ent.H0 E') → ∀ a x σ' σ2 own' B' H' (Q : τ → Prop), Inv a σ' own' B' → Stt E' own' B' H' → Ex B B' → Tg x B' σ' σ2 → Fin Q Er (step a x) →
      WSs X body { nx := TurnE E' B' Q Inv, rt := fun _ _ => False, bk := fun _ _ => False, ct := TurnE E' B' Q Inv } σ2 H')
    (hd : ∀ a σ' own' B' H', Inv a σ' own' B' → Stt E own' B' H' → Ex B B' → Fin P Er (kn a) → WSs X rest D σ' H')
    (hf : ∀ x, foldedSetIterable it X.env x = pure x := by intro _; rfl) : WSs X (.For tg it body [] pos :: rest) D σ H := by
  obtain ⟨q, ws, hv, hqH, no, hp⟩ := hit
  have kr := keys_rel hp
  obtain ⟨g, pg, hg⟩ := ht
  rcases hqH with hqH | ⟨ob, hqH⟩
  · refine WSs.cons (ps_lock (ps_for C.own C.calm (pi_keys peW) pg pssW hf)) ⟨q, .dK ws, hqH, trivial, fun ob => ?_⟩
    refine hv _ (fun a ys h => ?_) _ ⟨q, ob, rfl, .inl ⟨ws, upd_same, ?_⟩⟩
    · rw [upd_ne fun z => by rw [z, hqH] at h; cases h]
      exact h
    · have SE := up_enter (f := .frz ob (.dK ws)) S0 hqH no (fun ys z => by cases z)
      have ex := up_exB (f := .frz ob (.dK ws)) S0 hqH rfl
      have exE : Ex E.H0 (upE E B q (.frz ob (.dK ws))).H0 := up_exE S0 hqH rfl
      exact forM_core (hg (upE E B q (.frz ob (.dK ws)))) SE (walk_keysE upd_same kr) F Inv (h0 _ ex) hup (fun a x σ' σ2 own' B' H' Q iv S' e' t F' => hs _ exE a x σ' σ2 own' B' H' Q iv S' (ex.trans e') t F')
        fun a σ' own' B' H' iv S' e' F' => by
          have T := up_back S0 hqH (fun ys z => by cases z) S'
          have exb := up_exBack (f := .frz ob (.dK ws)) S0 hqH rfl S'
          exact ⟨up_at S', hd a σ' own' _ _ (hup _ _ _ _ _ iv exb) T ((ex.trans e').trans exb) F'⟩
  · refine WSs.cons (ps_for C.own C.calm (pi_keys peW) pg pssW hf) (hv _ (fun _ _ h => h) _ ⟨q, ob, rfl, .inl ⟨ws, hqH, ?_⟩⟩)
    have SE := up_enter (f := .frz ob (.dK ws)) S0 hqH no (fun ys z => by cases z)
    rw [upd_id hqH] at SE
    have ex := up_exB (f := .frz ob (.dK ws)) S0 hqH rfl
    have exE : Ex E.H0 (upE E B q (.frz ob (.dK ws))).H0 := up_exE S0 hqH rfl
    exact forM_core (hg (upE E B q (.frz ob (.dK ws)))) SE (walk_keysE upd_same kr) F Inv (h0 _ ex) hup (fun a x σ' σ2 own' B' H' Q iv S' e' t F' => hs _ exE a x σ' σ2 own' B' H' Q iv S' (ex.trans e') t F')
      fun a σ' own' B' H' iv S' e' F' => by
        have T := up_back S0 hqH (fun ys z => by cases z) S'
        have exb := up_exBack (f := .frz ob (.dK ws)) S0 hqH rfl S'
        rw [upd_id (up_at S')] at T
        exact hd a σ' own' _ _ (hup _ _ _ _ _ iv exb) T ((ex.trans e').trans exb) F'
theorem tg_nameA {k0 : Nat} (C : Cok X k0) (L : Slot X j n) : TgOkA X (.Name n pos) R (tN j R) := ⟨_, pg_name (i := j) C.nd L.ix L.loc L.hf, fun E own B H v x σ S r Q k => k _ ⟨v, r, rfl⟩⟩
end
end Sg

namespace Sg
open PySem PySem.Spec PyProof.Rows L2
/-! tuple(reversed(a tuple)) -/
section
variable {prog : Program} {w : World} {A : Around} {E : Value → Shared → Prop} {s : Shared} {T : String} {it d : Addr} {n : Nat} {P : Nat → Value → Prop} {OK : Heap → Prop}
theorem self_collect {Q : List Value → Shared → Prop} (K : SelfSrc prog w T it d n P OK) (hh : A.handled = none) (hok : OK s.heap) (hn : n ≤ sizeLine)
    (hQ : ∀ (h' : Heap) (tk : Nat) (acc : Array Value), (∀ b o, b ≠ it → s.heap.get? b = some o → h'.get? b = some o) → ItemsOf P acc n → Q acc.toList { s with heap := h', toks := tk }) :
    wpAny (model prog w) A (collect (.ref it)) Q E s := by
  have hlt := K.there _ hok
  unfold collect
  refine wpAny_bind (wpAny_runValue (codeAny_builtin PySem.F.entry_proto_collect ?_))
  rw [Around.under_plainId PySem.F.plain_proto_collect _]
  show wpAny _ A.in1 (newList [] >>= fun l' => again (.builtin "list.__iadd__" ⟨[l', .ref it], []⟩)) _ _ s
  refine wpAny_bind (wpAny_newObj_type ?_)
  refine wpAny_pure ⟨plainId_quiet PySem.F.plain_list_iadd _, codeAny_builtin PySem.F.entry_list_iadd ?_⟩
  rw [Around.under_plainId PySem.F.plain_list_iadd _]
  have hS₁ : (s.heap.push { cls := .type "list", data := .seq ([] : List Value).toArray }).get? s.heap.objs.size = some { cls := .type "list", data := .seq ([] : List Value).toArray } := Heap.get?_push_size _ rfl
  show wpAny _ A.in1 (Builtin.List.listExtendWith (.ref s.heap.objs.size) (.ref it) (.ref s.heap.objs.size)) _ _ _
  refine self_extend (R := wants _ E) (s := { s with heap := s.heap.push { cls := .type "list", data := .seq ([] : List Value).toArray } }) K hh (K.keep _ _ hok fun b _ o e => Heap.get?_push_of_some _ e) _ (Nat.ne_of_gt hlt.1) (Nat.ne_of_gt hlt.2) _ _ hS₁ (fun h' tk acc' c' hk hS' hacc => ?_) hn
  show wpAny _ A (load s.heap.objs.size >>= _) _ _ _
  refine wpAny_bind (wpAny_load hS' ?_)
  refine wpAny_pure ?_
  exact hQ h' tk acc' (fun b o hb e => hk b o (Nat.ne_of_lt (Heap.lt_size e)) hb (Heap.get?_push_of_some _ e)) hacc
theorem code_tuple_new_rt {Q₁ : Value → Shared → Prop} (K : SelfSrc prog w "reversed" it d n P OK) (hh : A.handled = none) (hok : OK s.heap) (hn : n ≤ sizeLine)
    (h : ∀ (h' : Heap) (tk : Nat) (acc : Array Value), (∀ b o, b ≠ it → s.heap.get? b = some o → h'.get? b = some o) → ItemsOf P acc n →
      Q₁ (.ref h'.objs.size) { s with heap := h'.push { cls := .type "tuple", data := .seq acc }, toks := tk }) :
    codeAny (model prog w) A (.call (.builtin "tuple.__new__") ⟨[.type "tuple", .ref it], []⟩) (wants Q₁ E) s := by
  refine codeAny_of_tree ?_
  show wpAny _ A.in1 (do checkBuiltinCall "tuple.__new__" ⟨[.type "tuple", .ref it], []⟩; again (.builtin "tuple.__new__" ⟨[.type "tuple", .ref it], []⟩)) _ _ s
  refine wpAny_bind (wpAny_of_eq (PySem.F.newCall_tuple_1 _) (wpAny_pure ⟨plainId_quiet PySem.F.plain_tuple_new _, codeAny_builtin PySem.F.entry_tuple_new ?_⟩))
  rw [Around.under_plainId PySem.F.plain_tuple_new _]
  have hsub := sub_tuple_self
  have hinit := init_tuple_lookup
  have hmh := madeHere_tuple
  have hTI : s.TypeIs (.ref it) "reversed" := K.ty s hok
  have hh1 : A.in1.handled = none := hh
  wp_walk using wpAny_typeOf hTI, self_collect (A := A.in1) K hh1 hok hn
  intro h' tk acc hk hacc
  show wpAny _ _ (Builtin.Tuple.tupleExact acc.toList.toArray >>= fun v => ret v) _ _ _
  unfold Builtin.Tuple.tupleExact
  refine wpAny_bind (wpAny_newObj_type ?_ (by show acc.toList.toArray.size ≤ sizeLine; simp only [Array.toArray_toList]; rw [hacc.1]; exact hn))
  refine wpAny_pure ?_
  have e : acc.toList.toArray = acc := by simp
  rw [e]
  exact h h' tk acc hk hacc
theorem call_tuple_rt {Q : Value → Shared → Prop} (K : SelfSrc prog w "reversed" it d n P OK) (hh : A.handled = none) (hok : OK s.heap) (hn : n ≤ sizeLine)
    (hQ : ∀ (h' : Heap) (tk : Nat) (acc : Array Value), (∀ b o, b ≠ it → s.heap.get? b = some o → h'.get? b = some o) → ItemsOf P acc n →
      Q (.ref h'.objs.size) { s with heap := h'.push { cls := .type "tuple", data := .seq acc }, toks := tk }) :
    wpAny (model prog w) A (call (.type "tuple") [.ref it]) Q E s := by
  refine callType_codes (Q₁ := fun obj s₁ => s₁.TypeIs obj "tuple" ∧ Q obj s₁) PySem.F.called_tuple (PySem.F.typeCall_tuple_1 _) PySem.F.entry_object_init
    (code_tuple_new_rt (A := A.in1) K hh hok hn fun h' tk acc hk hacc => ⟨⟨_, Heap.get?_push_size _ rfl, rfl⟩, hQ h' tk acc hk hacc⟩) fun obj s₁ h₁ => ?_
  exact ⟨h₁.1, PySem.F.args_object_init_2 obj _, object_init_meets PySem.F.called_tuple.init.lookup PySem.F.called_tuple.made (by decide) prog w A.in1 _ s₁ ⟨h₁.1, rfl, h₁.2⟩⟩
end
def tTupRevT (K : PySem.W.Frag) (te : TE) : TE := fun σ H Q => te σ H fun v H1 => ∃ (a : Addr) (xs : List V), v = .ref a ∧ SqT K H1 a xs ∧ ∀ q, H1 q = none → Q (.ref q) (upd H1 q (.tup xs.reverse))
section
variable {X : Cx}
theorem pe_tupRevT {e : Expr} {te : TE} {p p2 pos pos2 : Pos} (hc : X.calm = true) (hg : Gl X "tuple") (hm : X.mg "tuple" = none) (hg2 : Gl X "reversed") (hm2 : X.mg "reversed" = none) (he : PE X e te)
    (hs : starEach [e] X.env = (false, eval e X.env) :: starEach [] X.env := by rfl)
    (hs2 : starEach [.Call (.Name "reversed" p2) [e] [] pos2] X.env = (false, eval (.Call (.Name "reversed" p2) [e] [] pos2) X.env) :: starEach [] X.env := by rfl) :
    PE X (.Call (.Name "tuple" p) [.Call (.Name "reversed" p2) [e] [] pos2] [] pos) (tTupRevT X.K te) := by
  refine ⟨fun pins s σ H Q I h => ?_⟩
  refine Call_ (ld_blt I hg hm (show bootBuiltins "tuple" = some (.type "tuple") from by decide +kernel) (PyProof.Rows.callWith_type1 (args_cons (Call_ (ld_blt I hg2 hm2 PyProof.Rows.boot_reversed (PyProof.Rows.callWith_type1 (args_cons (thn (he.run pins s σ H _ I h) fun u s1 ⟨v, H1, I1, r1, q1⟩ => args_nil ?_) hs) hs rfl))) hs2) hs2 rfl))
  obtain ⟨a, xs, ev, hq, q⟩ := q1
  subst ev
  obtain rfl : u = Value.ref a := r1
  obtain ⟨its, rv, p', hz⟩ := I1.tuple hq
  have hn := line63
  refine RT.call_reversed_tup p' (fun A E Q k => PyProof.Rows.len_tuple p' (by simp only [List.size_toArray] <;> (have := rv.length; omega)) k) (args_nil ?_)
  have k0 : ∀ b o, s1.heap.get? b = some o → (s1.heap.push (RT.rtObj a ((its.toArray.size : Int) - 1))).get? b = some o := fun b o e => Heap.get?_push_of_some _ e
  obtain ⟨ol, hol, _⟩ := id p'
  have hne : a ≠ s1.heap.objs.size := Nat.ne_of_lt (Heap.lt_size hol)
  have hz2 : its.toArray.size ≤ sizeLine := by rw [List.size_toArray, ← rv.length]; exact hz
  have I2 : Inv X pins σ H1 { s1 with heap := s1.heap.push (RT.rtObj a ((its.toArray.size : Int) - 1)), toks := s1.toks + 1 + 1 } := I1.kept (t' := s1.toks + 1 + 1) k0
  obtain ⟨f0, f1, f2, f3, f4, f5⟩ := I1.fpOk (H' := H1) (b := s1.heap.objs.size) (Nat.le_refl _) (I1.hok.fresh (Nat.le_refl _))
  refine call_tuple_rt (s := { s1 with heap := s1.heap.push (RT.rtObj a ((its.toArray.size : Int) - 1)), toks := s1.toks + 1 + 1 }) (src_rt hne hz2) (I1.ok.hd hc) ⟨⟨_, Heap.get?_push_size _ rfl, rfl, rfl⟩, p'.push _⟩ hz2 fun h' tk acc hk hi => ?_
  have I3 : Inv X pins σ H1 { s1 with heap := h', toks := tk } := I2.turned (t' := tk) (fun b o hb e => hk b o hb e) f0 f1 f3 f4 f5
  refine ⟨.ref h'.objs.size, upd H1 h'.objs.size (.tup xs.reverse), I3.laid (t' := tk) (fun c o e => Heap.get?_push_of_some _ e) (Nat.le_refl _) (show ObjOk X.prog X.w _ _ _ (.tup xs.reverse) from ⟨by rw [List.length_reverse]; exact hz, acc.toList, RT.vals_rev rv hi, ?_⟩), rfl, q _ (I3.hok.fresh (Nat.le_refl _))⟩
  rw [Array.toArray_toList]
  exact IsTup.new _ _
end
section
variable {X : Cx} {E : Ent} {own : Own} {B H : Hp} {σ : L2.St} {α : Type} {R : Rel α} {a : Expr} {p pos : Pos} {xs : List α}
theorem ee_tupleRT [Imm R] {p2 pos2 : Pos} (hc : X.calm = true) (hg : Gl X "tuple") (hm : X.mg "tuple" = none) (hg2 : Gl X "reversed") (hm2 : X.mg "reversed" = none) (ha : EvB X E own B H σ a (rTup R) xs) (hs : St1 X a := by rfl)
    (hs2 : starEach [.Call (.Name "reversed" p2) [a] [] pos2] X.env = (false, eval (.Call (.Name "reversed" p2) [a] [] pos2) X.env) :: starEach [] X.env := by rfl) : EvE X E own B H σ (.Call (.Name "tuple" p) [.Call (.Name "reversed" p2) [a] [] pos2] [] pos) (rTup R) xs.reverse := fun B1 H1 S1 e1 e2 Q k =>
  WE.of (pe_tupRevT hc hg hm hg2 hm2 peW hs hs2) (ha B1 H1 S1 e1 e2 _ fun v B2 H2 S2 e3 e4 r => by
    obtain ⟨q, vs, h1, h2, h3⟩ := r
    refine ⟨q, vs, h1, SqT.of h2, fun l hl => ?_⟩
    exact k (.ref l) _ _ (S2.lay hl) (e3.trans (S2.layB hl).ex) (e4.trans (Sx.new hl).ex) ⟨l, vs.reverse, rfl, upd_same, prev (pimp h3 fun _ _ z => R.mono (S2.layB hl).ex (Imm.imm S2.tu z))⟩)
/-! an item that holds a list -/
theorem ee_ixL {o : Expr} {x : α} {q : Int} (ho : EvE X E own B H σ o (rLst R) xs) (ha : EvB X E own B H σ a rInt q) (hx : atI xs q = some x) (hs : PlainIx a := by exact fun _ _ => rfl) : EvE X E own B H σ (.Subscript o a pos) R x := fun B1 H1 S1 e1 e2 Q k =>
  WE.of (pe_ix ix_list peW peW hs) (ho B1 H1 S1 e1 e2 _ fun v B2 H2 S2 e3 e4 r => ha B2 H2 S2 (e1.trans e3) (e2.trans e4) _ fun w B3 H3 S3 e5 e6 r' => by
    obtain ⟨l, vs, h1, h2, h3⟩ := Rel.mono _ e5 r
    obtain ⟨u, hu, hF⟩ := pat h3 hx
    exact ⟨l, vs, q, u, h1, r', .inl (h2.imp (S3.bh _ _) fun ⟨o, h⟩ => ⟨o, S3.bh _ _ h⟩), hu, k u B3 H3 S3 (e3.trans e5) (e4.trans e6) hF⟩)
instance {K : PySem.W.Frag} {β γ : Type} {S : Rel β} {T : Rel γ} [D : DatK K R] [F : DatK K S] [G : DatK K T] : DatK K (rT3 R S T) := ⟨fun x => .tuple [D.d x.1, F.d x.2.1, G.d x.2.2], fun h => by
    obtain ⟨p, a, b, c, h1, h2, h3, h4, h5⟩ := h
    rw [h1]
    exact .tup (SqT.of h2) (.cons (D.rd h3) (.cons (F.rd h4) (.cons (G.rd h5) .nil))), fun x => by
    show (PyData.canLay0 (D.d x.1) && (PyData.canLay0 (F.d x.2.1) && (PyData.canLay0 (G.d x.2.2) && true))) = true
    rw [D.lay, F.lay, G.lay] <;> rfl, max D.n (max F.n G.n) + 1, fun x => by
    show max (PyData.depth (D.d x.1)) (max (PyData.depth (F.d x.2.1)) (max (PyData.depth (G.d x.2.2)) 0)) + 1 ≤ max D.n (max F.n G.n) + 1
    have := D.dep x.1
    have := F.dep x.2.1
    have := G.dep x.2.2
    omega, fun x y => by
    show (PyData.eqv (D.d x.1) (D.d y.1) && (PyData.eqv (F.d x.2.1) (F.d y.2.1) && (PyData.eqv (G.d x.2.2) (G.d y.2.2) && true))) = true ↔ _
    rw [Bool.and_eq_true, Bool.and_eq_true, Bool.and_true, D.eq, F.eq, G.eq]
    exact ⟨fun h => Prod.ext h.1 (Prod.ext h.2.1 h.2.2), fun h => by rw [h]; exact ⟨rfl, rfl, rfl⟩⟩⟩
end
end Sg

namespace Sg
open PySem PySem.Spec PyProof.Rows L2
/-! ### sorted(list, key = a bound method) -/
def leK {α : Type} (f : α → Int) (a b : α) : Bool := decide (f a ≤ f b)
theorem dataLe_intK {α : Type} (k : α → Int) : PySem.W.dataLe false (fun x => PyData.int (k x)) = leK k := PySem.W.dataLe_int k
section
variable {X : Cx} {pins : List (Addr × Obj)} {σ : L2.St} {H : Hp} {s : Shared} {kk : Nat} {q g t : Addr} {sp : Sp} {xs : List V} {ks : List Int} {vs : List Value}
theorem ints_each {h : Heap} : ∀ {us : List Value} {ns : List Int}, IntsAre us ns → PySem.W.EachIs (fun v k => ∃ as, Reads h v k as) us (ns.map PyData.int)
  | _, _, .nil => .nil
  | _, _, .cons n t r => .cons ⟨_, Reads.int n t⟩ (ints_each r)
theorem vals_each : ∀ {xs : List V} {us : List Value} {ks : List Int}, Vals xs us → ks.length = xs.length → PySem.W.EachIs (fun u (p : V × Int) => RelV p.1 u) us (xs.zip ks)
  | _, _, [], .nil, _ => .nil
  | _, _, _ :: _, .nil, h => by cases h
  | _, _, [], .cons _ _, h => by cases h
  | _, _, k :: ks, .cons r rs, h => .cons r (vals_each rs (Nat.succ.inj h))
theorem each_vals : ∀ {us : List Value} {ps : List (V × Int)}, PySem.W.EachIs (fun u (p : V × Int) => RelV p.1 u) us ps → Vals (ps.map (·.1)) us
  | _, _, .nil => .nil
  | _, _, .cons r rs => .cons r (each_vals rs)
theorem zip_map2 : ∀ {xs : List V} {ks : List Int}, ks.length = xs.length → (xs.zip ks).map (fun p => PyData.int p.2) = ks.map PyData.int
  | [], [], _ => rfl
  | _ :: _, _ :: _, h => congrArg (List.cons _) (zip_map2 (Nat.succ.inj h))
  | [], _ :: _, h => by cases h
  | _ :: _, [], h => by cases h
/-- the state between two keys -/
structure KeyAt (X : Cx) (pins : List (Addr × Obj)) (σ : L2.St) (W : Nat → Hp → Prop) (ks : List Int) (kS a : Addr) (e1 : Nat) (i : Nat) (s : Shared) : Prop where
  st : ∃ (H : Hp) (kA : Array Value) (e : Nat), Inv X pins σ H s ∧ W i H ∧ H kS = none ∧ H a = none ∧ s.heap.get? kS = some (seqObj "list" kA e) ∧ s.heap.get? a = some (seqObj "list" #[] e1) ∧ IntsAre kA.toList (ks.take i)
theorem key_rest {A : Around} {R : PySem.Fin → Shared → Prop} {E' : Value → Shared → Prop} {W : Nat → Hp → Prop} {kS a : Addr} {e1 : Nat} (hr : Room kk A) (hA : A.frames = some X.stack) (F : FnR X.prog X.w X.K X.mg X.base CX0 kk g sp)
    (rS : FbM.Rec X pins kS) (ra : FbM.Rec X pins a) (hne : kS ≠ a) (hv : Vals xs vs) (hl : ks.length = xs.length) (hz : xs.length ≤ sizeLine)
    (hq : ∀ i H, W i H → H q = some (.met g t)) (hW : ∀ i x k H, xs[i]? = some x → ks[i]? = some k → W i H → sp [.ref t, x] H (fun v H' => v = .int k ∧ W (i + 1) H') E0)
    (h0 : KeyAt X pins σ W ks kS a e1 0 s)
    (hQ : ∀ s' H' ys, Inv X pins σ (upd H' a (.lst ys)) s' → W xs.length H' → H' a = none → ys = ((xs.zip ks).mergeSort (leK (·.2))).map (·.1) → R (.done (.ret .none)) s') :
    wpAny (model X.prog X.w) A (ksk_rest a (.ref q) false vs.toArray e1 (.ref kS)) R E' s := by
  unfold ksk_rest
  refine wpAny_bind (wpAny_rule ?_)
  rw [List.forIn_toArray]
  have hlv : xs.length = vs.length := hv.length
  refine wpAny_bind (ksk_fold (KeyAt X pins σ W ks kS a e1) vs 0 s h0 ?step ?done)
  case step =>
    intro j u s' hu ⟨⟨H, kA, e, I, w, nS, na, gS, ga, hk⟩⟩
    simp only [Nat.zero_add] at w hk ⊢
    have hj : j < vs.length := (List.getElem?_eq_some_iff.mp hu).1
    obtain ⟨x, hx⟩ : ∃ x, xs[j]? = some x := ⟨_, List.getElem?_eq_getElem (by omega)⟩
    obtain ⟨k, hkj⟩ : ∃ k, ks[j]? = some k := ⟨_, List.getElem?_eq_getElem (by omega)⟩
    obtain ⟨u', hu', rx⟩ := hv.get hx
    rw [hu] at hu'
    cases hu'
    have e0 := I.env0
    have e1' : Env0 X.prog X.w X.K X.mg X.base A X.stack s' H := ⟨hA, e0.mod, e0.bs, e0.bsz, e0.funs, e0.frf, e0.hok, e0.bare⟩
    have hqm : s'.heap.get? q = some (PySem.W.methodObj (.ref g) (.ref t)) := I.hok q _ (hq j H w)
    refine wpAny_bind (wpAny_attempt (wpAny_mono (Q := fun v s2 => ∃ H' n, v = Value.int k n ∧ Inv X pins σ H' s2 ∧ W (j + 1) H' ∧ H' kS = none ∧ H' a = none ∧ s2.heap.get? kS = some (seqObj "list" kA e) ∧ s2.heap.get? a = some (seqObj "list" #[] e1)) (E := fun _ _ => False)
      (wpAny_call (PySem.W.method_call hqm (codeAny_mono (F A X.stack s' H [.ref t, u] [.ref t, x] _ E0 hr e1' (.cons rfl (.cons rx .nil)) (hW j x k H hx hkj w)) fun rr s2 hrr => ?_))) (fun v s2 hp => ?_) fun _ _ hF => hF.elim))
    · cases rr with
      | error e => exact hrr.elim
      | ok fl =>
        cases fl with
        | next => exact False.elim hrr
        | brk => exact False.elim hrr
        | cont => exact False.elim hrr
        | ret v =>
          obtain ⟨v', H', os, bare, un, hok, rv', ev, w'⟩ := (show CE X.stack X.prog X.w H _ _ v s2 from hrr)
          subst ev
          obtain ⟨n, rfl⟩ := rv'
          exact ⟨H', n, rfl, I.call' os un hok bare (fun b y => absurd y List.not_mem_nil), w', un.free _ _ gS nS List.not_mem_nil, un.free _ _ ga na List.not_mem_nil, un.keep _ _ gS nS rS.fr List.not_mem_nil, un.keep _ _ ga na ra.fr List.not_mem_nil⟩
    · obtain ⟨H', n, rfl, I2, w', nS', na', gS', ga'⟩ := hp
      have hz2 : kA.size ≤ sizeLine := by
        have h1 := hk.length
        rw [Array.length_toList, List.length_take] at h1
        omega
      have s1 := Heap.SameBut.update s2.heap kS (Obj.mapSeq (·.push (Value.int k n)))
      obtain ⟨c2, hc2⟩ : ∃ c2, (s2.heap.update kS (Obj.mapSeq (·.push (Value.int k n)))).get? kS = some (seqObj "list" (kA.push (Value.int k n)) c2) := ⟨_, get?_update_seq gS' (·.push (Value.int k n))⟩
      refine wpAny_bind (listUpdate_at gS' rfl ?_ hz2 (Nat.le_trans (Nat.le_of_eq (Array.size_push ..)) (Nat.succ_le_succ hz2)))
      refine wpAny_pure ⟨rfl, ⟨H', kA.push (Value.int k n), c2, rS.turn (t' := s2.toks) I2 nS' (fun c o hc eo => (s1.2 c hc).trans eo), w', nS', na', hc2, (s1.2 a hne.symm).trans ga', ?_⟩⟩
      have ek : ks.take (j + 1) = ks.take j ++ [k] := by rw [List.take_add_one, hkj]; simp
      have ea : (kA.push (Value.int k n)).toList = kA.toList ++ [Value.int k n] := by simp
      rw [ea, ek]
      exact ksk_snoc hk
  case done =>
    intro s' ⟨⟨H, kA, e, I, w, nS, na, gS, ga, hk⟩⟩
    simp only [Nat.zero_add] at w hk
    rw [← hlv] at w hk
    rw [← hl, List.take_length] at hk
    refine wpAny_bind (listItems_at gS rfl ?_)
    have hh := PySem.W.hideAll_get
    have kp : PySem.W.KeepsBut a (PySem.W.hideAll s'.heap [kS]) s'.heap := fun b o _ eb => PySem.W.of_hideAll [kS] eb
    have hnone : (PySem.W.hideAll s'.heap [kS]).get? kS = none := PySem.W.hideAll_none [kS] (List.mem_singleton.mpr rfl)
    have hsz : kA.size = vs.length := by
      have h1 := hk.length
      rw [Array.length_toList] at h1
      omega
    have hal : PySem.W.AllAlike (ks.map PyData.int) := fun d hd d' hd' => by
      obtain ⟨_, _, rfl⟩ := List.mem_map.mp hd
      obtain ⟨_, _, rfl⟩ := List.mem_map.mp hd'
      rfl
    have hsk : PySem.W.Sortable (ks.map PyData.int) := .inr fun d hd => by
      obtain ⟨_, _, rfl⟩ := List.mem_map.mp hd
      exact ⟨(fun z => by cases z), (fun xs z => by cases z)⟩
    have hu : ∀ d, d ∈ ks.map PyData.int → A.units + d.depth < cLine := fun d hd => by
      obtain ⟨_, _, rfl⟩ := List.mem_map.mp hd
      have := hr.un
      show A.units + 0 < _
      omega
    refine PySem.W.keyH_end (κ := PySem.W.dataKind s'.heap (ks.map PyData.int)) (h₁ := PySem.W.hideAll s'.heap [kS]) kp hnone gS ga hne (PySem.W.SortsAt.data (ints_each hk) hal hsk hu) hsz (by omega) fun h' tk c hkeep hget => ?_
    have hko : PySem.W.KeyedOut false ((xs.zip ks).map (fun p => PyData.int p.2)) vs (PySem.W.sortVals (PySem.W.dataKind s'.heap (ks.map PyData.int)) false kA.toList vs) := by
      rw [zip_map2 hl]
      exact ⟨s'.heap, kA.toList, hal, rfl, ints_each hk⟩
    have hev := PySem.W.keyedOut_each (fun p : V × Int => PyData.int p.2) hko (vals_each hv hl)
    rw [dataLe_intK] at hev
    have hvals := each_vals hev
    generalize PySem.W.sortVals (PySem.W.dataKind s'.heap (ks.map PyData.int)) false kA.toList vs = out at hget hvals
    have keepall : ∀ b o, b ≠ kS → b ≠ a → s'.heap.get? b = some o → h'.get? b = some o := fun b o h1 h2 eb => hkeep b o h2 (PySem.W.hideAll_get [kS] eb (fun z => h1 (List.mem_singleton.mp z)))
    have hlen : (((xs.zip ks).mergeSort (leK (·.2))).map (·.1)).length ≤ sizeLine := by
      rw [List.length_map, List.length_mergeSort, List.length_zip]
      omega
    refine hQ _ H _ ?_ w na rfl
    have tr : ∀ b u, H b = some u → b ≠ kS ∧ b ≠ a := fun b u eb => ⟨(fun z => by rw [z, nS] at eb; cases eb), (fun z => by rw [z, na] at eb; cases eb)⟩
    refine I.step (g' := s'.gens) (d' := s'.drawn) (ch := [kS, a]) (fun b hb => ?_) (fun b o _ _ hc eb _ => keepall b o (fun z => hc (by simp [z])) (fun z => hc (by simp [z])) eb) (fun b o _ _ hc eb _ => ⟨o.slots, keepall b o (fun z => hc (by simp [z])) (fun z => hc (by simp [z])) eb⟩)
      (fun b o hc _ n => by rw [upd_ne (fun z => hc (by simp [z]))]; exact n) (fun b o hc eb => ⟨o, keepall b o (fun z => hc (by simp [z])) (fun z => hc (by simp [z])) eb⟩)
      (fun b xs eb => by rw [upd_ne (tr b _ eb).2]; exact eb) (fun b o u eb => by rw [upd_ne (tr b _ eb).2]; exact eb) (fun b ps eb => ⟨#[], by rw [upd_ne (tr b _ eb).2, eb]; simp⟩) (fun m hm => ?_) (fun b u eb => ?_) I.bare
    · rcases List.mem_cons.mp hb with rfl | hb
      · exact ⟨.inr rS.ge, rS.nl, rS.ce, rS.pn⟩
      · rw [List.mem_singleton.mp hb]
        exact ⟨.inr ra.ge, ra.nl, ra.ce, ra.pn⟩
    · obtain ⟨o, es, ep, ho, r⟩ := hm
      exact ⟨o, es, ep, keepall _ o rS.nl.symm ra.nl.symm ho, r⟩
    · by_cases hb : b = a
      · subst hb
        rw [upd_same] at eb
        cases eb
        exact ⟨hlen, out, c, hvals, hget⟩
      · rw [upd_ne hb] at eb
        refine (I.hok b u eb).stay (fun c v hc qv => keepall c v (fun z => ?_) (fun z => ?_) qv) (fun c qv => ?_) (fun c xs qv => ?_)
        · rcases hc with hc | hc
          · exact (tr b u eb).1 (hc.symm.trans z)
          · exact (tr c _ hc).1 z
        · rcases hc with hc | hc
          · exact (tr b u eb).2 (hc.symm.trans z)
          · exact (tr c _ hc).2 z
        · rw [upd_ne (tr c _ qv).2]
          exact qv
        · rw [upd_ne (tr c _ qv).2]
          exact qv
/-- list.sort with the key, from the copied list on -/
theorem key_tree {A : Around} {R : PySem.Fin → Shared → Prop} {E' : Value → Shared → Prop} {W : Nat → Hp → Prop} (hr : Room kk A) (hA : A.frames = some X.stack) (F : FnR X.prog X.w X.K X.mg X.base CX0 kk g sp)
    (I : Inv X pins σ H s) (hv : Vals xs vs) (hl : ks.length = xs.length) (hz : xs.length ≤ sizeLine)
    (hq : ∀ i H, W i H → H q = some (.met g t)) (hW : ∀ i x k H, xs[i]? = some x → ks[i]? = some k → W i H → sp [.ref t, x] H (fun v H' => v = .int k ∧ W (i + 1) H') E0) (h0 : W 0 H)
    (hQ : ∀ s' H' ys, Inv X pins σ (upd H' (s.heap.objs.size + 1) (.lst ys)) s' → W xs.length H' → H' (s.heap.objs.size + 1) = none → ys = ((xs.zip ks).mergeSort (leK (·.2))).map (·.1) → R (.done (.ret .none)) s') :
    wpAny (model X.prog X.w) A (ksk_tree (s.heap.objs.size + 1) (.ref q) false) R E' { s with heap := PySem.W.copyHeap s.heap vs } := by
  have ho := PySem.W.copyHeap_at s.heap vs
  have hz' : vs.length ≤ sizeLine := by rw [← hv.length]; exact hz
  obtain ⟨e1, ho1⟩ : ∃ e1, ((PySem.W.copyHeap s.heap vs).update (s.heap.objs.size + 1) (Obj.mapSeq fun _ => (#[] : Array Value))).get? (s.heap.objs.size + 1) = some (seqObj "list" #[] e1) := ⟨_, get?_update_seq ho fun _ => #[]⟩
  have ha : s.heap.objs.size + 1 < (PySem.W.copyHeap s.heap vs).objs.size := Heap.lt_size ho
  have hkS : (((PySem.W.copyHeap s.heap vs).update (s.heap.objs.size + 1) (Obj.mapSeq fun _ => (#[] : Array Value))).push (seqObj "tuple" vs.toArray 0)).objs.size = (PySem.W.copyHeap s.heap vs).objs.size + 1 := by rw [size_push', Heap.size_update]
  unfold ksk_tree
  refine wpAny_bind (listItems_at ho rfl ?_)
  refine wpAny_bind (listUpdate_at ho rfl ?_ (by rw [List.size_toArray]; exact hz') (Nat.zero_le _))
  refine wpAny_bind (seqEpoch_at ho1 rfl ?_)
  refine wpAny_bind (wpAny_newTuple ?_ (by show vs.length ≤ _; exact hz'))
  refine wpAny_bind (wpAny_newList ?_ (Nat.zero_le _))
  refine wpAny_holding ?_
  have hcs : (PySem.W.copyHeap s.heap vs).objs.size = s.heap.objs.size + 2 := by
    unfold PySem.W.copyHeap
    rw [size_push', Heap.size_update, size_push']
  have nS : H (((PySem.W.copyHeap s.heap vs).update (s.heap.objs.size + 1) (Obj.mapSeq fun _ => (#[] : Array Value))).push (seqObj "tuple" vs.toArray 0)).objs.size = none := I.hok.fresh (by rw [hkS, hcs]; exact Nat.le_add_right _ 3)
  have na : H (s.heap.objs.size + 1) = none := I.hok.fresh (Nat.le_succ _)
  have I2 : Inv X pins σ H { s with heap := PySem.W.sortingHeap (PySem.W.copyHeap s.heap vs) (s.heap.objs.size + 1) vs } := I.kept (t' := s.toks) fun b u e => PySem.W.sortingHeap_old (Nat.ne_of_lt (Nat.lt_succ_of_lt (Heap.lt_size e))) (PySem.W.copyHeap_old e)
  refine key_rest hr hA F (FbM.rec_new I (by rw [hkS, hcs]; exact Nat.le_add_right _ 3)) (FbM.rec_new I (Nat.le_succ _)) (by rw [hkS, hcs]; exact Nat.ne_of_gt (Nat.lt_add_of_pos_right (by decide : 0 < 2))) hv hl hz hq hW ⟨⟨H, #[], 0, I2, h0, nS, na, Heap.get?_push_size _ rfl, Heap.get?_push_of_some _ (Heap.get?_push_of_some _ ho1), .nil⟩⟩ hQ
end
/-- a method whose value may be taken -/
def BCal (X : Cx) (k : Nat) (C : Addr) (n : Str) (ps : List Str) (sp : Sp) : Prop := ∃ (f : Addr) (fd : FuncData), FnOk X.prog X.w X.K X.mg X.base CX0 k f fd ps sp ∧ BMeth X.K C n f ∧ Binds X.K fd ps []
def tBnd (K : PySem.W.Frag) (C : Addr) (m : Str) (g : Addr) (ta : TE) : TE := fun σ H Q => ta σ H fun x H1 => ∃ a dx fs, x = .ref a ∧ H1 a = some (.ins C dx fs) ∧ fs.lookup m = none ∧ ∀ q, H1 q = none → Q (.ref q) (upd H1 q (.met g a))
theorem pe_bnd {X : Cx} {e : Expr} {ta : TE} {C g : Addr} {m : Str} {pos : Pos} (he : PE X e ta) (c : Cls X.K C) (b : BMeth X.K C m g) (hb : attributeBase e m X.env (eval e X.env) = eval e X.env) : PE X (.Attribute e m pos) (tBnd X.K C m g ta) := by
  refine ⟨fun pins s σ H Q I h => ?_⟩
  refine attr_of hb (thn (he.run pins s σ H _ I h) fun u s1 ⟨x, H1, I1, rx, a, dx, fs, ex, ea, l, q⟩ => ?_)
  subst ex
  obtain rfl : u = Value.ref a := rx
  exact getbound_ok I1 ea c b l fun p s2 hp I2 => ⟨.ref p, _, I2, rfl, q p hp⟩
section
variable {X Xb : Cx} {E : Ent} {own new own' : Own} {B H B' H' : Hp} {σ : L2.St} {α β γ δ τ ρ ρ' : Type} {R : Rel α} {S : Rel β} {T : Rel γ} {U : Rel δ} {e a b c d o it tg : Expr} {x : α} {y : β} {p pos pos' apos kpos : Pos} {i j k k0 : Nat} {z w : Bool} {xs : List α} {ys : List β} {es : List Expr}
variable {n m f : Str} {rest body other : List Stmt} {D : Ends} {P : ρ → Prop} {Er : Err → Prop} {ps : List Str} {CA : Addr} {scope : Scope}
theorem Blk.bcal {sp : Sp} (h : Blk X scope Xb) (G : BCal X k CA n ps sp) : BCal Xb k CA n ps sp := by
  obtain ⟨s, H, Cc, cl, fp, rfl⟩ := h
  exact G
theorem plen2 {P : α → β → Prop} {l₁ : List α} {l₂ : List β} (h : Paired P l₁ l₂) : l₁.length = l₂.length := plen h
theorem paired_zip {P : V → α → Prop} : ∀ {vs : List V} {xs : List α}, Paired P vs xs → (vs.zip xs).map (·.1) = vs ∧ (vs.zip xs).map (·.2) = xs ∧ ∀ q ∈ vs.zip xs, P q.1 q.2
  | _, _, .nil => ⟨rfl, rfl, fun q h => nomatch h⟩
  | _, _, .cons h t => by
    obtain ⟨h1, h2, h3⟩ := paired_zip t
    refine ⟨congrArg (List.cons _) h1, congrArg (List.cons _) h2, fun q hq => ?_⟩
    rcases List.mem_cons.mp hq with rfl | hq
    · exact h
    · exact h3 q hq
theorem paired_of {P : V → α → Prop} : ∀ {zs : List (V × α)}, (∀ q ∈ zs, P q.1 q.2) → Paired P (zs.map (·.1)) (zs.map (·.2))
  | [], _ => .nil
  | q :: r, h => .cons (h q (List.mem_cons_self ..)) (paired_of fun z hz => h z (List.mem_cons_of_mem _ hz))
theorem paired_sort {P : V → α → Prop} {vs : List V} {xs : List α} (h : Paired P vs xs) (key : α → Int) : Paired P (((vs.zip (xs.map key)).mergeSort (leK (·.2))).map (·.1)) (xs.mergeSort (leK key)) := by
  obtain ⟨h1, h2, h3⟩ := paired_zip h
  have e1 : vs.zip (xs.map key) = (vs.zip xs).map (fun q => (q.1, key q.2)) := by
    rw [List.zip_map_right]
    rfl
  have e2 : ((vs.zip xs).map (fun q => (q.1, key q.2))).mergeSort (leK (·.2)) = ((vs.zip xs).mergeSort (leK fun q => key q.2)).map (fun q => (q.1, key q.2)) := (List.map_mergeSort (r := leK fun q : V × α => key q.2) (s := leK (·.2)) (f := fun q : V × α => (q.1, key q.2)) (fun a _ b _ => rfl)).symm
  have e3 : xs.mergeSort (leK key) = ((vs.zip xs).mergeSort (leK fun q => key q.2)).map (·.2) := by
    refine Eq.trans ?_ (List.map_mergeSort (r := leK fun q : V × α => key q.2) (s := leK key) (f := fun q : V × α => q.2) (fun a _ b _ => rfl)).symm
    rw [h2]
  rw [e1, e2, e3, List.map_map]
  exact paired_of fun q hq => h3 q (List.mem_mergeSort.mp hq)
theorem callr_any {f : Value} {ks : List Str} : CallRK X f ks (fun vs zs H Q => ∀ (pins : List (Addr × Obj)) (s : Shared) (σ : L2.St) (us ws : List Value), Inv X pins σ H s → Vals vs us → Vals zs ws → wpAny (model X.prog X.w) X.A (call f us (ks.zip ws)) (EP X pins σ Q) X.xe s) :=
  fun pins s σ H xs zs us ws Q I r rz h => h pins s σ us ws I r rz
/-- sorted(e, key=o.m) -/
theorem el_sortKey [Imm R] {args : δ → AR} {fm : δ → Res Int} {dk : α → δ} {key : α → Int} (C : Cok X k0) (cls : Cls X.K CA) (G : BCal X k CA m ps (SpA args (kE rInt) fm)) (hk : k + 2 ≤ k0) (hg : Gl X "sorted") (hm : X.mg "sorted" = none) (ha : EvB X E own B H σ a (rLst R) xs) (ho : EvB X E own B H σ o S y) (hi : InsOf CA m S)
    (hA : ∀ x, args (dk x) = aC S y (aC R x aN)) (hf : ∀ x ∈ xs, fm (dk x) = .ok (key x)) (hs : St1 X a := by rfl) (hb : attributeBase o m X.env (eval o X.env) = eval o X.env := by rfl)
    (he : backTo pos (starEach (a :: []) X.env) = (false, eval a X.env) :: backTo pos (starEach [] X.env) := by rfl) (hpl : (backTo pos (starEach (a :: []) X.env)).any (·.1) = false := by rfl)
    (hall : (backToKw pos (keywordEach [⟨some "key", .Attribute o m apos, kpos⟩] X.env)).all (·.1.isSome) = true := by rfl) (hnone : (backToKw pos (keywordEach [⟨some "key", .Attribute o m apos, kpos⟩] X.env)).any (·.1.isNone) = false := by rfl) (hks : (backToKw pos (keywordEach [⟨some "key", .Attribute o m apos, kpos⟩] X.env)).filterMap (·.1) = [Str.ofString "key"] := by rfl) :
    EvL X E own B H σ (.Call (.Name "sorted" p) [a] [⟨some "key", .Attribute o m apos, kpos⟩] pos) R (xs.mergeSort (leK key)) := fun B1 H1 S1 e1 e2 Q kq => by
  obtain ⟨f, fd, F, bm, hbd⟩ := G
  refine WE.of (pe_callBK (id := "sorted") callr_any hg hm (by decide +kernel) (pa1 hs) (pk_cons (pe_bnd peW cls bm hb) pk_nil) (he := he) (hpl := hpl) (hall := hall) (hnone := hnone) (hks := hks)) (ha B1 H1 S1 e1 e2 _ fun v B2 H2 S2 e3 e4 r => ?_)
  refine ho B2 H2 S2 (e1.trans e3) (e2.trans e4) _ fun w B3 H3 S3 e5 e6 r2 => ?_
  obtain ⟨t, dx, fs, rfl, h2, h3⟩ := hi r2
  refine ⟨t, dx, fs, rfl, h2, h3, fun q hq => ?_⟩
  intro pins s σ' us ws I rv rz
  obtain ⟨l, vs, rfl, hl, hp⟩ := Rel.mono _ e6 r
  have up : Ex H3 (upd H3 q (.met f t)) := (Sx.new hq).ex
  have hl' := up.rdL hl
  have hp' : Paired (R.r (upd H3 q (.met f t))) vs xs := pimp hp fun _ _ z => R.mono up z
  have S4 : Stt E ((q, .met f t) :: own) B3 (upd H3 q (.met f t)) := S3.alloc hq fun ys z => by cases z
  obtain rfl := Vals.ref1 rv
  obtain ⟨w1, rfl, ew⟩ := vals1 rz
  obtain rfl : w1 = Value.ref q := ew
  obtain ⟨its, rvs, pl, hz⟩ := I.list (.inl hl')
  show wpAny _ _ (call (.builtin "sorted") [.ref l] [(Str.ofString "key", .ref q)]) _ _ _
  refine PySem.W.sorted_of_sort pl.isList (by rw [← rvs.length]; exact hz) (ksk_s1 _ _) (fun _ => ksk_l1 _ _) fun E' => ?_
  rw [ksk_t1]
  have hr2 : Room k X.A.in1.in1 := ((C.room.mono hk).in1).in1
  have FR := FnOk.raw F hbd (.nil : Vals [] [])
  refine key_tree (ks := xs.map key) (W := fun _ H' => ∃ B', Stt E ((q, .met f t) :: own) B' H' ∧ Ex B3 B' ∧ Ex (upd H3 q (.met f t)) H') hr2 (by exact I.env0.frames) FR I rvs (by rw [List.length_map, plen hp]) hz (fun i H' ⟨B', S', _, _⟩ => (S'.ow _ (List.mem_cons_self ..)).2.2) (fun i x kx H' hx hkx ⟨B', S', e7, e8⟩ => ?_) ⟨B3, S4, Ex.refl _, Ex.refl _⟩ fun s' H' ys I' ⟨B', S', e7, e8⟩ hn ey => ?_
  · obtain ⟨x0, hx0, rx⟩ := L2.paired_get hp' hx
    rw [List.getElem?_map, hx0] at hkx
    have ek : key x0 = kx := Option.some.inj hkx
    subst ek
    show ∃ B d, _
    refine ⟨B', dk x0, S'.bh, S'.tu, ?_, ?_⟩
    · rw [hA]
      exact ⟨_, _, rfl, Rel.mono _ (up.trans e8) r2, _, _, rfl, R.mono e8 rx, rfl⟩
    · exact Fin.eq (hf x0 (List.mem_of_getElem? hx0)) fun v B4 H4 T r4 => ⟨r4, B4, S'.call T, e7.trans T.b0.ex, e8.trans T.h0.ex⟩
  · subst ey
    refine ⟨rfl, .ref _, _, I', rfl, ?_⟩
    refine kq _ _ B' _ (S'.drop.alloc hn fun ys z => by cases z) ((e3.trans e5).trans e7) ((((e4.trans e6).trans up).trans e8).trans (Sx.new hn).ex) ?_
    exact paired_sort (pimp hp' fun _ _ z => Imm.imm S'.tu (R.mono e8 z)) key
end
def BCalM (P : Program) (w : World) (K : PySem.W.Frag) (mg : Str → Option Value) (base : Heap) (k : Nat) (C : Addr) (n : Str) (ps : List Str) (sp : Sp) : Prop := ∃ (f : Addr) (fd : FuncData), FnOk P w K mg base CX0 k f fd ps sp ∧ BMeth K C n f ∧ Binds K fd ps []
/-- what a thing that goes well gives -/
def Res.isOk {α : Type} : Res α → Bool
  | .ok _ => true
  | _ => false
def Res.getI : Res Int → Int
  | .ok i => i
  | _ => 0
theorem Res.all_ok {α : Type} {f : α → Res Int} {xs : List α} (h : xs.all (fun i => (f i).isOk) = true) : ∀ x ∈ xs, f x = .ok (f x).getI := fun x hx => by
  have := List.all_eq_true.mp h x hx
  cases e : f x with
  | ok i => rfl
  | err z => rw [e] at this; cases this
  | stuck => rw [e] at this; cases this
end Sg

namespace Sg
open PySem PySem.Spec PyProof.Rows L2
section
variable {X : Cx} {E : Ent} {own : Own} {B H : Hp} {σ : L2.St} {α : Type} {R : Rel α} {e : Expr} {x y : α} {pos : Pos} {k : Nat} {xs : List α} {rest : List Stmt} {D : Ends}
theorem two_of {P : V → α → Prop} : ∀ {vs : List V} {xs : List α}, Paired P vs xs → xs.length = 2 → xs[0]? = some x → xs[1]? = some y → ∃ u w, vs = [u, w] ∧ P u x ∧ P w y
  | _, _, .nil, h, _, _ => by cases h
  | _, _, .cons _ .nil, h, _, _ => by cases h
  | _, _, .cons h1 (.cons h2 .nil), _, hx, hy => by
    have ex := Option.some.inj hx
    have ey := Option.some.inj hy
    subst ex
    subst ey
    exact ⟨_, _, rfl, h1, h2⟩
  | _, _, .cons _ (.cons _ (.cons _ _)), h, _, _ => by
    rw [List.length_cons, List.length_cons, List.length_cons] at h
    omega
theorem s_unp2l {n1 n2 : Str} {i1 i2 : Nat} {p1 p2 tp : Pos} {kk : Nat} (C : Cok X k) (L1 : Slot X i1 n1) (L2' : Slot X i2 n2) (S0 : Stt E own B H) (he : EvE X E own B H σ e (rLst R) xs) (hl : xs.length = 2) (hx : xs[0]? = some x) (hy : xs[1]? = some y)
    (kt : ∀ v w B' H', Stt E own B' H' → Ex B B' → R.r B' v x → R.r B' w y → WSs X rest D ((σ.set i1 (some v)).set i2 (some w)) H')
    (hs : swapsWithSole [.Tuple [.Name n1 p1, .Name n2 p2] kk tp] e pos.line X.env = pure false := by rfl) (hw : swappedStores [.Tuple [.Name n1 p1, .Name n2 p2] kk tp] e X.env = pure none := by rfl) :
    WSs X (.Assign [.Tuple [.Name n1 p1, .Name n2 p2] kk tp] e pos :: rest) D σ H :=
  WSs.cons (ps_asg peW (pg_lst (n := 2) C.calm (pgs_cons (pg_name (i := i1) C.nd L1.ix L1.loc L1.hf) (pgs_cons (pg_name (i := i2) C.nd L2'.ix L2'.loc L2'.hf) pgs_nil))) hs hw) (he B H S0 (Ex.refl _) (Ex.refl _) _ fun v B2 H2 S2 e1 _ r => by
    obtain ⟨l, vs, h1, h2, h3⟩ := r
    obtain ⟨u, w, rfl, ru, rw'⟩ := two_of h3 hl hx hy
    exact ⟨l, [u, w], h1, .inl (S2.bh.ex.rdL h2), rfl, u, [w], rfl, w, [], rfl, rfl, kt u w B2 H2 S2 e1 ru rw'⟩)
variable {a b c : Expr} {i0 j0 : Int} {w0 : Bool} {op op' : CmpOp} {f g : Int → Int → Bool}
/-! chains by their rules -/
theorem ev_chR (c1 : CmpR X op rInt rInt f) (c2 : CmpR X op' rInt rInt g) (ha : EvB X E own B H σ a rInt i0) (hb : EvB X E own B H σ b rInt j0) (hc : f i0 j0 = true → ∃ l0, EvB X E own B H σ c rInt l0 ∧ w0 = g j0 l0) (hn : f i0 j0 = false → w0 = false) (hm : lastMarks [op, op'] [b, c] = false := by rfl) : EvB X E own B H σ (.Compare a [op, op'] [b, c] pos) rBool w0 := by
  obtain ⟨r1, o1, k1⟩ := c1.ok
  obtain ⟨r2, o2, k2⟩ := c2.ok
  exact ev_chP (T := rInt) o1 o2 hm ha hb (k1 i0 j0) (fun hz => by
    obtain ⟨l0, h3, h4⟩ := hc hz
    subst h4
    exact ⟨l0, h3, k2 j0 l0⟩) hn
theorem et_chR (c1 : CmpR X op rInt rInt f) (c2 : CmpR X op' rInt rInt g) (ha : EvB X E own B H σ a rInt i0) (hb : EvB X E own B H σ b rInt j0) (hc : f i0 j0 = true → ∃ l0, EvB X E own B H σ c rInt l0 ∧ w0 = g j0 l0) (hn : f i0 j0 = false → w0 = false) (hm : lastMarks [op, op'] [b, c] = false := by rfl) : EvT X E own B H σ (.Compare a [op, op'] [b, c] pos) w0 := by
  obtain ⟨r1, o1, k1⟩ := c1.ok
  obtain ⟨r2, o2, k2⟩ := c2.ok
  exact et_chP (T := rInt) o1 o2 hm ha hb (k1 i0 j0) (fun hz => by
    obtain ⟨l0, h3, h4⟩ := hc hz
    subst h4
    exact ⟨l0, h3, k2 j0 l0⟩) hn
end
/-! a list whose members are kept for good -/
def EvM (X : Cx) (E : Ent) (own : Own) (B H : Hp) (σ : L2.St) {α : Type} (e : Expr) (R : Rel α) (xs : List α) : Prop := ∀ B1 H1, Stt E own B1 H1 → Ex B B1 → Ex H H1 → ∀ Q : VK,
  (∀ q vs B2 H2, Stt E own B2 H2 → Ex B1 B2 → Ex H1 H2 → Rd H2 q (.lst vs) → Paired (R.r B2) vs xs → Q (.ref q) H2) → WE X e σ H1 Q
section
variable {X : Cx} {E : Ent} {own : Own} {B H : Hp} {σ : L2.St} {α : Type} {R : Rel α} {e a b o : Expr} {x y : α} {p pos : Pos} {i k : Nat} {xs ys : List α} {rest : List Stmt} {D : Ends}
theorem em_B [Imm R] (h : EvB X E own B H σ e (rLst R) xs) : EvM X E own B H σ e R xs := fun B1 H1 S1 e1 e2 Q k => h B1 H1 S1 e1 e2 _ fun v B2 H2 S2 e3 e4 r => by
  obtain ⟨q, vs, rfl, h2, h3⟩ := r
  exact k q vs B2 H2 S2 e3 e4 h2 (pimp h3 fun _ _ z => Imm.imm S2.tu z)
theorem em_E (h : EvE X E own B H σ e (rLst R) xs) : EvM X E own B H σ e R xs := fun B1 H1 S1 e1 e2 Q k => h B1 H1 S1 e1 e2 _ fun v B2 H2 S2 e3 e4 r => by
  obtain ⟨q, vs, rfl, h2, h3⟩ := r
  exact k q vs B2 H2 S2 e3 e4 (S2.bh.ex.rdL h2) h3
theorem em_own {q : Addr} {vs : List V} (hp : PE X e (tVar i)) (h : σ[i]? = some (some (.ref q))) (ho : (q, HO.lst vs) ∈ own) (r : Paired (R.r B) vs xs) : EvM X E own B H σ e R xs :=
  fun B1 H1 S e1 e2 Q k => WE.of hp ⟨.ref q, h, k q vs B1 H1 S (Ex.refl _) (Ex.refl _) (Rd.of (S.ow _ ho).2.2) (pimp r fun _ _ z => R.mono e1 z)⟩
theorem ee_ixM {q : Int} (ho : EvM X E own B H σ o R xs) (ha : EvB X E own B H σ a rInt q) (hx : atI xs q = some x) (hs : PlainIx a := by exact fun _ _ => rfl) : EvE X E own B H σ (.Subscript o a pos) R x := fun B1 H1 S1 e1 e2 Q k =>
  WE.of (pe_ix ix_list peW peW hs) (ho B1 H1 S1 e1 e2 _ fun l vs B2 H2 S2 e3 e4 h2 h3 => ha B2 H2 S2 (e1.trans e3) (e2.trans e4) _ fun w B3 H3 S3 e5 e6 r' => by
    obtain ⟨u, hu, hF⟩ := pat (pimp h3 fun _ _ z => R.mono e5 z) hx
    exact ⟨l, vs, q, u, rfl, r', .inl (e6.rdL h2), hu, k u B3 H3 S3 (e3.trans e5) (e4.trans e6) hF⟩)
theorem el_cutM {lo hi : Option Expr} {l u : Option Int} (ho : EvM X E own B H σ o R xs) (hl : EvP X E own B H σ lo l) (hu : EvP X E own B H σ hi u) : EvL X E own B H σ (.Subscript o (.Slice lo hi none p) pos) R (cut xs l u) := fun B1 H1 S1 e1 e2 Q k => by
  obtain ⟨tl, pl, hl⟩ := hl
  obtain ⟨tu, pu, hu⟩ := hu
  exact WE.of (pe_slice sl_list peW pl pu) (ho B1 H1 S1 e1 e2 _ fun q vs B2 H2 S2 e3 e4 h2 h3 => hl B2 H2 S2 (e1.trans e3) (e2.trans e4) _ fun B3 H3 S3 e5 e6 => hu B3 H3 S3 ((e1.trans e3).trans e5) ((e2.trans e4).trans e6) _ fun B4 H4 S4 e7 e8 =>
    ⟨q, vs, rfl, .inl ((e6.trans e8).rdL h2), fun p np => k p _ B4 _ (S4.alloc np fun ys z => by cases z) ((e3.trans e5).trans e7) (((e4.trans e6).trans e8).trans (Sx.new np).ex) (pcut l u (pimp h3 fun _ _ z => R.mono (e5.trans e7) z))⟩)
theorem el_catM (ha : EvM X E own B H σ a R xs) (hb : EvM X E own B H σ b R ys) (hz : xs.length + ys.length ≤ sizeLine) : EvL X E own B H σ (.BinOp a .Add b pos) R (xs ++ ys) := fun B1 H1 S1 e1 e2 Q k =>
  WE.of (pe_op op_catR peW peW) (ha B1 H1 S1 e1 e2 _ fun l vs B2 H2 S2 e3 e4 h2 h3 => hb B2 H2 S2 (e1.trans e3) (e2.trans e4) _ fun l2 us B3 H3 S3 e5 e6 h2' h3' =>
    ⟨l, l2, vs, us, rfl, rfl, e6.rdL h2, h2', by rw [plen h3, plen h3']; exact hz, fun p np => k p _ B3 _ (S3.alloc np fun ys z => by cases z) (e3.trans e5) ((e4.trans e6).trans (Sx.new np).ex) (pappend (pimp h3 fun _ _ z => R.mono e5 z) h3')⟩)
theorem el_listM (hg : Gl X "list") (hm : X.mg "list" = none) (ha : EvM X E own B H σ a R xs) (hs : St1 X a := by rfl) : EvL X E own B H σ (.Call (.Name "list" p) [a] [] pos) R xs := fun B1 H1 S1 e1 e2 Q k =>
  WE.of (pe_callTy call_list_of hg hm (by decide +kernel) (pa1 hs) (he := hs)) (ha B1 H1 S1 e1 e2 _ fun q vs B2 H2 S2 e3 e4 h2 h3 => ⟨q, vs, rfl, .inl (.inl h2), fun l hl => k l _ B2 _ (S2.alloc hl fun ys z => by cases z) e3 (e4.trans (Sx.new hl).ex) h3⟩)
theorem el_revM {p1 p2 p3 : Pos} {k1} (ha : EvM X E own B H σ a R xs) : EvL X E own B H σ (.Subscript a (.Slice none none (some (.UnaryOp .USub (.Constant (.int 1) k1 p1) p2)) p3) pos) R xs.reverse := fun B1 H1 S1 e1 e2 Q k =>
  WE.of (pe_revL peW) (ha B1 H1 S1 e1 e2 _ fun q vs B2 H2 S2 e3 e4 h2 h3 => ⟨q, vs, rfl, .inl h2, fun l hl => k l _ B2 _ (S2.alloc hl fun ys z => by cases z) e3 (e4.trans (Sx.new hl).ex) (prev h3)⟩)
end
end Sg

namespace Sg
open PySem PySem.Spec PyProof.Rows L2
/-! ### lists of numbers and dicts -/
def rSum {α β : Type} (R : Rel α) (S : Rel β) : Rel (α ⊕ β) := ⟨fun H v x => match x with
  | .inl a => R.r H v a
  | .inr b => S.r H v b, fun {H H' v x} e h => by
  cases x with
  | inl a => exact R.mono e h
  | inr b => exact S.mono e h⟩
abbrev RunD := List (Int × List Int)
abbrev RunT := List (Int ⊕ RunD)
def rRun : Rel (Int ⊕ RunD) := rSum rInt (rDI (rLst rInt))
def rRuns : Rel RunT := rLst rRun
section
variable {X : Cx} {E : Ent} {own : Own} {B H : Hp} {σ : L2.St} {α : Type} {R : Rel α} {e a b o : Expr} {x y : α} {p pos pos' : Pos} {i k j k0 : Nat} {xs ys : List α} {rest : List Stmt} {D : Ends} {n : Str}
/-- x = [{}] -/
theorem s_rn0 {pd : Pos} (C : Cok X k) (L : Slot X i n) (S0 : Stt E own B H)
    (q : ∀ p q B' H', Stt E ((p, .lst [V.ref q]) :: (q, .dK []) :: own) B' H' → Ex B B' → WSs X rest D (σ.set i (some (.ref p))) H')
    (hst : St1 X (.Dict [] [] pd) := by rfl) (hs : swapsWith (.List [.Dict [] [] pd] pos') (some (.Name n p)) pos.line X.env = pure false := by rfl) : WSs X (.Assign [.Name n p] (.List [.Dict [] [] pd] pos') pos :: rest) D σ H :=
  WSs.cons (ps_set C.nd L.ix L.loc (pe_lst (pa1 hst)) hs L.hf) ((ed_nI (R := rInt)) B H S0 (Ex.refl _) (Ex.refl _) _ fun q0 ws B2 H2 S2 e1 e2 r => by
    cases r
    exact ⟨by show 1 ≤ sizeLine; decide, fun pp hp => q pp q0 B2 _ (S2.alloc hp fun ys z => by cases z) e1⟩)
/-- x = x + [e, {}] -/
theorem s_rnCat {pd pl pb : Pos} {q p0 : Addr} {vs : List V} {ws : List (Key × V)} {u : Int} (C : Cok X k) (L : Slot X i n) (S0 : Stt E ((p0, .lst (vs ++ [V.ref q])) :: (q, .dK ws) :: own) B H) (hp : PE X o (tVar i)) (h : σ[i]? = some (some (.ref p0)))
    (he : ∀ own' B' H', Stt E own' B' H' → Ex B B' → Ex H H' → EvB X E own' B' H' σ e rInt u) (hz : vs.length + 1 + 2 ≤ sizeLine)
    (kt : ∀ p1 q1 B' H', Stt E ((p1, .lst ((vs ++ [V.ref q, .int u]) ++ [V.ref q1])) :: (q1, .dK []) :: (q, .dK ws) :: own) B' H' → Ex B B' → WSs X rest D (σ.set i (some (.ref p1))) H')
    (hst : starEach (e :: [.Dict [] [] pd]) X.env = (false, eval e X.env) :: starEach [.Dict [] [] pd] X.env := by rfl) (hst2 : St1 X (.Dict [] [] pd) := by rfl)
    (hs : swapsWith (.BinOp o .Add (.List [e, .Dict [] [] pd] pl) pb) (some (.Name n p)) pos.line X.env = pure false := by rfl) : WSs X (.Assign [.Name n p] (.BinOp o .Add (.List [e, .Dict [] [] pd] pl) pb) pos :: rest) D σ H :=
  WSs.cons (ps_set C.nd L.ix L.loc (pe_op op_catR hp (pe_lst (pa_cons peW (pa1 hst2) hst))) hs L.hf) ⟨_, h, he _ B H S0 (Ex.refl _) (Ex.refl _) B H S0 (Ex.refl _) (Ex.refl _) _ fun v B2 H2 S2 e1 e2 rv => (ed_nI (R := rInt)) B2 H2 S2 (Ex.refl _) (Ex.refl _) _ fun q1 ws1 B3 H3 S3 e3 e4 r3 => by
    cases r3
    have rv' : v = .int u := rv
    subst rv'
    refine ⟨by show 2 ≤ sizeLine; decide, fun l2 hl2 => ?_⟩
    have S4 := S3.alloc hl2 (o := .lst [.int u, V.ref q1]) fun ys z => by cases z
    have g0 : (p0, HO.lst (vs ++ [V.ref q])) ∈ ((l2, HO.lst [.int u, V.ref q1]) :: (q1, HO.dK []) :: (p0, HO.lst (vs ++ [V.ref q])) :: (q, HO.dK ws) :: own) := by simp
    have g1 := (S4.ow _ g0).2.2
    have g2 := (S4.ow _ (List.mem_cons_self ..)).2.2
    refine ⟨p0, l2, _, _, rfl, rfl, Rd.of g1, Rd.of g2, by rw [List.length_append]; exact hz, fun p1 hp1 => ?_⟩
    have S5 := S4.alloc hp1 (o := .lst ((vs ++ [V.ref q]) ++ [.int u, V.ref q1])) fun ys z => by cases z
    have S6 := Stt.pick [0, 2, 4] S5
    have S7 : Stt E ((p1, .lst ((vs ++ [V.ref q, .int u]) ++ [V.ref q1])) :: (q1, .dK []) :: (q, .dK ws) :: own) B3 (upd (upd H3 l2 (.lst [.int u, V.ref q1])) p1 (.lst ((vs ++ [V.ref q]) ++ [.int u, V.ref q1]))) := by
      have e5 : (vs ++ [V.ref q, .int u]) ++ [V.ref q1] = (vs ++ [V.ref q]) ++ [.int u, V.ref q1] := by simp
      rw [e5]
      refine S5.sub (fun z hz => ?_) ?_
      · simp only [List.mem_cons] at hz ⊢
        rcases hz with h | h | h | h
        · exact .inl h
        · exact .inr (.inr (.inl h))
        · exact .inr (.inr (.inr (.inr (.inl h))))
        · exact .inr (.inr (.inr (.inr (.inr h))))
      · have nd := S5.nd
        simp only [List.map_cons, List.nodup_cons, List.mem_cons, not_or] at nd ⊢
        exact ⟨⟨nd.1.2.1, nd.1.2.2.2.1, nd.1.2.2.2.2⟩, ⟨nd.2.2.1.2.1, nd.2.2.1.2.2⟩, nd.2.2.2.2⟩
    exact kt p1 q1 B3 _ S7 (e1.trans e3)⟩
/-- x[-1] -/
theorem we_last {k1} {p1 p2 : Pos} {q p0 : Addr} {vs : List V} {σ : L2.St} {Q : VK} (S : Stt E own B H) (hp : PE X o (tVar i)) (h : σ[i]? = some (some (.ref p0))) (hm : (p0, HO.lst (vs ++ [V.ref q])) ∈ own) (k : Q (.ref q) H) : WE X (.Subscript o (.UnaryOp .USub (.Constant (.int 1) k1 p1) p2) pos) σ H Q :=
  WE.of (pe_ix ix_list hp (pe_un un_neg pe_int) (fun _ _ => rfl)) ⟨_, h, ⟨1, rfl, p0, vs ++ [V.ref q], -1, .ref q, rfl, rfl, SqL.of (S.ow _ hm).2.2, by
    unfold atI ixN
    rw [if_neg (by omega), List.length_append, List.length_singleton, if_pos (by omega)]
    show (vs ++ [V.ref q])[(-1 + ((vs.length + 1 : Nat) : Int)).toNat]? = _
    rw [show (-1 + ((vs.length + 1 : Nat) : Int)).toNat = vs.length by omega, List.getElem?_append_right (Nat.le_refl _), Nat.sub_self]
    rfl, k⟩⟩
theorem ev_lastD {k1} {p1 p2 : Pos} {q p0 : Addr} {vs : List V} {ws : List (Key × V)} {kvs : List (Int × α)} (hp : PE X o (tVar i)) (h : σ[i]? = some (some (.ref p0))) (hm : (p0, HO.lst (vs ++ [V.ref q])) ∈ own) (hq : (q, HO.dK ws) ∈ own) (r : pI R B ws kvs) :
    EvB X E own B H σ (.Subscript o (.UnaryOp .USub (.Constant (.int 1) k1 p1) p2) pos) (rDI R) kvs := fun B1 H1 S e1 e2 Q kq => we_last S hp h hm (kq _ B1 H1 S (Ex.refl _) (Ex.refl _) ⟨q, ws, rfl, Rd.of (S.ow _ hq).2.2, r.up (e1.trans S.bh.ex)⟩)
/-- d[a] = e, d an owned dict wherever it is found -/
theorem s_dputG {q : Addr} {ws : List (Key × V)} {kvs : List (Int × α)} {u : Int} (C : Cok X k0) (S0 : Stt E own B H) (ho : ∀ B1 H1, Stt E own B1 H1 → ∀ Q : VK, Q (.ref q) H1 → WE X o σ H1 Q) (hk : own[k]? = some (q, .dK ws)) (r : pI R B ws kvs)
    (hv : EvE X E own B H σ e R x) (ha : EvB X E own B H σ a rInt u) (hz : kvs.length < sizeLine)
    (kt : ∀ ws' B' H', Stt E (own.set k (q, .dK ws')) B' H' → Ex B B' → pI R B' ws' (dput kvs u x) → WSs X rest D σ H')
    (hs : NoSl a := by exact fun _ _ => rfl) (hw : swapsWith e (some (.Subscript o a pos')) pos.line X.env = pure false := by rfl) : WSs X (.Assign [.Subscript o a pos'] e pos :: rest) D σ H :=
  WSs.cons (ps_dput C.hu peW peW peW hw) (hv B H S0 (Ex.refl _) (Ex.refl _) _ fun v B2 H2 S2 e1 e2 rv => ho B2 H2 S2 _ (ha B2 H2 S2 e1 e2 _ fun w B3 H3 S3 e3 e4 rw' => by
    have hq := (S3.ow _ (List.mem_of_getElem? hk)).2.2
    have rw'' : w = .int u := rw'
    refine ⟨q, _, rfl, .inl ⟨ws, Sum.inl u, hq, rw'', by rw [plen r]; exact hz, rfl⟩, ?_⟩
    exact kt _ B3 _ (S3.put hk fun ys z => by cases z) (e1.trans e3) (rel_put (κ := Key) inl_inj (R.mono e3 rv) (r.up (e1.trans e3)))))
end
/-! equal runs -/
def eqDB (a b : RunD) : Bool := (decide (a.length = b.length)) && a.all fun kv => decide (dget b kv.1 = some kv.2)
def eqRun : (Int ⊕ RunD) → (Int ⊕ RunD) → Bool
  | .inl i, .inl j => decide (i = j)
  | .inr a, .inr b => eqDB a b
  | _, _ => false
def runsEq : RunT → RunT → Bool
  | [], [] => true
  | x :: a, y :: b => eqRun x y && runsEq a b
  | _, _ => false
theorem runsEq_cons {x y : Int ⊕ RunD} {a b : RunT} (e : runsEq (x :: a) (y :: b) = true) : eqRun x y = true ∧ runsEq a b = true := by
  unfold runsEq at e
  rw [Bool.and_eq_true] at e
  exact e
section
variable {X : Cx} {E : Ent} {own : Own} {B H : Hp} {σ : L2.St} {a b : Expr} {x y : RunT} {pos : Pos} {k : Nat} {pins : List (Addr × Obj)} {s : Shared}
theorem ints_EqV {vx vy : V} {l : List Int} (h1 : (rLst rInt).r H vx l) (h2 : (rLst rInt).r H vy l) : EqV X.K H 2 vx vy := by
  obtain ⟨p, vs, rfl, e1, q1⟩ := h1
  obtain ⟨p2, vs2, rfl, e2, q2⟩ := h2
  refine .inr (.inr (.inl ⟨p, p2, vs, vs2, rfl, rfl, .inl e1, .inl e2, ?_⟩))
  rw [ints_rel q1, ints_rel q2]
  clear q1 q2 e1 e2
  induction l with
  | nil => exact .nil
  | cons i r ih => exact .cons (.inl ⟨rfl, rfl⟩) ih
theorem mem_rel {ws : List (Key × V)} {kvs : List (Int × List Int)} (h : pI (rLst rInt) H ws kvs) : ∀ p ∈ ws, ∃ kv ∈ kvs, p.1 = Sum.inl kv.1 ∧ (rLst rInt).r H p.2 kv.2 := by
  induction h with
  | nil => intro p hp; cases hp
  | cons h t ih =>
    intro p hp
    rcases List.mem_cons.mp hp with rfl | hp
    · exact ⟨_, List.mem_cons_self .., h.1, h.2⟩
    · obtain ⟨kv, hk, e⟩ := ih p hp
      exact ⟨kv, List.mem_cons_of_mem _ hk, e⟩
theorem eqDB_run (I : Inv X pins σ H s) {A : Around} (hu : A.units + 3 < cLine) {vx vy : V} {x y : RunD} (h1 : (rDI (rLst rInt)).r H vx x) (h2 : (rDI (rLst rInt)).r H vy y) (e : eqDB x y = true) {v u : Value} (rx : RelV vx v) (ry : RelV vy u) : SeqAt.EqP X.prog X.w A s v u true := by
  obtain ⟨p, ks, rfl, ep, q1⟩ := h1
  obtain ⟨p2, ls, rfl, ep2, q2⟩ := h2
  cases (show v = Value.ref p from rx)
  cases (show u = Value.ref p2 from ry)
  unfold eqDB at e
  rw [Bool.and_eq_true, decide_eq_true_iff, List.all_eq_true] at e
  by_cases hpp : p = p2
  · subst hpp
    exact (SeqAt.EqAt.same _).eqP
  · refine SeqAt.eqP_refs hpp fun E Q q => ?_
    obtain ⟨_, ya, va, ra, da⟩ := (show ObjOk X.prog X.w H s.heap p (.dK ks) from ep.ok I.hok)
    obtain ⟨_, yb, vb, rb, db⟩ := (show ObjOk X.prog X.w H s.heap p2 (.dK ls) from ep2.ok I.hok)
    have hl : va.length = vb.length := by rw [← ra.length, ← rb.length, plen q1, plen q2]; exact e.1
    refine PySem.W.rcP_dicts (knd := mixKind X.prog X.w) (r := true) ya yb da db (by omega) (fun _ => hits_run (F := EqV X.K H 2) (eqV_run I 2 A.in1 (by show A.units + 1 + 2 < cLine; omega)) rb ra fun z hz => ?_) E Q ?_
    · obtain ⟨kv, hk, e1, e2⟩ := mem_rel q1 z hz
      have e3 := of_decide_eq_true (e.2 kv hk)
      have e4 := rel_get (κ := Key) inl_inj (k := kv.1) q2
      rw [e3] at e4
      obtain ⟨w, hw, rw'⟩ := e4
      exact ⟨w, by rw [e1]; exact hw, ints_EqV e2 rw'⟩
    · rw [show (va.length == vb.length && true) = true from by rw [hl]; simp]
      exact q
theorem eqRun_run (I : Inv X pins σ H s) {A : Around} (hu : A.units + 3 < cLine) {vx vy : V} {x y : Int ⊕ RunD} (h1 : rRun.r H vx x) (h2 : rRun.r H vy y) (e : eqRun x y = true) {v u : Value} (rx : RelV vx v) (ry : RelV vy u) : SeqAt.EqP X.prog X.w A s v u true := by
  cases x with
  | inl i =>
    cases y with
    | inl j =>
      have e' : i = j := of_decide_eq_true e
      have h1' : vx = .int i := h1
      have h2' : vy = .int j := h2
      subst h1' h2' e'
      exact (eqAt_same rx ry rfl).eqP
    | inr b => cases e
  | inr a =>
    cases y with
    | inl j => cases e
    | inr b => exact eqDB_run I hu h1 h2 e rx ry
theorem runs_items (I : Inv X pins σ H s) {A : Around} (hu : A.units + 3 < cLine) : ∀ {vs ws : List V} {x y : RunT} {us zs : List Value}, Paired (rRun.r H) vs x → Paired (rRun.r H) ws y → runsEq x y = true → Vals vs us → Vals ws zs → us.length = zs.length ∧ ∀ j (h1 : j < us.length) (h2 : j < zs.length), SeqAt.EqP X.prog X.w A s us[j] zs[j] true
  | _, _, _, _, _, _, .nil, .nil, _, .nil, .nil => ⟨rfl, fun j h => absurd h (Nat.not_lt_zero j)⟩
  | _, _, _, _, _, _, .nil, .cons _ _, e, _, _ => by cases e
  | _, _, _, _, _, _, .cons _ _, .nil, e, _, _ => by cases e
  | _, _, _, _, _, _, .cons h t, .cons h' t', e, .cons r rs, .cons r' rs' => by
    have e' := runsEq_cons e
    obtain ⟨k1, k2⟩ := runs_items I hu t t' e'.2 rs rs'
    refine ⟨congrArg (· + 1) k1, fun j h1 h2 => ?_⟩
    cases j with
    | zero => exact eqRun_run I hu h h' e'.1 r r'
    | succ j => exact k2 j (Nat.lt_of_succ_lt_succ h1) (Nat.lt_of_succ_lt_succ h2)
theorem op_eqRuns (hu : X.A.units + 64 < cLine) : OpR X (compareOp .Eq) (fun v w H Q => ∃ x y, rRuns.r H v x ∧ rRuns.r H w y ∧ runsEq x y = true ∧ Q (.bl true) H) := by
  intro pins s σ H v w u u2 Q I rx ry h
  obtain ⟨x, y, h1, h2, e, q⟩ := h
  obtain ⟨p, vs, rfl, e1, q1⟩ := h1
  obtain ⟨p2, ws, rfl, e2, q2⟩ := h2
  cases (show u = Value.ref p from rx)
  cases (show u2 = Value.ref p2 from ry)
  obtain ⟨us, r1, l1, _⟩ := I.list (.inl e1)
  obtain ⟨zs, r2, l2, _⟩ := I.list (.inl e2)
  obtain ⟨k1, k2⟩ := runs_items I (A := X.A.in1) (by show X.A.units + 1 + 3 < cLine; omega) q1 q2 e r1 r2
  refine SeqAt.rcP_lists (e := fun _ => true) l1.isList l2.isList (by rw [List.size_toArray, List.size_toArray]; exact k1) (by omega) (fun j h1 h2 => ?_) _ _ ?_
  · have := k2 j (by simpa using h1) (by simpa using h2)
    simpa using this
  · rw [show ((List.range us.toArray.size).all fun _ => true) = true from List.all_eq_true.mpr fun _ _ => rfl]
    exact ⟨.bl true, H, I, rfl, q⟩
theorem ev_eqRuns (C : Cok X k) (ha : EvB X E own B H σ a rRuns x) (hb : EvB X E own B H σ b rRuns y) (h : runsEq x y = true) : EvB X E own B H σ (.Compare a [.Eq] [b] pos) rBool true :=
  ev_cmp (op_eqRuns C.hu64) ha hb (nomark b) fun H1 v w Q h1 h2 k => ⟨x, y, h1, h2, h, k⟩
theorem et_eqRuns (C : Cok X k) (ha : EvB X E own B H σ a rRuns x) (hb : EvB X E own B H σ b rRuns y) (h : runsEq x y = true) : EvT X E own B H σ (.Compare a [.Eq] [b] pos) true :=
  et_cmp (op_eqRuns C.hu64) ha hb (nomark b) fun H1 v w Q h1 h2 k => ⟨x, y, h1, h2, h, k⟩
end
end Sg

namespace Sg
open PySem PySem.Spec PyProof.Rows L2
theorem sw_subs {env : Env} {o a o2 b c d : Expr} {p1 p2 tp p3 : Pos} {kk k2 : Nat} : swappedStores [.Tuple [.Subscript o a p1, .Subscript o2 b p2] kk tp] (.Tuple [c, d] k2 p3) env = pure none := by
  unfold swappedStores
  simp only [List.filterMap_cons, List.filterMap_nil, List.length_nil, List.length_cons]
  split
  · rfl
  · split
    · rfl
    · rfl
end Sg

namespace Sg
open PySem PySem.Spec PyProof.Rows L2
section
variable {X : Cx} {E : Ent} {own : Own} {B H : Hp} {σ : L2.St} {α : Type} {R : Rel α} {e a b o : Expr} {x y : α} {p pos pos' : Pos} {i k j k0 : Nat} {xs ys : List α} {rest : List Stmt} {D : Ends} {n : Str}
/-! x in a tuple -/
theorem ev_inT [DecidableEq α] [Flat R] (ha : EvB X E own B H σ a R x) (ho : EvB X E own B H σ o (rTup R) xs) (hm : behindInMarks .In o = false := by rfl) : EvB X E own B H σ (.Compare a [.In] [o] pos) rBool (decide (x ∈ xs)) :=
  ev_cmp op_in_seq ha ho hm fun H1 v w Q h1 h2 k => by
    obtain ⟨l, vs, g1, g2, g3⟩ := h2
    obtain ⟨q1, q2⟩ := in_rel h1 g3
    refine ⟨l, vs, g1, .inr (SqT.of g2), Flat.f h1, q1, ?_⟩
    rw [q2]
    exact k
theorem et_inT [DecidableEq α] [Flat R] (ha : EvB X E own B H σ a R x) (ho : EvB X E own B H σ o (rTup R) xs) (hm : behindInMarks .In o = false := by rfl) : EvT X E own B H σ (.Compare a [.In] [o] pos) (decide (x ∈ xs)) :=
  et_cmp op_in_seq ha ho hm fun H1 v w Q h1 h2 k => by
    obtain ⟨l, vs, g1, g2, g3⟩ := h2
    obtain ⟨q1, q2⟩ := in_rel h1 g3
    refine ⟨l, vs, g1, .inr (SqT.of g2), Flat.f h1, q1, ?_⟩
    rw [q2]
    exact k
theorem ev_ninT [DecidableEq α] [Flat R] (ha : EvB X E own B H σ a R x) (ho : EvB X E own B H σ o (rTup R) xs) (hm : behindInMarks .NotIn o = false := by rfl) : EvB X E own B H σ (.Compare a [.NotIn] [o] pos) rBool (!decide (x ∈ xs)) :=
  ev_cmp op_notIn_seq ha ho hm fun H1 v w Q h1 h2 k => by
    obtain ⟨l, vs, g1, g2, g3⟩ := h2
    obtain ⟨q1, q2⟩ := in_rel h1 g3
    refine ⟨l, vs, g1, .inr (SqT.of g2), Flat.f h1, q1, ?_⟩
    rw [q2]
    exact k
theorem et_ninT [DecidableEq α] [Flat R] (ha : EvB X E own B H σ a R x) (ho : EvB X E own B H σ o (rTup R) xs) (hm : behindInMarks .NotIn o = false := by rfl) : EvT X E own B H σ (.Compare a [.NotIn] [o] pos) (!decide (x ∈ xs)) :=
  et_cmp op_notIn_seq ha ho hm fun H1 v w Q h1 h2 k => by
    obtain ⟨l, vs, g1, g2, g3⟩ := h2
    obtain ⟨q1, q2⟩ := in_rel h1 g3
    refine ⟨l, vs, g1, .inr (SqT.of g2), Flat.f h1, q1, ?_⟩
    rw [q2]
    exact k
end
end Sg

namespace Sg
open PySem PySem.Spec PyProof.Rows L2
section
variable {X : Cx} {E : Ent} {own : Own} {B H : Hp} {σ : L2.St} {α : Type} {R : Rel α} {e a b o : Expr} {x y : α} {p pos pos' : Pos} {i k j k0 : Nat} {xs ys : List α} {rest : List Stmt} {D : Ends} {n : Str}
/-! x[i] = e -/
theorem s_set1 {q : Addr} {vs : List V} {u : Int} (C : Cok X k0) (S0 : Stt E own B H) (ho : PE X o (tVar i)) (h : σ[i]? = some (some (.ref q))) (hk : own[k]? = some (q, .lst vs)) (r : Paired (R.r B) vs xs)
    (he : EvE X E own B H σ e R x) (ha : EvB X E own B H σ a rInt u) (h1 : setI xs u x = some ys)
    (kt : ∀ vs' B' H', Stt E (own.set k (q, .lst vs')) B' H' → Ex B B' → Paired (R.r B') vs' ys → WSs X rest D σ H')
    (g1 : PlSub X o a pos' := by exact fun _ => rfl) (hw : swapsWith e (some (.Subscript o a pos')) pos.line X.env = pure false := by rfl) : WSs X (.Assign [.Subscript o a pos'] e pos :: rest) D σ H :=
  WSs.cons (ps_asg peW (pg_sub ho peW set_list g1) hw) (he B H S0 (Ex.refl _) (Ex.refl _) _ fun v B2 H2 S2 e1 e2 rp => by
    obtain ⟨j1, hj1, rfl⟩ := setI_get h1
    refine ⟨.ref q, h, ?_⟩
    refine ha B2 H2 S2 e1 e2 _ fun w1 B3 H3 S3 e3 e4 rw1 => ?_
    have hq := (S3.ow _ (List.mem_of_getElem? hk)).2.2
    have r3 := pimp r fun _ _ z => R.mono (e1.trans e3) z
    refine ⟨q, vs, u, j1, rfl, rw1, hq, by rw [plen r]; exact hj1, ?_⟩
    have S3' := S3.put hk (o' := .lst (vs.set j1 v)) fun ys z => by cases z
    exact kt _ B3 _ S3' (e1.trans e3) (psetJ r3 (R.mono e3 rp) j1))
theorem el_repO {q : Int} {l : Addr} {vs : List V} (ho : PE X o (tVar i)) (h : σ[i]? = some (some (.ref l))) (hk : own[k]? = some (l, .lst vs)) (r : Paired (R.r B) vs xs) (hb : EvB X E own B H σ b rInt q) (hz : -(2 ^ 63) ≤ q ∧ q < 2 ^ 63 ∧ xs.length * q.toNat ≤ sizeLine) : EvL X E own B H σ (.BinOp o .Mult b pos) R (List.replicate q.toNat xs).flatten := fun B1 H1 S1 e1 e2 Q k =>
  WE.of (pe_op (show OpR X (binaryOp .Mult) rRepR from op_rep) ho peW) ⟨.ref l, h, hb B1 H1 S1 e1 e2 _ fun w B3 H3 S3 e5 e6 r' => by
    refine ⟨l, q, vs, rfl, r', (S3.ow _ (List.mem_of_getElem? hk)).2.2, hz.1, hz.2.1, by rw [plen r]; exact hz.2.2, fun p np => ?_⟩
    have S4 := (S3.alloc np (o := .lst (List.replicate q.toNat vs).flatten) fun ys z => by cases z)
    exact k p _ B3 _ S4 e5 (e6.trans (Sx.new np).ex) (prep (pimp r fun _ _ z => R.mono (e1.trans e5) z) _)⟩
end
end Sg

namespace Sg
open PySem PySem.Spec PyProof.Rows L2
/-! ### sorted(d.items()) -/
def vwO (p d : Addr) : HO := .ext fun h => h.IsItemsView p d
theorem vwO_ok {P : Program} {w : World} {H : Hp} {h : Heap} {p d : Addr} (e : h.get? p = some { cls := .type "dict_items", data := .fields #[.ref d] }) : ObjOk P w H h p (vwO p d) :=
  ⟨⟨_, e, rfl, rfl⟩, ⟨_, e⟩, fun h1 h2 ⟨o, ho, r⟩ k => ⟨o, k o ho, r⟩⟩
section
variable {X : Cx}
def rVw : V → List V → Hp → VK → Prop := fun x xs H Q => ∃ (d : Addr) (ws : List (Key × V)), x = .ref d ∧ xs = [] ∧ Rd H d (.dK ws) ∧ ∀ p, H p = none → Q (.ref p) (upd H p (vwO p d))
theorem mt_vw : MtR X "dict.items" rVw := by
  intro pins s σ H x xs v us Q I rx rxs hr
  obtain ⟨d, ws, rfl, rfl, hd, q⟩ := hr
  cases rx
  cases rxs
  obtain ⟨_, lo, vs, _, dd⟩ := dk_rd I.hok hd
  refine PySem.call_meetsIn F.slot_dict_items dd.typeIs F.entry_dict_items (F.args_dict_items_1 _) (meets_dict_items (mixKind X.prog X.w) d lo) ⟨⟨vs, dd⟩, ?_⟩
  exact ⟨.ref s.heap.objs.size, _, I.laid (t' := s.toks) (fun b u e => Heap.get?_push_of_some _ e) (Nat.le_refl _) (vwO_ok (Heap.get?_push_size _ rfl)), rfl, q _ (I.hok.fresh (Nat.le_refl _))⟩
/-! things that read as data -/
class EncR {α : Type} (R : Rel α) where
  enc : α → PyData
  rd : ∀ {X : Cx} {pins : List (Addr × Obj)} {σ : L2.St} {H : Hp} {s : Shared} {v : V} {x : α} {u : Value}, Inv X pins σ H s → R.r H v x → RelV v u → Reads s.heap u (enc x) []
  dp : ∀ x, (enc x).depth ≤ 1
  al : ∀ x y, PySem.W.alike (enc x) (enc y) = true
instance : EncR rInt where
  enc := .int
  rd := fun I r ru => by
    have r : _ = _ := r
    subst r
    obtain ⟨t, rfl⟩ := ru
    exact .int _ _
  dp := fun x => by show (0 : Nat) ≤ 1; omega
  al := fun x y => rfl
theorem ints_read {h : Heap} {H : Hp} : ∀ {vs : List V} {ns : List Int} {us : List Value}, Paired (rInt.r H) vs ns → Vals vs us → ReadsAll h us (ns.map PyData.int) []
  | _, _, _, .nil, .nil => .nil
  | _, _, _, .cons r rs, .cons g gs => by
    have r : _ = _ := r
    subst r
    obtain ⟨t, rfl⟩ := g
    exact ReadsAll.cons (as := []) (bs := []) (.int _ _) (ints_read rs gs)
instance : EncR (rTup rInt) where
  enc := fun ns => .tuple (ns.map .int)
  rd := fun {X pins σ H s v x u} I r ru => by
    obtain ⟨p, vs, rfl, hp, hr⟩ := r
    obtain rfl : u = Value.ref p := ru
    obtain ⟨_, its, rv, o, ho, hc, n, hd⟩ := (show ObjOk X.prog X.w H s.heap p (.tup vs) from I.hok p _ hp)
    refine Reads.tuple ho hc hd ?_
    exact ints_read hr rv
  dp := fun x => by
    show (PyData.tuple (x.map .int)).depth ≤ 1
    rw [PyData.depth, PySem.W.depth_ints]
    omega
  al := fun x y => by
    show PySem.W.alike (.tuple (x.map .int)) (.tuple (y.map .int)) = true
    rw [PySem.W.alike]
    exact PySem.W.alike_ints x y

def laidT : Hp → List (Addr × List V) → Hp
  | H, [] => H
  | H, q :: L => laidT (upd H q.1 (.tup q.2)) L
theorem laidT_off {a : Addr} : ∀ (L : List (Addr × List V)) (H : Hp), a ∉ L.map (·.1) → laidT H L a = H a
  | [], _, _ => rfl
  | q :: L, H, h => by
    rw [List.map_cons, List.mem_cons, not_or] at h
    show laidT (upd H q.1 (.tup q.2)) L a = H a
    rw [laidT_off L _ h.2, upd_ne h.1]
theorem laidT_at : ∀ (L : List (Addr × List V)) (H : Hp), (L.map (·.1)).Nodup → ∀ q ∈ L, laidT H L q.1 = some (.tup q.2)
  | q :: L, H, nd, r, hr => by
    rw [List.map_cons, List.nodup_cons] at nd
    show laidT (upd H q.1 (.tup q.2)) L r.1 = _
    rcases List.mem_cons.mp hr with rfl | hr
    · rw [laidT_off L _ nd.1, upd_same]
    · exact laidT_at L _ nd.2 r hr
theorem stt_laidT {E : Ent} {own : Own} : ∀ (L : List (Addr × List V)) {B H : Hp}, Stt E own B H → (L.map (·.1)).Nodup → (∀ q ∈ L, H q.1 = none) → Stt E own (laidT B L) (laidT H L) ∧ Ex B (laidT B L) ∧ Ex H (laidT H L)
  | [], _, _, S, _, _ => ⟨S, Ex.refl _, Ex.refl _⟩
  | q :: L, B, H, S, nd, hn => by
    rw [List.map_cons, List.nodup_cons] at nd
    have h1 := hn q (List.mem_cons_self ..)
    obtain ⟨a, b, c⟩ := stt_laidT L (S.lay (o := .tup q.2) h1) nd.2 fun r hr => by
      rw [upd_ne fun z => nd.1 (List.mem_map.mpr ⟨r, hr, z⟩)]
      exact hn r (List.mem_cons_of_mem _ hr)
    exact ⟨a, (S.layB h1).ex.trans b, (Sx.new h1).ex.trans c⟩
theorem inv_laidT {pins : List (Addr × Obj)} {σ : L2.St} {H0 : Hp} {s0 : Shared} {h' : Heap} {tk : Nat} (I0 : Inv X pins σ H0 s0) : ∀ (L : List (Addr × List V)) (H : Hp), Inv X pins σ H { s0 with heap := h', toks := tk } → (L.map (·.1)).Nodup →
    (∀ q ∈ L, s0.heap.objs.size ≤ q.1 ∧ H q.1 = none ∧ ∀ H2, ObjOk X.prog X.w H2 h' q.1 (.tup q.2)) → Inv X pins σ (laidT H L) { s0 with heap := h', toks := tk }
  | [], _, I, _, _ => I
  | q :: L, H, I, nd, hq => by
    rw [List.map_cons, List.nodup_cons] at nd
    obtain ⟨h1, h2, h3⟩ := hq q (List.mem_cons_self ..)
    refine inv_laidT I0 L _ (I.take (h' := h') (t' := tk) (fun b ob _ e => e) (I0.fpOk h1 h2) (h3 _)) nd.2 fun r hr => ?_
    obtain ⟨g1, g2, g3⟩ := hq r (List.mem_cons_of_mem _ hr)
    exact ⟨g1, by rw [upd_ne fun z => nd.1 (List.mem_map.mpr ⟨r, hr, z⟩)]; exact g2, g3⟩
theorem each_ix {α β : Type} {R : α → β → Prop} : ∀ {xs : List α} {ys : List β}, xs.length = ys.length → (∀ (j : Nat) x y, xs[j]? = some x → ys[j]? = some y → R x y) → PySem.W.EachIs R xs ys
  | [], [], _, _ => .nil
  | [], _ :: _, h, _ => by cases h
  | _ :: _, [], h, _ => by cases h
  | x :: xs, y :: ys, h, k => .cons (k 0 x y rfl rfl) (each_ix (Nat.succ.inj h) fun j a b h1 h2 => k (j + 1) a b h1 h2)
theorem each_out {α β : Type} {R : α → β → Prop} {f : β → α} (hf : ∀ a b, R a b → a = f b) : ∀ {xs : List α} {ys : List β}, PySem.W.EachIs R xs ys → xs = ys.map f ∧ ∀ y ∈ ys, R (f y) y
  | _, _, .nil => ⟨rfl, fun y hy => by cases hy⟩
  | x :: xs, y :: ys, .cons r t => by
    obtain ⟨h1, h2⟩ := each_out hf t
    have e := hf x y r
    subst e
    refine ⟨by rw [h1, List.map_cons], fun z hz => ?_⟩
    rcases List.mem_cons.mp hz with rfl | hz
    · exact r
    · exact h2 z hz
section
variable {α : Type}
def leRow (R : Rel α) [EncR R] (a b : Int × α) : Bool := PySem.W.dataLe false (fun q : Int × α => .tuple [.int q.1, EncR.enc R q.2]) a b
def rSortVw (R : Rel α) [EncR R] : List V → Hp → VK → Prop := fun xs H Q => ∃ (p d : Addr) (ws : List (Key × V)) (kvs : List (Int × α)), xs = [.ref p] ∧ H p = some (vwO p d) ∧ Rd H d (.dK ws) ∧ Paired (fun w kv => w.1 = Sum.inl kv.1 ∧ R.r H w.2 kv.2) ws kvs ∧
  ∀ (L : List (Addr × V × (Int × α))) (l : Addr), L.map (·.2.2) = kvs.mergeSort (leRow R) → (∀ z ∈ L, R.r H z.2.1 z.2.2.2) → (L.map (·.1)).Nodup → (∀ z ∈ L, H z.1 = none) → H l = none → l ∉ L.map (·.1) →
    Q (.ref l) (upd (laidT H (L.map fun z => (z.1, [.int z.2.2.1, z.2.1]))) l (.lst (L.map fun z => .ref z.1)))
end

theorem cr_sortVw {α : Type} (R : Rel α) [EncR R] (hc : X.calm = true) (hu : X.A.units + 64 < cLine) : CallR X (.builtin "sorted") (rSortVw R) := by
  intro pins s σ H xs us Q I r hq
  obtain ⟨p, d, ws, kvs, rfl, hp, hd, hk, q⟩ := hq
  obtain rfl := Vals.ref1 r
  have view : s.heap.IsItemsView p d := (show ObjOk X.prog X.w H s.heap p (vwO p d) from I.hok p _ hp).1
  obtain ⟨zl, lo, vs, rel, dd⟩ := dk_rd I.hok hd
  obtain ⟨ep, hat⟩ := dd.dictAt
  have l1 : ws.length = vs.length := Paired.length rel
  have l2 : ws.length = kvs.length := plen hk
  have hz : vs.length ≤ sizeLine := by omega
  refine PySem.Calls.call_function_entry kind_sorted plain_sorted entry_sorted (args_sorted1 _) ?_
  unfold Builtin.«sorted»
  refine wpAny_bind (m := checkCount "sorted" 1 1 _) (wpAny_pure ?_)
  refine wpAny_bind (PySem.W.kdx_collect (A := X.A.in1) (knd := mixKind X.prog X.w) (kvs := vs) (ep := ep) (I.ok.hd hc) view hat hz fun h1 tk as k1 la G => ?_)
  refine wpAny_bind (wpAny_newList ?_ (by rw [List.length_map, la]; exact hz))
  have nd : as.Nodup := List.Pairwise.imp (fun z => Nat.ne_of_lt z) G.rise
  have hob : (h1.push { cls := .type "list", data := .seq (as.map Value.ref).toArray }).get? h1.objs.size = some (seqObj "list" (as.map Value.ref).toArray 0) := Heap.get?_push_size _ rfl
  have ka : ∀ b o, h1.get? b = some o → (h1.push { cls := .type "list", data := .seq (as.map Value.ref).toArray }).get? b = some o := fun b o e => Heap.get?_push_of_some _ e
  generalize h1.push { cls := .type "list", data := .seq (as.map Value.ref).toArray } = h2 at hob ka ⊢
  have kb : ∀ b o, s.heap.get? b = some o → h2.get? b = some o := fun b o e => ka b o (k1 b o e)
  -- what stands at a place
  let bs : List (Addr × V × (Int × α)) := (as.zip (ws.zip kvs)).map fun z => (z.1, z.2.1.2, z.2.2)
  have lb : as.length = bs.length := by
    show _ = ((as.zip (ws.zip kvs)).map _).length
    rw [List.length_map, List.length_zip, List.length_zip]
    omega
  have bj : ∀ (j : Nat) (b : Addr × V × (Int × α)), bs[j]? = some b → ∃ w, as[j]? = some b.1 ∧ ws[j]? = some w ∧ w.2 = b.2.1 ∧ kvs[j]? = some b.2.2 := by
    intro j b h
    have h : ((as.zip (ws.zip kvs)).map fun z => (z.1, z.2.1.2, z.2.2))[j]? = some b := h
    rw [List.getElem?_map, Option.map_eq_some_iff] at h
    obtain ⟨z, h3, rfl⟩ := h
    obtain ⟨g1, g2⟩ := List.getElem?_zip_eq_some.mp h3
    obtain ⟨g3, g4⟩ := List.getElem?_zip_eq_some.mp g2
    exact ⟨z.2.1, g1, g3, rfl, g4⟩
  have good : ∀ (j : Nat) (b : Addr × V × (Int × α)), bs[j]? = some b → ∃ key x, h1.get? b.1 = some { cls := .type "tuple", data := .seq #[key, x] } ∧ RelV (.int b.2.2.1) key ∧ RelV b.2.1 x ∧ R.r H b.2.1 b.2.2.2 := by
    intro j b h
    obtain ⟨w, g1, g2, g3, g4⟩ := bj j b h
    obtain ⟨key, k, x, f1, f2, f3⟩ := G.pairs j _ g1
    obtain ⟨y, e1, e2, e3⟩ := LiI.paired_get rel g2
    rw [f1] at e1
    cases e1
    obtain ⟨y2, e4, e5, e6⟩ := LiI.paired_get hk g2
    rw [g4] at e4
    cases e4
    have rk : RelV (kV w.1) key := by
      rw [e2]
      exact relV_key (show keyIs k key = true from f2)
    rw [e5] at rk
    rw [g3] at e3 e6
    exact ⟨key, x, f3, rk, e3, e6⟩
  let P : Value → Addr × V × (Int × α) → Prop := fun v b => v = .ref b.1 ∧ b ∈ bs
  have eP : PySem.W.EachIs P (as.map Value.ref) bs := each_ix (by rw [List.length_map]; exact lb) fun j v b g1 g2 => by
    obtain ⟨w, f1, _⟩ := bj j b g2
    rw [List.getElem?_map, f1] at g1
    exact ⟨(Option.some.inj g1).symm, List.mem_of_getElem? g2⟩
  let ec : Addr × V × (Int × α) → PyData := fun b => .tuple [.int b.2.2.1, EncR.enc R b.2.2.2]
  have eR : PySem.W.EachIs (fun v b => ∃ zs, Reads h2 v (ec b) zs ∧ h1.objs.size ∉ zs) (as.map Value.ref) bs := each_ix (by rw [List.length_map]; exact lb) fun j v b g1 g2 => by
    obtain ⟨w, f1, _⟩ := bj j b g2
    rw [List.getElem?_map, f1] at g1
    obtain ⟨key, x, q1, q2, q3, q4⟩ := good j b g2
    obtain rfl := (Option.some.inj g1).symm
    obtain ⟨t, rfl⟩ := q2
    refine ⟨[], Reads.tuple (ka _ _ q1) rfl rfl ?_, List.not_mem_nil⟩
    exact ReadsAll.cons (as := []) (bs := []) (.int _ _) (ReadsAll.cons (as := []) (bs := []) (PyProof.Rows.Reads.keeps kb (EncR.rd I q4 q3)) .nil)
  have hal : PySem.W.AllAlike (bs.map ec) := PySem.W.AllAlike.of fun b b' => by
    show PySem.W.alike (.tuple [.int b.2.2.1, EncR.enc R b.2.2.2]) (.tuple [.int b'.2.2.1, EncR.enc R b'.2.2.2]) = true
    rw [PySem.W.alike, PySem.W.alikeAll, PySem.W.alikeAll, EncR.al]
    rfl
  have hsk : PySem.W.Sortable (bs.map ec) := PySem.W.Sortable.tuples fun b => ⟨_, _, rfl⟩
  refine wpAny_bind (wpAny_holding (wpAny_mono (Q := fun _ s' => EP X pins σ Q (.ref h1.objs.size) s') (E := X.xe) (PySem.W.list_sort_data (A := X.A.in1) (bs := bs) (enc := ec) (R := P) hob eP eR hal hsk (by omega) (fun b _ => ?_) fun out lo2 eo => ?_) (fun _ s' x => wpAny_pure ⟨_, rfl, x⟩) fun _ _ e => e))
  · have h3 := EncR.dp (R := R) b.2.2.2
    have h4 : (ec b).depth ≤ 2 := by
      show (PyData.tuple [.int b.2.2.1, EncR.enc R b.2.2.2]).depth ≤ 2
      rw [PyData.depth, PyData.depthAll, PyData.depthAll, PyData.depthAll, PyData.depth]
      omega
    show X.A.units + 1 + 1 + _ < _
    omega
  · obtain ⟨eo1, eo2⟩ := each_out (f := fun b : Addr × V × (Int × α) => Value.ref b.1) (fun a b z => z.1) eo
    have pm : (bs.mergeSort (PySem.W.dataLe false ec)).Perm bs := List.mergeSort_perm _ _
    have ms : (bs.mergeSort (PySem.W.dataLe false ec)).map (·.2.2) = (bs.map (·.2.2)).mergeSort (leRow R) := List.map_mergeSort fun a _ b _ => rfl
    generalize bs.mergeSort (PySem.W.dataLe false ec) = L at eo1 eo2 pm ms
    have b1 : bs.map (·.1) = as := by
      show ((as.zip (ws.zip kvs)).map fun z => (z.1, z.2.1.2, z.2.2)).map (·.1) = as
      rw [List.map_map]
      exact List.map_fst_zip (by rw [List.length_zip]; omega)
    have b2 : bs.map (·.2.2) = kvs := by
      show ((as.zip (ws.zip kvs)).map fun z => (z.1, z.2.1.2, z.2.2)).map (·.2.2) = kvs
      rw [List.map_map]
      have e1 : (as.zip (ws.zip kvs)).map (·.2) = ws.zip kvs := List.map_snd_zip (by rw [List.length_zip]; omega)
      have e2 : (ws.zip kvs).map (·.2) = kvs := List.map_snd_zip (by omega)
      rw [← e1, List.map_map] at e2
      exact e2
    rw [b2] at ms
    have nL : (L.map (·.1)).Nodup := (pm.map (·.1)).nodup_iff.mpr (by rw [b1]; exact nd)
    have at_ : ∀ z ∈ L, ∃ j : Nat, bs[j]? = some z := fun z hz => List.mem_iff_getElem?.mp (pm.mem_iff.mp hz)
    have inAs : ∀ z ∈ L, z.1 ∈ as := fun z hz => by
      rw [← b1]
      exact List.mem_map.mpr ⟨z, pm.mem_iff.mp hz, rfl⟩
    have I1 : Inv X pins σ H { s with heap := h1, toks := tk } := I.kept (t' := tk) k1
    have nl : H h1.objs.size = none := I1.hok.fresh (Nat.le_refl _)
    have lowA : ∀ a ∈ as, a ≠ h1.objs.size := fun a ha => Nat.ne_of_lt (G.there ha)
    have kF : ∀ b o, b ≠ h1.objs.size → h2.get? b = some o → (sortedHeap h2 h1.objs.size (as.map Value.ref) out.toArray).get? b = some o := fun b o hb e => (PyProof.Rows.sortedHeap_old hb (Heap.lt_size e)).trans e
    obtain ⟨eF, heF⟩ := PyProof.Rows.sortedHeap_at (vs := as.map Value.ref) (out := out.toArray) hob
    generalize sortedHeap h2 h1.objs.size (as.map Value.ref) out.toArray = hF at kF heF
    have I2 : Inv X pins σ H { s with heap := hF, toks := tk } := I.kept (t' := tk) fun b o e => kF b o (Nat.ne_of_lt (Heap.lt_size (k1 b o e))) (kb b o e)
    have mm : (L.map fun z => (z.1, [V.int z.2.2.1, z.2.1])).map (·.1) = L.map (·.1) := by rw [List.map_map]; rfl
    have I3 := inv_laidT I (L.map fun z => (z.1, [V.int z.2.2.1, z.2.1])) H I2 (by rw [mm]; exact nL) fun r hr => by
      obtain ⟨z, hz, rfl⟩ := List.mem_map.mp hr
      obtain ⟨j, hj⟩ := at_ z hz
      obtain ⟨key, x, q1, q2, q3, q4⟩ := good j z hj
      have hb := Nat.le_of_lt (G.above _ (inAs z hz))
      exact ⟨hb, I.hok.fresh hb, fun H2 => ⟨by show 2 ≤ sizeLine; decide, [key, x], .cons q2 (.cons q3 .nil), ⟨_, kF _ _ (lowA _ (inAs z hz)) (ka _ _ q1), rfl, 0, rfl⟩⟩⟩
    have nlL : h1.objs.size ∉ L.map (·.1) := fun z => by
      obtain ⟨y, hy, e⟩ := List.mem_map.mp z
      exact lowA _ (inAs y hy) e
    have rv : Vals (L.map fun z => V.ref z.1) out := by
      rw [eo1]
      have : ∀ (M : List (Addr × V × (Int × α))), Vals (M.map fun z => V.ref z.1) (M.map fun z => Value.ref z.1) := fun M => by
        induction M with
        | nil => exact .nil
        | cons z M ih => exact .cons rfl ih
      exact this L
    have hlen : (L.map fun z => V.ref z.1).length ≤ sizeLine := by
      have := pm.length_eq
      rw [List.length_map]
      omega
    have I4 := I3.take (h' := hF) (t' := tk) (o := .lst (L.map fun z => V.ref z.1)) (fun b ob _ e => e) (I1.fpOk (b := h1.objs.size) (Nat.le_refl _) (by rw [laidT_off _ _ (by rw [mm]; exact nlL)]; exact nl)) ⟨hlen, out, eF, rv, heF⟩
    exact ⟨.ref h1.objs.size, _, I4, rfl, q L h1.objs.size ms (fun z hz => by
      obtain ⟨j, hj⟩ := at_ z hz
      exact (good j z hj).choose_spec.choose_spec.2.2.2) nL (fun z hz => I.hok.fresh (Nat.le_of_lt (G.above _ (inAs z hz)))) nl nlL⟩

theorem pe_vw {o : Expr} {te : TE} {ap cp : Pos} (he : PE X o te) (hb : attributeBase o "items" X.env (eval o X.env) = eval o X.env := by rfl) (hl : (ap.endLine == cp.line) = true := by rfl) : PE X (.Call (.Attribute o "items" ap) [] [] cp) (fun σ H Q => te σ H fun x H1 => rVw x [] H1 Q) := by
  refine ⟨fun pins s σ H Q I hq => ?_⟩
  refine wpAny_Call_method (T := "dict") (id := "dict.items") hb rfl hl F.plainAttrs_dict F.slot_dict_items F.type_dict_items (thn (he.run pins s σ H _ I hq) fun u s1 ⟨x, H1, I1, rx, hv⟩ => ?_)
  obtain ⟨d, ws, rfl, h2, hd, h3⟩ := hv
  obtain rfl : u = Value.ref d := rx
  obtain ⟨_, lo, vs, _, dd⟩ := dk_rd I1.hok hd
  exact ⟨dd.typeIs, dd.mapOf.noDict, Calls.callWith_builtin rfl (PySem.evalArgs_none (mt_vw pins s1 σ H1 (.ref d) [] (.ref d) [] Q I1 rfl .nil ⟨d, ws, rfl, h2, hd, h3⟩))⟩
section
variable {E : Ent} {own : Own} {B H : Hp} {σ : L2.St} {α : Type} {R : Rel α} {o : Expr} {p pos ap cp : Pos} {kvs : List (Int × α)}
theorem pair_map {β γ : Type} {F : V → γ → Prop} (f : β → V) (g : β → γ) : ∀ (L : List β), (∀ z ∈ L, F (f z) (g z)) → Paired F (L.map f) (L.map g)
  | [], _ => .nil
  | z :: L, h => .cons (h z (List.mem_cons_self ..)) (pair_map f g L fun y hy => h y (List.mem_cons_of_mem _ hy))
theorem el_sortItems [EncR R] [Imm R] (hc : X.calm = true) (hu : X.A.units + 64 < cLine) (hg : Gl X "sorted") (hm : X.mg "sorted" = none) (ho : EvB X E own B H σ o (rDI R) kvs)
    (hb : attributeBase o "items" X.env (eval o X.env) = eval o X.env := by rfl) (hl : (ap.endLine == cp.line) = true := by rfl) (hs : St1 X (.Call (.Attribute o "items" ap) [] [] cp) := by rfl) : EvL X E own B H σ (.Call (.Name "sorted" p) [.Call (.Attribute o "items" ap) [] [] cp] [] pos) (rPr rInt R) (kvs.mergeSort (leRow R)) := fun B1 H1 S1 e1 e2 Q k => by
  refine WE.of (pe_callB (cr_sortVw R hc hu) hg hm (by decide +kernel) (pa_cons (pe_vw peW hb hl) pa_nil hs) (he := hs)) (ho B1 H1 S1 e1 e2 _ fun v B2 H2 S2 e3 e4 r => ?_)
  obtain ⟨d, ws, rfl, h2, h3⟩ := r
  refine ⟨d, ws, rfl, rfl, h2, fun q hq => ?_⟩
  have x3 : Ex H2 (upd H2 q (vwO q d)) := (Sx.new hq).ex
  have S3 := S2.alloc hq (o := vwO q d) fun ys z => by cases z
  refine ⟨q, d, ws, kvs, rfl, upd_same, x3.dK h2, h3.up x3, fun L l e5 e6 e7 e8 e9 e10 => ?_⟩
  have mm : (L.map fun z => (z.1, [V.int z.2.2.1, z.2.1])).map (·.1) = L.map (·.1) := by rw [List.map_map]; rfl
  have hn : ∀ r ∈ (L.map fun z => (z.1, [V.int z.2.2.1, z.2.1])), (upd H2 q (vwO q d)) r.1 = none := fun r hr => by
    obtain ⟨z, hz, rfl⟩ := List.mem_map.mp hr
    exact e8 z hz
  obtain ⟨S4, x4, x5⟩ := stt_laidT (L.map fun z => (z.1, [V.int z.2.2.1, z.2.1])) S3 (by rw [mm]; exact e7) hn
  have nl : laidT (upd H2 q (vwO q d)) (L.map fun z => (z.1, [V.int z.2.2.1, z.2.1])) l = none := by
    rw [laidT_off _ _ (by rw [mm]; exact e10)]
    exact e9
  have S5 := (S4.alloc nl (o := .lst (L.map fun z => V.ref z.1)) fun ys z => by cases z).swap.drop
  refine k l _ _ _ S5 (e3.trans x4) (((e4.trans x3).trans x5).trans (Sx.new nl).ex) ?_
  rw [← e5]
  refine pair_map (fun z : Addr × V × (Int × α) => V.ref z.1) (fun z => z.2.2) L fun z hz => ?_
  exact ⟨z.1, _, _, rfl, laidT_at _ _ (by rw [mm]; exact e7) _ (List.mem_map.mpr ⟨z, hz, rfl⟩), rfl, R.mono x4 (Imm.imm S3.tu (e6 z hz))⟩
end
end
end Sg

namespace Sg
open PySem PySem.Spec PyProof.Rows L2
section
variable {X Xb : Cx} {E : Ent} {own new own' : Own} {B H B' H' : Hp} {σ : L2.St} {α β γ δ τ ρ ρ' : Type} {R : Rel α} {S : Rel β} {T : Rel γ} {U : Rel δ} {e a b c d o it tg : Expr} {x : α} {y : β} {p pos pos' apos : Pos} {i j k k0 : Nat} {z w : Bool} {xs : List α} {ys : List β} {es : List Expr}
variable {n m : Str} {rest body other : List Stmt} {D : Ends} {P : ρ → Prop} {Er : Err → Prop} {scope sc : Scope} {N : List Str} {t : List (Str × NameKind)} {kd : NameKind}
/-! range with the step -1 -/
theorem rsz_neg {a b : Int} (h : -8000000 ≤ a ∧ a ≤ 8000000 ∧ -8000000 ≤ b ∧ b ≤ 8000000) : (Builtin.Range.rangeSize a b (-1)).toNat ≤ 16000001 ∧ 0 ≤ Builtin.Range.rangeSize a b (-1) := by
  unfold Builtin.Range.rangeSize
  rw [if_neg (by decide)]
  by_cases hl : a > b
  · rw [if_pos hl, show (-(-1) : Int) = 1 from rfl, Int.ediv_one]
    omega
  · rw [if_neg hl]
    omega
theorem small_neg {a b : Int} (h : -8000000 ≤ a ∧ a ≤ 8000000 ∧ -8000000 ≤ b ∧ b ≤ 8000000) : Builtin.Range.small a b (-1) = true := by
  have q := rsz_neg h
  unfold Builtin.Range.small
  simp only [Builtin.Range.rangeFitsLong, Bool.and_eq_true, Bool.or_eq_true, decide_eq_true_eq, beq_iff_eq, if_neg (show ¬ (0 : Int) < -1 by decide), gt_iff_lt]
  generalize Builtin.Range.rangeSize a b (-1) = n at q ⊢
  omega
theorem ei_r3n {tg : Expr} {lo hi : Int} (hg : Gl X "range") (hm : X.mg "range" = none) (ha : EvB X E own B H σ a rInt lo) (hb : EvB X E own B H σ b rInt hi) (hc : EvB X E own B H σ c rInt (-1)) (hz : -8000000 ≤ lo ∧ lo ≤ 8000000 ∧ -8000000 ≤ hi ∧ hi ≤ 8000000)
    (hs : starEach [a, b, c] X.env = (false, eval a X.env) :: starEach [b, c] X.env := by rfl) (hs1 : starEach (b :: [c]) X.env = (false, eval b X.env) :: starEach [c] X.env := by rfl) (hs2 : St1 X c := by rfl) (hpl : (backTo pos (starEach [b, c] X.env)).any (·.1) = false := by rfl) : EvI X E own B H σ tg (.Call (.Name "range" p) [a, b, c] [] pos) rInt KoT (rangeS lo hi (-1)) :=
  ⟨_, pi_range3 hg hm (pa_cons peW (pa_cons peW (pa1 hs2) hs1) hs) hs hpl, fun B1 H1 S e1 e2 Q k => ha B1 H1 S e1 e2 _ fun v B2 H2 S2 e3 e4 r => hb B2 H2 S2 (e1.trans e3) (e2.trans e4) _ fun w B3 H3 S3 e5 e6 r' => hc B3 H3 S3 ((e1.trans e3).trans e5) ((e2.trans e4).trans e6) _ fun u B4 H4 S4 e7 e8 r'' => by
    have q := rsz_neg hz
    refine ⟨lo, hi, -1, (Builtin.Range.rangeSize lo hi (-1)).toNat, by rw [show v = .int lo from r, show w = .int hi from r', show u = .int (-1) from r''], ⟨by omega, by omega, small_neg hz, by omega⟩, k _ B4 H4 S4 ((e3.trans e5).trans e7) ((e4.trans e6).trans e8) ?_ (by rw [rangeS_len, sizeLine_eq]; omega)⟩
    refine ⟨fun i own' B' H' S' e k h => by rw [rangeS_len] at h; exact h, fun i own' B' H' S' e k h => by rw [rangeS_len] at h; exact h, fun i own' B' H' v H'' x S' e k hx hy => ?_⟩
    obtain ⟨e1, h1⟩ := hy
    subst e1
    have hl : i < (Builtin.Range.rangeSize lo hi (-1)).toNat := by
      have := (List.getElem?_eq_some_iff.mp hx).1
      rwa [rangeS_len] at this
    rw [rangeS_at hl] at hx
    cases hx
    exact ⟨B', S', Ex.refl _, Ex.refl _, h1⟩⟩
end
end Sg

namespace Sg
open PySem PySem.Spec PyProof.Rows L2
section
variable {X Xb : Cx} {E : Ent} {own new own' : Own} {B H B' H' : Hp} {σ : L2.St} {α β γ δ τ ρ ρ' : Type} {R : Rel α} {S : Rel ρ} {e a b c d o it tg : Expr} {x : α} {y : β} {p pos pos' apos : Pos} {i j k k0 : Nat} {z w : Bool} {xs : List α}
variable {n m : Str} {rest body other : List Stmt} {D : Ends} {P : ρ → Prop} {Er : Err → Prop}
/-! for x in d, handed back within -/
theorem forR_one {PR : ρ' → Prop} {PN : τ → Prop} {step : τ → α → Res (ρ' ⊕ τ)} {r : List α} {acc : τ} (F : Fin (sel PR PN) Er (forR step (x :: r) acc)) : Fin (sel PR (fun a' => Fin (sel PR PN) Er (forR step r a'))) Er (step acc x) := by
  unfold forR at F
  cases hm : step acc x with
  | ok o =>
    rw [hm] at F
    cases o with
    | inl u => exact F
    | inr a' => exact F
  | err e => rw [hm] at F; exact F
  | stuck => rw [hm] at F; exact F
theorem forR_core {B2 H2 : Hp} {J : It} {g : TG} {Tg : α → Hp → L2.St → L2.St → Prop} {PR : ρ' → Prop} {PN : τ → Prop} {step : τ → α → Res (ρ' ⊕ τ)} {a0 : τ}
    (hg : ∀ own B H v x σ, Stt E own B H → R.r B v x → ∀ Q : L2.St → Hp → Prop, (∀ σ', Tg x B σ σ' → Q σ' H) → g v σ H Q) (S2 : Stt E own B2 H2) (W : Walk E KoT B2 J R xs)
    (F : Fin (sel PR PN) Er (forR step xs a0)) (Inv : τ → L2.St → Own → Hp → Prop) (h0 : Inv a0 σ own B2) (hup : ∀ a σ' own' B' B'', Inv a σ' own' B' → Ex B' B'' → Inv a σ' own' B'')
    (hs : ∀ a x σ' σ2 own' B' H' (Q : τ → Prop), Inv a σ' own' B' → Stt E own' B' H' → Ex B2 B' → Tg x B' σ' σ2 → Fin (sel PR Q) Er (step a x) →
      WSs X body { nx := TurnE E B' Q Inv, rt := D.rt, bk := fun _ _ => False, ct := TurnE E B' Q Inv } σ2 H')
    (hd : ∀ a σ' own' B' H', Inv a σ' own' B' → Stt E own' B' H' → Ex B2 B' → PN a → D.nx σ' H') :
    ∃ W : Nat → Nat → L2.St → Hp → Prop, (∃ m, W 0 m σ H2) ∧ ∀ i m σ H, W i m σ H →
      (J.stop i H ∧ D.nx σ H) ∨ (J.go i H ∧ ∃ N : L2.St → Hp → Prop, (∀ σ' H', N σ' H' → ∃ m', m' < m ∧ W (i + 1) m' σ' H') ∧ ∀ x H', J.yld i H x H' → g x σ H' fun σ2 H2 => WSs X body { D with nx := N, ct := N, bk := D.nx } σ2 H2) := by
  refine ⟨fun i' mm σ' H' => mm = xs.length - i' ∧ i' ≤ xs.length ∧ ∃ a own' B', Fin (sel PR PN) Er (forR step (xs.drop i') a) ∧ Stt E own' B' H' ∧ Ex B2 B' ∧ Inv a σ' own' B', ⟨xs.length, by simp, Nat.zero_le _, a0, own, B2, by rw [List.drop_zero]; exact F, S2, Ex.refl _, h0⟩, ?_⟩
  rintro i' mm σ' H' ⟨rfl, hi, a, own', B', F', S', e', iv⟩
  by_cases hlt : i' < xs.length
  · refine .inr ⟨W.go i' own' B' H' S' e' trivial hlt, fun σ2 H2 => ∃ a own' B', Fin (sel PR PN) Er (forR step (xs.drop (i' + 1)) a) ∧ Stt E own' B' H2 ∧ Ex B2 B' ∧ Inv a σ2 own' B', fun σ2 H2 q => ⟨xs.length - (i' + 1), by omega, rfl, hlt, q⟩, fun v H'' hy => ?_⟩
    have hx : xs[i']? = some xs[i'] := List.getElem?_eq_getElem hlt
    obtain ⟨B'', S'', e3, e4, rx⟩ := W.yld i' own' B' H' v H'' _ S' e' trivial hx hy
    refine hg own' B'' H'' v _ σ' S'' rx _ fun σ2 tgx => ?_
    have hdrop : xs.drop i' = xs[i'] :: xs.drop (i' + 1) := List.drop_eq_getElem_cons hlt
    rw [hdrop] at F'
    have F2 := forR_one F'
    have done := hs a _ σ' σ2 own' B'' H'' _ (hup _ _ _ _ _ iv e3) S'' (e'.trans e3) tgx F2
    intro pins s I
    refine wpAny_mono (done pins s I) (fun f s' q => ?_) fun _ _ q => q
    cases f with
    | next =>
      obtain ⟨σ2, H2', I2, a', own2, B3, q1, q2, q3, q4⟩ := q
      exact ⟨σ2, H2', I2, a', own2, B3, q1, q2, (e'.trans e3).trans q3, q4⟩
    | cont =>
      obtain ⟨σ2, H2', I2, a', own2, B3, q1, q2, q3, q4⟩ := q
      exact ⟨σ2, H2', I2, a', own2, B3, q1, q2, (e'.trans e3).trans q3, q4⟩
    | brk =>
      obtain ⟨_, _, _, h⟩ := q
      exact h.elim
    | ret u => exact q
  · have e : i' = xs.length := by omega
    subst e
    rw [List.drop_length] at F'
    exact .inl ⟨W.stop _ own' B' H' S' e' trivial (Nat.le_refl _), hd a σ' own' B' H' iv S' e' F'⟩
theorem s_forRD {tg : Expr} {Tg : Int → Hp → L2.St → L2.St → Prop} {step : τ → Int → Res (ρ' ⊕ τ)} {kr : ρ' → Res ρ} {kn : τ → Res ρ} {a0 : τ} {kvs : List (Int × α)} (C : Cok X k0) (ht : TgOkA X tg rInt Tg) (S0 : Stt E own B H) (hit : EvKB X E B H σ it R kvs)
    (F : Fin (kE S E D.rt) Er ((forR step (kvs.map (·.1)) a0).bind (sel kr kn)))
    (Inv : τ → L2.St → Own → Hp → Prop) (h0 : ∀ B1, Ex B B1 → Inv a0 σ own B1) (hup : ∀ a σ' own' B' B'', Inv a σ' own' B' → Ex B' B'' → Inv a σ' own' B'')
    (hs : ∀ E' rt', Ex E.H0 (Ent.H0 E') → ∀ a x σ' σ2 own' B' H' (Q : τ → Prop), Inv a σ' own' B' → Stt E' own' B' H' → Ex B B' → Tg x B' σ' σ2 → Fin (sel (fun u => Fin (kE S E' rt') Er (kr u)) Q) Er (step a x) →
      WSs X body { nx := TurnE E' B' Q Inv, rt := rt', bk := fun _ _ => False, ct := TurnE E' B' Q Inv } σ2 H')
    (hd : ∀ a σ' own' B' H', Inv a σ' own' B' → Stt E own' B' H' → Ex B B' → Fin (kE S E D.rt) Er (kn a) → WSs X rest D σ' H')
    (hf : ∀ x, foldedSetIterable it X.env x = pure x := by intro _; rfl) : WSs X (.For tg it body [] pos :: rest) D σ H := by
  obtain ⟨q, ws, hv, hqH, no, hp⟩ := hit
  have kr' := keys_rel hp
  obtain ⟨g, pg, hg⟩ := ht
  have F1 : Fin (sel (fun u => Fin (kE S E D.rt) Er (kr u)) (fun a => Fin (kE S E D.rt) Er (kn a))) Er (forR step (kvs.map (·.1)) a0) := Fin.mono (Fin.bind F) (fun o _ h => by cases o <;> exact h) fun _ h => h
  rcases hqH with hqH | ⟨ob, hqH⟩
  · refine WSs.cons (ps_lock (ps_for C.own C.calm (pi_keys peW) pg pssW hf)) ⟨q, .dK ws, hqH, trivial, fun ob => ?_⟩
    refine hv _ (fun a ys h => ?_) _ ⟨q, ob, rfl, .inl ⟨ws, upd_same, ?_⟩⟩
    · rw [upd_ne fun z => by rw [z, hqH] at h; cases h]
      exact h
    · have SE := up_enter (f := .frz ob (.dK ws)) S0 hqH no (fun ys z => by cases z)
      have ex := up_exB (f := .frz ob (.dK ws)) S0 hqH rfl
      have exE : Ex E.H0 (upE E B q (.frz ob (.dK ws))).H0 := up_exE S0 hqH rfl
      have F2 : Fin (sel (fun u => Fin (kE S (upE E B q (.frz ob (.dK ws))) fun v H' => H' q = some (.frz ob (.dK ws)) ∧ D.rt v (upd H' q (.dK ws))) Er (kr u)) (fun a => Fin (kE S E D.rt) Er (kn a))) Er (forR step (kvs.map (·.1)) a0) := Fin.mono F1 (fun o _ h => by
        cases o with
        | inr a => exact h
        | inl u =>
          refine Fin.mono (show Fin (kE S E D.rt) Er (kr u) from h) (fun y _ hy v B' H' S' r => ?_) fun _ h => h
          exact ⟨up_at S', hy v _ _ (up_back S0 hqH (fun ys z => by cases z) S') (S.mono (up_exBack (f := .frz ob (.dK ws)) S0 hqH rfl S') r)⟩) fun _ h => h
      exact forR_core (hg (upE E B q (.frz ob (.dK ws)))) SE (walk_keysE upd_same kr') F2 Inv (h0 _ ex) hup (fun a x σ' σ2 own' B' H' Q iv S' e' t F' => hs _ _ exE a x σ' σ2 own' B' H' Q iv S' (ex.trans e') t F')
        fun a σ' own' B' H' iv S' e' F' => by
          have T := up_back S0 hqH (fun ys z => by cases z) S'
          have exb := up_exBack (f := .frz ob (.dK ws)) S0 hqH rfl S'
          exact ⟨up_at S', hd a σ' own' _ _ (hup _ _ _ _ _ iv exb) T ((ex.trans e').trans exb) F'⟩
  · refine WSs.cons (ps_for C.own C.calm (pi_keys peW) pg pssW hf) (hv _ (fun _ _ h => h) _ ⟨q, ob, rfl, .inl ⟨ws, hqH, ?_⟩⟩)
    have SE := up_enter (f := .frz ob (.dK ws)) S0 hqH no (fun ys z => by cases z)
    rw [upd_id hqH] at SE
    have ex := up_exB (f := .frz ob (.dK ws)) S0 hqH rfl
    have exE : Ex E.H0 (upE E B q (.frz ob (.dK ws))).H0 := up_exE S0 hqH rfl
    have F2 : Fin (sel (fun u => Fin (kE S (upE E B q (.frz ob (.dK ws))) D.rt) Er (kr u)) (fun a => Fin (kE S E D.rt) Er (kn a))) Er (forR step (kvs.map (·.1)) a0) := Fin.mono F1 (fun o _ h => by
      cases o with
      | inr a => exact h
      | inl u =>
        refine Fin.mono (show Fin (kE S E D.rt) Er (kr u) from h) (fun y _ hy v B' H' S' r => ?_) fun _ h => h
        have T := up_back S0 hqH (fun ys z => by cases z) S'
        rw [upd_id (up_at S')] at T
        exact hy v _ _ T (S.mono (up_exBack (f := .frz ob (.dK ws)) S0 hqH rfl S') r)) fun _ h => h
    exact forR_core (hg (upE E B q (.frz ob (.dK ws)))) SE (walk_keysE upd_same kr') F2 Inv (h0 _ ex) hup (fun a x σ' σ2 own' B' H' Q iv S' e' t F' => hs _ _ exE a x σ' σ2 own' B' H' Q iv S' (ex.trans e') t F')
      fun a σ' own' B' H' iv S' e' F' => by
        have T := up_back S0 hqH (fun ys z => by cases z) S'
        have exb := up_exBack (f := .frz ob (.dK ws)) S0 hqH rfl S'
        rw [upd_id (up_at S')] at T
        exact hd a σ' own' _ _ (hup _ _ _ _ _ iv exb) T ((ex.trans e').trans exb) F'
end
end Sg

namespace Sg
open PySem PySem.Spec PyProof.Rows L2
section
variable {X : Cx} {E : Ent} {own : Own} {B H : Hp} {σ : L2.St} {α : Type} {R : Rel α} {a b : Expr} {pos : Pos} {xs ys : List α}
/-! x or y, lists -/
theorem ee_orL [DecidableEq α] (ha : EvE X E own B H σ a (rLst R) xs) (hb : EvE X E own B H σ b (rLst R) ys) : EvE X E own B H σ (.BoolOp .Or [a, b] pos) (rLst R) (if xs = [] then ys else xs) := fun B1 H1 S1 e1 e2 Q k =>
  WE.of (pe_orT peW (pe_one peW)) (ha B1 H1 S1 e1 e2 _ fun v B2 H2 S2 e3 e4 r => by
    obtain ⟨p, vs, rfl, h2, h3⟩ := r
    have h2' := S2.bh.ex.rdL h2
    refine ⟨!vs.isEmpty, ?_, ?_⟩
    · exact .inl ⟨vs, .inl h2', rfl⟩
    · cases h3 with
      | nil =>
        refine hb B2 H2 S2 (e1.trans e3) (e2.trans e4) _ fun w B3 H3 S3 e5 e6 r' => ?_
        exact k w B3 H3 S3 (e3.trans e5) (e4.trans e6) (by rw [if_pos rfl]; exact r')
      | cons c d =>
        exact k _ B2 H2 S2 e3 e4 (by rw [if_neg (List.cons_ne_nil _ _)]; exact ⟨p, _, rfl, h2, .cons c d⟩))
end
end Sg

namespace Sg
open PySem PySem.Spec PyProof.Rows L2
section
variable {X Xb : Cx} {E : Ent} {own new own' : Own} {B H B' H' : Hp} {σ : L2.St} {α β γ δ τ ρ ρ' : Type} {R : Rel α} {S : Rel β} {T : Rel γ} {U : Rel δ} {e a b c d o it tg : Expr} {x : α} {y : β} {p pos pos' apos : Pos} {i j k k0 : Nat} {z w : Bool} {xs : List α} {ys : List β} {zs : List γ} {es : List Expr}
variable {n m f : Str} {rest body other : List Stmt} {D : Ends}
/-- x = [a, b, c], new lists all -/
theorem s_asgOL3 (C : Cok X k) (L : Slot X i n) (S0 : Stt E own B H) (ha : EvL X E own B H σ a R xs) (hb : ∀ own' B' H', Stt E own' B' H' → Ex B B' → Ex H H' → EvL X E own' B' H' σ b S ys) (hc : ∀ own' B' H', Stt E own' B' H' → Ex B B' → Ex H H' → EvL X E own' B' H' σ c T zs)
    (q : ∀ p q0 q1 q2 us vs ws B' H', Stt E ((p, .lst [.ref q0, .ref q1, .ref q2]) :: (q2, .lst ws) :: (q1, .lst vs) :: (q0, .lst us) :: own) B' H' → Ex B B' → Paired (R.r B') us xs → Paired (S.r B') vs ys → Paired (T.r B') ws zs → WSs X rest D (σ.set i (some (.ref p))) H')
    (hst : starEach (a :: [b, c]) X.env = (false, eval a X.env) :: starEach [b, c] X.env := by rfl) (hst1 : starEach (b :: [c]) X.env = (false, eval b X.env) :: starEach [c] X.env := by rfl) (hst2 : St1 X c := by rfl)
    (hs : swapsWith (.List [a, b, c] pos') (some (.Name n p)) pos.line X.env = pure false := by rfl) : WSs X (.Assign [.Name n p] (.List [a, b, c] pos') pos :: rest) D σ H :=
  WSs.cons (ps_set C.nd L.ix L.loc (pe_lst (pa_cons peW (pa_cons peW (pa1 hst2) hst1) hst)) hs L.hf) (ha B H S0 (Ex.refl _) (Ex.refl _) _ fun q0 us B2 H2 S2 e1 e2 r1 => hb _ B2 H2 S2 e1 e2 B2 H2 S2 (Ex.refl _) (Ex.refl _) _ fun q1 vs B3 H3 S3 e3 e4 r2 =>
    hc _ B3 H3 S3 (e1.trans e3) (e2.trans e4) B3 H3 S3 (Ex.refl _) (Ex.refl _) _ fun q2 ws B4 H4 S4 e5 e6 r3 =>
    ⟨by show 3 ≤ sizeLine; decide, fun pp hp => q pp q0 q1 q2 us vs ws B4 _ (S4.alloc hp fun ys z => by cases z) ((e1.trans e3).trans e5) (pimp r1 fun _ _ z => R.mono (e3.trans e5) z) (pimp r2 fun _ _ z => S.mono e5 z) r3⟩)
/-- a list of one's own lists, looked at -/
theorem ev_olv {q : Addr} {vs : List V} {xss : List (List α)} (hp : PE X o (tVar i)) (h : σ[i]? = some (some (.ref q))) (hk : (q, HO.lst vs) ∈ own) (hr : Paired (fun v xs => ∃ qj us, v = V.ref qj ∧ (qj, HO.lst us) ∈ own ∧ Paired (R.r B) us xs) vs xss) : EvB X E own B H σ o (rLst (rLst R)) xss := fun B1 H1 S1 e1 e2 Q kq =>
  WE.of hp ⟨.ref q, h, kq _ B1 H1 S1 (Ex.refl _) (Ex.refl _) ⟨q, vs, rfl, Rd.of (S1.ow _ hk).2.2, pimp hr fun v xs ⟨qj, us, h1, h2, h3⟩ => ⟨qj, us, h1, Rd.of (S1.ow _ h2).2.2, pimp h3 fun _ _ z => R.mono (e1.trans S1.bh.ex) z⟩⟩⟩
/-- xs * n, n of any kind -/
theorem el_repK {q : Int} (ha : EvL X E own B H σ a R xs) (hb : EvB X E own B H σ b rInt q) (hz : -(2 ^ 63) ≤ q ∧ q < 2 ^ 63 ∧ xs.length * q.toNat ≤ sizeLine) : EvL X E own B H σ (.BinOp a .Mult b pos) R (List.replicate q.toNat xs).flatten := fun B1 H1 S1 e1 e2 Q k =>
  WE.of (pe_op (show OpR X (binaryOp .Mult) rRepR from op_rep) peW peW) (ha B1 H1 S1 e1 e2 _ fun l vs B2 H2 S2 e3 e4 r => by
    have n := (S2.ow _ (List.mem_cons_self ..)).2.1
    refine hb (upd B2 l (.lst vs)) H2 S2.keep (e1.trans (e3.trans (Sx.new n).ex)) (e2.trans e4) _ fun w B3 H3 S3 e5 e6 r' => ?_
    have hB : B3 l = some (.lst vs) := e5.lst upd_same
    refine ⟨l, q, vs, rfl, r', S3.bh _ _ hB, hz.1, hz.2.1, by rw [plen r]; exact hz.2.2, fun p np => ?_⟩
    exact k p _ B3 _ (S3.alloc np (o := .lst (List.replicate q.toNat vs).flatten) fun ys z => by cases z) (e3.trans ((Sx.new n).ex.trans e5)) ((e4.trans e6).trans (Sx.new np).ex) (prep (pimp r fun _ _ z => R.mono ((Sx.new n).ex.trans e5) z) _))
end
end Sg

namespace Sg
open PySem PySem.Spec PyProof.Rows L2
/-! ### lists that are new since a mark -/
section
variable {α β γ δ : Type}
def rLstN (Bo : Hp) (R : Rel α) : Rel (List α) := ⟨fun H v xs => ∃ p vs, v = .ref p ∧ H p = some (.lst vs) ∧ Bo p = none ∧ Paired (R.r H) vs xs, fun e h => by
  obtain ⟨p, vs, h1, h2, h3, h4⟩ := h
  exact ⟨p, vs, h1, e.lst h2, h3, pimp h4 fun _ _ q => R.mono e q⟩⟩
theorem rLstN.forget {Bo : Hp} {R : Rel α} {H : Hp} {v : V} {xs : List α} (h : (rLstN Bo R).r H v xs) : (rLst R).r H v xs := by
  obtain ⟨p, vs, h1, h2, h3, h4⟩ := h
  exact ⟨p, vs, h1, Rd.of h2, h4⟩
instance {Bo : Hp} {R : Rel α} : NN (rLstN Bo R) := ⟨fun h => by obtain ⟨p, vs, h1, _⟩ := h; rw [h1]; exact fun q => by cases q⟩
theorem Ex.back {Bo B : Hp} (e : Ex Bo B) {p : Addr} (h : B p = none) : Bo p = none := by
  cases q : Bo p with
  | none => rfl
  | some o =>
    obtain ⟨o', h1, _⟩ := e _ _ q
    rw [h] at h1
    cases h1
/-- what is new since a later mark is new since an earlier one -/
class AntiN (RR : Hp → Rel α) : Prop where
  an : ∀ {Bo B H : Hp} {v : V} {x : α}, Ex Bo B → (RR B).r H v x → (RR Bo).r H v x
instance {R : Rel α} : AntiN (fun _ => R) := ⟨fun _ h => h⟩
instance {R : Rel α} : AntiN (fun B => rLstN B R) := ⟨fun e h => by
  obtain ⟨p, vs, h1, h2, h3, h4⟩ := h
  exact ⟨p, vs, h1, h2, e.back h3, h4⟩⟩
instance {R : Hp → Rel α} {S : Hp → Rel β} [AntiN R] [AntiN S] : AntiN (fun B => rPr (R B) (S B)) := ⟨fun e h => by
  obtain ⟨p, a, b, h1, h2, h3, h4⟩ := h
  exact ⟨p, a, b, h1, h2, AntiN.an (RR := R) e h3, AntiN.an (RR := S) e h4⟩⟩
instance {R : Hp → Rel α} {S : Hp → Rel β} {T : Hp → Rel γ} [AntiN R] [AntiN S] [AntiN T] : AntiN (fun B => rT3 (R B) (S B) (T B)) := ⟨fun e h => by
  obtain ⟨p, a, b, c, h1, h2, h3, h4, h5⟩ := h
  exact ⟨p, a, b, c, h1, h2, AntiN.an (RR := R) e h3, AntiN.an (RR := S) e h4, AntiN.an (RR := T) e h5⟩⟩
def kEN {ρ : Type} (RR : Hp → Rel ρ) : Kind ρ := fun E Q x => kE (RR E.B0) E Q x
def kLN {ρ : Type} (RR : Hp → Rel ρ) : Kind (List ρ) := fun E Q x => kL (RR E.B0) E Q x
end
/-- all newer things but tuples are let go of; one of them is written -/
theorem stt_reset {E : Ent} {own own' : Own} {Bo Ho B H : Hp} {q : Addr} {vs us : List V} (So : Stt E own' Bo Ho) (hx : Ex Bo B) (S : Stt E own B H) (hq : B q = some (.lst vs)) (hn : Bo q = none) : ∃ B', Stt E own B' (upd H q (.lst us)) ∧ Ex Bo B' ∧ Tx B B' ∧ ∀ p ws, Bo p = none → B' p ≠ some (.lst ws) := by
  have hH0 : E.H0 q = none := by
    rcases S.fr q _ hq with h | h
    · rw [So.b0 _ _ h] at hn
      cases hn
    · exact h
  refine ⟨fun x => match Bo x with
    | some _ => B x
    | none => match B x with
      | some (.tup ys) => some (.tup ys)
      | _ => none, ⟨fun a o e => ?_, fun a o e => ?_, fun a o e => ?_, fun a ys e => ?_, fun a o e => ?_, fun z hz => ?_, S.nd⟩, fun a o e => ?_, fun a ys e => ?_, fun p ws hp e => ?_⟩
  · show (match Bo a with | some _ => B a | none => _) = _
    rw [So.b0 a o e]
    exact S.b0 a o e
  · rw [upd_ne fun z => by
      subst z
      rw [hH0] at e
      cases e]
    exact S.h0 a o e
  · have e' : (match Bo a with
      | some _ => B a
      | none => match B a with
        | some (.tup ys) => some (.tup ys)
        | _ => none) = some o := e
    have hB : B a = some o ∧ a ≠ q := by
      cases hb : Bo a with
      | some u =>
        rw [hb] at e'
        exact ⟨e', fun z => by rw [z, hn] at hb; cases hb⟩
      | none =>
        rw [hb] at e'
        cases hv : B a with
        | none => rw [hv] at e'; cases e'
        | some u =>
          rw [hv] at e'
          cases u with
          | tup ys =>
            refine ⟨e', fun z => ?_⟩
            rw [z, hq] at hv
            cases hv
          | _ => cases e'
    rw [upd_ne hB.2]
    exact S.bh a o hB.1
  · have hne : a ≠ q := fun z => by
      subst z
      rw [upd_same] at e
      cases e
    rw [upd_ne hne] at e
    have hB := S.tu a ys e
    show (match Bo a with | some _ => B a | none => _) = _
    cases hb : Bo a with
    | some u => exact hB
    | none =>
      show (match B a with | some (.tup ys) => some (HO.tup ys) | _ => none) = _
      rw [hB]
  · have e' : (match Bo a with
      | some _ => B a
      | none => match B a with
        | some (.tup ys) => some (.tup ys)
        | _ => none) = some o := e
    cases hb : Bo a with
    | some u =>
      rw [hb] at e'
      exact S.fr a o e'
    | none =>
      rw [hb] at e'
      cases hv : B a with
      | none => rw [hv] at e'; cases e'
      | some u =>
        rw [hv] at e'
        cases u with
        | tup ys => cases e'; exact S.fr a _ hv
        | _ => cases e'
  · obtain ⟨h1, h2, h3⟩ := S.ow z hz
    refine ⟨h1, ?_, ?_⟩
    · show (match Bo z.1 with | some _ => B z.1 | none => _) = _
      cases hb : Bo z.1 with
      | some u => exact h2
      | none =>
        show (match B z.1 with | some (.tup ys) => some (HO.tup ys) | _ => none) = _
        rw [h2]
    · rw [upd_ne fun w => by
        rw [w, hq] at h2
        cases h2]
      exact h3
  · obtain ⟨o', h1, h2⟩ := hx a o e
    refine ⟨o', ?_, h2⟩
    show (match Bo a with | some _ => B a | none => _) = _
    rw [e]
    exact h1
  · show (match Bo a with | some _ => B a | none => _) = _
    cases hb : Bo a with
    | some u => exact e
    | none =>
      show (match B a with | some (.tup ys) => some (HO.tup ys) | _ => none) = _
      rw [e]
  · have e' : (match Bo p with
      | some _ => B p
      | none => match B p with
        | some (.tup ys) => some (.tup ys)
        | _ => none) = some (HO.lst ws) := e
    rw [hp] at e'
    cases hv : B p with
    | none => rw [hv] at e'; cases e'
    | some u =>
      rw [hv] at e'
      cases u with
      | tup ys => cases e'
      | _ => cases e'
theorem Ex.tx {B B' : Hp} (e : Ex B B') : Tx B B' := fun _ _ h => e.tup h
theorem Tx.trans {B B' B'' : Hp} (a : Tx B B') (b : Tx B' B'') : Tx B B'' := fun x ys h => b x ys (a x ys h)
section
variable {X Xb : Cx} {E : Ent} {own new own' : Own} {B H B' H' Bo Ho : Hp} {σ : L2.St} {α β γ δ τ ρ ρ' : Type} {R : Rel α} {S : Rel β} {T : Rel γ} {U : Rel δ} {e a b c d o it tg : Expr} {x : α} {y : β} {p pos pos' apos : Pos} {i j k k0 : Nat} {z w : Bool} {xs : List α} {ys : List β} {es : List Expr}
variable {n m f : Str} {rest body other : List Stmt} {D : Ends} {ps : List Str}
theorem ev_nl (h : EvB X E own B H σ e (rLstN Bo R) xs) : EvB X E own B H σ e (rLst R) xs := fun B1 H1 S1 e1 e2 Q k => h B1 H1 S1 e1 e2 Q fun v B2 H2 S2 e3 e4 r => k v B2 H2 S2 e3 e4 (rLstN.forget r)
theorem ee_nl (h : EvE X E own B H σ e (rLstN Bo R) xs) : EvE X E own B H σ e (rLst R) xs := fun B1 H1 S1 e1 e2 Q k => h B1 H1 S1 e1 e2 Q fun v B2 H2 S2 e3 e4 r => k v B2 H2 S2 e3 e4 (rLstN.forget r)
/-- a new list, kept, new since the mark -/
theorem el_toN (hx : Ex Bo B) (h : EvL X E own B H σ e R xs) : EvE X E own B H σ e (rLstN Bo R) xs := fun B1 H1 S e1 e2 Q k => h B1 H1 S e1 e2 Q fun p vs B2 H2 S2 e3 e4 r => by
  have n := (S2.ow _ (List.mem_cons_self ..)).2.1
  exact k (.ref p) _ H2 S2.keep (e3.trans (Sx.new n).ex) e4 ⟨p, vs, rfl, upd_same, (hx.trans (e1.trans e3)).back n, pimp r fun _ _ q => R.mono (Sx.new n).ex q⟩
theorem ee_callN {args : δ → AR} {f : δ → Res ρ} {RR : Hp → Rel ρ} {d : δ} {r : ρ} [A : AntiN RR] (hx : Ex Bo B) (C : Cok X k0) (G : Cal X k n ps (SpA args (kEN RR) f)) (hk : k ≤ k0) (hg : Gl X n) (ha : EvAs X E own B H σ (e :: es) (args d)) (hm : f d = .ok r)
    (hdb : (n == ("__debug__" : Str)) = false := by rfl) (he : starEach (e :: es) X.env = (false, eval e X.env) :: starEach es X.env := by rfl) (hpl : (backTo pos (starEach es X.env)).any (·.1) = false := by rfl) : EvE X E own B H σ (.Call (.Name n p) (e :: es) [] pos) (RR Bo) r := fun B1 H1 S1 e1 e2 Q q =>
  WE.of (pe_cal C G hk hg hdb he hpl) (ha B1 H1 S1 e1 e2 _ fun vs B2 H2 S2 e3 e4 ra => by
    rw [List.append_nil]
    exact ⟨B2, d, S2.bh, S2.tu, ra, kE_call (RR := RR B2) S2 hm fun v B3 H3 S3 e5 e6 r => q v B3 H3 S3 (e3.trans e5) (e4.trans e6) (A.an (hx.trans (e1.trans e3)) r)⟩)
theorem el_callN {args : δ → AR} {f : δ → Res (List ρ)} {RR : Hp → Rel ρ} {d : δ} {r : List ρ} [A : AntiN RR] (hx : Ex Bo B) (C : Cok X k0) (G : Cal X k n ps (SpA args (kLN RR) f)) (hk : k ≤ k0) (hg : Gl X n) (ha : EvAs X E own B H σ (e :: es) (args d)) (hm : f d = .ok r)
    (hdb : (n == ("__debug__" : Str)) = false := by rfl) (he : starEach (e :: es) X.env = (false, eval e X.env) :: starEach es X.env := by rfl) (hpl : (backTo pos (starEach es X.env)).any (·.1) = false := by rfl) : EvL X E own B H σ (.Call (.Name n p) (e :: es) [] pos) (RR Bo) r := fun B1 H1 S1 e1 e2 Q q =>
  WE.of (pe_cal C G hk hg hdb he hpl) (ha B1 H1 S1 e1 e2 _ fun vs B2 H2 S2 e3 e4 ra => by
    rw [List.append_nil]
    exact ⟨B2, d, S2.bh, S2.tu, ra, kL_call (RR := RR B2) S2 hm fun p vs B3 H3 S3 e5 e6 r => q p vs B3 H3 S3 (e3.trans e5) (e4.trans e6) (pimp r fun _ _ z => A.an (hx.trans (e1.trans e3)) z)⟩)
/-- x.clear(), x new since the mark: all that is newer is let go of -/
theorem s_clearN {apos : Pos} (So : Stt E own' Bo Ho) (hx : Ex Bo B) (S0 : Stt E own B H) (ha : EvE X E own B H σ a (rLstN Bo R) xs)
    (kt : ∀ B' H', Stt E own B' H' → Ex Bo B' → Tx B B' → WSs X rest D σ H')
    (t : BmT0 X a "clear" apos p := by exact ⟨rfl, rfl⟩) (hw : swapsWith (.Call (.Attribute a "clear" apos) [] [] p) none pos.line X.env = pure false := by rfl) :
    WSs X (.Expr (.Call (.Attribute a "clear" apos) [] [] p) pos :: rest) D σ H :=
  WSs.cons (ps_expr (pe_bm0 PySem.F.plainAttrs_list PySem.F.slot_list_clear PySem.F.type_list_clear mt_clear peW t.1 t.2) hw) (ha B H S0 (Ex.refl _) (Ex.refl _) _ fun v B2 H2 S2 e3 e4 r => by
    obtain ⟨q, vs, rfl, h2, h3, h4⟩ := r
    have hq := S2.bh _ _ h2
    obtain ⟨B', S', x1, x2, _⟩ := stt_reset (us := []) So (hx.trans e3) S2 h2 h3
    exact ⟨.inl ⟨rfl, _, SqL.of hq⟩, q, vs, rfl, rfl, hq, kt B' _ S' x1 (Tx.trans (e3.tx) x2)⟩)
end
/-! ### xs[a:b:c] -/
def cutC {α : Type} (xs : List α) (l u : Option Int) (c : Int) : List α := (sliceRange (sliceBounds l u (some c) xs.length).1 (sliceBounds l u (some c) xs.length).2.1 (sliceBounds l u (some c) xs.length).2.2).filterMap (xs[·]?)
theorem pfilt {α β : Type} {F : α → β → Prop} {vs : List α} {xs : List β} (h : Paired F vs xs) : ∀ r : List Nat, Paired F (r.filterMap (vs[·]?)) (r.filterMap (xs[·]?))
  | [] => .nil
  | i :: r => by
    rw [List.filterMap_cons, List.filterMap_cons]
    cases e : vs[i]? with
    | none =>
      have hl := plen h
      have e2 : xs[i]? = none := by
        rw [List.getElem?_eq_none_iff] at e ⊢
        omega
      rw [e2]
      exact pfilt h r
    | some v =>
      obtain ⟨x, hx, hF⟩ := L2.paired_get h e
      rw [hx]
      exact .cons hF (pfilt h r)
theorem pcutC {α β : Type} {F : α → β → Prop} {vs : List α} {xs : List β} (h : Paired F vs xs) (l u : Option Int) (c : Int) : Paired F (cutC vs l u c) (cutC xs l u c) := by
  unfold cutC
  rw [plen h]
  exact pfilt h _
section
variable {X : Cx} {e : Expr} {te : TE} {lo hi : Option Expr} {tl th : TO} {pos p1 p2 : Pos}
theorem pe_sliceC {c : Int} {k : Nat} (hc : c ≠ 0) (he : PE X e te) (hl : PO X lo tl) (hu : PO X hi th) : PE X (.Subscript e (.Slice lo hi (some (.Constant (.int c) k p1)) p2) pos) (fun σ H Q => te σ H fun x H1 => tl σ H1 fun l H2 => th σ H2 fun u H3 => ∃ a xs, x = .ref a ∧ SqL X.K H3 a xs ∧ ∀ p, H3 p = none → Q (.ref p) (upd H3 p (.lst (cutC xs l u c)))) := by
  refine ⟨fun pins s σ H Q I h => ?_⟩
  refine Subscript_ (thn (he.run pins s σ H _ I h) fun v s1 ⟨x, H1, I1, r1, q1⟩ => ?_)
  refine wpAny_Slice (thn (hl.run pins s1 σ H1 _ I1 q1) fun vl s2 ⟨l, H2, I2, pl, q2⟩ => thn (hu.run pins s2 σ H2 _ I2 q2) fun vu s3 ⟨u, H3, I3, pu, q3⟩ => ?_)
  obtain ⟨a, xs, ex, hx, q⟩ := q3
  subst ex
  cases r1
  have hst : PO X (some (.Constant (.int c) k p1)) (tPart (tC (.int c))) := po_some pe_int
  refine thn (hst.run pins s3 σ H3 (fun o H4 => o = some c ∧ H4 = H3) I3 ⟨c, rfl, rfl, rfl⟩) fun vs s4 ⟨o, H4, I4, ps, eo, e4⟩ => ?_
  subst eo e4
  have I5 : Inv X pins σ H4 { s4 with heap := s4.heap.push { cls := .type "slice", data := .fields #[vl, vu, vs] } } := I4.kept (t' := s4.toks) fun b ob q => Heap.get?_push_of_some _ q
  obtain ⟨its, r, ht, hz⟩ := I5.list hx
  have hlen := r.length
  show wpAny (model X.prog X.w) X.A (subscriptTail e (.Slice lo hi (some (.Constant (.int c) k p1)) p2) (.ref a) (.ref s4.heap.objs.size)) (EP X pins σ Q) X.xe { s4 with heap := s4.heap.push { cls := .type "slice", data := .fields #[vl, vu, vs] } }
  refine tail_any (ops := [.ref a, .ref s4.heap.objs.size]) ht.isList.typeIs (PySem.slot_list_getitem.lookup) ?_ (by with_unfolding_all rfl)
  refine wpAny_getItem_list_slice ht.isList (Heap.IsSliceOf.new _ vl vu vs) pl pu ps (fun z => hc (Option.some.inj z)) ?_ (by rw [List.size_toArray]; omega)
  have ep : slicePick its.toArray l u (some c) = (cutC its l u c).toArray := by
    unfold slicePick cutC
    simp only [List.size_toArray, List.getElem?_toArray]
  have hle : (cutC xs l u c).length ≤ xs.length := by
    have h1 := slicePick_size_le its.toArray l u (some c)
    rw [ep, List.size_toArray, List.size_toArray] at h1
    rw [plen (pcutC r l u c), hlen]
    exact h1
  rw [ep]
  refine ⟨.ref _, _, I5.laid (t' := s4.toks) (o := .lst (cutC xs l u c)) (fun b ob q => Heap.get?_push_of_some _ q) (Nat.le_refl _) ?_, rfl, q _ (I5.hok.fresh (Nat.le_refl _))⟩
  exact ⟨Nat.le_trans hle hz, _, 0, pcutC r l u c, Heap.get?_push_size _ rfl⟩
end
section
variable {X : Cx} {E : Ent} {own : Own} {B H : Hp} {σ : L2.St} {α : Type} {R : Rel α} {o : Expr} {p p1 pos : Pos} {k : Nat} {xs : List α}
theorem el_cutC [Imm R] {c : Int} {lo hi : Option Expr} {l u : Option Int} (hc : c ≠ 0) (ho : EvB X E own B H σ o (rLst R) xs) (hl : EvP X E own B H σ lo l) (hu : EvP X E own B H σ hi u) : EvL X E own B H σ (.Subscript o (.Slice lo hi (some (.Constant (.int c) k p1)) p) pos) R (cutC xs l u c) := fun B1 H1 S1 e1 e2 Q kk => by
  obtain ⟨tl, pl, hl⟩ := hl
  obtain ⟨tu, pu, hu⟩ := hu
  exact WE.of (pe_sliceC hc peW pl pu) (ho B1 H1 S1 e1 e2 _ fun v B2 H2 S2 e3 e4 r => hl B2 H2 S2 (e1.trans e3) (e2.trans e4) _ fun B3 H3 S3 e5 e6 => hu B3 H3 S3 ((e1.trans e3).trans e5) ((e2.trans e4).trans e6) _ fun B4 H4 S4 e7 e8 => by
    obtain ⟨q, vs, h1, h2, h3⟩ := Rel.mono _ (e6.trans e8) r
    exact ⟨q, vs, h1, .inl h2, fun p np => kk p _ B4 _ (S4.alloc np fun ys z => by cases z) ((e3.trans e5).trans e7) (((e4.trans e6).trans e8).trans (Sx.new np).ex) (pcutC (pimp h3 fun _ _ z => Imm.imm S4.tu z) l u c)⟩)
end
section
variable {X Xb : Cx} {E : Ent} {own new own' : Own} {B H B' H' Bo Ho : Hp} {σ : L2.St} {α β γ δ τ ρ ρ' : Type} {R : Rel α} {S : Rel β} {T : Rel γ} {U : Rel δ} {e a b c d o it tg : Expr} {x : α} {y : β} {p pos pos' apos : Pos} {i j k k0 : Nat} {z w : Bool} {xs : List α} {ys : List β} {zs : List γ} {es : List Expr}
variable {n m f : Str} {rest body other : List Stmt} {D : Ends}
/-! x = [a, b], x = [a, b, c], new lists all; what is owned may be read -/
theorem s_asgOW2 (C : Cok X k) (L : Slot X i n) (S0 : Stt E own B H) (ha : EvL X E own B H σ a R xs) (hb : ∀ q0 us B' H', Stt E ((q0, .lst us) :: own) B' H' → Ex B B' → Ex H H' → EvL X E ((q0, .lst us) :: own) B' H' σ b S ys)
    (q : ∀ p q0 q1 us vs B' H', Stt E ((p, .lst [.ref q0, .ref q1]) :: (q0, .lst us) :: (q1, .lst vs) :: own) B' H' → Ex B B' → Paired (R.r B') us xs → Paired (S.r B') vs ys → WSs X rest D (σ.set i (some (.ref p))) H')
    (hst : starEach (a :: [b]) X.env = (false, eval a X.env) :: starEach [b] X.env := by rfl) (hst2 : St1 X b := by rfl)
    (hs : swapsWith (.List [a, b] pos') (some (.Name n p)) pos.line X.env = pure false := by rfl) : WSs X (.Assign [.Name n p] (.List [a, b] pos') pos :: rest) D σ H :=
  WSs.cons (ps_set C.nd L.ix L.loc (pe_lst (pa_cons peW (pa1 hst2) hst)) hs L.hf) (ha B H S0 (Ex.refl _) (Ex.refl _) _ fun q0 us B2 H2 S2 e1 e2 r1 => hb q0 us B2 H2 S2 e1 e2 B2 H2 S2 (Ex.refl _) (Ex.refl _) _ fun q1 vs B3 H3 S3 e3 e4 r2 =>
    ⟨by show 2 ≤ sizeLine; decide, fun pp hp => q pp q0 q1 us vs B3 _ ((S3.swap.alloc hp fun ys z => by cases z)) (e1.trans e3) (pimp r1 fun _ _ z => R.mono e3 z) r2⟩)
theorem s_asgOW3 (C : Cok X k) (L : Slot X i n) (S0 : Stt E own B H) (ha : EvL X E own B H σ a R xs) (hb : ∀ q0 us B' H', Stt E ((q0, .lst us) :: own) B' H' → Ex B B' → Ex H H' → EvL X E ((q0, .lst us) :: own) B' H' σ b S ys) (hc : ∀ q1 vs q0 us B' H', Stt E ((q1, .lst vs) :: (q0, .lst us) :: own) B' H' → Ex B B' → Ex H H' → EvL X E ((q1, .lst vs) :: (q0, .lst us) :: own) B' H' σ c T zs)
    (q : ∀ p q0 q1 q2 us vs ws B' H', Stt E ((p, .lst [.ref q0, .ref q1, .ref q2]) :: (q2, .lst ws) :: (q1, .lst vs) :: (q0, .lst us) :: own) B' H' → Ex B B' → Paired (R.r B') us xs → Paired (S.r B') vs ys → Paired (T.r B') ws zs → WSs X rest D (σ.set i (some (.ref p))) H')
    (hst : starEach (a :: [b, c]) X.env = (false, eval a X.env) :: starEach [b, c] X.env := by rfl) (hst1 : starEach (b :: [c]) X.env = (false, eval b X.env) :: starEach [c] X.env := by rfl) (hst2 : St1 X c := by rfl)
    (hs : swapsWith (.List [a, b, c] pos') (some (.Name n p)) pos.line X.env = pure false := by rfl) : WSs X (.Assign [.Name n p] (.List [a, b, c] pos') pos :: rest) D σ H :=
  WSs.cons (ps_set C.nd L.ix L.loc (pe_lst (pa_cons peW (pa_cons peW (pa1 hst2) hst1) hst)) hs L.hf) (ha B H S0 (Ex.refl _) (Ex.refl _) _ fun q0 us B2 H2 S2 e1 e2 r1 => hb q0 us B2 H2 S2 e1 e2 B2 H2 S2 (Ex.refl _) (Ex.refl _) _ fun q1 vs B3 H3 S3 e3 e4 r2 =>
    hc q1 vs q0 us B3 H3 S3 (e1.trans e3) (e2.trans e4) B3 H3 S3 (Ex.refl _) (Ex.refl _) _ fun q2 ws B4 H4 S4 e5 e6 r3 =>
    ⟨by show 3 ≤ sizeLine; decide, fun pp hp => q pp q0 q1 q2 us vs ws B4 _ (S4.alloc hp fun ys z => by cases z) ((e1.trans e3).trans e5) (pimp r1 fun _ _ z => R.mono (e3.trans e5) z) (pimp r2 fun _ _ z => S.mono e5 z) r3⟩)
/-! the length of a tuple -/
class LenN {α : Type} (R : Rel α) (n : Nat) : Prop where
  l : ∀ {H : Hp} {v : V} {x : α}, R.r H v x → ∃ p vs, v = .ref p ∧ H p = some (.tup vs) ∧ vs.length = n
theorem lenPr : LenN (rPr R S) 2 := ⟨fun h => by obtain ⟨p, a, b, h1, h2, _⟩ := h; exact ⟨p, _, h1, h2, rfl⟩⟩
theorem lenT3 : LenN (rT3 R S T) 3 := ⟨fun h => by obtain ⟨p, a, b, c, h1, h2, _⟩ := h; exact ⟨p, _, h1, h2, rfl⟩⟩
theorem lenT4 : LenN (rT4 R S T U) 4 := ⟨fun h => by obtain ⟨p, a, b, c, d, h1, h2, _⟩ := h; exact ⟨p, _, h1, h2, rfl⟩⟩
theorem ev_lenTN {n : Nat} (hg : Gl X "len") (hm : X.mg "len" = none) (ha : EvB X E own B H σ a R x) (hl : LenN R n) (hs : St1 X a := by rfl) : EvB X E own B H σ (.Call (.Name "len" p) [a] [] pos) rInt (n : Int) :=
  ev_b1 (f := fun _ : α => (n : Int)) (pe_callB call_len_seq hg hm PySem.boot_len (pa1 hs) (he := hs)) ha fun H1 v Q h k => by
    obtain ⟨p, vs, h1, h2, h3⟩ := hl.l h
    exact ⟨p, vs, by rw [h1], .inr (SqT.of h2), k _ (by rw [h3]; rfl)⟩
/-- something outside of what is known is written -/
theorem stt_poke {q : Addr} {vs us : List V} (S : Stt E own B H) (hq : H q = some (.lst vs)) (hb : B q = none) (h0 : E.H0 q = none) (ho : ∀ z ∈ own, z.1 ≠ q) : Stt E own B (upd H q (.lst us)) :=
  ⟨S.b0, fun a o e => by
    rw [upd_ne fun z => by
      subst z
      rw [h0] at e
      cases e]
    exact S.h0 a o e, fun a o e => by
    rw [upd_ne fun z => by
      subst z
      rw [hb] at e
      cases e]
    exact S.bh a o e, fun a ys e => by
    have hne : a ≠ q := fun z => by
      subst z
      rw [upd_same] at e
      cases e
    rw [upd_ne hne] at e
    exact S.tu a ys e, S.fr, fun z hz => by
    obtain ⟨h1, h2, h3⟩ := S.ow z hz
    exact ⟨h1, h2, by rw [upd_ne (ho z hz)]; exact h3⟩, S.nd⟩
/-- x[i][0].clear(), x[i][1].clear(): x a list of one's own -/
theorem s_clear2P {nx : Str} {px1 px2 pc1 pc2 pk1 pk2 pz1 pz2 ps1 ps2 pm1 pm2 pa1 pa2 pe1 pe2 : Pos} {c1 c2 c3 c4} {ii : Int} {l : Addr} {vs : List V} {xs : List (List α × List β)} {xx : List α × List β}
    (So : Stt E own' Bo Ho) (hx : Ex Bo B) (S0 : Stt E own B H) (hp : ∀ {pp : Pos}, PE X (.Name nx pp) (tVar i)) (h : σ[i]? = some (some (.ref l))) (hk : own[k]? = some (l, .lst vs)) (r : Paired ((rPr (rLstN Bo R) (rLstN Bo S)).r B) vs xs) (hat : atI xs ii = some xx)
    (kt : ∀ B' H', Stt E own B' H' → Ex Bo B' → Tx B B' → WSs X rest D σ H')
    (t1 : BmT0 X (.Subscript (.Subscript (.Name nx px1) (.Constant (.int ii) c1 pc1) pk1) (.Constant (.int 0) c2 pz1) ps1) "clear" pm1 pa1 := by exact ⟨rfl, rfl⟩) (t2 : BmT0 X (.Subscript (.Subscript (.Name nx px2) (.Constant (.int ii) c3 pc2) pk2) (.Constant (.int 1) c4 pz2) ps2) "clear" pm2 pa2 := by exact ⟨rfl, rfl⟩)
    (hw1 : swapsWith (.Call (.Attribute (.Subscript (.Subscript (.Name nx px1) (.Constant (.int ii) c1 pc1) pk1) (.Constant (.int 0) c2 pz1) ps1) "clear" pm1) [] [] pa1) none pe1.line X.env = pure false := by rfl) (hw2 : swapsWith (.Call (.Attribute (.Subscript (.Subscript (.Name nx px2) (.Constant (.int ii) c3 pc2) pk2) (.Constant (.int 1) c4 pz2) ps2) "clear" pm2) [] [] pa2) none pe2.line X.env = pure false := by rfl) :
    WSs X (.Expr (.Call (.Attribute (.Subscript (.Subscript (.Name nx px1) (.Constant (.int ii) c1 pc1) pk1) (.Constant (.int 0) c2 pz1) ps1) "clear" pm1) [] [] pa1) pe1 :: .Expr (.Call (.Attribute (.Subscript (.Subscript (.Name nx px2) (.Constant (.int ii) c3 pc2) pk2) (.Constant (.int 1) c4 pz2) ps2) "clear" pm2) [] [] pa2) pe2 :: rest) D σ H := by
  obtain ⟨u, hu, ⟨t, v0, v1, rfl, ht, ⟨q0, us0, rfl, a1, a2, a3⟩, ⟨q1, us1, rfl, b1, b2, b3⟩⟩⟩ := pat r hat
  obtain ⟨o1, o2, o3⟩ := S0.ow _ (getE hk)
  have hl : H l = some (.lst vs) := o3
  have hl0 : B l = none := o2
  have nq0 : l ≠ q0 := fun z => by rw [z, a1] at hl0; cases hl0
  have htH := S0.bh _ _ ht
  have hq0 := S0.bh _ _ a1
  have hq1 := S0.bh _ _ b1
  have h1 : E.H0 q1 = none := by
    rcases S0.fr q1 _ b1 with h | h
    · rw [So.b0 _ _ h] at b2
      cases b2
    · exact h
  refine WSs.cons (ps_expr (pe_bm0 PySem.F.plainAttrs_list PySem.F.slot_list_clear PySem.F.type_list_clear mt_clear (pe_ix ix_tup (pe_ix ix_list hp pe_int (fun _ _ => rfl)) pe_int (fun _ _ => rfl)) t1.1 t1.2) hw1) ?_
  refine ⟨_, h, l, vs, ii, _, rfl, rfl, SqL.of hl, hu, t, _, 0, _, rfl, rfl, SqT.of htH, rfl, .inl ⟨rfl, _, SqL.of hq0⟩, q0, us0, rfl, rfl, hq0, ?_⟩
  obtain ⟨B', S', x1, x2, x3⟩ := stt_reset (us := []) So hx S0 a1 a2
  have hl' : upd H q0 (.lst []) l = some (.lst vs) := by rw [upd_ne nq0]; exact hl
  have ht' : upd H q0 (.lst []) t = some (.tup [.ref q0, .ref q1]) := by
    rw [upd_ne fun z => by rw [z, hq0] at htH; cases htH]
    exact htH
  have hq1' : ∃ us, upd H q0 (.lst []) q1 = some (.lst us) := by
    by_cases z : q1 = q0
    · rw [z]; exact ⟨_, upd_same⟩
    · exact ⟨us1, by rw [upd_ne z]; exact hq1⟩
  obtain ⟨us, hq1'⟩ := hq1'
  have hB1 : B' q1 = none := by
    cases e : B' q1 with
    | none => rfl
    | some o =>
      exfalso
      have e2 := S'.bh _ _ e
      rw [hq1'] at e2
      cases e2
      exact x3 _ _ b2 e
  refine WSs.cons (ps_expr (pe_bm0 PySem.F.plainAttrs_list PySem.F.slot_list_clear PySem.F.type_list_clear mt_clear (pe_ix ix_tup (pe_ix ix_list hp pe_int (fun _ _ => rfl)) pe_int (fun _ _ => rfl)) t2.1 t2.2) hw2) ?_
  refine ⟨_, h, l, vs, ii, _, rfl, rfl, SqL.of hl', hu, t, _, 1, _, rfl, rfl, SqT.of ht', rfl, .inl ⟨rfl, _, SqL.of hq1'⟩, q1, us, rfl, rfl, hq1', ?_⟩
  refine kt B' _ (stt_poke S' hq1' hB1 h1 fun z hz e => ?_) x1 x2
  have := (S0.ow z hz).2.1
  rw [e, b1] at this
  cases this
end
end Sg

namespace Sg
open PySem PySem.Spec PyProof.Rows L2
/-! ### min, max of whole numbers -/
def minDf (d : Int) : List Int → Int
  | [] => d
  | y :: ys => ys.foldl min y
def maxDf (d : Int) : List Int → Int
  | [] => d
  | y :: ys => ys.foldl max y
theorem alikeAll_ints (xs : List Int) : PySem.W.AlikeAll (xs.map PyData.int) := ⟨fun x hx y hy => by
  obtain ⟨i, _, rfl⟩ := List.mem_map.mp hx
  obtain ⟨j, _, rfl⟩ := List.mem_map.mp hy
  rfl, fun x hx => by
  obtain ⟨i, _, rfl⟩ := List.mem_map.mp hx
  exact fun z => by cases z⟩
theorem reads_int {h : Heap} {v : Value} {n : Int} {bs : List Addr} (r : Reads h v (.int n) bs) : ∃ t, v = .int n t := by
  cases r
  exact ⟨_, rfl⟩
section
variable {X : Cx} {E : Ent} {own : Own} {B H : Hp} {σ : L2.St} {a d : Expr} {p pos kpos : Pos} {k0 : Nat} {xs : List Int} {z : Int}
theorem ev_minD (C : Cok X k0) (hg : Gl X "min") (hm : X.mg "min" = none) (ha : EvB X E own B H σ a (rLst rInt) xs) (hd : EvB X E own B H σ d rInt z) (hs : St1 X a := by rfl)
    (he : backTo pos (starEach (a :: []) X.env) = (false, eval a X.env) :: backTo pos (starEach [] X.env) := by rfl) (hpl : (backTo pos (starEach (a :: []) X.env)).any (·.1) = false := by rfl)
    (hall : (backToKw pos (keywordEach [⟨some "default", d, kpos⟩] X.env)).all (·.1.isSome) = true := by rfl) (hnone : (backToKw pos (keywordEach [⟨some "default", d, kpos⟩] X.env)).any (·.1.isNone) = false := by rfl) (hks : (backToKw pos (keywordEach [⟨some "default", d, kpos⟩] X.env)).filterMap (·.1) = [Str.ofString "default"] := by rfl) :
    EvB X E own B H σ (.Call (.Name "min" p) [a] [⟨some "default", d, kpos⟩] pos) rInt (minDf z xs) := fun B1 H1 S1 e1 e2 Q kq => by
  refine WE.of (pe_callBK (id := "min") callr_any hg hm (by decide +kernel) (pa1 hs) (pk_cons peW pk_nil) (he := he) (hpl := hpl) (hall := hall) (hnone := hnone) (hks := hks)) (ha B1 H1 S1 e1 e2 _ fun v B2 H2 S2 e3 e4 r => ?_)
  refine hd B2 H2 S2 (e1.trans e3) (e2.trans e4) _ fun w B3 H3 S3 e5 e6 r2 => ?_
  intro pins s σ' us ws I rv rz
  obtain ⟨l, vs, rfl, hl, hp⟩ := Rel.mono _ e6 r
  obtain rfl := Vals.ref1 rv
  have r2 : w = .int z := r2
  subst r2
  obtain ⟨w1, rfl, t, rfl⟩ := vals1 rz
  obtain ⟨its, rvs, pl, hz⟩ := I.list (.inl hl)
  show wpAny _ _ (call (.builtin "min") [.ref l] [(Str.ofString "default", .int z t)]) _ _ _
  have hu := C.hu65
  have Qok : ∀ h' tk (n : Int) (t' : Tok), n = minDf z xs → (∀ b o, s.heap.get? b = some o → h'.get? b = some o) → EP X pins σ' Q (.int n t') { s with heap := h', toks := tk } := fun h' tk n t' hn hk => by
    subst hn
    exact ⟨.int _, H3, I.kept hk, ⟨_, rfl⟩, kq _ B3 H3 S3 (e3.trans e5) (e4.trans e6) rfl⟩
  refine PySem.W.min_list_default (A := X.A) (xs := xs.map PyData.int) (as := []) (I.ok.hd C.calm) pl.isList (by rw [List.toList_toArray]; exact ints_read hp rvs) (alikeAll_ints xs) (by rw [PySem.W.depth_ints]; omega) (fun h0 h' tk hk => ?_) (fun y ys i v h' tk bs hx hv hr hk => ?_)
  · rw [List.map_eq_nil_iff] at h0
    subst h0
    exact Qok h' tk z t rfl hk
  · cases xs with
    | nil => cases hx
    | cons n ns =>
      rw [List.map_cons] at hx
      cases hx
      rw [PySem.W.minD_ints] at hr
      obtain ⟨t', rfl⟩ := reads_int hr
      exact Qok h' tk _ t' rfl hk
theorem ev_maxD (C : Cok X k0) (hg : Gl X "max") (hm : X.mg "max" = none) (ha : EvB X E own B H σ a (rLst rInt) xs) (hd : EvB X E own B H σ d rInt z) (hs : St1 X a := by rfl)
    (he : backTo pos (starEach (a :: []) X.env) = (false, eval a X.env) :: backTo pos (starEach [] X.env) := by rfl) (hpl : (backTo pos (starEach (a :: []) X.env)).any (·.1) = false := by rfl)
    (hall : (backToKw pos (keywordEach [⟨some "default", d, kpos⟩] X.env)).all (·.1.isSome) = true := by rfl) (hnone : (backToKw pos (keywordEach [⟨some "default", d, kpos⟩] X.env)).any (·.1.isNone) = false := by rfl) (hks : (backToKw pos (keywordEach [⟨some "default", d, kpos⟩] X.env)).filterMap (·.1) = [Str.ofString "default"] := by rfl) :
    EvB X E own B H σ (.Call (.Name "max" p) [a] [⟨some "default", d, kpos⟩] pos) rInt (maxDf z xs) := fun B1 H1 S1 e1 e2 Q kq => by
  refine WE.of (pe_callBK (id := "max") callr_any hg hm (by decide +kernel) (pa1 hs) (pk_cons peW pk_nil) (he := he) (hpl := hpl) (hall := hall) (hnone := hnone) (hks := hks)) (ha B1 H1 S1 e1 e2 _ fun v B2 H2 S2 e3 e4 r => ?_)
  refine hd B2 H2 S2 (e1.trans e3) (e2.trans e4) _ fun w B3 H3 S3 e5 e6 r2 => ?_
  intro pins s σ' us ws I rv rz
  obtain ⟨l, vs, rfl, hl, hp⟩ := Rel.mono _ e6 r
  obtain rfl := Vals.ref1 rv
  have r2 : w = .int z := r2
  subst r2
  obtain ⟨w1, rfl, t, rfl⟩ := vals1 rz
  obtain ⟨its, rvs, pl, hz⟩ := I.list (.inl hl)
  show wpAny _ _ (call (.builtin "max") [.ref l] [(Str.ofString "default", .int z t)]) _ _ _
  have hu := C.hu65
  have Qok : ∀ h' tk (n : Int) (t' : Tok), n = maxDf z xs → (∀ b o, s.heap.get? b = some o → h'.get? b = some o) → EP X pins σ' Q (.int n t') { s with heap := h', toks := tk } := fun h' tk n t' hn hk => by
    subst hn
    exact ⟨.int _, H3, I.kept hk, ⟨_, rfl⟩, kq _ B3 H3 S3 (e3.trans e5) (e4.trans e6) rfl⟩
  refine PySem.W.max_list_default (A := X.A) (xs := xs.map PyData.int) (as := []) (I.ok.hd C.calm) pl.isList (by rw [List.toList_toArray]; exact ints_read hp rvs) (alikeAll_ints xs) (by rw [PySem.W.depth_ints]; omega) (fun h0 h' tk hk => ?_) (fun y ys i v h' tk bs hx hv hr hk => ?_)
  · rw [List.map_eq_nil_iff] at h0
    subst h0
    exact Qok h' tk z t rfl hk
  · cases xs with
    | nil => cases hx
    | cons n ns =>
      rw [List.map_cons] at hx
      cases hx
      rw [PySem.W.maxD_ints] at hr
      obtain ⟨t', rfl⟩ := reads_int hr
      exact Qok h' tk _ t' rfl hk
/-! min(xs), max(xs), xs not empty -/
theorem ev_minL (C : Cok X k0) (hg : Gl X "min") (hm : X.mg "min" = none) (ha : EvB X E own B H σ a (rLst rInt) xs) (hne : xs ≠ []) (hs : St1 X a := by rfl) : EvB X E own B H σ (.Call (.Name "min" p) [a] [] pos) rInt (minDf 0 xs) := fun B1 H1 S1 e1 e2 Q kq =>
  WE.of (pe_callB (cr_min C.calm) hg hm (by decide +kernel) (pa1 hs) (he := hs)) (ha B1 H1 S1 e1 e2 _ fun v B2 H2 S2 e3 e4 r => by
    obtain ⟨l, vs, rfl, hl, hp⟩ := r
    rw [ints_rel hp] at hl
    refine ⟨l, xs, rfl, .inl hl, List.length_pos_iff.mpr hne, fun m hm1 hm2 => ?_⟩
    have e : m = minDf 0 xs := by
      cases xs with
      | nil => exact absurd rfl hne
      | cons y ys =>
        have f1 : ∀ (l : List Int) (b : Int), l.foldl min b ≤ b ∧ (∀ x ∈ l, l.foldl min b ≤ x) ∧ (l.foldl min b = b ∨ l.foldl min b ∈ l) := by
          intro l
          induction l with
          | nil => intro b; exact ⟨Int.le_refl _, fun x h => (by cases h), .inl rfl⟩
          | cons c r ih =>
            intro b
            obtain ⟨i1, i2, i3⟩ := ih (min b c)
            rw [List.foldl_cons]
            refine ⟨Int.le_trans i1 (Int.min_le_left _ _), fun x hx => ?_, ?_⟩
            · rcases List.mem_cons.mp hx with rfl | hx
              · exact Int.le_trans i1 (Int.min_le_right _ _)
              · exact i2 x hx
            · rcases i3 with i3 | i3
              · rw [i3]
                by_cases h : b ≤ c
                · exact .inl (Int.min_eq_left h)
                · exact .inr (by rw [Int.min_eq_right (by omega)]; exact List.mem_cons_self ..)
              · exact .inr (List.mem_cons_of_mem _ i3)
        obtain ⟨g1, g2, g3⟩ := f1 ys y
        have h1 : ys.foldl min y ∈ y :: ys := by
          rcases g3 with g3 | g3
          · rw [g3]; exact List.mem_cons_self ..
          · exact List.mem_cons_of_mem _ g3
        have h2 := hm2 _ h1
        have h3 : ys.foldl min y ≤ m := by
          rcases List.mem_cons.mp hm1 with rfl | h
          · exact g1
          · exact g2 m h
        show m = ys.foldl min y
        omega
    rw [e]
    exact kq _ B2 H2 S2 e3 e4 rfl)
theorem ev_maxL (C : Cok X k0) (hg : Gl X "max") (hm : X.mg "max" = none) (ha : EvB X E own B H σ a (rLst rInt) xs) (hne : xs ≠ []) (hs : St1 X a := by rfl) : EvB X E own B H σ (.Call (.Name "max" p) [a] [] pos) rInt (maxDf 0 xs) := fun B1 H1 S1 e1 e2 Q kq =>
  WE.of (pe_callB (cr_max C.calm) hg hm (by decide +kernel) (pa1 hs) (he := hs)) (ha B1 H1 S1 e1 e2 _ fun v B2 H2 S2 e3 e4 r => by
    obtain ⟨l, vs, rfl, hl, hp⟩ := r
    rw [ints_rel hp] at hl
    refine ⟨l, xs, rfl, .inl hl, List.length_pos_iff.mpr hne, fun m hm1 hm2 => ?_⟩
    have e : m = maxDf 0 xs := by
      cases xs with
      | nil => exact absurd rfl hne
      | cons y ys =>
        have f1 : ∀ (l : List Int) (b : Int), b ≤ l.foldl max b ∧ (∀ x ∈ l, x ≤ l.foldl max b) ∧ (l.foldl max b = b ∨ l.foldl max b ∈ l) := by
          intro l
          induction l with
          | nil => intro b; exact ⟨Int.le_refl _, fun x h => (by cases h), .inl rfl⟩
          | cons c r ih =>
            intro b
            obtain ⟨i1, i2, i3⟩ := ih (max b c)
            rw [List.foldl_cons]
            refine ⟨Int.le_trans (Int.le_max_left _ _) i1, fun x hx => ?_, ?_⟩
            · rcases List.mem_cons.mp hx with rfl | hx
              · exact Int.le_trans (Int.le_max_right _ _) i1
              · exact i2 x hx
            · rcases i3 with i3 | i3
              · rw [i3]
                by_cases h : c ≤ b
                · exact .inl (Int.max_eq_left h)
                · exact .inr (by rw [Int.max_eq_right (by omega)]; exact List.mem_cons_self ..)
              · exact .inr (List.mem_cons_of_mem _ i3)
        obtain ⟨g1, g2, g3⟩ := f1 ys y
        have h1 : ys.foldl max y ∈ y :: ys := by
          rcases g3 with g3 | g3
          · rw [g3]; exact List.mem_cons_self ..
          · exact List.mem_cons_of_mem _ g3
        have h2 := hm2 _ h1
        have h3 : m ≤ ys.foldl max y := by
          rcases List.mem_cons.mp hm1 with rfl | h
          · exact g1
          · exact g2 m h
        show m = ys.foldl max y
        omega
    rw [e]
    exact kq _ B2 H2 S2 e3 e4 rfl)
end
end Sg

namespace Sg
open PySem PySem.Spec PyProof.Rows L2

/-! ### results within what may raise -/
def Res.sure {α : Type} : Res α → Res α
  | .err _ => .stuck
  | m => m
def Res.catch {α : Type} (m : Res α) (h : Err → Res α) : Res α := match m with
  | .ok a => .ok a
  | .err e => h e
  | .stuck => .stuck
/-- what a clause takes: the classes that it names; none else comes -/
def hdl {α : Type} (l : List Str) (mh : Err → Res α) : Err → Res α := fun e => if l.contains e.cls = true then mh e else .stuck
theorem Fin.getS {α β : Type} {P : β → Prop} {Er : Err → Prop} {m : Res α} {f : α → Res β} (h : Fin P Er (m.sure.bind f)) : ∃ x, m = .ok x ∧ Fin P Er (f x) := by
  cases m with
  | ok x => exact ⟨x, rfl, h⟩
  | err e => exact h.elim
  | stuck => exact h.elim
theorem Fin.getX {α β : Type} {P : β → Prop} {Er : Err → Prop} {m : Res α} {f : α → Res β} (h : Fin P Er (m.bind f)) : (∃ e, m = .err e ∧ Er e) ∨ ∃ x, m = .ok x ∧ Fin P Er (f x) := by
  cases m with
  | ok x => exact .inr ⟨x, rfl, h⟩
  | err e => exact .inl ⟨e, rfl, h⟩
  | stuck => exact h.elim
theorem Fin.catch {α : Type} {P : α → Prop} {Er : Err → Prop} {m : Res α} {h : Err → Res α} (x : Fin P Er (m.catch h)) : Fin P (fun e => Fin P Er (h e)) m := by
  cases m with
  | ok a => exact x
  | err e => exact x
  | stuck => exact x

/-! ### an error and what stands for it -/
abbrev MG := Str → Option Value
def EDv (B : Hp) (v : V) : ED → Prop
  | .int i => v = .int i
  | .ints l => (rLst rInt).r B v l
theorem EDv.mono {B B' : Hp} {v : V} {e : ED} (x : Ex B B') (h : EDv B v e) : EDv B' v e := by
  cases e with
  | int i => exact h
  | «ints» l => exact Rel.mono _ x h
theorem nf_xd {o : HO} {fs : List (Str × V)} (h : nf o = .xd fs) : o = .xd fs := by
  cases o with
  | frz ob u => cases u <;> cases h
  | xd _ => exact h
  | _ => cases h
def ErrF (B : Hp) (d : Option Addr) (l : List (Str × ED)) : Prop := (l = [] ∧ d = none) ∨ ∃ dx fs, d = some dx ∧ B dx = some (.xd fs) ∧ Paired (fun (p : Str × V) (q : Str × ED) => p.1 = q.1 ∧ EDv B p.2 q.2) fs l
theorem ErrF.mono {B B' : Hp} {d : Option Addr} {l : List (Str × ED)} (x : Ex B B') (h : ErrF B d l) : ErrF B' d l := by
  rcases h with h | ⟨dx, fs, h1, h2, h3⟩
  · exact .inl h
  · obtain ⟨o, q1, q2⟩ := x _ _ h2
    rw [nf_xd q2] at q1
    exact .inr ⟨dx, fs, h1, q1, pimp h3 fun _ _ z => ⟨z.1, EDv.mono x z.2⟩⟩
structure ErrR (mg : MG) (B : Hp) (cls : Value) (d : Option Addr) (e : Err) : Prop where
  c : ∃ C, mg e.cls = some (.ref C) ∧ cls = .ref C
  f : ErrF B d e.fs
theorem ErrR.mono {mg : MG} {B B' : Hp} {cls : Value} {d : Option Addr} {e : Err} (x : Ex B B') (h : ErrR mg B cls d e) : ErrR mg B' cls d e := ⟨h.c, h.f.mono x⟩

/-! ### defs that may raise -/
def SpX {δ ρ : Type} (mg : MG) (args : δ → AR) (Kd : Kind ρ) (f : δ → Res ρ) : Sp := fun vs H Q E => ∃ B d, Sx B H ∧ Tx H B ∧ (args d).r vs B H ∧
  Fin (Kd ⟨B, H⟩ Q) (fun e => ∀ cls dd B' H', Stt ⟨B, H⟩ [] B' H' → ErrR mg B' cls dd e → E cls dd H') (f d)
/-- a raise may leave here: what is wished of it is so at σ -/
def XOk (X : Cx) (E : Ent) (own : Own) (B : Hp) (σ : L2.St) (Er : Err → Prop) : Prop := ∃ W : WX, L2N.Takes X W ∧ ∀ e, Er e → ∀ cls dd B' H', Stt E own B' H' → Ex B B' → ErrR X.mg B' cls dd e → W cls dd σ H'
def CalX (X : Cx) (k : Nat) (n : Str) (ps : List Str) (sp : Sp) : Prop := ∃ (f : Addr) (fd : FuncData), FnOk X.prog X.w X.K X.mg X.base (L2N.CX X.prog X.w) k f fd ps sp ∧ X.mg n = some (.ref f) ∧ PySem.W.keepIn X.K (.ref f) = true ∧ Binds X.K fd ps []
def CalXM (P : Program) (w : World) (K : PySem.W.Frag) (mg : Str → Option Value) (base : Heap) (k : Nat) (n : Str) (ps : List Str) (sp : Sp) : Prop := ∃ (f : Addr) (fd : FuncData), FnOk P w K mg base (L2N.CX P w) k f fd ps sp ∧ mg n = some (.ref f) ∧ PySem.W.keepIn K (.ref f) = true ∧ Binds K fd ps []
/-- never comes to a value -/
def rNev : Rel Unit := ⟨fun _ _ _ => False, fun _ h => h⟩
section
variable {X : Cx} {E : Ent} {own new own' : Own} {B H B' H' : Hp} {σ : L2.St} {α β γ τ ρ δ : Type} {R : Rel α} {S : Rel β} {T : Rel γ} {e a b c o it : Expr} {x : α} {y : β} {p pos pos' apos : Pos} {i j k k0 : Nat} {z w : Bool} {xs : List α} {es : List Expr}
variable {n m : Str} {rest body other : List Stmt} {D : Ends} {P : ρ → Prop} {Er : Err → Prop} {ps : List Str} {A : AR}
theorem WSs.ends {st : List Stmt} {D' : Ends} (h : WSs X st D σ H) (f : (∀ σ H, D.nx σ H → D'.nx σ H) ∧ (∀ v H, D.rt v H → D'.rt v H) ∧ (∀ σ H, D.bk σ H → D'.bk σ H) ∧ ∀ σ H, D.ct σ H → D'.ct σ H) : WSs X st D' σ H := fun pins s I =>
  wpAny_mono (h pins s I) (fun fl s' q => by
    cases fl with
    | next =>
      obtain ⟨σ2, H2, I2, q⟩ := q
      exact ⟨σ2, H2, I2, f.1 _ _ q⟩
    | cont =>
      obtain ⟨σ2, H2, I2, q⟩ := q
      exact ⟨σ2, H2, I2, f.2.2.2 _ _ q⟩
    | brk =>
      obtain ⟨σ2, H2, I2, q⟩ := q
      exact ⟨σ2, H2, I2, f.2.2.1 _ _ q⟩
    | ret u =>
      obtain ⟨v, σ2, H2, I2, r, q⟩ := q
      exact ⟨v, σ2, H2, I2, r, f.2.1 _ _ q⟩) fun _ _ q => q
theorem XOk.up (h : XOk X E own B σ Er) (x : Ex B B') : XOk X E own B' σ Er := by
  obtain ⟨W, tk, q⟩ := h
  exact ⟨W, tk, fun e he cls dd B2 H2 S x2 r => q e he cls dd B2 H2 S (x.trans x2) r⟩
theorem tk_no : L2N.Takes X (fun _ _ _ _ => False) := fun _ _ x => by
  obtain ⟨_, _, _, _, _, _, _, _, _, _, _, _, _, _, _, _, z⟩ := x
  exact z.elim
theorem pe_calX {sp : Sp} {W : WX} (tk : L2N.Takes X W) (C : Cok X k0) (G : CalX X k n ps sp) (hk : k ≤ k0) (hg : Gl X n) (hdb : (n == ("__debug__" : Str)) = false) (he : starEach (e :: es) X.env = (false, eval e X.env) :: starEach es X.env) (hpl : (backTo pos (starEach es X.env)).any (·.1) = false) :
    PE X (.Call (.Name n p) (e :: es) [] pos) (tCallS sp (L2.WE W) (WA X (e :: es))) := by
  obtain ⟨f, fd, F, hm, hkp, hb⟩ := G
  exact pe_callS F (C.room.mono hk) hg hm hkp hb (L2N.passAt tk) paW hdb he hpl
/-- such a def called; it does not raise -/
theorem ee_callX {mg : MG} {args : δ → AR} {f : δ → Res ρ} {RR : Rel ρ} {d : δ} {r : ρ} (C : Cok X k0) (G : CalX X k n ps (SpX mg args (kE RR) f)) (hk : k ≤ k0) (hg : Gl X n) (ha : EvAs X E own B H σ (e :: es) (args d)) (hm : f d = .ok r)
    (hdb : (n == ("__debug__" : Str)) = false := by rfl) (he : starEach (e :: es) X.env = (false, eval e X.env) :: starEach es X.env := by rfl) (hpl : (backTo pos (starEach es X.env)).any (·.1) = false := by rfl) : EvE X E own B H σ (.Call (.Name n p) (e :: es) [] pos) RR r := fun B1 H1 S1 e1 e2 Q q =>
  WE.of (pe_calX tk_no C G hk hg hdb he hpl) (ha B1 H1 S1 e1 e2 _ fun vs B2 H2 S2 e3 e4 r => ⟨B2, d, S2.bh, S2.tu, r, Fin.eq hm fun v B3 H3 T q2 => q v B3 H3 (S2.call T) (e3.trans T.b0.ex) (e4.trans T.h0.ex) q2⟩)
theorem el_callX {mg : MG} {args : δ → AR} {f : δ → Res (List ρ)} {RR : Rel ρ} {d : δ} {r : List ρ} (C : Cok X k0) (G : CalX X k n ps (SpX mg args (kL RR) f)) (hk : k ≤ k0) (hg : Gl X n) (ha : EvAs X E own B H σ (e :: es) (args d)) (hm : f d = .ok r)
    (hdb : (n == ("__debug__" : Str)) = false := by rfl) (he : starEach (e :: es) X.env = (false, eval e X.env) :: starEach es X.env := by rfl) (hpl : (backTo pos (starEach es X.env)).any (·.1) = false := by rfl) : EvL X E own B H σ (.Call (.Name n p) (e :: es) [] pos) RR r := fun B1 H1 S1 e1 e2 Q q =>
  WE.of (pe_calX tk_no C G hk hg hdb he hpl) (ha B1 H1 S1 e1 e2 _ fun vs B2 H2 S2 e3 e4 r => ⟨B2, d, S2.bh, S2.tu, r, Fin.eq hm fun p vs B3 H3 T q2 => q p vs B3 H3 (S2.call T) (e3.trans T.b0.ex) (e4.trans T.h0.ex) q2⟩)
/-- .. it raises -/
theorem wx_err {Kd : Kind ρ} {args : δ → AR} {f : δ → Res ρ} {d : δ} {er : Err} (XO : XOk X E own B σ Er) (C : Cok X k0) (G : CalX X k n ps (SpX X.mg args Kd f)) (hk : k ≤ k0) (hg : Gl X n) (ha : EvAs X E own B H σ (e :: es) (args d)) (hm : f d = .err er) (hE : Er er)
    (hdb : (n == ("__debug__" : Str)) = false := by rfl) (he : starEach (e :: es) X.env = (false, eval e X.env) :: starEach es X.env := by rfl) (hpl : (backTo pos (starEach es X.env)).any (·.1) = false := by rfl) {B1 H1 : Hp} (S1 : Stt E own B1 H1) (e1 : Ex B B1) (e2 : Ex H H1) (Q : VK) : WE X (.Call (.Name n p) (e :: es) [] pos) σ H1 Q := by
  obtain ⟨W, tk, hW⟩ := XO
  refine WE.of (pe_calX tk C G hk hg hdb he hpl) (ha B1 H1 S1 e1 e2 _ fun vs B2 H2 S2 e3 e4 r => ⟨B2, d, S2.bh, S2.tu, r, ?_⟩)
  rw [hm]
  exact fun cls dd B' H' T er2 => hW _ hE cls dd B' H' (S2.call T) ((e1.trans e3).trans T.b0.ex) er2
theorem ee_errX {Kd : Kind ρ} {args : δ → AR} {f : δ → Res ρ} {d : δ} {er : Err} (XO : XOk X E own B σ Er) (C : Cok X k0) (G : CalX X k n ps (SpX X.mg args Kd f)) (hk : k ≤ k0) (hg : Gl X n) (ha : EvAs X E own B H σ (e :: es) (args d)) (hm : f d = .err er) (hE : Er er)
    (hdb : (n == ("__debug__" : Str)) = false := by rfl) (he : starEach (e :: es) X.env = (false, eval e X.env) :: starEach es X.env := by rfl) (hpl : (backTo pos (starEach es X.env)).any (·.1) = false := by rfl) : EvE X E own B H σ (.Call (.Name n p) (e :: es) [] pos) rNev () := fun B1 H1 S1 e1 e2 Q _ =>
  wx_err XO C G hk hg ha hm hE hdb he hpl S1 e1 e2 Q
theorem el_errX {Kd : Kind ρ} {args : δ → AR} {f : δ → Res ρ} {d : δ} {er : Err} (XO : XOk X E own B σ Er) (C : Cok X k0) (G : CalX X k n ps (SpX X.mg args Kd f)) (hk : k ≤ k0) (hg : Gl X n) (ha : EvAs X E own B H σ (e :: es) (args d)) (hm : f d = .err er) (hE : Er er)
    (hdb : (n == ("__debug__" : Str)) = false := by rfl) (he : starEach (e :: es) X.env = (false, eval e X.env) :: starEach es X.env := by rfl) (hpl : (backTo pos (starEach es X.env)).any (·.1) = false := by rfl) : EvL X E own B H σ (.Call (.Name n p) (e :: es) [] pos) R xs := fun B1 H1 S1 e1 e2 Q _ =>
  wx_err XO C G hk hg ha hm hE hdb he hpl S1 e1 e2 Q
/-- a statement that waits for it -/
theorem s_asgNev (C : Cok X k) (L : Slot X i n) (S0 : Stt E own B H) (he : EvE X E own B H σ e rNev ()) (hs : swapsWith e (some (.Name n pos')) pos.line X.env = pure false := by rfl) : WSs X (.Assign [.Name n pos'] e pos :: rest) D σ H :=
  s_asg C L S0 he (fun _ _ _ _ _ r => r.elim) hs
theorem s_retNev (S0 : Stt E own B H) (he : EvE X E own B H σ e rNev ()) : WSs X (.Return (some e) pos :: rest) D σ H := s_retE S0 he fun _ _ _ _ r => r.elim
theorem s_dropNev (S0 : Stt E own B H) (he : EvE X E own B H σ e rNev ()) (hs : swapsWith e none pos.line X.env = pure false := by rfl) : WSs X (.Expr e pos :: rest) D σ H := 
  WSs.cons (ps_expr peW hs) (he B H S0 (Ex.refl _) (Ex.refl _) _ fun v B2 H2 S2 _ _ r => r.elim)
/-- for t in f(..), which raises -/
theorem s_forNev {tg : Expr} {Tg : α → Hp → L2.St → L2.St → Prop} (C : Cok X k) (ht : TgOk X E tg R Tg) (S0 : Stt E own B H) (he : EvE X E own B H σ it rNev ()) (hf : ∀ x, foldedSetIterable it X.env x = pure x := by intro _; rfl) : WSs X (.For tg it body [] pos :: rest) D σ H := by
  obtain ⟨g, hg, _⟩ := ht
  exact WSs.cons (ps_for C.own C.calm (pi_list (tl := WE X it) peW) hg pssW hf) (he B H S0 (Ex.refl _) (Ex.refl _) _ fun v B2 H2 S2 _ _ r => r.elim)

/-! ### raise -/
/-- a class without an own __init__, which may be raised with a text -/
def Rz (K : PySem.W.Frag) (mg : MG) (c : Str) : Prop := ∃ C, mg c = some (.ref C) ∧ PySem.W.keepIn K (.ref C) = true ∧ PySem.W.excIn K C [.type "ValueError", .type "Exception", .type "BaseException", .type "object"] "ValueError.__new__" = true ∧ PySem.W.subIn K (.ref C) (.type "BaseException") = some true ∧ PySem.W.typeIn K (.ref C) = some (.type "type")
theorem s_raise0 {cn msg : Str} {j2 : Nat} {p2 p3 : Pos} (XO : XOk X E own B σ Er) (C : Cok X k) (hz : Rz X.K X.mg cn) (hg : Gl X cn) (S0 : Stt E own B H) (hE : Er ⟨cn, []⟩) (hdb : (cn == ("__debug__" : Str)) = false := by decide) :
    WSs X (.Raise (some (.Call (.Name cn p) [.Constant (.str msg) j2 p2] [] p3)) none pos :: rest) D σ H := by
  obtain ⟨W, tk, hW⟩ := XO
  obtain ⟨A, h1, h2, h3, h4, h5⟩ := hz
  exact WSs.cons (L2N.ps_raise C.calm tk (L2N.pmk_own F.excBase_ValueError h3 h1 h2 (raises_own h4 h5) hg hdb)) (hW _ hE _ _ B H S0 (Ex.refl _) ⟨⟨A, h1, rfl⟩, .inl ⟨rfl, rfl⟩⟩)
end

/-! ### contexts alike -/
structure Tr (X X' : Cx) : Prop where
  pr : X'.prog = X.prog
  w : X'.w = X.w
  K : X'.K = X.K
  mg : X'.mg = X.mg
  base : X'.base = X.base
  N : X'.N = X.N
  env : X'.env = X.env
  fn : X'.fn = X.fn
/-- .. of a def's body -/
structure Tp (X : Cx) : Prop where
  st : X.stack = X.env :: X.outer
  fr : X.env.frame = some X.env.locals
section
variable {X X' : Cx} {k : Nat} {n : Str} {ps N : List Str} {sp : Sp} {C : Addr} {sc : Scope}
theorem Tr.cal (t : Tr X X') (h : Cal X k n ps sp) : Cal X' k n ps sp := by
  unfold Cal
  rw [t.pr, t.w, t.K, t.mg, t.base]
  exact h
theorem Tr.calX (t : Tr X X') (h : CalX X k n ps sp) : CalX X' k n ps sp := by
  unfold CalX
  rw [t.pr, t.w, t.K, t.mg, t.base]
  exact h
theorem Tr.mcal (t : Tr X X') (h : MCal X k C n ps sp) : MCal X' k C n ps sp := by
  unfold MCal
  rw [t.pr, t.w, t.K, t.mg, t.base]
  exact h
theorem Tr.scp (t : Tr X X') (h : Scp X N sc) : Scp X' N sc := ⟨t.N.trans h.n, by rw [t.env]; exact h.sc⟩
theorem Tr.fns (t : Tr X X') (h : ∀ x, X.fn x = true) : ∀ x, X'.fn x = true := by rw [t.fn]; exact h
theorem Tr.blt (t : Tr X X') (h : Blt X.mg) : Blt X'.mg := by rw [t.mg]; exact h
end

/-! ### a def's promise from its body -/
section
variable {P : Program} {w : World} {K : PySem.W.Frag} {mg : Str → Option Value} {base : Heap}
theorem fun_okX {x qual : Str} {st : Stmt} {f : Addr} {fd : FuncData} {N ps : List Str} {k : Nat} {δ ρ : Type} {args : δ → AR} {Kd : Kind ρ} {g : δ → Res ρ} (F : Fun K x qual st f fd) (S : FnScope N ps (defScope st)) (hl : ∀ d vs B H, (args d).r vs B H → vs.length = ps.length)
    (body : ∀ X : Cx, X.prog = P → X.w = w → X.K = K → X.mg = mg → X.base = base → Cok X k → Scp X N (defScope st) → (∀ x, X.fn x = true) → ∀ B H vs d (Q : VK) (Er : Err → Prop), (∀ own B' σ, XOk X ⟨B, H⟩ own B' σ Er) → Sx B H → Tx H B → (args d).r vs B H → Fin (Kd ⟨B, H⟩ Q) Er (g d) →
      WSs X (defBody st) { nx := fun _ H' => Q .non H', rt := Q } (start N vs) H) : FnOk P w K mg base (L2N.CX P w) (k + 1) f fd ps (SpX mg args Kd g) := by
  obtain ⟨oc, od, kV, doc, pm, an, cdv, ct, osl, rfl, lk, hcd⟩ := F.ex
  refine fn_of lk hcd S (fun vs H Q E h => ?_) (fun A outer s H vs Q E hr h => ?_)
  · obtain ⟨B, d, _, _, h3, _⟩ := h
    exact hl d vs B H h3
  · obtain ⟨B, d, h1, h2, h3, h4⟩ := h
    refine ⟨_, pssW, body (cxOf (L2N.CX P w) P w K mg base N qual (defScope st) f cdv A outer s H E) rfl rfl rfl rfl rfl ⟨rfl, S.nd, hr, L2.passes_of rfl⟩ ⟨rfl, rfl⟩ (fun _ => rfl) B H vs d Q _ (fun own B' σ => ?_) h1 h2 h3 h4⟩
    exact ⟨_, L2N.takes_of rfl rfl rfl rfl, fun e he cls dd B2 H2 S2 _ r => he cls dd B2 H2 S2.none r⟩
theorem fun_okT {x qual : Str} {st : Stmt} {f : Addr} {fd : FuncData} {N ps : List Str} {k : Nat} {δ ρ : Type} {args : δ → AR} {Kd : Kind ρ} {g : δ → Res ρ} (F : Fun K x qual st f fd) (S : FnScope N ps (defScope st)) (hl : ∀ d vs B H, (args d).r vs B H → vs.length = ps.length)
    (body : ∀ X : Cx, X.prog = P → X.w = w → X.K = K → X.mg = mg → X.base = base → Cok X k → Scp X N (defScope st) → (∀ x, X.fn x = true) → Tp X → ∀ B H vs d (Q : VK), Sx B H → Tx H B → (args d).r vs B H → Fin (Kd ⟨B, H⟩ Q) NoErr (g d) →
      WSs X (defBody st) { nx := fun _ H' => Q .non H', rt := Q } (start N vs) H) : FnOk P w K mg base CX0 (k + 1) f fd ps (SpA args Kd g) := by
  refine F.ok S (fun vs H Q E h => ?_) (fun cdv A outer s H vs Q E hr h => ?_)
  · obtain ⟨B, d, _, _, h3, _⟩ := h
    exact hl d vs B H h3
  · obtain ⟨B, d, h1, h2, h3, h4⟩ := h
    exact ⟨_, pssW, body ((cxOf CX0 P w K mg base N qual (defScope st) f cdv A outer s H E).nox) rfl rfl rfl rfl rfl ⟨rfl, S.nd, hr, PassesOwn.never⟩ ⟨rfl, rfl⟩ (fun _ => rfl) ⟨rfl, rfl⟩ B H vs d Q h1 h2 h3 h4⟩
end
end Sg

namespace Sg
open PySem PySem.Spec PyProof.Rows L2

/-! ### the exception that is handled -/
/-- p's object stands for the error e -/
def ExP (mg : MG) (B : Hp) (p : Addr × Obj) (e : Err) : Prop := ∃ cls d, L2N.Zn cls d p.2 ∧ (∃ vs, p.2.data = .fields vs) ∧ ErrR mg B cls d e
theorem ExP.mono {mg : MG} {B B' : Hp} {p : Addr × Obj} {e : Err} (x : Ex B B') (h : ExP mg B p e) : ExP mg B' p e := by
  obtain ⟨cls, d, h1, h2, h3⟩ := h
  exact ⟨cls, d, h1, h2, h3.mono x⟩
structure Hok (X : Cx) (k : Nat) (p : Addr × Obj) : Prop where
  nd : X.N.Nodup
  room : L2H.RoomH k X.A
  hot : L2H.Hot1 X.A p
  mem : p ∈ X.pn
  own : PassesOwn (model X.prog X.w) X.A X.env X.xe
theorem Hok.hc {X : Cx} {k : Nat} {p : Addr × Obj} (C : Hok X k p) : L2H.HotC X := ⟨p, C.hot, C.mem⟩

/-! ### defs called there -/
structure FnHp (P : Program) (w : World) (K : PySem.W.Frag) (mg : Str → Option Value) (base : Heap) (k : Nat) (f : Addr) (fd : FuncData) (ps : List Str) (sp : Addr × Obj → Sp) : Prop where
  len : ∀ p vs H Q E, sp p vs H Q E → vs.length = ps.length
  run : ∀ (p : Addr × Obj) (A : Around) (outer : List Env) (s : Shared) (H : Hp) (args : Args) (us : List Value) (vs : List V) (Q : VK) (E : XK), L2H.Hot1 A p → L2H.RoomH k A → L2H.PinOk outer H s p → Env0 P w K mg base A outer s H → BindsTo s fd args (ps.zip us) → Vals vs us → sp p vs H Q E →
    codeAny (model P w) A (.call (.ref f) args) (CR CX0 outer P w H s Q E) s
theorem fnHp_of {P : Program} {w : World} {K : PySem.W.Frag} {mg : Str → Option Value} {base : Heap} {k : Nat} {x qual : Str} {st : Stmt} {f : Addr} {fd : FuncData} {N ps : List Str} {sp : Addr × Obj → Sp} (F : Fun K x qual st f fd) (S : FnScope N ps (defScope st))
    (hl : ∀ p vs H Q E, sp p vs H Q E → vs.length = ps.length)
    (bd : ∀ (p : Addr × Obj) (cdv : Value) (A : Around) (outer : List Env) (s : Shared) (H : Hp) (vs : List V) (Q : VK) (E : XK), L2H.Hot1 A p → L2H.RoomH k (A.deeper (envOfC qual (defScope st) s.heap.objs.size f cdv)) → sp p vs H Q E →
      WSs (L2H.cxH CX0 P w K mg base N qual (defScope st) f cdv A outer s H E p) (defBody st) { nx := fun _ H' => Q .non H', rt := Q } (L2.start N vs) H) : FnHp P w K mg base (k + 1) f fd ps sp := by
  obtain ⟨oc, od, kV, doc, pm, an, cdv, ct, osl, rfl, lk, hcd⟩ := F.ex
  constructor
  · exact hl
  intro p A outer s H args us vs Q E hot hr hpin e0 hb r hsp
  have hl1 := hl _ _ _ _ _ hsp
  have inK : K.In s.heap := e0.mod.kin.keeps fun b o q => (e0.bs b o q).1
  have nolim : s.heap.NoLimit := e0.mod.nolimit.keeps fun b o q => (e0.bs b o q).1
  refine codeAny_call_function hr.depth (inK _ _ lk) rfl S.co S.gen rfl (PySem.W.codeRec_of inK hcd) (hb _ _ _ _ ?_)
  refine wpAny_newFunctionEnv_cells S.kind (fun ⟨n, v⟩ hy => ?_) fun env he s1 xc => ?_
  · rcases S.par n (List.of_mem_zip hy).1 with q | q
    · exact .inl q
    · exact .inr ⟨q, PySem.W.cellsFrom_some _ _ _ (.inl q)⟩
  subst he
  refine ⟨nolim.keeps xc.toInCall.keep, codeAny_func ?_⟩
  have I := L2H.inv_startH (CX := CX0) (P := P) (w := w) (K := K) (mg := mg) (base := base) (E := E) S hpin e0 hl1 r xc
  refine wpAny_mono (bd p cdv A outer s H vs Q E hot (hr.deeper _) hsp [] s1 I) (fun fl s' hs => ?_) fun _ _ q => q
  cases fl with
  | brk =>
    obtain ⟨_, _, _, q⟩ := hs
    exact q.elim
  | cont =>
    obtain ⟨_, _, _, q⟩ := hs
    exact q.elim
  | next =>
    obtain ⟨σ2, H2, J, q⟩ := hs
    exact ⟨.non, H2, J.os, J.bare, J.base, J.hok, rfl, q⟩
  | ret u =>
    obtain ⟨v, σ2, H2, J, rv, q⟩ := hs
    exact ⟨v, H2, J.os, J.bare, J.base, J.hok, rv, q⟩
def CalHM (P : Program) (w : World) (K : PySem.W.Frag) (mg : Str → Option Value) (base : Heap) (k : Nat) (n : Str) (ps : List Str) (sp : Addr × Obj → Sp) : Prop := ∃ (f : Addr) (fd : FuncData), FnHp P w K mg base k f fd ps sp ∧ mg n = some (.ref f) ∧ PySem.W.keepIn K (.ref f) = true ∧ Binds K fd ps []
def CalH (X : Cx) (k : Nat) (n : Str) (ps : List Str) (sp : Addr × Obj → Sp) : Prop := CalHM X.prog X.w X.K X.mg X.base k n ps sp
theorem Tr.calH {X X' : Cx} {k : Nat} {n : Str} {ps : List Str} {sp : Addr × Obj → Sp} (t : Tr X X') (h : CalH X k n ps sp) : CalH X' k n ps sp := by
  unfold CalH
  rw [t.pr, t.w, t.K, t.mg, t.base]
  exact h
/-- a hot def's promise -/
def SpH {δ ρ : Type} (args : Addr × Obj → δ → AR) (Kd : Kind ρ) (f : δ → Res ρ) : Addr × Obj → Sp := fun p vs H Q _ => ∃ B d, Sx B H ∧ Tx H B ∧ (args p d).r vs B H ∧ Fin (Kd ⟨B, H⟩ Q) NoErr (f d)
/-- the handled exception as an argument -/
def aP (mg : MG) (p : Addr × Obj) (e : Err) (A : AR) : AR := ⟨fun vs B H => ∃ r, vs = .ref p.1 :: r ∧ ExP mg B p e ∧ A.r r B H, fun b x ⟨r, h1, h2, h3⟩ => ⟨r, h1, h2.mono b, A.mono b x h3⟩⟩
theorem fun_okH {P : Program} {w : World} {K : PySem.W.Frag} {mg : Str → Option Value} {base : Heap} {x qual : Str} {st : Stmt} {f : Addr} {fd : FuncData} {N ps : List Str} {k : Nat} {δ ρ : Type} {args : Addr × Obj → δ → AR} {Kd : Kind ρ} {g : δ → Res ρ} (F : Fun K x qual st f fd) (S : FnScope N ps (defScope st)) (hl : ∀ p d vs B H, (args p d).r vs B H → vs.length = ps.length)
    (body : ∀ (X : Cx) (p : Addr × Obj), X.prog = P → X.w = w → X.K = K → X.mg = mg → X.base = base → Hok X k p → Scp X N (defScope st) → (∀ x, X.fn x = true) → ∀ B H vs d (Q : VK), Sx B H → Tx H B → (args p d).r vs B H → Fin (Kd ⟨B, H⟩ Q) NoErr (g d) →
      WSs X (defBody st) { nx := fun _ H' => Q .non H', rt := Q } (start N vs) H) : FnHp P w K mg base (k + 1) f fd ps (SpH args Kd g) := by
  refine fnHp_of F S (fun p vs H Q E h => ?_) (fun p cdv A outer s H vs Q E hot hr h => ?_)
  · obtain ⟨B, d, _, _, h3, _⟩ := h
    exact hl p d vs B H h3
  · obtain ⟨B, d, h1, h2, h3, h4⟩ := h
    exact body (L2H.cxH CX0 P w K mg base N qual (defScope st) f cdv A outer s H E p) p rfl rfl rfl rfl rfl ⟨S.nd, hr, hot, List.mem_singleton.mpr rfl, L2.passes_of rfl⟩ ⟨rfl, rfl⟩ (fun _ => rfl) B H vs d Q h1 h2 h3 h4
section
variable {X : Cx} {E : Ent} {own new own' : Own} {B H B' H' : Hp} {σ : L2.St} {α β γ τ ρ δ : Type} {R : Rel α} {S : Rel β} {T : Rel γ} {e a b c o it : Expr} {x : α} {y : β} {q pos pos' apos : Pos} {i j k k0 : Nat} {z w : Bool} {xs : List α} {es : List Expr} {p : Addr × Obj}
variable {n m : Str} {rest body other : List Stmt} {D : Ends} {P : ρ → Prop} {Er : Err → Prop} {ps : List Str} {A : AR} {er : Err}
theorem run_hp {sp : Addr × Obj → Sp} {f : Addr} {fd : FuncData} {pins : List (Addr × Obj)} {s : Shared} {Q : VK} {us : List Value} {vs : List V} (F : FnHp X.prog X.w X.K X.mg X.base k f fd ps sp) (C : Hok X k0 p) (hk : k ≤ k0) (hb : Binds X.K fd ps []) (I : Inv X pins σ H s) (r : Vals vs us) (h : sp p vs H Q E0) :
    wpAny (model X.prog X.w) X.A (call (.ref f) us) (EP X pins σ Q) X.xe s := by
  have hl : (us ++ []).length = ps.length := by
    rw [List.append_nil, ← r.length]
    exact F.len _ _ _ _ _ h
  have b := hb s us I.kIn hl
  have P1 := I.pin p (List.mem_append.mpr (.inl C.mem))
  refine wpAny_call (codeAny_mono (F.run p X.A X.stack s H ⟨us, []⟩ us vs Q E0 C.hot (C.room.mono hk) ⟨P1.1, P1.2.1, fun hm => ?_, P1.2.2.2.2⟩ I.env0 (by rw [List.append_nil] at b; exact b) r h) fun rr s' hq => ?_)
  · rcases List.mem_cons.mp (I.stkSub p.1 hm) with z | z
    · exact P1.2.2.1 z
    · exact P1.2.2.2.1 z
  · cases rr with
    | error e => exact hq.elim
    | ok fl =>
      cases fl with
      | ret u => exact I.after hq
      | next => exact hq.elim
      | brk => exact hq.elim
      | cont => exact hq.elim
theorem pe_calH {sp : Addr × Obj → Sp} (C : Hok X k0 p) (G : CalH X k n ps sp) (hk : k ≤ k0) (hg : Gl X n) (hdb : (n == ("__debug__" : Str)) = false) (he : starEach (e :: es) X.env = (false, eval e X.env) :: starEach es X.env) (hpl : (backTo pos (starEach es X.env)).any (·.1) = false) :
    PE X (.Call (.Name n q) (e :: es) [] pos) (fun σ H Q => WA X (e :: es) σ H fun vs H1 => sp p vs H1 Q E0) := by
  obtain ⟨f, fd, F, hm, hkp, hb⟩ := G
  refine ⟨fun pins s σ H Q I h => wpAny_Call_Name_kw (ld_glob I hg hm ?_ hdb)⟩
  exact PySem.W.callWith_K (h₀ := X.base) I.ok.mod.kin hkp (thn (h pos pins s I) fun us s1 ⟨vs, H1, I1, r, q1⟩ => ⟨I1.kIn, run_hp F C hk hb I1 r q1⟩) he hpl
theorem ee_callH {args : Addr × Obj → δ → AR} {f : δ → Res ρ} {RR : Rel ρ} {d : δ} {r : ρ} (C : Hok X k0 p) (G : CalH X k n ps (SpH args (kE RR) f)) (hk : k ≤ k0) (hg : Gl X n) (ha : EvAs X E own B H σ (e :: es) (args p d)) (hm : f d = .ok r)
    (hdb : (n == ("__debug__" : Str)) = false := by rfl) (he : starEach (e :: es) X.env = (false, eval e X.env) :: starEach es X.env := by rfl) (hpl : (backTo pos (starEach es X.env)).any (·.1) = false := by rfl) : EvE X E own B H σ (.Call (.Name n q) (e :: es) [] pos) RR r := fun B1 H1 S1 e1 e2 Q k2 =>
  WE.of (pe_calH C G hk hg hdb he hpl) (ha B1 H1 S1 e1 e2 _ fun vs B2 H2 S2 e3 e4 r => ⟨B2, d, S2.bh, S2.tu, r, Fin.eq hm fun v B3 H3 T q2 => k2 v B3 H3 (S2.call T) (e3.trans T.b0.ex) (e4.trans T.h0.ex) q2⟩)
theorem el_callH {args : Addr × Obj → δ → AR} {f : δ → Res (List ρ)} {RR : Rel ρ} {d : δ} {r : List ρ} (C : Hok X k0 p) (G : CalH X k n ps (SpH args (kL RR) f)) (hk : k ≤ k0) (hg : Gl X n) (ha : EvAs X E own B H σ (e :: es) (args p d)) (hm : f d = .ok r)
    (hdb : (n == ("__debug__" : Str)) = false := by rfl) (he : starEach (e :: es) X.env = (false, eval e X.env) :: starEach es X.env := by rfl) (hpl : (backTo pos (starEach es X.env)).any (·.1) = false := by rfl) : EvL X E own B H σ (.Call (.Name n q) (e :: es) [] pos) RR r := fun B1 H1 S1 e1 e2 Q k2 =>
  WE.of (pe_calH C G hk hg hdb he hpl) (ha B1 H1 S1 e1 e2 _ fun vs B2 H2 S2 e3 e4 r => ⟨B2, d, S2.bh, S2.tu, r, Fin.eq hm fun p vs B3 H3 T q2 => k2 p vs B3 H3 (S2.call T) (e3.trans T.b0.ex) (e4.trans T.h0.ex) q2⟩)
/-- the exception's name handed on -/
theorem ap_cons (hp : PE X e (tVar i)) (h : σ[i]? = some (some (.ref p.1))) (hx : ExP X.mg B p er) (hr : EvAs X E own B H σ es A) (hs : starEach (e :: es) X.env = (false, eval e X.env) :: starEach es X.env := by rfl) : EvAs X E own B H σ (e :: es) (aP X.mg p er A) := fun B1 H1 S1 e1 e2 Q k =>
  WA.of (pa_cons peW paW hs) (WE.of hp ⟨.ref p.1, h, hr B1 H1 S1 e1 e2 _ fun vs B3 H3 S3 e5 e6 q => k (.ref p.1 :: vs) B3 H3 S3 e5 e6 ⟨vs, rfl, hx.mono (e1.trans e5), q⟩⟩)
/-! names bound there -/
theorem s_asgE_h (C : Hok X k p) (L : Slot X i n) (S0 : Stt E own B H) (he : EvE X E own B H σ e R x)
    (q : ∀ v B' H', Stt E own B' H' → Ex B B' → R.r B' v x → WSs X rest D (σ.set i (some v)) H') (hs : swapsWith e (some (.Name n pos')) pos.line X.env = pure false := by rfl) :
    WSs X (.Assign [.Name n pos'] e pos :: rest) D σ H :=
  WSs.cons (ps_set C.nd L.ix L.loc peW hs L.hf) (he B H S0 (Ex.refl _) (Ex.refl _) _ fun v B2 H2 S2 e1 _ r => q v B2 H2 S2 e1 r)
theorem s_asgI_h {x : Int} (C : Hok X k p) (L : Slot X i n) (S0 : Stt E own B H) (he : EvB X E own B H σ e rInt x)
    (q : ∀ B' H', Stt E own B' H' → Ex B B' → WSs X rest D (σ.set i (some (.int x))) H') (hs : swapsWith e (some (.Name n pos')) pos.line X.env = pure false := by rfl) :
    WSs X (.Assign [.Name n pos'] e pos :: rest) D σ H :=
  s_asgE_h C L S0 he.toE (fun v B' H' S' e1 r => by rw [show v = .int x from r]; exact q B' H' S' e1) hs
theorem s_asgB_h {x : Bool} (C : Hok X k p) (L : Slot X i n) (S0 : Stt E own B H) (he : EvB X E own B H σ e rBool x)
    (q : ∀ B' H', Stt E own B' H' → Ex B B' → WSs X rest D (σ.set i (some (.bl x))) H') (hs : swapsWith e (some (.Name n pos')) pos.line X.env = pure false := by rfl) :
    WSs X (.Assign [.Name n pos'] e pos :: rest) D σ H :=
  s_asgE_h C L S0 he.toE (fun v B' H' S' e1 r => by rw [show v = .bl x from r]; exact q B' H' S' e1) hs
theorem s_asgS_h {x : Str} (C : Hok X k p) (L : Slot X i n) (S0 : Stt E own B H) (he : EvB X E own B H σ e rStr x)
    (q : ∀ B' H', Stt E own B' H' → Ex B B' → WSs X rest D (σ.set i (some (.str x))) H') (hs : swapsWith e (some (.Name n pos')) pos.line X.env = pure false := by rfl) :
    WSs X (.Assign [.Name n pos'] e pos :: rest) D σ H :=
  s_asgE_h C L S0 he.toE (fun v B' H' S' e1 r => by rw [show v = .str x from r]; exact q B' H' S' e1) hs
theorem s_asgL_h (C : Hok X k p) (L : Slot X i n) (S0 : Stt E own B H) (he : EvL X E own B H σ e R xs)
    (q : ∀ p vs B' H', Stt E ((p, .lst vs) :: own) B' H' → Ex B B' → Paired (R.r B') vs xs → WSs X rest D (σ.set i (some (.ref p))) H') (hs : swapsWith e (some (.Name n pos')) pos.line X.env = pure false := by rfl) :
    WSs X (.Assign [.Name n pos'] e pos :: rest) D σ H :=
  WSs.cons (ps_set C.nd L.ix L.loc peW hs L.hf) (he B H S0 (Ex.refl _) (Ex.refl _) _ fun p vs B2 H2 S2 e1 _ r => q p vs B2 H2 S2 e1 r)

/-! ### isinstance of it -/
/-- what the classes that come must say -/
structure IsK (K : PySem.W.Frag) (D : Addr) : Prop where
  hcl : PySem.W.isClsIn K D = true
  hga : PySem.W.findIn K (.ref D) "__getattribute__" = some (some (.builtin "BaseException.__getattribute__"))
  hgt : PySem.W.findIn K (.ref D) "__getattr__" = some none
  hsub : PySem.W.subIn K (.ref D) (.type "BaseException") = some true
  ha : PySem.W.findIn K (.ref D) "__class__" = some (some (.builtin "object.__class__"))
  hm : PySem.W.mroIn K D (.type "object") = some true
  hdC : PySem.W.hasDictIn K D = true
structure IsB (K : PySem.W.Frag) : Prop where
  hn : PySem.W.specialIn K (.builtin "object.__class__") "__get__" = some (some (.builtin "getset_descriptor.__get__"))
  ht : PySem.W.takesIn K (.builtin "object.__class__") = some true
theorem instAt_of {P : Program} {wd : World} {h : Heap} {cls : Value} {d : Option Addr} {D : Addr} {fs : List (Str × ED)} (hok : HOk P wd H h) (hp : h.get? p.1 = some p.2) (hz : L2N.Zn cls d p.2) (hf : ∃ vs, p.2.data = .fields vs) (hc : cls = .ref D) (he : ErrF H d fs) :
    ∃ od, PySem.W.InstAt h p.1 p.2 D od ∧ ((fs = [] ∧ d = none ∧ od = none) ∨ ∃ (dx : Addr) (ob : Obj) (fv : List (Str × V)) (mA : Str → Option Value), d = some dx ∧ od = some ob ∧ H dx = some (.xd fv) ∧ (∀ f, PySem.W.lookIn f ob = some (mA f)) ∧ (∀ f, RelO (fv.lookup f) (mA f)) ∧ Paired (fun (p : Str × V) (q : Str × ED) => p.1 = q.1 ∧ EDv H p.2 q.2) fv fs) := by
  obtain ⟨vs, hd⟩ := hf
  obtain ⟨z1, z2, z3⟩ := hz
  subst hc
  have nc : PySem.W.notCls p.2 = true := by unfold PySem.W.notCls; rw [hd] <;> rfl
  rcases he with ⟨e1, e2⟩ | ⟨dx, fv, e1, e2, e3⟩
  · exact ⟨none, ⟨hp, z1, nc, by rw [z2, e2]; trivial⟩, .inl ⟨e1, e2, rfl⟩⟩
  · have hx : ObjOk P wd H h dx (.xd fv) := hok dx _ e2
    obtain ⟨mA, hns, hr⟩ := hx
    obtain ⟨ob, ho, hl⟩ := lookIn_ns hns
    exact ⟨some ob, ⟨hp, z1, nc, by rw [z2, e1]; exact ho⟩, .inr ⟨dx, ob, fv, mA, e1, rfl, e2, hl, hr, e3⟩⟩
def rIsX (K : PySem.W.Frag) (mg : MG) (p : Addr × Obj) (er : Err) : List V → Hp → VK → Prop := fun xs H Q => ∃ (D Cc : Addr) (b : Bool), xs = [.ref p.1, .ref Cc] ∧ mg er.cls = some (.ref D) ∧ IsK K D ∧ ExP mg H p er ∧ PySem.W.kitOne K (.ref D) (.ref Cc) = some b ∧ Q (.bl b) H
theorem cr_isX (IB : IsB X.K) (C : Hok X k0 p) : CallR X (.builtin "isinstance") (rIsX X.K X.mg p er) := by
  intro pins s σ H xs us Q I r h
  obtain ⟨D, Cc, b, rfl, hmg, T, hx, hk, q⟩ := h
  cases r with
  | cons rx rr =>
    cases rr with
    | cons rt rr =>
      cases rr
      cases rx
      cases rt
      obtain ⟨cls, d, h1, h2, ⟨⟨C2, c1, c2⟩, h4⟩⟩ := hx
      have eD : C2 = D := by
        rw [hmg] at c1
        cases c1
        rfl
      subst eD
      obtain ⟨od, J, _⟩ := instAt_of (I.hok) (I.pin p (List.mem_append.mpr (.inl C.mem))).1 h1 h2 c2 h4
      exact PySem.W.kia_one (PySem.W.kitx_exc T.hcl T.hga T.hgt T.hsub T.ha IB.hn IB.ht T.hm) I.kIn J hk (fun z => nomatch z) fun tk => ⟨.bl b, H, I.kept (t' := tk) fun _ _ z => z, rfl, q⟩
theorem pe_gref {x : Str} {C : Addr} (hg : Gl X x) (hm : X.mg x = some (.ref C)) (hdb : (x == ("__debug__" : Str)) = false := by decide) : PE X (.Name x pos) (tC (.ref C)) :=
  ⟨fun _ _ _ H _ I h => ld_glob I hg hm ⟨.ref C, H, I, rfl, h⟩ hdb⟩
/-- the table of who is beneath whom: the classes that come, the classes that are asked for -/
def IsT (K : PySem.W.Frag) (mg : MG) (cn dn : Str) (b : Bool) : Prop := ∃ C D, mg cn = some (.ref C) ∧ mg dn = some (.ref D) ∧ IsK K C ∧ PySem.W.kitOne K (.ref C) (.ref D) = some b
theorem ev_isX {cs : Str} {p2 : Pos} {z : Bool} (IB : IsB X.K) (C : Hok X k0 p) (hg : Gl X "isinstance") (hm : X.mg "isinstance" = none) (hgc : Gl X cs) (hp : PE X a (tVar i)) (h : σ[i]? = some (some (.ref p.1))) (hx : ExP X.mg B p er) (ht : IsT X.K X.mg er.cls cs z)
    (hdb : (cs == ("__debug__" : Str)) = false := by decide) (hs : starEach (a :: [.Name cs p2]) X.env = (false, eval a X.env) :: starEach [.Name cs p2] X.env := by rfl) (hs2 : St1 X (.Name cs p2) := by rfl) (hpl : (backTo pos (starEach [.Name cs p2] X.env)).any (·.1) = false := by rfl) :
    EvB X E own B H σ (.Call (.Name "isinstance" q) [a, .Name cs p2] [] pos) rBool z := fun B1 H1 S1 e1 e2 Q k => by
  obtain ⟨C1, D1, m1, m2, T, hk⟩ := ht
  exact WE.of (pe_callB (cr_isX (er := er) IB C) hg hm (by decide +kernel) (pa_cons hp (pa_cons (pe_gref hgc m2 hdb) pa_nil hs2) hs) (he := hs) (hpl := hpl)) ⟨.ref p.1, h, C1, D1, z, rfl, m1, T, (hx.mono e1).mono S1.bh.ex, hk, k _ B1 H1 S1 (Ex.refl _) (Ex.refl _) rfl⟩

/-! ### try: .., except c as n: .. -/
theorem s_try {ρ' : Type} {x : Str} {np p' : Pos} {c : Value} {b₀ : Stmt} {suite : List Stmt} {mb : Res (ρ' ⊕ τ)} {mh : Err → Res (ρ' ⊕ τ)} {kr : ρ' → Res ρ} {kn : τ → Res ρ} {l : List Str} (TX : Tp X) (C : Cok X k) (hi : X.N[i]? = some n) (hln : X.env.kindOf n = some .local) (hc : Names X x c) (S0 : Stt E own B H)
    (F : Fin P NoErr ((mb.catch (hdl l mh)).bind (sel kr kn)))
    (hx : ∀ cn, l.contains cn = true → ∃ C, X.mg cn = some (.ref C) ∧ PySem.W.exmOne X.K (.ref C) c = some true)
    (Inv : τ → L2.St → Own → Hp → Prop)
    (hb : ∀ (X' : Cx) (Q : τ → Prop) (Er : Err → Prop), Tr X X' → Cok X' k → XOk X' E own B σ Er → Fin (sel (fun u => Fin P NoErr (kr u)) Q) Er mb → WSs X' body { nx := TurnE E B Q Inv, rt := D.rt, bk := fun _ _ => False, ct := fun _ _ => False } σ H)
    (hs : ∀ (X' : Cx) (p : Addr × Obj) (er : Err), Tr X X' → Hok X' k p → ∀ B' H' (Q : τ → Prop), Stt E own B' H' → Ex B B' → ExP X'.mg B' p er → l.contains er.cls = true → Fin (sel (fun u => Fin P NoErr (kr u)) Q) NoErr (mh er) →
      WSs X' (b₀ :: suite) { nx := fun σ2 H2 => TurnE E B' Q Inv (σ2.set i none) H2, rt := D.rt, bk := fun _ _ => False, ct := fun _ _ => False } (σ.set i (some (.ref p.1))) H')
    (hd : ∀ a σ2 own2 B2 H2, Inv a σ2 own2 B2 → Stt E own2 B2 H2 → Ex B B2 → Fin P NoErr (kn a) → WSs X rest D σ2 H2) :
    WSs X (.Try body [.ExceptHandler (some (.Name x np)) (some n) (b₀ :: suite) p'] [] [] pos :: rest) D σ H := by
  have F1 := Fin.catch (Fin.bind F)
  have fq : ∀ {r : Res (ρ' ⊕ τ)} {Er : Err → Prop}, Fin (fun a => Fin P NoErr (sel kr kn a)) Er r → Fin (sel (fun u => Fin P NoErr (kr u)) (fun a => Fin P NoErr (kn a))) Er r := fun h => h.mono (fun a _ z => by cases a <;> exact z) fun _ z => z
  have nx : ∀ {σ2 : L2.St} {H2 : Hp} {B1 : Hp}, Ex B B1 → TurnE E B1 (fun a => Fin P NoErr (kn a)) Inv σ2 H2 → WSs X rest D σ2 H2 := fun {σ2 H2 B1} x0 ⟨a, own2, B2, h1, h2, h3, h4⟩ => hd a σ2 own2 B2 H2 h4 h2 (x0.trans h3) h1
  refine WSs.cons (L2N.ps_try_as (tb := fun W D σ H => ∀ pn xe, L2N.Takes (X.tr pn xe) W → PassesOwn (model X.prog X.w) X.A X.env xe → WSs (X.tr pn xe) body D σ H)
    (ts := fun a cls d D σ H => ∀ oe pn, L2N.Zn cls d oe → (∃ vs, oe.data = .fields vs) → WSs (X.suite a ((a, oe) :: pn)) (b₀ :: suite) D σ H) (Wout := fun _ _ _ _ => False)
    TX.st TX.fr C.nd hi hln hc tk_no (fun W pn xe tk po => ⟨fun pins s σ H D I h => h pn xe tk po pins s I⟩) (fun a oe cls d pn hz hf => ⟨fun pins s σ H D I h => h oe pn hz hf pins s I⟩)) ?_
  intro pn xe tk po
  refine WSs.ends (hb (X.tr pn xe) (fun a => Fin P NoErr (kn a)) _ ⟨rfl, rfl, rfl, rfl, rfl, rfl, rfl, rfl⟩ ⟨C.calm, C.nd, C.room, po⟩ ⟨_, tk, fun e he cls dd B' H' S' x' r => ?_⟩ (fq F1)) ⟨fun σ2 H2 z => nx (Ex.refl _) z, fun _ _ z => z, fun _ _ z => z.elim, fun _ _ z => z.elim⟩
  have he' : l.contains e.cls = true ∧ Fin (fun a => Fin P NoErr (sel kr kn a)) NoErr (mh e) := by
    unfold hdl at he
    by_cases q : l.contains e.cls = true
    · rw [if_pos q] at he
      exact ⟨q, he⟩
    · rw [if_neg q] at he
      exact he.elim
  obtain ⟨C1, m1, k1⟩ := hx _ he'.1
  obtain ⟨C2, m2, k2⟩ := r.c
  have m2' : X.mg e.cls = some (.ref C2) := m2
  rw [m1] at m2'
  cases m2'
  subst k2
  refine ⟨true, k1, fun _ a na oe pn2 hz hf => ?_, fun z => by cases z⟩
  have h2 := hs (X.suite a ((a, oe) :: pn2)) (a, oe) e ⟨rfl, rfl, rfl, rfl, rfl, rfl, rfl, rfl⟩ ⟨C.nd, ⟨C.room.dp, C.room.un⟩, ⟨rfl, by obtain ⟨vs, hv⟩ := hf; exact ⟨vs, hv, hz.2.2 vs hv⟩⟩, List.mem_cons_self .., PassesOwn.never⟩ B' H' (fun a => Fin P NoErr (kn a)) S' x' ⟨_, _, hz, hf, ⟨⟨C1, m1, rfl⟩, r.f⟩⟩ he'.1 (fq he'.2)
  exact WSs.ends h2 ⟨fun σ2 H2 z => nx x' z, fun _ _ z => z, fun _ _ z => z.elim, fun _ _ z => z.elim⟩
end

/-! ### the law's tables: the classes that come, whom they are beneath -/
def IsAll (K : PySem.W.Frag) (mg : MG) (RL : List Str) (D : Str) (L : List Str) : Prop := ∀ cn, RL.contains cn = true → IsT K mg cn D (L.contains cn)
/-- .. beneath a class of the language -/
def IsTB (K : PySem.W.Frag) (mg : MG) (cn : Str) (T : String) (b : Bool) : Prop := ∃ C, mg cn = some (.ref C) ∧ IsK K C ∧ PySem.W.kitOne K (.ref C) (.type T) = some b
def IsAllB (K : PySem.W.Frag) (mg : MG) (RL : List Str) (T : Str) (T2 : String) (L : List Str) : Prop := mg T = none ∧ ∀ cn, RL.contains cn = true → IsTB K mg cn T2 (L.contains cn)
/-- what an except clause with the class x takes -/
def ExAll (K : PySem.W.Frag) (mg : MG) (l : List Str) (x : Str) : Prop := ∃ C, mg x = some (.ref C) ∧ ∀ cn, l.contains cn = true → ∃ A, mg cn = some (.ref A) ∧ PySem.W.exmOne K (.ref A) (.ref C) = some true
section
variable {K : PySem.W.Frag} {mg : MG} {RL L : List Str} {c D x : Str} {Q : Str → Prop}
theorem all_cons (h : Q c) (r : ∀ cn, RL.contains cn = true → Q cn) : ∀ cn, (c :: RL).contains cn = true → Q cn := fun cn z => by
  rcases List.mem_cons.mp (List.contains_iff_mem.mp z) with e | e
  · rw [e]
    exact h
  · exact r cn (List.contains_iff_mem.mpr e)
theorem all_nil : ∀ cn, ([] : List Str).contains cn = true → Q cn := fun cn z => by cases z
end
theorem kit_cl {K : PySem.W.Frag} {t : Value} {D : Addr} {b : Bool} (h2 : PySem.W.isClsIn K D = true) (h3 : PySem.W.typeIn K (.ref D) = some (.type "type")) (h4 : PySem.W.subIn K t (.ref D) = some b) : PySem.W.kitCls K t (.ref D) = some b := by
  have e : ((PySem.W.clsIn K D).isSome && PySem.W.typeIn K (.ref D) == some (.type "type")) = true := by
    rw [show (PySem.W.clsIn K D).isSome = true from h2, h3] <;> rfl
  unfold PySem.W.kitCls
  dsimp only
  rw [if_pos e]
  exact h4
theorem kit_ref {K : PySem.W.Frag} {C D : Addr} {b : Bool} (h2 : PySem.W.isClsIn K D = true) (h3 : PySem.W.typeIn K (.ref D) = some (.type "type")) (h4 : PySem.W.subIn K (.ref C) (.ref D) = some b) (hn : (Value.ref C == Value.ref D) = false) : PySem.W.kitOne K (.ref C) (.ref D) = some b := by
  unfold PySem.W.kitOne
  rw [hn, if_neg Bool.false_ne_true]
  exact kit_cl h2 h3 h4
theorem kit_self {K : PySem.W.Frag} {C : Addr} : PySem.W.kitOne K (.ref C) (.ref C) = some true := by
  unfold PySem.W.kitOne
  rw [if_pos (beq_self_eq_true _)]
theorem kit_typ {K : PySem.W.Frag} {C : Addr} {T : String} {b : Bool} (h1 : PySem.W.kitMeta T = true) (h4 : PySem.W.subIn K (.ref C) (.type T) = some b) : PySem.W.kitOne K (.ref C) (.type T) = some b := by
  have hn : (Value.ref C == Value.type T) = false := by
    rw [beq_eq_false_iff_ne]
    exact fun z => nomatch z
  unfold PySem.W.kitOne
  rw [hn, if_neg Bool.false_ne_true]
  unfold PySem.W.kitCls
  dsimp only
  rw [if_pos h1]
  exact h4
theorem exm_of {K : PySem.W.Frag} {C D : Addr} {b : Bool} (h1 : PySem.W.subIn K (.ref D) (.type "BaseException") = some true) (h2 : PySem.W.isClsIn K D = true) (h3 : PySem.W.typeIn K (.ref D) = some (.type "type")) (h4 : PySem.W.subIn K (.ref C) (.ref D) = some b) : PySem.W.exmOne K (.ref C) (.ref D) = some b := by
  have e : (PySem.W.subIn K (.ref D) (.type "BaseException") == some true) = true := by rw [h1] <;> rfl
  unfold PySem.W.exmOne
  rw [if_pos e]
  exact kit_cl h2 h3 h4
theorem Tr.isB {X X' : Cx} (t : Tr X X') (h : IsB X.K) : IsB X'.K := by rw [t.K]; exact h
theorem Tr.isA {X X' : Cx} {RL L : List Str} {D : Str} (t : Tr X X') (h : IsAll X.K X.mg RL D L) : IsAll X'.K X'.mg RL D L := by rw [t.K, t.mg]; exact h
theorem Tr.isAB {X X' : Cx} {RL L : List Str} {D : Str} {D2 : String} (t : Tr X X') (h : IsAllB X.K X.mg RL D D2 L) : IsAllB X'.K X'.mg RL D D2 L := by rw [t.K, t.mg]; exact h
theorem Tr.exA {X X' : Cx} {RL : List Str} {D : Str} (t : Tr X X') (h : ExAll X.K X.mg RL D) : ExAll X'.K X'.mg RL D := by rw [t.K, t.mg]; exact h
theorem Tr.rz {X X' : Cx} {D : Str} (t : Tr X X') (h : Rz X.K X.mg D) : Rz X'.K X'.mg D := by rw [t.K, t.mg]; exact h
theorem Tr.mkt {X X' : Cx} {k : Nat} {n : Str} {CT : Addr} {ps : List Str} {sp : Sp} (t : Tr X X') (G : MkT X k n CT ps sp) : MkT X' k n CT ps sp := by
  unfold MkT
  rw [t.pr, t.w, t.K, t.mg, t.base]
  exact G
theorem Tr.tt {X X' : Cx} {C : Addr} (t : Tr X X') (h : TabTxt X.K C) : TabTxt X'.K C := by rw [t.K]; exact h
section
variable {X : Cx} {E : Ent} {own new own' : Own} {B H B' H' : Hp} {σ : L2.St} {α β γ τ ρ δ : Type} {R : Rel α} {S : Rel β} {T : Rel γ} {e a b c o it : Expr} {x : α} {y : β} {q pos pos' apos : Pos} {i j k k0 : Nat} {z w : Bool} {xs : List α} {es : List Expr} {p : Addr × Obj}
variable {n m : Str} {rest body other : List Stmt} {D : Ends} {P : ρ → Prop} {Er : Err → Prop} {ps : List Str} {A : AR} {er : Err}
def rIsXB (K : PySem.W.Frag) (mg : MG) (p : Addr × Obj) (er : Err) : List V → Hp → VK → Prop := fun xs H Q => ∃ (D : Addr) (T : String) (b : Bool), xs = [.ref p.1, .ty T] ∧ mg er.cls = some (.ref D) ∧ IsK K D ∧ ExP mg H p er ∧ PySem.W.kitOne K (.ref D) (.type T) = some b ∧ Q (.bl b) H
theorem cr_isXB (IB : IsB X.K) (C : Hok X k0 p) : CallR X (.builtin "isinstance") (rIsXB X.K X.mg p er) := by
  intro pins s σ H xs us Q I r h
  obtain ⟨D, Tn, b, rfl, hmg, T, hx, hk, q⟩ := h
  cases r with
  | cons rx rr =>
    cases rr with
    | cons rt rr =>
      cases rr
      cases rx
      cases rt
      obtain ⟨cls, d, h1, h2, ⟨⟨C2, c1, c2⟩, h4⟩⟩ := hx
      have eD : C2 = D := by
        rw [hmg] at c1
        cases c1
        rfl
      subst eD
      obtain ⟨od, J, _⟩ := instAt_of (I.hok) (I.pin p (List.mem_append.mpr (.inl C.mem))).1 h1 h2 c2 h4
      exact PySem.W.kia_one (PySem.W.kitx_exc T.hcl T.hga T.hgt T.hsub T.ha IB.hn IB.ht T.hm) I.kIn J hk (fun z => nomatch z) fun tk => ⟨.bl b, H, I.kept (t' := tk) fun _ _ z => z, rfl, q⟩
theorem ev_isXB {cs : Str} {cn : String} {p2 : Pos} {z : Bool} (IB : IsB X.K) (C : Hok X k0 p) (hg : Gl X "isinstance") (hm : X.mg "isinstance" = none) (hgc : Gl X cs) (hmc : X.mg cs = none) (hv : bootBuiltins cs = some (.type cn)) (hp : PE X a (tVar i)) (h : σ[i]? = some (some (.ref p.1))) (hx : ExP X.mg B p er) (ht : IsTB X.K X.mg er.cls cn z)
    (hn : cs ≠ "__name__" := by decide) (hdb : (cs == ("__debug__" : Str)) = false := by decide) (hs : starEach (a :: [.Name cs p2]) X.env = (false, eval a X.env) :: starEach [.Name cs p2] X.env := by rfl) (hs2 : St1 X (.Name cs p2) := by rfl) (hpl : (backTo pos (starEach [.Name cs p2] X.env)).any (·.1) = false := by rfl) :
    EvB X E own B H σ (.Call (.Name "isinstance" q) [a, .Name cs p2] [] pos) rBool z := fun B1 H1 S1 e1 e2 Q k => by
  obtain ⟨C1, m1, T, hk⟩ := ht
  exact WE.of (pe_callB (cr_isXB (er := er) IB C) hg hm (by decide +kernel) (pa_cons hp (pa_cons (pe_bltn (v := .ty cn) hgc hmc hv rfl hn hdb) pa_nil hs2) hs) (he := hs) (hpl := hpl)) ⟨.ref p.1, h, C1, cn, z, rfl, m1, T, (hx.mono e1).mono S1.bh.ex, hk, k _ B1 H1 S1 (Ex.refl _) (Ex.refl _) rfl⟩
theorem s_tryN {ρ' : Type} {x : Str} {np p' : Pos} {b₀ : Stmt} {suite : List Stmt} {mb : Res (ρ' ⊕ τ)} {mh : Err → Res (ρ' ⊕ τ)} {kr : ρ' → Res ρ} {kn : τ → Res ρ} {l : List Str} (TX : Tp X) (C : Cok X k) (L : Slot X i n) (hln : X.env.kindOf n = some .local) (EA : ExAll X.K X.mg l x) (hg : Gl X x) (S0 : Stt E own B H)
    (F : Fin P NoErr ((mb.catch (hdl l mh)).bind (sel kr kn)))
    (Inv : τ → L2.St → Own → Hp → Prop)
    (hb : ∀ (X' : Cx) (Q : τ → Prop) (Er : Err → Prop), Tr X X' → Cok X' k → XOk X' E own B σ Er → Fin (sel (fun u => Fin P NoErr (kr u)) Q) Er mb → WSs X' body { nx := TurnE E B Q Inv, rt := D.rt, bk := fun _ _ => False, ct := fun _ _ => False } σ H)
    (hs : ∀ (X' : Cx) (p : Addr × Obj) (er : Err), Tr X X' → Hok X' k p → ∀ B' H' (Q : τ → Prop), Stt E own B' H' → Ex B B' → ExP X'.mg B' p er → l.contains er.cls = true → Fin (sel (fun u => Fin P NoErr (kr u)) Q) NoErr (mh er) →
      WSs X' (b₀ :: suite) { nx := fun σ2 H2 => TurnE E B' Q Inv (σ2.set i none) H2, rt := D.rt, bk := fun _ _ => False, ct := fun _ _ => False } (σ.set i (some (.ref p.1))) H')
    (hd : ∀ a σ2 own2 B2 H2, Inv a σ2 own2 B2 → Stt E own2 B2 H2 → Ex B B2 → Fin P NoErr (kn a) → WSs X rest D σ2 H2) (hdb : (x == ("__debug__" : Str)) = false := by decide) :
    WSs X (.Try body [.ExceptHandler (some (.Name x np)) (some n) (b₀ :: suite) p'] [] [] pos :: rest) D σ H := by
  obtain ⟨Cc, m, q⟩ := EA
  exact s_try TX C L.ix hln ⟨hg, hdb, .inl m⟩ S0 F q Inv hb hs hd
end
theorem Scp.kind {X : Cx} {N : List Str} {sc : Scope} {t : List (Str × NameKind)} {x : Str} {kd : NameKind} (V : Scp X N sc) (h : nmOk sc t = true) (j : Nat) (hj : t[j]? = some (x, kd) := by rfl) : X.env.kindOf x = some kd := by
  obtain ⟨q1, _⟩ := nmOk.at h hj
  show X.env.scope.names.lookup x = _
  rw [V.sc, q1]
theorem Res.sure_ok {α β : Type} {m : Res α} {f : α → Res β} {y : β} (h : m.sure.bind f = .ok y) : ∃ x, m = .ok x ∧ f x = .ok y := by
  cases m with
  | ok x => exact ⟨x, rfl, h⟩
  | err e => cases h
  | stuck => cases h
end Sg

namespace Sg
open PySem PySem.Spec PyProof.Rows L2

/-! ### classes with an own __init__ of one field -/
/-- the base class's text -/
structure FeK (K : PySem.W.Frag) (CF : Addr) : Prop where
  sg : PySem.W.specialIn K (.ref CF) "__getattribute__" = some (some (.builtin "type.__getattribute__"))
  rd : PySem.W.readsIn K CF (.type "type") = true
  fc : PySem.W.findCls K (.ref CF) (.type "type") "__init__" = some (.val (.builtin "ValueError.__init__"))
section
variable {X : Cx} {σ : L2.St} {H : Hp} {es : List Expr} {e : Expr} {p p1 p2 pos : Pos} {ta : TA}
theorem pe_feI {pl : Sem Bool} {n : Str} {CF : Addr} (FK : FeK X.K CF) (hg : Gl X n) (hm : X.mg n = some (.ref CF)) (hdb : (n == ("__debug__" : Str)) = false) (ha : PA X (e :: es) ta)
    (hc : eval (.Call (.Attribute (.Name n p1) "__init__" p2) (e :: es) [] pos) X.env = (do
      let ov ← eval (.Name n p1) X.env
      standAt p2.atName
      let (f, first) ← holding [ov] (getMethod ov "__init__" pl)
      callWith pos f first (backTo pos (starEach (e :: es) X.env)) (backToKw pos (keywordEach [] X.env))) := by rfl)
    (he : starEach (e :: es) X.env = (false, eval e X.env) :: starEach es X.env := by rfl) (hpl : (backTo pos (starEach es X.env)).any (·.1) = false := by rfl) :
    PE X (.Call (.Attribute (.Name n p1) "__init__" p2) (e :: es) [] pos) (tVeI X.K ta) := by
  constructor
  intro pins s σ H Q I h
  refine PySem.W.methodCall_KW (ld_glob I hg hm ?_ hdb) hc
  refine PySem.W.method_cls I.kIn FK.sg (PySem.W.cls_value I.kIn FK.rd FK.fc (by decide +kernel) ?_)
  refine PyProof.Rows.callWith_method1 (thn (ha.run pos pins _ σ H _ (I.tok _) h) fun us s2 hh => ?_) he hpl
  obtain ⟨vs, H1, I1, r1, a, C, ws, ev, hl, T, ea, q⟩ := hh
  subst ev
  cases r1 with
  | @cons _ u0 _ ur ra rw' =>
    cases (show u0 = Value.ref a from ra)
    refine oinit_ok T I1 ea ?_ fun s' J => ⟨.non, H1, J, rfl, q⟩
    have := Paired.length rw'
    rw [sizeLine_eq]
    omega
end
/-- what such an __init__ does -/
def SpE1 (f : Str) : Sp := fun vs H Q _ => ∃ (a C : Addr) (K : PySem.W.Frag) (v : V), vs = [.ref a, v] ∧ OexC K C ∧ PySem.W.findIn K (.ref C) f = some none ∧ H a = some (exo a C none) ∧
  ∀ dx, H dx = none → dx ≠ a → Q .non (upd (upd H dx (exd dx [(f, v)])) a (exo a C (some dx)))
/-- the promise with the written part of the text -/
def SpE (K : PySem.W.Frag) (f : Str) : Sp := fun vs H Q _ => ∃ (a C : Addr) (v : V), vs = [.ref a, v] ∧ OexC K C ∧ PySem.W.findIn K (.ref C) f = some none ∧ H a = some (exo a C none) ∧
  ∀ dx, H dx = none → dx ≠ a → Q .non (upd (upd H dx (exd dx [(f, v)])) a (exo a C (some dx)))
section
variable {P : Program} {w : World} {K : PySem.W.Frag} {mg : Str → Option Value} {base : Heap}
/-- def __init__(self, x): Base.__init__(self, text); self.f = x -/
theorem ini_ok {qual fl an msg : Str} {st : Stmt} {f CF : Addr} {fd : FuncData} {k j : Nat} {p0 p1 p2 p3 p4 p5 p6 p7 p8 p9 : Pos} (F : Fun K "__init__" qual st f fd) (S : FnScope ["self", an] ["self", an] (defScope st)) (tb : nmOk (defScope st) [("self", .local), (an, .local), ("FormError", .globalImplicit)] = true)
    (hb : defBody st = [.Expr (.Call (.Attribute (.Name "FormError" p0) "__init__" p1) [.Name "self" p2, .Constant (.str msg) j p3] [] p4) p5, .Assign [.Attribute (.Name "self" p6) fl p7] (.Name an p8) p9])
    (FK : FeK K CF) (hm : mg "FormError" = some (.ref CF))
    (hc : ∀ env : Env, ∃ pl : Sem Bool, eval (.Call (.Attribute (.Name "FormError" p0) "__init__" p1) [.Name "self" p2, .Constant (.str msg) j p3] [] p4) env = (do
      let ov ← eval (.Name "FormError" p0) env
      standAt p1.atName
      let (f, first) ← holding [ov] (getMethod ov "__init__" pl)
      callWith p4 f first (backTo p4 (starEach [.Name "self" p2, .Constant (.str msg) j p3] env)) (backToKw p4 (keywordEach [] env)))) : FnOk P w K mg base CX0 (k + 1) f fd ["self", an] (SpE K fl) := by
  refine F.ok S (fun vs H Q E h => ?_) (fun cdv A outer s H vs Q E hr h => ?_)
  · obtain ⟨a, C, v, rfl, _⟩ := h
    rfl
  obtain ⟨a, C, v, rfl, T, hno, ea, q⟩ := h
  have V : Scp ((cxOf CX0 P w K mg base ["self", an] qual (defScope st) f cdv A outer s H E).nox) ["self", an] (defScope st) := ⟨rfl, rfl⟩
  have hs : ∀ pq, PE _ (.Name "self" pq) (tVar 0) := fun pq => V.var (pos := pq) tb 0 0
  have hx : ∀ pq, PE _ (.Name an pq) (tVar 1) := fun pq => V.var (pos := pq) tb 1 1
  obtain ⟨pl, hpl⟩ := hc ((cxOf CX0 P w K mg base ["self", an] qual (defScope st) f cdv A outer s H E).nox).env
  rw [hb]
  refine ⟨_, pss_cons (ps_expr (pe_feI (pl := pl) (hc := hpl) FK (V.gl tb 2) hm (by decide) (pa_cons (hs _) (pa_cons pe_str pa_nil)))) (pss_cons (ps_ost (hs _) (hx _)) pss_nil), ?_⟩
  refine ⟨.ref a, rfl, a, C, [.str msg], rfl, Nat.le_of_ble_eq_true rfl, T, ea, ?_⟩
  exact ⟨v, rfl, .ref a, rfl, a, C, rfl, T, hno, .inl ⟨ea, fun dx hd hn => q dx hd hn⟩⟩
end
/-- C(v), a class with such an __init__: its context is None -/
theorem pmkN {X : Cx} {CX : CXT} {x : Str} {e : Expr} {es : List Expr} {ta : TA} {p pos : Pos} {C fI : Addr} {k : Nat} {fd : FuncData} {ps : List Str} {sp : Sp} (T : OexC X.K C) (iC : PySem.W.findIn X.K (.ref C) "__init__" = some (some (.ref fI))) (tI : PySem.W.typeIn X.K (.ref fI) = some (.type "function"))
    (F1 : FnOk X.prog X.w X.K X.mg X.base CX k fI fd ps sp) (hr : Room (k + 1) X.A) (hb : Binds X.K fd ps []) (hx : Passes CX X (fun _ _ _ => False)) (hg : Gl X x) (hm : X.mg x = some (.ref C)) (ha : PA X (e :: es) ta)
    (hdb : (x == ("__debug__" : Str)) = false) (he : starEach (e :: es) X.env = (false, eval e X.env) :: starEach es X.env := by rfl) (hpl : (backTo pos (starEach es X.env)).any (·.1) = false := by rfl) :
    L2N.PMk X (.Call (.Name x p) (e :: es) [] pos) (tMkO C sp [] ta) := by
  intro pins s σ H Q I h
  have TC := T.cls
  obtain ⟨nm, q, N, bs, bm, sn, sub, ab, col, dd, k0, k1, k2, k3, k5, hC, hbm⟩ := TC
  refine wpAny_Call_Name_kw (ld_glob I hg hm (PySem.W.callWith_K (h₀ := X.base) I.ok.mod.kin T.kC (thn (ha.run pos pins s σ H _ I h) fun us s1 hh => ?_) he hpl) hdb)
  obtain ⟨vs, H1, I1, r1, hz, q1⟩ := hh
  refine ⟨I1.kIn, ?_⟩
  obtain ⟨hp, g, dr, tk, os⟩ := s1
  show wpAny _ _ (call (.ref C) us) _ _ _
  have up : hp.objs.size ≤ hp.objs.size + 1 := Nat.le_succ _
  have free : H1 (hp.objs.size + 1) = none := I1.hok.fresh up
  have keeps : ∀ b o, hp.get? b = some o → ((hp.push (PySem.W.kdv_tup us)).push (PySem.HandSPX.excO C hp.objs.size)).get? b = some o := fun b o z => Heap.get?_push_of_some _ (Heap.get?_push_of_some _ z)
  have made : ((hp.push (PySem.W.kdv_tup us)).push (PySem.HandSPX.excO C hp.objs.size)).get? (hp.objs.size + 1) = some (PySem.HandSPX.excO C hp.objs.size) := by heap_get
  have I2 := I1.laid (t' := tk) (a := hp.objs.size + 1) (o := exo (hp.objs.size + 1) C none) keeps up (exo_ok made)
  have hq := q1 (hp.objs.size + 1) free
  rw [List.append_nil] at hq
  have rv2 : Vals (V.ref (hp.objs.size + 1) :: vs) (Value.ref (hp.objs.size + 1) :: us) := .cons rfl r1
  have len2 : (Value.ref (hp.objs.size + 1) :: us ++ []).length = ps.length := by
    rw [List.append_nil, ← rv2.length]
    exact F1.len _ _ _ _ hq
  have small : us.length ≤ sizeLine := by
    have := Paired.length r1
    rw [sizeLine_eq]
    omega
  have bnd := hb _ (Value.ref (hp.objs.size + 1) :: us) I2.kIn len2
  rw [List.append_nil] at bnd
  have run := F1.run _ X.stack _ _ ⟨Value.ref (hp.objs.size + 1) :: us, []⟩ (Value.ref (hp.objs.size + 1) :: us) _ _ (fun _ _ _ => False) (hr.make C us []) (I2.env0.make C us []) bnd rv2 hq
  refine wpAny_call (PySem.HandSPX.call_own F.excBase_ValueError (fun Y => PySem.HandSPX.refsVE_contains Y bm hbm) (I1.kIn _ _ hC) (PySem.W.looks_findIn I1.kIn iC) (fun self => PySem.W.bind_fn I1.kIn self tI) small (codeAny_mono run fun r s' hr' => ?_))
  cases r with
  | error er => exact hx pins σ _ _ er s' I2 hr'
  | ok fl =>
    cases fl with
    | brk => exact hr'.elim
    | cont => exact hr'.elim
    | next => exact hr'.elim
    | ret u =>
      obtain ⟨v, H2, os2, bare2, un2, hok2, rv, ev, d, fs, ea, ed, hd1, q2⟩ := hr'
      cases ev
      obtain ⟨h2, g2, d2, t2, os'⟩ := s'
      obtain ⟨t0, G, J, kG, ge, hoe, na⟩ := mk_end0 (d2 := d2) (t2 := t2) I1 up keeps un2 hok2 os2 bare2 ea ed hd1
      exact ⟨rv, hp.objs.size + 1, _, _, ⟨G, g2, d2, t2, os'⟩, _, .ref C, some d, rfl, J, kG, ge, hoe, ⟨rfl, rfl, fun vs hv => by cases hv; rfl⟩, rfl, rfl, na, rfl, bare2, raises_own T.exC T.tyC, q2⟩
/-- a class with an __init__ of the field f -/
def RzI (P : Program) (w : World) (K : PySem.W.Frag) (mg : MG) (base : Heap) (c f : Str) (ps : List Str) : Prop := ∃ (C fI : Addr) (fd : FuncData), mg c = some (.ref C) ∧ OexC K C ∧ PySem.W.findIn K (.ref C) "__init__" = some (some (.ref fI)) ∧ PySem.W.typeIn K (.ref fI) = some (.type "function") ∧ PySem.W.findIn K (.ref C) f = some none ∧
  FnOk P w K mg base CX0 1 fI fd ps (SpE K f) ∧ Binds K fd ps []
theorem Tr.rzi {X X' : Cx} {c f : Str} {ps : List Str} (t : Tr X X') (h : RzI X.prog X.w X.K X.mg X.base c f ps) : RzI X'.prog X'.w X'.K X'.mg X'.base c f ps := by
  rw [t.pr, t.w, t.K, t.mg, t.base]
  exact h
section
variable {X : Cx} {E : Ent} {own new own' : Own} {B H B' H' : Hp} {σ : L2.St} {α β γ τ ρ δ : Type} {R : Rel α} {S : Rel β} {T : Rel γ} {e a b c o it : Expr} {x : α} {y : β} {q pos pos' apos : Pos} {i j k k0 : Nat} {z w : Bool} {xs : List α} {es : List Expr} {p : Addr × Obj}
variable {n m : Str} {rest body other : List Stmt} {D : Ends} {P : ρ → Prop} {Er : Err → Prop} {ps : List Str} {A : AR} {er : Err}
theorem s_raise1 {cn f : Str} {u : Int} {p1 p3 : Pos} (XO : XOk X E own B σ Er) (C : Cok X k) (hk : 2 ≤ k) (hz : RzI X.prog X.w X.K X.mg X.base cn f ps) (hg : Gl X cn) (S0 : Stt E own B H) (he : EvB X E own B H σ e rInt u) (hE : Er ⟨cn, [(f, .int u)]⟩) (hdb : (cn == ("__debug__" : Str)) = false := by decide)
    (hs : starEach (e :: []) X.env = (false, eval e X.env) :: starEach [] X.env := by rfl) : WSs X (.Raise (some (.Call (.Name cn p1) [e] [] p3)) none pos :: rest) D σ H := by
  obtain ⟨W, tk, hW⟩ := XO
  obtain ⟨C0, fI, fd, m1, T, iC, tI, hno, F1, hb⟩ := hz
  refine WSs.cons (L2N.ps_raise C.calm tk (pmkN T iC tI F1 (C.room.mono hk) hb (fun _ _ _ _ _ _ _ z => z.elim) hg m1 (pa_cons peW pa_nil hs) hdb hs)) (he B H S0 (Ex.refl _) (Ex.refl _) _ fun v B2 H2 S2 e1 _ r => ⟨Nat.le_of_ble_eq_true rfl, fun a ha => ?_⟩)
  have r : v = .int u := r
  subst r
  refine ⟨a, C0, .int u, rfl, T, hno, upd_same, fun dx hd hn => ⟨rfl, dx, [(f, .int u)], upd_same, by rw [upd_ne hn, upd_same], by rw [← hd, upd_ne hn], ?_⟩⟩
  have hd2 : H2 dx = none := by rw [← hd, upd_ne hn]
  have eH : upd (del (upd (upd (upd H2 a (exo a C0 none)) dx (exd dx [(f, V.int u)])) a (exo a C0 (some dx))) a) dx (.xd [(f, V.int u)]) = upd H2 dx (.xd [(f, V.int u)]) := by
    funext y
    by_cases hy : y = dx
    · rw [hy, upd_same, upd_same]
    · rw [upd_ne hy, upd_ne hy]
      by_cases ha' : y = a
      · rw [ha', del_same, ha]
      · rw [del_ne ha', upd_ne ha', upd_ne hy, upd_ne ha']
  rw [eH]
  exact hW _ hE _ _ _ _ (S2.lay hd2) (e1.trans (S2.layB hd2).ex) ⟨⟨C0, m1, rfl⟩, .inr ⟨dx, [(f, .int u)], rfl, upd_same, .cons ⟨rfl, rfl⟩ .nil⟩⟩

/-! ### its fields -/
def fldI (e : Err) (f : Str) : Option Int := match e.fs.lookup f with
  | some (.int i) => some i
  | _ => none
/-- no class that comes has the field's name for itself -/
def NoFld (K : PySem.W.Frag) (mg : MG) (RL : List Str) (f : Str) : Prop := ∀ cn, RL.contains cn = true → ∃ C, mg cn = some (.ref C) ∧ IsK K C ∧ PySem.W.findIn K (.ref C) f = some none
theorem Tr.noFld {X X' : Cx} {RL : List Str} {D : Str} (t : Tr X X') (h : NoFld X.K X.mg RL D) : NoFld X'.K X'.mg RL D := by rw [t.K, t.mg]; exact h
theorem fld_look {Bq : Hp} {f : Str} {u : Int} : ∀ {fv : List (Str × V)} {fs : List (Str × ED)}, Paired (fun (p : Str × V) (q : Str × ED) => p.1 = q.1 ∧ EDv Bq p.2 q.2) fv fs → fs.lookup f = some (.int u) → fv.lookup f = some (.int u)
  | _, _, .nil, h => by cases h
  | _, _, .cons (a := a) (b := b) h r, hl => by
    obtain ⟨a1, a2⟩ := a
    obtain ⟨b1, b2⟩ := b
    obtain ⟨h1, h2⟩ := h
    have h1 : a1 = b1 := h1
    subst h1
    rw [List.lookup_cons] at hl ⊢
    cases q : f == a1 with
    | true =>
      rw [q] at hl
      cases hl
      exact congrArg some h2
    | false =>
      rw [q] at hl
      exact fld_look r hl
theorem ev_fldI {f : Str} {u : Int} {pn : Pos} {RL : List Str} (C : Hok X k0 p) (hp : PE X a (tVar i)) (h : σ[i]? = some (some (.ref p.1))) (hx : ExP X.mg B p er) (hl : RL.contains er.cls = true) (NF : NoFld X.K X.mg RL f) (hf : fldI er f = some u) (hb : attributeBase a f X.env (eval a X.env) = eval a X.env := by rfl) :
    EvB X E own B H σ (.Attribute a f pn) rInt u := fun B1 H1 S1 e1 e2 Q k2 => by
  have PEx : PE X (.Attribute a f pn) (fun σ H Q => (∃ v, σ[i]? = some (some v) ∧ v = .ref p.1) ∧ ExP X.mg H p er ∧ Q (.int u) H) := by
    constructor
    intro pins s σ H Q I hh
    obtain ⟨⟨v, h1, rfl⟩, h2, h3⟩ := hh
    refine attr_of hb (thn (hp.run pins s σ H (fun v H' => v = .ref p.1 ∧ H' = H) I ⟨_, h1, rfl, rfl⟩) fun w s1 hw => ?_)
    obtain ⟨v, H1, I1, rv, rfl, rfl⟩ := hw
    cases (show w = Value.ref p.1 from rv)
    obtain ⟨D0, m1, T, hno⟩ := NF _ hl
    obtain ⟨cls, d, q1, q2, ⟨⟨C2, c1, c2⟩, q4⟩⟩ := h2
    rw [m1] at c1
    cases c1
    obtain ⟨od, J, hod⟩ := instAt_of I1.hok (I1.pin p (List.mem_append.mpr (.inl C.mem))).1 q1 q2 c2 q4
    have hlk : er.fs.lookup f = some (.int u) := by
      unfold fldI at hf
      split at hf
      · rename_i i hi
        cases hf
        exact hi
      · cases hf
    rcases hod with ⟨z1, _, _⟩ | ⟨dx, ob, fv, mA, z1, z2, z3, z4, z5, z6⟩
    · rw [z1] at hlk
      cases hlk
    · have hlv := fld_look z6 hlk
      have := z5 f
      rw [hlv] at this
      obtain ⟨u2, hu2, ru2⟩ := RelO.some_of (v := V.int u) (o := mA f) this
      subst z2
      exact HandSPX.exc_get I1.kIn J T.hga T.hgt T.hsub (PySem.W.findObj_own T.hdC hno rfl (by rw [z4, hu2])) (handed_of ru2) ⟨.int u, _, I1.tok _, ru2, h3⟩
  exact WE.of PEx ⟨⟨_, h, rfl⟩, (hx.mono e1).mono S1.bh.ex, k2 _ B1 H1 S1 (Ex.refl _) (Ex.refl _) rfl⟩

/-! ### isinstance of it, a tuple of classes asked for -/
/-- their names, their classes -/
def IsAllT (K : PySem.W.Frag) (mg : MG) (RL Ds : List Str) (L : List Str) : Prop := ∃ cs : List Addr, Paired (fun (d : Str) (c : Addr) => mg d = some (.ref c)) Ds cs ∧ ∀ cn, RL.contains cn = true → ∃ C, mg cn = some (.ref C) ∧ IsK K C ∧ PySem.W.kitAny K (.ref C) (cs.map Value.ref) = some (L.contains cn)
theorem Tr.isAT {X X' : Cx} {RL L D : List Str} (t : Tr X X') (h : IsAllT X.K X.mg RL D L) : IsAllT X'.K X'.mg RL D L := by rw [t.K, t.mg]; exact h
theorem kany_t {K : PySem.W.Frag} {t c : Value} {r : List Value} (h : PySem.W.kitOne K t c = some true) : PySem.W.kitAny K t (c :: r) = some true := by
  unfold PySem.W.kitAny
  rw [h]
theorem kany_f {K : PySem.W.Frag} {t c : Value} {r : List Value} {b : Bool} (h : PySem.W.kitOne K t c = some false) (g : PySem.W.kitAny K t r = some b) : PySem.W.kitAny K t (c :: r) = some b := by
  unfold PySem.W.kitAny
  rw [h]
  exact g
end
end Sg

namespace Sg
open PySem PySem.Spec PyProof.Rows L2

/-! ### any(a list) while an exception is handled -/
section
variable {prog : Program} {w : World} {A : Around} {E : Value → Shared → Prop} {s : Shared}
theorem hot_list_end {it l x1 : Addr} {i : Nat} {items : Array Value} {Q : Option Value → Shared → Prop} (hot : HotX.HotAt A x1 s.heap) (hne : x1 ≠ it) (hit : s.heap.IsListIter it l i) (hl : s.heap.IsList l items) (hx : items[i]? = none)
    (hQ : ∀ h', Heap.ExtBut it s.heap h' → Q none { s with heap := h' }) : wpAny (model prog w) A (pyNext (.ref it)) Q E s := by
  obtain ⟨hh, o1, vs1, g1, d1, c1⟩ := hot
  obtain ⟨ol, hol, _, nl, hdl⟩ := hl
  have hit0 := hit
  obtain ⟨o, ho, hc, hd⟩ := hit
  unfold pyNext
  refine wpAny_bind (wpAny_attempt (wpAny_callSpecial?_slot (name := Str.ofString "__next__") hit0.typeIs slot_listiter_next (wpAny_call_entry slot_listiter_next hit0.typeIs entry_listiter_next ?_ (args_listiter_next _))))
  show wpAny _ _ (field (.ref it) 0 >>= _) _ _ s
  refine wpAny_bind (wpAny_field ho hd (x := .ref l) rfl ?_)
  show wpAny _ _ (if (Value.ref l == Value.none) = true then _ else _) _ _ s
  have hln : (Value.ref l == Value.none) = false := rfl
  rw [hln, if_neg Bool.false_ne_true]
  show wpAny _ _ (field (.ref it) 1 >>= _) _ _ s
  refine wpAny_bind (wpAny_field ho hd (x := .int i 0) rfl ?_)
  show wpAny _ _ (seqItems? (.ref l) >>= _) _ _ s
  refine wpAny_bind (wpAny_seqItems hol hdl ?_)
  simp only [Int.toNat_natCast, hx]
  have g2 : (s.heap.update it (Obj.mapFields (·.setIfInBounds 0 Value.none))).get? x1 = some o1 := (Heap.get?_update_other _ _ (Ne.symm hne)).trans g1
  refine wpAny_bind (wpAny_rule (wpAny_bind (wpAny_setField ho hd (by simp) ?_)))
  show wpAny _ _ (newExc (.type "StopIteration") [] >>= _) _ _ _
  refine wpAny_bind ?_
  simp only [newExc, newTuple]
  refine wpAny_bind (wpAny_newObj_type ?_ (by size_fits))
  refine wpAny_bind (m := firstArgMember _ _) (wpAny_of_eq (a := Value.none) (by first | rfl | (simp only [firstArgMember]; rfl)) ?_)
  refine wpAny_newObj_type ?_ (by size_fits)
  refine HotX.raiseNew_hot ⟨hh, o1, vs1, Heap.get?_push_of_some _ (Heap.get?_push_of_some _ g2), d1, c1⟩ (Nat.ne_of_lt (Heap.lt_size (Heap.get?_push_of_some _ g2))) (Heap.get?_push_size _ rfl) rfl (by first | (simp; done) | (simp; omega) | (simp only [Array.size_append]; simp; omega)) ?_
  refine wpAny_bind (wpAny_isInstance (T := "StopIteration") (b := true) ⟨_, Heap.get?_update_self _ (Heap.get?_push_size _ rfl) rfl, rfl⟩ isSubtype_stop (wpAny_pure (hQ _ fun b u hb e => ?_)))
  have e2 : (s.heap.update it (Obj.mapFields (·.setIfInBounds 0 Value.none))).get? b = some u := (Heap.get?_update_other _ _ (Ne.symm hb)).trans e
  rw [Heap.get?_update_other _ _ (Nat.ne_of_gt (Heap.lt_size (Heap.get?_push_of_some _ e2)))]
  exact Heap.get?_push_of_some _ (Heap.get?_push_of_some _ e2)
theorem walks_hot {p : Addr × Obj} (hot : L2H.Hot1 A p) (I ax : Addr) (hne : ax ≠ I) (hp : p.1 ≠ I) (items : Array Value) :
    Walks prog w A I [I, ax, p.1] [I] items.size (fun i v => items[i]? = some v) (fun i h => (h.IsListIter I ax i ∧ h.IsList ax items) ∧ h.get? p.1 = some p.2) where
  sub := fun b hb => by simp at hb; simp [hb]
  frame := fun _ _ _ st hk => ⟨⟨st.1.1.at fun o e => hk I (by simp) o e, st.1.2.at fun o e => hk ax (by simp) o e⟩, hk p.1 (by simp) _ st.2⟩
  item := fun i s Q E hi st hQ => by
    refine wpAny_pyNext_list_item st.1.1 st.1.2 (x := items[i]) (by simp [hi]) fun h' hit' hs' => ?_
    exact hQ _ h' s.toks (by simp [hi]) ⟨⟨hit', st.1.2.extBut hs'.extBut hne⟩, hs'.extBut _ _ hp st.2⟩ fun b o hb e => hs'.extBut b o (fun h => hb (by simp [h])) e
  done := fun s Q E st hQ => by
    obtain ⟨hh, vs, e1, e2⟩ := hot
    exact hot_list_end ⟨hh, p.2, vs, st.2, e1, e2⟩ hp st.1.1 st.1.2 (by simp) fun h' he' => hQ h' s.toks fun b o hb e => he' b o (fun h => hb (by simp [h])) e
  self := fun _ _ _ _ st hQ => wpAny_pyIter_listiter st.1.1 hQ
end
section
variable {X : Cx} {E : Ent} {own new own' : Own} {B H B' H' : Hp} {σ : L2.St} {α β γ τ ρ δ : Type} {R : Rel α} {S : Rel β} {T : Rel γ} {e a b c o it : Expr} {x : α} {y : β} {q pos pos' apos : Pos} {i j k k0 : Nat} {z w : Bool} {xs : List α} {es : List Expr} {p : Addr × Obj}
variable {n m : Str} {rest body other : List Stmt} {D : Ends} {P : ρ → Prop} {Er : Err → Prop} {ps : List Str} {A : AR} {er : Err}
theorem cr_anyH (C : Hok X k p) : CallR X (.builtin "any") (L2.rAny X.K) := by
  intro pins s σ H vs us Q I r h
  obtain ⟨ax, bs, rfl, hs, q⟩ := h
  obtain ⟨its, rv, hl, _⟩ := I.list hs
  rw [Vals.ref1 r]
  have hb := rv.bls
  have P1 := I.pin p (List.mem_append.mpr (.inl C.mem))
  refine call_any_walk (iter_any hl.isList fun s₂ e2 st hne => ?_)
  subst e2
  have hp : p.1 ≠ s.heap.objs.size := Nat.ne_of_lt (Heap.lt_size P1.1)
  refine ⟨_, _, _, _, _, _, _, rfl, walks_hot (A := X.A.in1) (p := p) ⟨C.hot.1, C.hot.2⟩ _ ax hne hp its.toArray, ⟨st, Heap.get?_push_of_some _ P1.1⟩, truth_bools hb, fun h' tk hk => ?_⟩
  refine ⟨.bl _, H, I.kept fun b o eo => hk b o (fun hmem => ?_) (Heap.get?_push_of_some _ eo), ?_, q⟩
  · rw [List.mem_singleton] at hmem
    exact absurd (hmem ▸ Heap.lt_size eo) (Nat.lt_irrefl _)
  · show Value.bool _ = Value.bool _
    rw [← L2.any_range, hb, List.size_toArray, List.length_map]
theorem ev_anyH {bs : List Bool} (C : Hok X k p) (hg : Gl X "any") (hm : X.mg "any" = none) (ha : EvB X E own B H σ a (rLst rBool) bs) (hs : St1 X a := by rfl) : EvB X E own B H σ (.Call (.Name "any" q) [a] [] pos) rBool (bs.any id) :=
  ev_b1 (f := fun l => List.any l id) (pe_callB (cr_anyH C) hg hm (by decide +kernel) (pa1 hs) (he := hs)) ha fun H1 v Q h k => by
    obtain ⟨p, vs, h1, h2, h3⟩ := h
    rw [bls_rel h3] at h2
    exact ⟨p, _, by rw [h1], .inl h2, k _ rfl⟩

/-! ### isinstance(e, (A, B, ..)) -/
/-- a class by its name -/
def rCls (mg : MG) : Rel Str := ⟨fun _ v d => ∃ C, mg d = some (.ref C) ∧ v = .ref C, fun _ h => h⟩
theorem ee_cls {d : Str} (hg : Gl X d) (hm : ∃ C, X.mg d = some (.ref C)) (hdb : (d == ("__debug__" : Str)) = false := by decide) : EvE X E own B H σ (.Name d q) (rCls X.mg) d := fun B1 H1 S1 e1 e2 Q k => by
  obtain ⟨C, hm⟩ := hm
  exact WE.of (pe_gref hg hm hdb) (k _ B1 H1 S1 (Ex.refl _) (Ex.refl _) ⟨C, hm, rfl⟩)
def rIsXT (K : PySem.W.Frag) (mg : MG) (p : Addr × Obj) (er : Err) : List V → Hp → VK → Prop := fun xs H Q => ∃ (D tp : Addr) (cs : List Addr) (b : Bool), xs = [.ref p.1, .ref tp] ∧ H tp = some (.tup (cs.map V.ref)) ∧ mg er.cls = some (.ref D) ∧ IsK K D ∧ ExP mg H p er ∧ PySem.W.kitAny K (.ref D) (cs.map Value.ref) = some b ∧ Q (.bl b) H
theorem refs_val : ∀ {cs : List Addr} {its : List Value}, Vals (cs.map V.ref) its → its = cs.map Value.ref
  | [], _, .nil => rfl
  | c :: cs, _, .cons (b := u) h r => by
    have h : u = Value.ref c := h
    rw [h, refs_val r]
    rfl
theorem cr_isXT (IB : IsB X.K) (C : Hok X k0 p) : CallR X (.builtin "isinstance") (rIsXT X.K X.mg p er) := by
  intro pins s σ H xs us Q I r h
  obtain ⟨D, tp, cs, b, rfl, ht, hmg, T, hx, hk, q⟩ := h
  cases r with
  | cons rx rr =>
    cases rr with
    | cons rt rr =>
      cases rr
      cases rx
      cases rt
      obtain ⟨cls, d, h1, h2, ⟨⟨C2, c1, c2⟩, h4⟩⟩ := hx
      have eD : C2 = D := by
        rw [hmg] at c1
        cases c1
        rfl
      subst eD
      obtain ⟨od, J, _⟩ := instAt_of (I.hok) (I.pin p (List.mem_append.mpr (.inl C.mem))).1 h1 h2 c2 h4
      obtain ⟨its, rv, ⟨o, g, hc, n, hd⟩, _⟩ := I.tuple (SqT.of ht)
      have ei := refs_val rv
      obtain ⟨oc, odd, oda, osl⟩ := o
      dsimp only at hc hd
      subst hc hd ei
      exact PySem.W.kia_tup (PySem.W.kitx_exc T.hcl T.hga T.hgt T.hsub T.ha IB.hn IB.ht T.hm) I.kIn J g hk (fun z => nomatch z) fun tk => ⟨.bl b, H, I.kept (t' := tk) fun _ _ z => z, rfl, q⟩
theorem cls_refs {mg : MG} {Hq : Hp} {Ds : List Str} {cs : List Addr} {vs : List V} (h1 : Paired (fun (d : Str) (c : Addr) => mg d = some (.ref c)) Ds cs) (h2 : Paired ((rCls mg).r Hq) vs Ds) : vs = cs.map V.ref := by
  induction h1 generalizing vs with
  | nil => cases h2; rfl
  | cons a r ih =>
    cases h2 with
    | cons b s =>
      obtain ⟨C, m, e⟩ := b
      rw [a] at m
      cases m
      rw [e, ih s]
      rfl
theorem ev_isXT {te : Expr} {Ds : List Str} {RL L : List Str} (IB : IsB X.K) (C : Hok X k0 p) (hg : Gl X "isinstance") (hm : X.mg "isinstance" = none) (hp : PE X a (tVar i)) (h : σ[i]? = some (some (.ref p.1))) (hx : ExP X.mg B p er) (hl : RL.contains er.cls = true) (IT : IsAllT X.K X.mg RL Ds L) (ht : EvE X E own B H σ te (rTup (rCls X.mg)) Ds)
    (hs : starEach (a :: [te]) X.env = (false, eval a X.env) :: starEach [te] X.env := by rfl) (hs2 : St1 X te := by rfl) (hpl : (backTo pos (starEach [te] X.env)).any (·.1) = false := by rfl) :
    EvB X E own B H σ (.Call (.Name "isinstance" q) [a, te] [] pos) rBool (L.contains er.cls) := fun B1 H1 S1 e1 e2 Q k => by
  obtain ⟨cs, hcs, IT⟩ := IT
  obtain ⟨D1, m1, T, hk⟩ := IT _ hl
  refine WE.of (pe_callB (cr_isXT (er := er) IB C) hg hm (by decide +kernel) (pa_cons hp (pa_cons peW pa_nil hs2) hs) (he := hs) (hpl := hpl)) ⟨.ref p.1, h, ht B1 H1 S1 e1 e2 _ fun v B2 H2 S2 e3 e4 r => ?_⟩
  obtain ⟨tp, vs, rfl, r2, r3⟩ := r
  have ev := cls_refs hcs r3
  subst ev
  exact ⟨D1, tp, cs, _, rfl, S2.bh _ _ r2, m1, T, (hx.mono (e1.trans e3)).mono S2.bh.ex, hk, k _ B2 H2 S2 e3 e4 rfl⟩
end
/-! ### a, b = x, y -/
theorem Scp.bk {X : Cx} {N : List Str} {sc : Scope} (V : Scp X N sc) (hk : sc.kind = .function) : X.env.blockKind = .function := by
  unfold Env.blockKind
  rw [V.sc, hk]
  rfl
def notStar : Expr → Bool
  | .Starred .. => false
  | _ => true
theorem sw_par {X : Cx} {x y : Str} {a b : Expr} {px py pt pt2 : Pos} {kt k2 : Nat} (hk : X.env.blockKind = .function) (hx : X.env.kindOf x = some .local) (hy : X.env.kindOf y = some .local) (hl : (py.line == px.line) = true) (hn : [x, y].eraseDups.length = 2)
    (ha : notStar a = true) (hb : notStar b = true) (hf : [a, b].all (foldedForSure 8) = false) (hc : [a, b].all (constantsAlone 8) = false) : swappedStores [.Tuple [.Name x px, .Name y py] kt pt] (.Tuple [a, b] k2 pt2) X.env = pure (some [x, y]) := by
  have e1 : (if (X.env.kindOf x == some .local && px.line == px.line) = true then some x else none) = some x := if_pos (by rw [hx]; simp)
  have e2 : (if (X.env.kindOf y == some .local && py.line == px.line) = true then some y else none) = some y := if_pos (by rw [hy, hl]; rfl)
  have h1 : (([Expr.Name x px, Expr.Name y py].filterMap fun | .Name id pos => if (X.env.kindOf id == some .local && pos.line == px.line) = true then some id else none | _ => none) : List Str) = [x, y] := by
    simp only [List.filterMap_cons, List.filterMap_nil, e1, e2]
  have h2 : ([a, b].any fun | .Starred .. => true | _ => false) = false := by
    have n1 : ∀ e : Expr, notStar e = true → (match e with | .Starred .. => true | _ => false) = false := fun e h => by
      cases e <;> first | rfl | cases h
    simp only [List.any_cons, List.any_nil, Bool.or_false, Bool.or_eq_false_iff]
    exact ⟨n1 a ha, n1 b hb⟩
  unfold swappedStores
  dsimp only
  split
  · rename_i h
    rw [hk] at h
    simp at h
  · split
    · rename_i h
      exact absurd (h2.symm.trans h) Bool.false_ne_true
    · split
      · rename_i h
        have h : ((([Expr.Name x px, Expr.Name y py].filterMap fun | .Name id pos => if (X.env.kindOf id == some .local && pos.line == px.line) = true then some id else none | _ => none) : List Str).length != 2 || (([Expr.Name x px, Expr.Name y py].filterMap fun | .Name id pos => if (X.env.kindOf id == some .local && pos.line == px.line) = true then some id else none | _ => none) : List Str).eraseDups.length != (([Expr.Name x px, Expr.Name y py].filterMap fun | .Name id pos => if (X.env.kindOf id == some .local && pos.line == px.line) = true then some id else none | _ => none) : List Str).length) = true := h
        rw [h1, hn] at h
        simp at h
      · split
        · rename_i h
          exact absurd (hf.symm.trans h) Bool.false_ne_true
        · split
          · rename_i h
            exact absurd (hc.symm.trans h) Bool.false_ne_true
          · exact congrArg (fun z => (pure (some z) : Sem (Option (List Str)))) h1
section
variable {X : Cx} {E : Ent} {own : Own} {B H : Hp} {σ : L2.St} {α β : Type} {R : Rel α} {S : Rel β} {a b : Expr} {x : α} {y : β} {pos : Pos} {k : Nat} {rest : List Stmt} {D : Ends}
theorem s_par {n1 n2 : Str} {i1 i2 : Nat} {p1 p2 tp p3 : Pos} {kk k2 : Nat} (C : Cok X k) (L1 : Slot X i1 n1) (L2' : Slot X i2 n2) (hne : i1 ≠ i2) (hx : X.env.kindOf n1 = some .local) (hy : X.env.kindOf n2 = some .local) (S0 : Stt E own B H) (ha : EvE X E own B H σ a R x) (hb : EvE X E own B H σ b S y)
    (hw : swappedStores [.Tuple [.Name n1 p1, .Name n2 p2] kk tp] (.Tuple [a, b] k2 p3) X.env = pure (some [n1, n2]))
    (kt : ∀ v w B' H', Stt E own B' H' → Ex B B' → R.r B' v x → S.r B' w y → WSs X rest D ((σ.set i1 (some v)).set i2 (some w)) H')
    (hs : swapsWithSole [.Tuple [.Name n1 p1, .Name n2 p2] kk tp] (.Tuple [a, b] k2 p3) pos.line X.env = pure false := by rfl) (hs1 : starEach (a :: [b]) X.env = (false, eval a X.env) :: starEach [b] X.env := by rfl) (hs2 : St1 X b := by rfl) :
    WSs X (.Assign [.Tuple [.Name n1 p1, .Name n2 p2] kk tp] (.Tuple [a, b] k2 p3) pos :: rest) D σ H :=
  WSs.cons (ps_par C.calm C.nd L1.ix L2'.ix hne hx hy (pa_cons peW (pa_cons peW pa_nil hs2) hs1) hw hs) (ha B H S0 (Ex.refl _) (Ex.refl _) _ fun v B2 H2 S2 e1 e2 r => hb B2 H2 S2 e1 e2 _ fun w B3 H3 S3 e3 e4 s =>
    ⟨v, w, rfl, kt v w B3 H3 S3 (e1.trans e3) (R.mono e3 r) s⟩)
end
end Sg

namespace Sg
open PySem PySem.Spec PyProof.Rows L2
/-! ### sorted(list of tuples) -/
/-- things that are tuples of data, all of one shape -/
class EncS {α : Type} (R : Rel α) where
  enc : α → PyData
  rd : ∀ {X : Cx} {pins : List (Addr × Obj)} {σ : L2.St} {H : Hp} {s : Shared} {v : V} {x : α} {u : Value}, Inv X pins σ H s → R.r H v x → RelV v u → Reads s.heap u (enc x) []
  dp : ∀ x, (enc x).depth ≤ 2
  al : ∀ x y, PySem.W.alike (enc x) (enc y) = true
  tp : ∀ x, ∃ d l, enc x = .tuple (d :: l)
section
variable {α : Type} {R : Rel α}
instance [EncR R] : EncS (rPr rInt R) where
  enc := fun q => .tuple [.int q.1, EncR.enc R q.2]
  rd := fun {X pins σ H s v x u} I r ru => by
    obtain ⟨p, a, b, rfl, hp, ha, hb⟩ := r
    obtain rfl : u = Value.ref p := ru
    obtain ⟨_, its, rv, o, ho, hc, n, hd⟩ := (show ObjOk X.prog X.w H s.heap p (.tup [a, b]) from I.hok p _ hp)
    refine Reads.tuple ho hc hd ?_
    cases rv with
    | cons r1 rs =>
      cases rs with
      | cons r2 rn =>
        cases rn
        have ha : _ = _ := ha
        subst ha
        obtain ⟨t, rfl⟩ := r1
        exact ReadsAll.cons (as := []) (bs := []) (.int _ _) (ReadsAll.cons (as := []) (bs := []) (EncR.rd I hb r2) .nil)
  dp := fun q => by
    show (PyData.tuple [.int q.1, EncR.enc R q.2]).depth ≤ 2
    have := EncR.dp (R := R) q.2
    rw [PyData.depth, PyData.depthAll, PyData.depthAll, PyData.depthAll, PyData.depth]
    omega
  al := fun x y => by
    show PySem.W.alike (.tuple [.int x.1, EncR.enc R x.2]) (.tuple [.int y.1, EncR.enc R y.2]) = true
    rw [PySem.W.alike, PySem.W.alikeAll, PySem.W.alikeAll, EncR.al]
    rfl
  tp := fun q => ⟨_, _, rfl⟩
instance : EncS (rT3 rInt rInt rInt) where
  enc := fun q => .tuple [.int q.1, .int q.2.1, .int q.2.2]
  rd := fun {X pins σ H s v x u} I r ru => by
    obtain ⟨p, a, b, c, rfl, hp, ha, hb, hc'⟩ := r
    obtain rfl : u = Value.ref p := ru
    obtain ⟨_, its, rv, o, ho, hc, n, hd⟩ := (show ObjOk X.prog X.w H s.heap p (.tup [a, b, c]) from I.hok p _ hp)
    refine Reads.tuple ho hc hd ?_
    cases rv with
    | cons r1 rs =>
      cases rs with
      | cons r2 rn =>
        cases rn with
        | cons r3 rm =>
          cases rm
          have ha : _ = _ := ha
          have hb : _ = _ := hb
          have hc' : _ = _ := hc'
          subst ha hb hc'
          obtain ⟨t, rfl⟩ := r1
          obtain ⟨t2, rfl⟩ := r2
          obtain ⟨t3, rfl⟩ := r3
          exact ReadsAll.cons (as := []) (bs := []) (.int _ _) (ReadsAll.cons (as := []) (bs := []) (.int _ _) (ReadsAll.cons (as := []) (bs := []) (.int _ _) .nil))
  dp := fun q => by
    show (PyData.tuple [.int q.1, .int q.2.1, .int q.2.2]).depth ≤ 2
    simp [PyData.depth, PyData.depthAll]
  al := fun x y => by
    show PySem.W.alike (.tuple [.int x.1, .int x.2.1, .int x.2.2]) (.tuple [.int y.1, .int y.2.1, .int y.2.2]) = true
    simp [PySem.W.alike, PySem.W.alikeAll]
  tp := fun q => ⟨_, _, rfl⟩
/-- the order of such things -/
def leS (R : Rel α) [EncS R] (a b : α) : Bool := PySem.W.dataLe false (EncS.enc R) a b
def rSortL (R : Rel α) [EncS R] : List V → Hp → VK → Prop := fun xs H Q => ∃ (l : Addr) (vs : List V) (es : List α), xs = [.ref l] ∧ Rd H l (.lst vs) ∧ Paired (R.r H) vs es ∧
  ∀ (l2 : Addr) (ws : List (V × α)), H l2 = none → ws.map (·.2) = es.mergeSort (leS R) → (∀ z ∈ ws, R.r H z.1 z.2) → Q (.ref l2) (upd H l2 (.lst (ws.map (·.1))))
end
section
variable {X : Cx}
theorem each_pairs {α : Type} {P : V → α → Prop} : ∀ {vs : List V} {us : List Value} {xs : List α}, Vals vs us → Paired P vs xs → PySem.W.EachIs (fun u (b : V × α) => RelV b.1 u ∧ P b.1 b.2) us (vs.zip xs)
  | _, _, _, .nil, .nil => .nil
  | _, _, _, .cons r rs, .cons p ps => .cons ⟨r, p⟩ (each_pairs rs ps)
theorem each_fst {α : Type} {P : V → α → Prop} : ∀ {us : List Value} {ps : List (V × α)}, PySem.W.EachIs (fun u (b : V × α) => RelV b.1 u ∧ P b.1 b.2) us ps → Vals (ps.map (·.1)) us ∧ ∀ z ∈ ps, P z.1 z.2
  | _, _, .nil => ⟨.nil, fun z h => nomatch h⟩
  | _, _, .cons r rs => by
    obtain ⟨h1, h2⟩ := each_fst rs
    refine ⟨.cons r.1 h1, fun z hz => ?_⟩
    rcases List.mem_cons.mp hz with rfl | hz
    · exact r.2
    · exact h2 z hz
theorem cr_sortL {α : Type} (R : Rel α) [EncS R] (hu : X.A.units + 64 < cLine) : CallR X (.builtin "sorted") (rSortL R) := by
  intro pins s σ H xs us Q I r hq
  obtain ⟨l, vs, es, rfl, hl, hp, q⟩ := hq
  obtain rfl := Vals.ref1 r
  obtain ⟨its, rvs, pl, hz⟩ := I.list (.inl hl)
  have l1 := plen hp
  obtain ⟨z1, z2, z3⟩ := paired_zip hp
  have lz : (vs.zip es).length = vs.length := by rw [List.length_zip]; omega
  refine PySem.W.sorted_data (bs := vs.zip es) (enc := fun b => EncS.enc R b.2) (R := fun u b => RelV b.1 u ∧ R.r H b.1 b.2) pl.isList (each_pairs rvs hp) ((each_pairs rvs hp).mono fun u b h => ⟨[], EncS.rd I h.2 h.1⟩) (PySem.W.AllAlike.of fun b b' => EncS.al _ _) (PySem.W.Sortable.tuples fun b => EncS.tp _) (by rw [lz]; omega) (fun b _ => ?_) fun out ho eo => ?_
  · have := EncS.dp (R := R) b.2
    show X.A.units + 2 + _ < _
    omega
  · have pm : ((vs.zip es).mergeSort (PySem.W.dataLe false fun b => EncS.enc R b.2)).Perm (vs.zip es) := List.mergeSort_perm _ _
    have ms : ((vs.zip es).mergeSort (PySem.W.dataLe false fun b => EncS.enc R b.2)).map (·.2) = es.mergeSort (leS R) := by
      refine (List.map_mergeSort (r := PySem.W.dataLe false fun b : V × α => EncS.enc R b.2) (s := leS R) (f := fun b : V × α => b.2) fun a _ b _ => rfl).trans ?_
      rw [z2]
    obtain ⟨hv, hR⟩ := each_fst eo
    generalize (vs.zip es).mergeSort (PySem.W.dataLe false fun b => EncS.enc R b.2) = ws at hv hR pm ms
    obtain ⟨c, hc⟩ := PyProof.Rows.sortedAll_at s.heap its out.toArray
    have k1 : ∀ b o, s.heap.get? b = some o → (PyProof.Rows.sortedAll s.heap its out.toArray).get? b = some o := fun _ _ => PyProof.Rows.sortedAll_old
    generalize PyProof.Rows.sortedAll s.heap its out.toArray = hF at hc k1
    have I1 : Inv X pins σ H { s with heap := hF, toks := s.toks } := I.kept (t' := s.toks) k1
    have nl : H (s.heap.objs.size + 1) = none := I.hok.fresh (Nat.le_succ _)
    have hlen : (ws.map (·.1)).length ≤ sizeLine := by
      have := pm.length_eq
      rw [List.length_map]
      omega
    have I4 := I1.take (h' := hF) (t' := s.toks) (o := .lst (ws.map (·.1))) (fun b ob _ e => e) (I.fpOk (b := s.heap.objs.size + 1) (Nat.le_succ _) nl) ⟨hlen, out, c, hv, hc⟩
    exact ⟨.ref (s.heap.objs.size + 1), _, I4, rfl, q _ ws nl ms hR⟩
end
section
variable {X : Cx} {E : Ent} {own : Own} {B H : Hp} {σ : L2.St} {α : Type} {R : Rel α} {a o : Expr} {p pos ap cp : Pos} {xs : List α} {i k : Nat} {rest : List Stmt} {D : Ends}
theorem el_sortS [EncS R] [Imm R] (hu : X.A.units + 64 < cLine) (hg : Gl X "sorted") (hm : X.mg "sorted" = none) (ha : EvB X E own B H σ a (rLst R) xs) (hs : St1 X a := by rfl) : EvL X E own B H σ (.Call (.Name "sorted" p) [a] [] pos) R (xs.mergeSort (leS R)) :=
  el_b1 (pe_callB (cr_sortL R hu) hg hm (by decide +kernel) (pa1 hs) (he := hs)) ha fun H1 v Q h k => by
    obtain ⟨l, vs, rfl, h2, h3⟩ := h
    refine ⟨l, vs, xs, rfl, h2, h3, fun l2 ws hn hw hr => ?_⟩
    have := paired_of hr
    rw [hw] at this
    exact k l2 (ws.map (·.1)) hn this
/-- x[j].clear(), x a list of one's own lists -/
theorem s_clearOL {apos : Pos} {q qj : Addr} {vs us : List V} {jj : Int} {kk} {pp pos' : Pos} (S0 : Stt E own B H) (ha : PE X o (tVar i)) (h : σ[i]? = some (some (.ref q))) (hq : (q, HO.lst vs) ∈ own) (hv : atI vs jj = some (.ref qj)) (hk : own[k]? = some (qj, .lst us))
    (kt : ∀ H', Stt E (own.set k (qj, .lst [])) B H' → WSs X rest D σ H')
    (t : BmT0 X (.Subscript o (.Constant (.int jj) kk pp) pos') "clear" apos p := by exact ⟨rfl, rfl⟩) (hw : swapsWith (.Call (.Attribute (.Subscript o (.Constant (.int jj) kk pp) pos') "clear" apos) [] [] p) none pos.line X.env = pure false := by rfl) :
    WSs X (.Expr (.Call (.Attribute (.Subscript o (.Constant (.int jj) kk pp) pos') "clear" apos) [] [] p) pos :: rest) D σ H :=
  WSs.cons (ps_expr (pe_bm0 PySem.F.plainAttrs_list PySem.F.slot_list_clear PySem.F.type_list_clear mt_clear (pe_ix ix_list ha pe_int (fun _ _ => rfl)) t.1 t.2) hw) (by
    have hj := (S0.ow _ (getE hk)).2.2
    refine ⟨.ref q, h, q, vs, jj, .ref qj, rfl, rfl, SqL.of (S0.ow _ hq).2.2, hv, .inl ⟨rfl, _, SqL.of hj⟩, qj, us, rfl, rfl, hj, kt _ (S0.put hk fun ys z => by cases z)⟩)
end
end Sg

namespace Sg
open PySem PySem.Spec PyProof.Rows L2
/-! ### lists of three unlike things -/
section
variable {α β γ δ : Type} {R : Rel α} {S : Rel β} {T : Rel γ}
def rH3 (R : Rel α) (S : Rel β) (T : Rel γ) : Rel (α × β × γ) := ⟨fun H v x => ∃ p a b c, v = .ref p ∧ Rd H p (.lst [a, b, c]) ∧ R.r H a x.1 ∧ S.r H b x.2.1 ∧ T.r H c x.2.2, fun e h => by
  obtain ⟨p, a, b, c, h1, h2, h3, h4, h5⟩ := h
  exact ⟨p, a, b, c, h1, e.rdL h2, R.mono e h3, S.mono e h4, T.mono e h5⟩⟩
instance : NN (rH3 R S T) := ⟨fun ⟨p, a, b, c, h1, _⟩ => by rw [h1]; exact fun q => by cases q⟩
instance : TyR (rH3 R S T) "list" := ⟨fun {K H v x} h => by
  obtain ⟨q, a, b, c, h1, h2 | ⟨ob, h2⟩, h3⟩ := h
  · rw [h1]; exact .base (.lst h2)
  · rw [h1]; exact .base (.frz h2)⟩
instance {K : PySem.W.Frag} [D : DatK K R] [F : DatK K S] [G : DatK K T] : DatK K (rH3 R S T) := ⟨fun x => .list [D.d x.1, F.d x.2.1, G.d x.2.2], fun h => by
    obtain ⟨p, a, b, c, h1, h2, h3, h4, h5⟩ := h
    rw [h1]
    exact .lst (.inl h2) (.cons (D.rd h3) (.cons (F.rd h4) (.cons (G.rd h5) .nil))), fun x => by
    show (PyData.canLay0 (D.d x.1) && (PyData.canLay0 (F.d x.2.1) && (PyData.canLay0 (G.d x.2.2) && true))) = true
    rw [D.lay, F.lay, G.lay] <;> rfl, max D.n (max F.n G.n) + 1, fun x => by
    show max (PyData.depth (D.d x.1)) (max (PyData.depth (F.d x.2.1)) (max (PyData.depth (G.d x.2.2)) 0)) + 1 ≤ max D.n (max F.n G.n) + 1
    have h1 := D.dep x.1
    have h2 := F.dep x.2.1
    have h3 := G.dep x.2.2
    omega, fun x y => by
    show (PyData.eqv (D.d x.1) (D.d y.1) && (PyData.eqv (F.d x.2.1) (F.d y.2.1) && (PyData.eqv (G.d x.2.2) (G.d y.2.2) && true))) = true ↔ _
    rw [Bool.and_eq_true, Bool.and_eq_true, Bool.and_true, D.eq, F.eq, G.eq]
    exact ⟨fun h => Prod.ext h.1 (Prod.ext h.2.1 h.2.2), fun h => by rw [h]; exact ⟨rfl, rfl, rfl⟩⟩⟩
instance {K : PySem.W.Frag} [DatK K R] [DatK K S] [DatK K T] : NonD K (rH3 R S T) := ⟨fun _ h => by cases h⟩
/-- a value as it is -/
def rV : Rel V := ⟨fun _ v x => v = x, fun _ h => h⟩
instance : Imm rV := ⟨fun _ h => h⟩
theorem pV {H : Hp} : ∀ vs : List V, Paired (rV.r H) vs vs
  | [] => .nil
  | v :: r => .cons rfl (pV r)
theorem pV_eq {H : Hp} : ∀ {vs us : List V}, Paired (rV.r H) vs us → vs = us
  | _, _, .nil => rfl
  | _, _, .cons h t => by rw [show _ = _ from h, pV_eq t]
/-- the thing at a place of a list -/
def rIx (vs : List V) : Rel Nat := ⟨fun _ v i => vs[i]? = some v, fun _ h => h⟩
theorem pIx3 {H : Hp} {a b c : V} : Paired ((rIx [a, b, c]).r H) [a, b, c] [0, 1, 2] := .cons rfl (.cons rfl (.cons rfl .nil))
def OwnL (own : Own) (v : V) (us : List V) : Prop := ∃ q, v = V.ref q ∧ (q, HO.lst us) ∈ own
theorem OwnL.cons {own : Own} {v : V} {us : List V} {z : Addr × HO} (h : OwnL own v us) : OwnL (z :: own) v us := by
  obtain ⟨q, h1, h2⟩ := h
  exact ⟨q, h1, List.mem_cons_of_mem _ h2⟩
theorem ownL_up {own : Own} {vs : List V} {uss : List (List V)} {z : Addr × HO} (h : Paired (OwnL own) vs uss) : Paired (OwnL (z :: own)) vs uss := pimp h fun _ _ q => q.cons
end
section
variable {X : Cx} {E : Ent} {own : Own} {B H : Hp} {σ : L2.St} {α β γ : Type} {R : Rel α} {S : Rel β} {T : Rel γ} {a b c e o : Expr} {x : α} {y : β} {u : γ} {p pos ap cp : Pos} {xs : List α} {ys : List β} {zs : List γ} {i k : Nat} {rest : List Stmt} {D : Ends}
theorem ee_h3 (ha : EvE X E own B H σ a R x) (hb : EvE X E own B H σ b S y) (hc : EvE X E own B H σ c T u) (hs1 : starEach (a :: [b, c]) X.env = (false, eval a X.env) :: starEach [b, c] X.env := by rfl) (hs2 : starEach (b :: [c]) X.env = (false, eval b X.env) :: starEach [c] X.env := by rfl) (hs3 : St1 X c := by rfl) : EvE X E own B H σ (.List [a, b, c] pos) (rH3 R S T) (x, y, u) := fun B1 H1 S1 e1 e2 Q k =>
  WE.of (pe_lst (pa_cons peW (pa_cons peW (pa_cons peW pa_nil hs3) hs2) hs1)) (ha B1 H1 S1 e1 e2 _ fun v B2 H2 S2 e3 e4 r => hb B2 H2 S2 (e1.trans e3) (e2.trans e4) _ fun w B3 H3 S3 e5 e6 s => hc B3 H3 S3 ((e1.trans e3).trans e5) ((e2.trans e4).trans e6) _ fun w2 B4 H4 S4 e7 e8 t =>
    ⟨by show 3 ≤ sizeLine; decide, fun p hp => by
      have S5 := S4.alloc hp (o := .lst [v, w, w2]) fun ys z => by cases z
      have n := (S5.ow _ (List.mem_cons_self ..)).2.1
      have xk := (Sx.new n (o := HO.lst [v, w, w2])).ex
      exact k (.ref p) _ _ S5.keep (((e3.trans e5).trans e7).trans xk) (((e4.trans e6).trans e8).trans (Sx.new hp).ex) ⟨p, v, w, w2, rfl, Rd.of upd_same, R.mono ((e5.trans e7).trans xk) r, S.mono (e7.trans xk) s, T.mono xk t⟩⟩)
/-- a list of one's own lists, looked at -/
theorem ev_olH3 {q q0 q1 q2 : Addr} {us vs ws : List V} (hp : PE X o (tVar i)) (h : σ[i]? = some (some (.ref q))) (hk : (q, HO.lst [.ref q0, .ref q1, .ref q2]) ∈ own) (h0 : (q0, HO.lst us) ∈ own) (r0 : Paired (R.r B) us xs) (h1 : (q1, HO.lst vs) ∈ own) (r1 : Paired (S.r B) vs ys) (h2 : (q2, HO.lst ws) ∈ own) (r2 : Paired (T.r B) ws zs) : EvB X E own B H σ o (rH3 (rLst R) (rLst S) (rLst T)) (xs, ys, zs) := fun B1 H1 S1 e1 e2 Q kq => by
  have up := e1.trans S1.bh.ex
  exact WE.of hp ⟨.ref q, h, kq _ B1 H1 S1 (Ex.refl _) (Ex.refl _) ⟨q, _, _, _, rfl, Rd.of (S1.ow _ hk).2.2, ⟨q0, us, rfl, Rd.of (S1.ow _ h0).2.2, pimp r0 fun _ _ z => R.mono up z⟩, ⟨q1, vs, rfl, Rd.of (S1.ow _ h1).2.2, pimp r1 fun _ _ z => S.mono up z⟩, ⟨q2, ws, rfl, Rd.of (S1.ow _ h2).2.2, pimp r2 fun _ _ z => T.mono up z⟩⟩⟩
/-- one of one's own lists, by its place -/
theorem ev_ownV {v : V} {j : Nat} {vs : List V} {uss : List (List V)} {us : List V} (hp : PE X o (tVar i)) (h : σ[i]? = some (some v)) (hv : vs[j]? = some v) (hu : uss[j]? = some us) (hr : Paired (OwnL own) vs uss) : EvB X E own B H σ o (rLst rV) us := fun B1 H1 S1 e1 e2 Q kq => by
  obtain ⟨us', h2, q, rfl, hm⟩ := L2.paired_get hr hv
  rw [hu] at h2
  cases h2
  exact WE.of hp ⟨.ref q, h, kq _ B1 H1 S1 (Ex.refl _) (Ex.refl _) ⟨q, us, rfl, Rd.of (S1.ow _ hm).2.2, pV us⟩⟩
theorem rH3_ofV {v : V} {us vs ws : List V} (r : (rLst (rLst rV)).r B v [us, vs, ws]) (r0 : Paired (R.r B) us xs) (r1 : Paired (S.r B) vs ys) (r2 : Paired (T.r B) ws zs) : (rH3 (rLst R) (rLst S) (rLst T)).r B v (xs, ys, zs) := by
  obtain ⟨p, as, rfl, h1, h2⟩ := r
  cases h2 with
  | cons a1 t1 =>
    cases t1 with
    | cons a2 t2 =>
      cases t2 with
      | cons a3 t3 =>
        cases t3
        obtain ⟨p1, s1, rfl, g1, f1⟩ := a1
        obtain ⟨p2, s2, rfl, g2, f2⟩ := a2
        obtain ⟨p3, s3, rfl, g3, f3⟩ := a3
        rw [pV_eq f1] at g1
        rw [pV_eq f2] at g2
        rw [pV_eq f3] at g3
        exact ⟨p, _, _, _, rfl, h1, ⟨p1, us, rfl, g1, r0⟩, ⟨p2, vs, rfl, g2, r1⟩, ⟨p3, ws, rfl, g3, r2⟩⟩
theorem ee_ofV3 {us vs ws : List V} (hl : EvL X E own B H σ e (rLst rV) [us, vs, ws]) (r0 : Paired (R.r B) us xs) (r1 : Paired (S.r B) vs ys) (r2 : Paired (T.r B) ws zs) : EvE X E own B H σ e (rH3 (rLst R) (rLst S) (rLst T)) (xs, ys, zs) := fun B1 H1 S1 e1 e2 Q k => hl.toE B1 H1 S1 e1 e2 _ fun v B2 H2 S2 e3 e4 r =>
  k _ B2 H2 S2 e3 e4 (rH3_ofV r (pimp r0 fun _ _ z => R.mono (e1.trans e3) z) (pimp r1 fun _ _ z => S.mono (e1.trans e3) z) (pimp r2 fun _ _ z => T.mono (e1.trans e3) z))
/-- x[j].append(e), x a list of one's own lists -/
theorem s_appendOL {apos : Pos} {q qj : Addr} {vs us : List V} {jj : Int} {kk} {pp pos' : Pos} (S0 : Stt E own B H) (ha : PE X o (tVar i)) (h : σ[i]? = some (some (.ref q))) (hq : (q, HO.lst vs) ∈ own) (hv : atI vs jj = some (.ref qj)) (hk : own[k]? = some (qj, .lst us)) (r : Paired (R.r B) us xs) (he : EvE X E own B H σ e R x) (hz : xs.length < sizeLine)
    (kt : ∀ v B' H', Stt E (own.set k (qj, .lst (us ++ [v]))) B' H' → Ex B B' → Paired (R.r B') (us ++ [v]) (xs ++ [x]) → WSs X rest D σ H')
    (t : BmT X (.Subscript o (.Constant (.int jj) kk pp) pos') "append" apos [] e p := by exact ⟨rfl, rfl, rfl, rfl, rfl⟩) (hs : St1 X e := by rfl) (hw : swapsWith (.Call (.Attribute (.Subscript o (.Constant (.int jj) kk pp) pos') "append" apos) [e] [] p) none pos.line X.env = pure false := by rfl) :
    WSs X (.Expr (.Call (.Attribute (.Subscript o (.Constant (.int jj) kk pp) pos') "append" apos) [e] [] p) pos :: rest) D σ H :=
  WSs.cons (ps_expr (pe_bm PySem.F.plainAttrs_list PySem.F.slot_list_append PySem.F.type_list_append mt_append (pe_ix ix_list ha pe_int (fun _ _ => rfl)) (pa1 hs) t.1 t.2.1 t.2.2.1 t.2.2.2.1 t.2.2.2.2) hw) ⟨.ref q, h, q, vs, jj, .ref qj, rfl, rfl, SqL.of (S0.ow _ hq).2.2, hv, .inl ⟨rfl, _, SqL.of (S0.ow _ (List.mem_of_getElem? hk)).2.2⟩, he B H S0 (Ex.refl _) (Ex.refl _) _ fun v B2 H2 S2 e1 e2 rv => by
    have hj := (S2.ow _ (List.mem_of_getElem? hk)).2.2
    refine ⟨qj, us, v, rfl, rfl, hj, by rw [plen r]; exact hz, ?_⟩
    exact kt v B2 _ (S2.put hk fun ys z => by cases z) e1 (psnoc (pimp r fun _ _ z => R.mono e1 z) rv)⟩
/-- isinstance of a thing that may be None -/
theorem ev_isiO {x : Option α} {tn cn : String} {cs : Str} {p2 : Pos} [ty : TyR R tn] (hg : Gl X "isinstance") (hm : X.mg "isinstance" = none) (hgc : Gl X cs) (hmc : X.mg cs = none) (hv : bootBuiltins cs = some (.type cn)) (ha : EvB X E own B H σ a (rOpt R) x) (hk : kitB tn cn = some true) (hk0 : kitB "NoneType" cn = some false)
    (hn : cs ≠ "__name__" := by decide) (hd : (cs == ("__debug__" : Str)) = false := by decide)
    (hs : starEach (a :: [.Name cs p2]) X.env = (false, eval a X.env) :: starEach [.Name cs p2] X.env := by rfl) (hs2 : St1 X (.Name cs p2) := by rfl) (hpl : (backTo pos (starEach [.Name cs p2] X.env)).any (·.1) = false := by rfl) :
    EvB X E own B H σ (.Call (.Name "isinstance" p) [a, .Name cs p2] [] pos) rBool x.isSome := fun B1 H1 S1 e1 e2 Q k =>
  WE.of (pe_callB call_isi hg hm (by decide +kernel) (pa_cons peW (pa_cons (pe_bltn (v := .ty cn) hgc hmc hv rfl hn hd) pa_nil hs2) hs) (he := hs) (hpl := hpl)) (ha B1 H1 S1 e1 e2 _ fun v B2 H2 S2 e3 e4 r => by
    cases x with
    | none => exact ⟨v, .ty cn, .type "NoneType", .type cn, false, rfl, .ty cn, by rw [show v = .non from r]; exact .base .non, kit_ty hk0, k _ B2 H2 S2 e3 e4 rfl⟩
    | some y => exact ⟨v, .ty cn, .type tn, .type cn, true, rfl, .ty cn, ty.ty (show v ≠ .non ∧ R.r H2 v y from r).2, kit_ty hk, k _ B2 H2 S2 e3 e4 rfl⟩)
end
theorem Res.of_inj {α : Type} {o : Option α} {x : α} (h : Res.of o = .ok x) : o = some x := by
  cases o with
  | none => cases h
  | some y => cases h; rfl
end Sg

namespace Sg
open PySem PySem.Spec PyProof.Rows L2
/-! ### texts -/
/-- a number, written -/
def strI (n : Int) : Str := toString n
def chS (c : Nat) : Str := ⟨#[c]⟩
/-- one sign of a text -/
def rCh : Rel Nat := ⟨fun _ v c => v = .str ⟨#[c]⟩, fun _ h => h⟩
instance : Imm rCh := ⟨fun _ h => h⟩
instance : NN rCh := ⟨fun h => by rw [show _ = _ from h]; exact fun q => by cases q⟩
instance : TyR rCh "str" := ⟨fun {K H v x} h => by rw [show v = .str ⟨#[x]⟩ from h]; exact .base (.str _)⟩
def insI {α : Type} (xs : List α) (i : Int) (x : α) : List α := xs.take i.toNat ++ [x] ++ xs.drop i.toNat
theorem strs_rel {H1 : Hp} : ∀ {vs : List V} {ss : List Str}, Paired (rStr.r H1) vs ss → vs = ss.map V.str
  | _, _, .nil => rfl
  | _, _, .cons h t => by rw [List.map_cons, ← strs_rel t, show _ = _ from h]
theorem strs_pair {H1 : Hp} : ∀ ss : List Str, Paired (rStr.r H1) (ss.map V.str) ss
  | [] => .nil
  | s :: r => .cons rfl (strs_pair r)
theorem papp2 {α β : Type} {F : α → β → Prop} : ∀ {a : List α} {b : List β} {c : List α} {d : List β}, Paired F a b → Paired F c d → Paired F (a ++ c) (b ++ d)
  | _, _, _, _, .nil, h => h
  | _, _, _, _, .cons r t, h => .cons r (papp2 t h)
section
variable {X : Cx} {E : Ent} {own : Own} {B H : Hp} {σ : L2.St} {α β γ : Type} {R : Rel α} {S : Rel β} {T : Rel γ} {a b c e o it : Expr} {x : α} {y : β} {p pos pos' ap cp apos : Pos} {xs : List α} {ys : List β} {i k j : Nat} {n : Str} {rest body : List Stmt} {D : Ends}
theorem ev_chS {d : Nat} (h : EvB X E own B H σ a rCh d) : EvB X E own B H σ a rStr (chS d) := h
theorem ev_strI {d : Int} (hg : Gl X "str") (hm : X.mg "str" = none) (ha : EvB X E own B H σ a rInt d) (hz : d.natAbs.log2 < 1920) (hs : St1 X a := by rfl) : EvB X E own B H σ (.Call (.Name "str" p) [a] [] pos) rStr (strI d) :=
  ev_b1 (f := strI) (pe_callTy call_str_int hg hm (by decide +kernel) (pa1 hs) (he := hs)) ha fun H1 v Q h k => ⟨d, by rw [show v = .int d from h], hz, k _ rfl⟩
theorem ev_intS {s : Str} {d : Int} (hg : Gl X "int") (hm : X.mg "int" = none) (ha : EvB X E own B H σ a rStr s) (hd : PySem.intText? s = some d) (hz : s.length ≤ 640) (hs : St1 X a := by rfl) : EvB X E own B H σ (.Call (.Name "int" p) [a] [] pos) rInt d :=
  ev_b1 (f := fun _ : Str => d) (pe_callTy call_int_str hg hm (by decide +kernel) (pa1 hs) (he := hs)) ha fun H1 v Q h k => ⟨s, d, by rw [show v = .str s from h], hd, hz, k _ rfl⟩
theorem ev_lenS {s : Str} (hg : Gl X "len") (hm : X.mg "len" = none) (ha : EvB X E own B H σ a rStr s) (hz : s.length ≤ sizeLine) (hs : St1 X a := by rfl) : EvB X E own B H σ (.Call (.Name "len" p) [a] [] pos) rInt (s.length : Int) :=
  ev_b1 (f := fun s : Str => (s.length : Int)) (pe_callB call_len_str hg hm PySem.boot_len (pa1 hs) (he := hs)) ha fun H1 v Q h k => ⟨s, by rw [show v = .str s from h], hz, k _ rfl⟩
theorem ev_catS {s t : Str} (ha : EvB X E own B H σ a rStr s) (hb : EvB X E own B H σ b rStr t) (hz : s.length + t.length ≤ sizeLine) : EvB X E own B H σ (.BinOp a .Add b pos) rStr (s ++ t) := fun B1 H1 S1 e1 e2 Q k =>
  WE.of (pe_op (show OpR X (binaryOp .Add) _ from op_add_str) peW peW) (ha B1 H1 S1 e1 e2 _ fun v B2 H2 S2 e3 e4 r => hb B2 H2 S2 (e1.trans e3) (e2.trans e4) _ fun w B3 H3 S3 e5 e6 r' => ⟨s, t, r, r', hz, k _ B3 H3 S3 (e3.trans e5) (e4.trans e6) rfl⟩)
theorem ev_join {s : Str} {ss : List Str} (ho : EvB X E own B H σ o rStr s) (ha : EvB X E own B H σ a (rLst rStr) ss) (hz : (ss.map (·.length)).sum + ss.length * s.length ≤ 16777216)
    (hs : starEach [a] X.env = [(false, eval a X.env)] := by rfl) (hbase : attributeBase o "join" X.env (eval o X.env) = eval o X.env := by rfl) (hline : (ap.endLine == cp.line) = true := by rfl) : EvB X E own B H σ (.Call (.Attribute o "join" ap) [a] [] cp) rStr (Txt.join s ss) := fun B1 H1 S1 e1 e2 Q k =>
  WE.of (pe_join peW peW hs hbase hline) (ho B1 H1 S1 e1 e2 _ fun v B2 H2 S2 e3 e4 r => ⟨⟨s, r⟩, ha B2 H2 S2 (e1.trans e3) (e2.trans e4) _ fun w B3 H3 S3 e5 e6 r' => by
    obtain ⟨l, vs, h1, h2, h3⟩ := r'
    rw [strs_rel h3] at h2
    exact ⟨s, l, ss, r, by rw [h1], .inl (.inl h2), hz, k _ B3 H3 S3 (e3.trans e5) (e4.trans e6) rfl⟩⟩)
theorem el_split {s t : Str} (ho : EvB X E own B H σ o rStr s) (ha : EvB X E own B H σ a rStr t) (ht : (t.length == 0) = false) (hz : s.length + 2 ≤ sizeLine)
    (hs : starEach [a] X.env = [(false, eval a X.env)] := by rfl) (hbase : attributeBase o "split" X.env (eval o X.env) = eval o X.env := by rfl) (hline : (ap.endLine == cp.line) = true := by rfl) : EvL X E own B H σ (.Call (.Attribute o "split" ap) [a] [] cp) rStr (Txt.split s t) := fun B1 H1 S1 e1 e2 Q k =>
  WE.of (pe_split peW peW hs hbase hline) (ho B1 H1 S1 e1 e2 _ fun v B2 H2 S2 e3 e4 r => ⟨⟨s, r⟩, ha B2 H2 S2 (e1.trans e3) (e2.trans e4) _ fun w B3 H3 S3 e5 e6 r' =>
    ⟨s, t, r, by rw [show w = .str t from r'], ht, hz, fun q hq => k q _ B3 _ (S3.alloc hq fun ys z => by cases z) (e3.trans e5) ((e4.trans e6).trans (Sx.new hq).ex) (strs_pair _)⟩⟩)
theorem ev_ixS {s : Str} {q : Int} {d : Nat} (ho : EvB X E own B H σ o rStr s) (ha : EvB X E own B H σ a rInt q) (hz : s.length ≤ sizeLine) (hx : atI s.cps.toList q = some d) (hs : PlainIx a := by exact fun _ _ => rfl) : EvB X E own B H σ (.Subscript o a pos) rCh d := fun B1 H1 S1 e1 e2 Q k =>
  WE.of (pe_ix ix_str peW peW hs) (ho B1 H1 S1 e1 e2 _ fun v B2 H2 S2 e3 e4 r => ha B2 H2 S2 (e1.trans e3) (e2.trans e4) _ fun w B3 H3 S3 e5 e6 r' => ⟨s, q, d, r, r', hz, hx, k _ B3 H3 S3 (e3.trans e5) (e4.trans e6) rfl⟩)
theorem ev_inCh {d : Nat} {s : Str} (ha : EvB X E own B H σ a rCh d) (ho : EvB X E own B H σ o rStr s) (hm : behindInMarks .In o = false := by rfl) : EvB X E own B H σ (.Compare a [.In] [o] pos) rBool (decide (d ∈ s.cps.toList)) :=
  ev_cmp op_in_sign ha ho hm fun H1 v w Q h1 h2 k => ⟨d, s, h1, h2, k⟩
theorem et_inCh {d : Nat} {s : Str} (ha : EvB X E own B H σ a rCh d) (ho : EvB X E own B H σ o rStr s) (hm : behindInMarks .In o = false := by rfl) : EvT X E own B H σ (.Compare a [.In] [o] pos) (decide (d ∈ s.cps.toList)) :=
  et_cmp op_in_sign ha ho hm fun H1 v w Q h1 h2 k => ⟨d, s, h1, h2, k⟩
theorem ev_ninCh {d : Nat} {s : Str} (ha : EvB X E own B H σ a rCh d) (ho : EvB X E own B H σ o rStr s) (hm : behindInMarks .NotIn o = false := by rfl) : EvB X E own B H σ (.Compare a [.NotIn] [o] pos) rBool (!decide (d ∈ s.cps.toList)) :=
  ev_cmp op_notIn_sign ha ho hm fun H1 v w Q h1 h2 k => ⟨d, s, h1, h2, k⟩
theorem et_ninCh {d : Nat} {s : Str} (ha : EvB X E own B H σ a rCh d) (ho : EvB X E own B H σ o rStr s) (hm : behindInMarks .NotIn o = false := by rfl) : EvT X E own B H σ (.Compare a [.NotIn] [o] pos) (!decide (d ∈ s.cps.toList)) :=
  et_cmp op_notIn_sign ha ho hm fun H1 v w Q h1 h2 k => ⟨d, s, h1, h2, k⟩
/-- the signs of a text -/
theorem walk_str {s : Str} : Walk E KoT B (Its s) rCh s.cps.toList := by
  refine ⟨fun i own' B' H' S' e k hi => ?_, fun i own' B' H' S' e k hi => ?_, fun i own' B' H' v H'' d S' e k hd hy => ?_⟩
  · show i < s.cps.size
    rw [Array.length_toList] at hi
    exact hi
  · show s.cps.size ≤ i
    rw [Array.length_toList] at hi
    exact hi
  · obtain ⟨e1, d', h1, rfl⟩ := hy
    subst e1
    rw [Array.getElem?_toList, h1] at hd
    cases hd
    exact ⟨B', S', Ex.refl _, Ex.refl _, rfl⟩
theorem ei_str {s : Str} {tg : Expr} (he : EvB X E own B H σ e rStr s) (hz : s.cps.toList.length ≤ sizeLine) : EvI X E own B H σ tg e rCh KoT s.cps.toList := ⟨_, pi_str (te := WE X e) peW, fun B1 H1 S e1 e2 Q k => he B1 H1 S e1 e2 _ fun v B2 H2 S2 e3 e4 r => ⟨s, r, k _ B2 H2 S2 e3 e4 walk_str hz⟩⟩
theorem s_augS {s t : Str} (C : Cok X k) (L : Slot X i n) (S0 : Stt E own B H) (h : σ[i]? = some (some (.str s))) (he : EvB X E own B H σ e rStr t) (hz : s.length + t.length ≤ sizeLine)
    (q : ∀ B' H', Stt E own B' H' → Ex B B' → WSs X rest D (σ.set i (some (.str (s ++ t)))) H') : WSs X (.AugAssign (.Name n pos') .Add e pos :: rest) D σ H :=
  WSs.cons (ps_aug C.nd L.ix L.loc peW (show PIp X .Add _ from iop_add_str) L.hf) ⟨_, h, he B H S0 (Ex.refl _) (Ex.refl _) _ fun v B2 H2 S2 e1 _ r => ⟨s, t, rfl, r, hz, q B2 H2 S2 e1⟩⟩
/-- xs.pop(), the item let go -/
theorem s_popX {q : Addr} {vs : List V} (S0 : Stt E own B H) (ha : PE X a (tVar i)) (h : σ[i]? = some (some (.ref q))) (hk : own[k]? = some (q, .lst vs)) (r : Paired (R.r B) vs xs) (hx : xs.getLast? = some x)
    (kt : ∀ H', Stt E (own.set k (q, .lst vs.dropLast)) B H' → Paired (R.r B) vs.dropLast xs.dropLast → WSs X rest D σ H')
    (t : BmT0 X a "pop" apos p := by exact ⟨rfl, rfl⟩) (hw : swapsWith (.Call (.Attribute a "pop" apos) [] [] p) none pos.line X.env = pure false := by rfl) :
    WSs X (.Expr (.Call (.Attribute a "pop" apos) [] [] p) pos :: rest) D σ H :=
  WSs.cons (ps_expr (pe_bm0 PySem.F.plainAttrs_list PySem.F.slot_list_pop PySem.F.type_list_pop mt_pop ha t.1 t.2) hw) (by
    have hq := (S0.ow _ (getE hk)).2.2
    rw [List.getLast?_eq_getElem?] at hx
    have hl := plen r
    obtain ⟨v, hv⟩ : ∃ v, vs[vs.length - 1]? = some v := by
      have := (List.getElem?_eq_some_iff.mp hx).1
      exact ⟨_, List.getElem?_eq_getElem (by omega)⟩
    refine ⟨.ref q, h, .inl ⟨rfl, _, SqL.of hq⟩, q, vs, v, rfl, rfl, hq, hv, kt _ (S0.put hk fun ys z => by cases z) ?_⟩
    rw [List.dropLast_eq_take, List.dropLast_eq_take, ← hl]
    exact ptake _ r)
/-- xs.insert(i, e) -/
theorem s_insert {q : Addr} {vs : List V} {d : Int} (S0 : Stt E own B H) (ha : PE X a (tVar i)) (h : σ[i]? = some (some (.ref q))) (hk : own[k]? = some (q, .lst vs)) (r : Paired (R.r B) vs xs) (hb : EvB X E own B H σ b rInt d) (he : EvE X E own B H σ e R x) (hz : xs.length < sizeLine ∧ 0 ≤ d ∧ d < 2 ^ 63)
    (kt : ∀ v B' H', Stt E (own.set k (q, .lst (insI vs d v))) B' H' → Ex B B' → Paired (R.r B') (insI vs d v) (insI xs d x) → WSs X rest D σ H')
    (t1 : attributeBase a "insert" X.env (eval a X.env) = eval a X.env := by rfl)
    (t2 : ((backTo p (starEach (b :: [e]) X.env)).all (fun x => !x.1) && (backToKw p (keywordEach [] X.env)).all (fun x => x.1.isSome) && decide ((b :: [e]).length + ([] : List Keyword).length + (if ([] : List Keyword).isEmpty then 0 else 1) < 30)) = true := by rfl)
    (t3 : (apos.endLine == p.line) = true := by rfl) (t4 : starEach (b :: [e]) X.env = (false, eval b X.env) :: starEach [e] X.env := by rfl) (t5 : (backTo p (starEach [e] X.env)).any (·.1) = false := by rfl) (hs : St1 X e := by rfl)
    (hw : swapsWith (.Call (.Attribute a "insert" apos) [b, e] [] p) none pos.line X.env = pure false := by rfl) :
    WSs X (.Expr (.Call (.Attribute a "insert" apos) [b, e] [] p) pos :: rest) D σ H :=
  WSs.cons (ps_expr (pe_bm PySem.F.plainAttrs_list PySem.F.slot_list_insert PySem.F.type_list_insert mt_insert ha (pa_cons peW (pa1 hs) t4) t1 t2 t3 t4 t5) hw) ⟨.ref q, h, .inl ⟨rfl, _, SqL.of (S0.ow _ (List.mem_of_getElem? hk)).2.2⟩, hb B H S0 (Ex.refl _) (Ex.refl _) _ fun v B2 H2 S2 e1 e2 rv => he B2 H2 S2 e1 e2 _ fun w B3 H3 S3 e3 e4 rw' => by
    have hq := (S3.ow _ (List.mem_of_getElem? hk)).2.2
    have rv : v = .int d := rv
    have r3 := pimp r fun _ _ z => R.mono (e1.trans e3) z
    refine ⟨q, vs, d, w, rfl, by rw [rv], hq, by rw [plen r]; exact hz.1, hz.2.1, hz.2.2, ?_⟩
    exact kt w B3 _ (S3.put hk fun ys z => by cases z) (e1.trans e3) (papp2 (papp2 (ptake _ r3) (.cons rw' .nil)) (pdrop _ r3))⟩
end
end Sg

namespace Sg
open PySem PySem.Spec PyProof.Rows L2
/-! ### enumerate(list, start=c) -/
def IteS (K : PySem.W.Frag) (a : Addr) (c : Int) : It where
  go := fun i H => ∃ (us : List V) (u : V), SqL K H a us ∧ us[i]? = some u
  yld := fun i H v H' => ∃ T u, v = .ref T ∧ H T = none ∧ H' = upd H T (.tup [.int (c + (i : Int)), u]) ∧ ∀ us, SqL K H a us → us[i]? = some u
  stop := fun i H => ∃ us : List V, SqL K H a us ∧ us.length ≤ i
theorem enum_ne {h : Heap} {e it l : Addr} {c : Int} {old : Value} {items : Array Value} (he : IsEnum h e it c old) (hl : h.IsList l items) : e ≠ l := fun z => by
  subst z
  obtain ⟨o, h1, h2, _⟩ := hl
  have he := Option.some.inj (h1.symm.trans he)
  rw [he] at h2
  injection h2 with h2
  exact absurd h2 (by decide)
theorem liter_ne {h : Heap} {it l : Addr} {i : Nat} {items : Array Value} (he : h.IsListIter it l i) (hl : h.IsList l items) : l ≠ it := fun z => by
  subst z
  obtain ⟨o1, g1, g2, _⟩ := he
  obtain ⟨o2, g4, g5, _⟩ := hl
  have e := Option.some.inj (g1.symm.trans g4)
  rw [e, g5] at g2
  injection g2 with g2
  exact absurd g2 (by decide)
/-- an iterator that stands at its end -/
theorem draws_end {prog : Program} {w : World} {A : Around} (hh : A.handled = none) {it l : Addr} {items : Array Value} {i : Nat} (hn : items[i]? = none) :
    Draws prog w A it [it, l] i (fun _ _ => True) (fun j h => j = i ∧ h.IsListIter it l i ∧ h.IsList l items) where
  live := fun _ _ st => let ⟨o, ho, _⟩ := st.2.1; ⟨o, ho⟩
  frame := fun _ _ _ st hk => ⟨st.1, st.2.1.at fun o e => hk it (List.mem_cons_self ..) o e, st.2.2.at fun o e => hk l (List.mem_cons_of_mem _ (List.mem_cons_self ..)) o e⟩
  item := fun j s Q E hj st hQ => absurd st.1 (Nat.ne_of_lt hj)
  done := fun s Q E st hE => wpAny_nextOf_list_end hh st.2.1 st.2.2 hn hE
theorem turn_enumS {P : Program} {w : World} {K : PySem.W.Frag} {elts : List Expr} {kk : Nat} {tpos : Pos} (a e it : Addr) (c : Int) :
    Turn P w K (.Tuple elts kk tpos) (IteS K a c) [e, it] e (fun i h => (∃ old, IsEnum h e it (c + (i : Int)) old) ∧ h.IsListIter it a i ∧ e ≠ it) where
  mem := List.mem_cons_self ..
  obj := fun i h st b hb => by
    obtain ⟨⟨old, q1⟩, ⟨o, q2, q3, q4⟩, q5⟩ := st
    rcases List.mem_cons.mp hb with z | z
    · rw [z]
      exact ⟨_, q1, fun v q => nomatch q⟩
    · exact ⟨o, by rw [List.mem_singleton.mp z]; exact q2, fun v q => by rw [q4] at q; cases q⟩
  keep := fun i h h' st kp => by
    obtain ⟨⟨old, q1⟩, q2, q3⟩ := st
    exact ⟨⟨old, kp e (List.mem_cons_self ..) _ q1⟩, q2.at fun o q => kp it (List.mem_cons_of_mem _ (List.mem_cons_self ..)) o q, q3⟩
  item := by
    intro X hP hw hK hc i pins s σ H Er I hf st hg
    subst hP hw hK
    obtain ⟨⟨old, q1⟩, q2, q3⟩ := st
    obtain ⟨us, u, hq, hu⟩ := hg
    obtain ⟨its, rvs, pl, hz⟩ := I.list hq
    obtain ⟨uv, hv, ru⟩ := rvs.get hu
    have ela : e ≠ a := enum_ne q1 pl.isList
    have ila : a ≠ it := liter_ne q2 pl.isList
    have lt1 : e < s.heap.objs.size := Heap.lt_size q1
    have lt2 : it < s.heap.objs.size := by
      obtain ⟨o1, g1, _⟩ := q2
      exact Heap.lt_size g1
    have D := Draws.list (prog := X.prog) (w := X.w) (A := X.A.in1) (show X.A.in1.handled = none from I.ok.hd hc) it a ila its.toArray
    have hi : i < its.toArray.size := by
      have := (List.getElem?_eq_some_iff.mp hv).1
      rw [List.size_toArray]
      exact this
    refine wpAny_pyNext_enum_itemC D q1 ⟨q2, pl.isList⟩ hi q3 (fun z => ?_) fun x h' tk hx ho hst hT hsz hk => ?_
    · rcases List.mem_cons.mp z with z | z
      · exact q3 z
      · exact ela (List.mem_singleton.mp z)
    have ex : x = uv := by
      have hx : its.toArray[i]? = some x := hx
      rw [List.getElem?_toArray, hv] at hx
      exact (Option.some.inj hx).symm
    subst ex
    refine ⟨_, rfl, wpAny_letOwnedTupleGo_enum (s := { s with heap := h', toks := tk + 1 }) ho fun h'' g1 sb => ?_⟩
    have hT2 : h''.get? s.heap.objs.size = some { cls := .type "tuple", data := .seq #[.int (c + (i : Int)) tk, x] } := (sb.2 _ (Nat.ne_of_gt lt1)).trans hT
    have nw : ObjOk X.prog X.w (upd H s.heap.objs.size (.tup [.int (c + (i : Int)), u])) h'' s.heap.objs.size (.tup [.int (c + (i : Int)), u]) :=
      ⟨Nat.le_of_ble_eq_true rfl, [.int (c + (i : Int)) tk, x], .cons ⟨_, rfl⟩ (.cons ru .nil), ⟨_, hT2, rfl, _, rfl⟩⟩
    have I2 : Inv X pins σ (upd H s.heap.objs.size (.tup [.int (c + (i : Int)), u])) { s with heap := h'', toks := tk + 1 } :=
      I.turnedNew (ch := [e, it]) (fun b ob hb q => (sb.2 b (fun z => hb (by simp [z]))).trans (hk b ob (fun z => hb (by simp [z])) (fun z => hb (by simp [z])) q)) hf (Nat.le_refl _) nw
    refine ⟨.ref s.heap.objs.size, _, I2, rfl, ⟨_, u, rfl, I.hok.fresh (Nat.le_refl _), rfl, fun zs hzs => by rw [I.list_inj hzs hq]; exact hu⟩, ⟨⟨x, ?_⟩, hst.1.at fun o q => (sb.2 it (Ne.symm q3)).trans q, q3⟩, fun b hb => ?_⟩
    · rw [show c + ((i + 1 : Nat) : Int) = c + (i : Int) + 1 by omega]
      exact g1
    · have lb : b < s.heap.objs.size := by
        rcases List.mem_cons.mp hb with z | z
        · rw [z]; exact lt1
        · rw [List.mem_singleton.mp z]; exact lt2
      rw [upd_ne (Nat.ne_of_lt lb)]
      exact (hf b hb).1
  done := by
    intro X hP hw hK hc i pins s σ H Er I hf st hg
    subst hP hw hK
    obtain ⟨⟨old, q1⟩, q2, q3⟩ := st
    obtain ⟨us, hq, hu⟩ := hg
    obtain ⟨its, rvs, pl, hz⟩ := I.list hq
    obtain ⟨f0, f1, f2, f3, f4, f5⟩ := hf it (List.mem_cons_of_mem _ (List.mem_cons_self ..))
    have ll := rvs.length
    have ila : a ≠ it := liter_ne q2 pl.isList
    have hnone : its.toArray[i]? = none := by
      rw [List.getElem?_toArray]
      exact List.getElem?_eq_none (by omega)
    have ela : e ≠ a := enum_ne q1 pl.isList
    exact wpAny_pyNext_enum_endD (draws_end (A := X.A.in1) (show X.A.in1.handled = none from I.ok.hd hc) hnone) q1 ⟨rfl, q2, pl.isList⟩ fun h' eb => ⟨rfl, I.turned (t' := s.toks) (fun b o hb q => eb b o hb q) f0 f1 f3 f4 f5⟩
  self := fun A i s Q Er st h => by
    obtain ⟨⟨old, q1⟩, _⟩ := st
    exact wpAny_pyIter_enum q1 h
/-- a class of the language called with keywords -/
theorem cw_typeK {M : PySem.Model} {A : Around} {Er : Value → Shared → Prop} {s : Shared} {pos : Pos} {T : String} {first : List Value} {args : List (Bool × Sem Value)} {kws : List (Option Str × Sem Value)} {Q : Value → Shared → Prop} (hplain : args.any (·.1) = false) (hk : kws.any (·.1.isNone) = false)
    (h : wpAny M A (evalArgs (.type T) true args kws) (fun a s₁ => wpAny M A (call (.type T) (first ++ a.pos) a.kw) Q Er s₁) Er s) :
    wpAny M A (callWith pos (.type T) first args kws) Q Er s := by
  unfold callWith
  refine wpAny_bind (wpAny_holding (wpAny_mono h (fun a s2 h2 => wpAny_bind (wpAny_standAt ?_)) fun _ _ x => x))
  simp only [hplain, hk, Bool.or_false]
  refine wpAny_bind (wpAny_pure ?_)
  exact wpAny_bind (wpAny_mono h2 (fun r s3 hr => wpAny_bind (wpAny_holding (wpAny_point (wpAny_pure hr)))) fun _ _ x => x)
def iEnumS (K : PySem.W.Frag) (c : Int) (ta : TA) : TI := fun σ H R => ta σ H fun vs H1 => ∃ a us, vs = [.ref a] ∧ SqL K H1 a us ∧ R (IteS K a c) H1
theorem pi_enumS {X : Cx} {e : Expr} {ta : TA} {p pos tpos kp kpos : Pos} {elts : List Expr} {kk k2 : Nat} {c : Int} (hg : Gl X "enumerate") (hm : X.mg "enumerate" = none) (ha : PA X [e] ta) (hc : -(2 ^ 63) ≤ c ∧ c < 2 ^ 63)
    (hs : starEach [e] X.env = (false, eval e X.env) :: starEach [] X.env := by rfl) (hpl : (backTo pos (starEach [e] X.env)).any (·.1) = false := by rfl)
    (hall : (backToKw pos (keywordEach [⟨some "start", .Constant (.int c) k2 kp, kpos⟩] X.env)).all (·.1.isSome) = true := by rfl) (hnone : (backToKw pos (keywordEach [⟨some "start", .Constant (.int c) k2 kp, kpos⟩] X.env)).any (·.1.isNone) = false := by rfl) (hks : (backToKw pos (keywordEach [⟨some "start", .Constant (.int c) k2 kp, kpos⟩] X.env)).filterMap (·.1) = [Str.ofString "start"] := by rfl) :
    PI X (.Tuple elts kk tpos) (.Call (.Name "enumerate" p) [e] [⟨some "start", .Constant (.int c) k2 kp, kpos⟩] pos) (iEnumS X.K c ta) := by
  refine ⟨fun pins s σ H R I h => ?_⟩
  refine wpAny_Call_Name_kw (ld_blt I hg hm boot_enumerate (cw_typeK hpl hnone (evalArgs_kw2 hall (thn (ha.run pos pins s σ H _ I h) fun us s1 hh => ?_) hs)) (by decide) (by decide))
  obtain ⟨vs, H1, I1, r1, a, ws, ex, hq, q⟩ := hh
  subst ex
  refine thn ((pk_cons (pe_int (i := c)) pk_nil).run pos pins s1 σ H1 (fun zs H2 => zs = [.int c] ∧ H2 = H1) I1 ⟨rfl, rfl⟩) fun ks s2 hh => ?_
  obtain ⟨zs, H2, I2, r2, rfl, rfl⟩ := hh
  rw [hks]
  cases r1 with
  | cons r rr =>
    cases rr
    cases r
    cases r2 with
    | cons r3 rr3 =>
      cases rr3
      obtain ⟨t, rfl⟩ := r3
      obtain ⟨its, rvs, pl, hz⟩ := I2.list hq
      refine enum_begins_start (begins_list a its.toArray) pl.isList hc.1 hc.2 fun h' he hit hsz hk => wpAny_pyIter_enum he ?_
      have I3 : Inv X pins σ H2 { s2 with heap := h' } := I2.kept (t' := s2.toks) hk
      refine ⟨s2.heap.objs.size + 1, [s2.heap.objs.size + 1, s2.heap.objs.size], _, _, H2, rfl, I3, turn_enumS a (s2.heap.objs.size + 1) s2.heap.objs.size c, ⟨⟨.none, ?_⟩, ⟨_, hit, rfl, rfl⟩, Nat.succ_ne_self _⟩, fun b hb => ?_, q⟩
      · show IsEnum h' _ _ (c + ((0 : Nat) : Int)) _
        rw [show c + ((0 : Nat) : Int) = c by omega]
        exact he
      · have hle : s2.heap.objs.size ≤ b := by
          rcases List.mem_cons.mp hb with z | z
          · rw [z]; exact Nat.le_succ _
          · rw [List.mem_singleton.mp z]; exact Nat.le_refl _
        exact I2.fpOk hle (I2.hok.fresh hle)
section
variable {X : Cx} {E : Ent} {own : Own} {B H : Hp} {σ : L2.St} {α : Type} {R : Rel α} {a : Expr} {p pos tpos kp kpos : Pos} {xs : List α} {kk k2 : Nat} {c : Int} {tgs : List Expr}
theorem walk_enumS {q : Addr} {vs : List V} {Ko : Own → Prop} {K : PySem.W.Frag} (hl : ∀ own' B' H', Stt E own' B' H' → Ex B B' → Ko own' → Rd H' q (.lst vs)) (r : Paired (R.r B) vs xs) : Walk E Ko B (IteS K q c) (rPr rInt R) (enumI c xs) := by
  refine ⟨fun i own' B' H' S' e k hi => ?_, fun i own' B' H' S' e k hi => ⟨vs, .inl (hl own' B' H' S' e k), by rw [enumI_len] at hi; rw [plen r]; exact hi⟩, fun i own' B' H' v H'' x S' e k hx hy => ?_⟩
  · have h2 : i < vs.length := by rw [plen r, ← enumI_len c xs]; exact hi
    exact ⟨vs, vs[i], .inl (hl own' B' H' S' e k), List.getElem?_eq_getElem h2⟩
  · obtain ⟨T, u, h1, h2, h3, h4⟩ := hy
    subst h3
    obtain ⟨x', hx', rx⟩ := L2.paired_get r (h4 vs (.inl (hl own' B' H' S' e k)))
    rw [enumI_at hx'] at hx
    cases hx
    exact ⟨_, S'.lay h2, (S'.layB h2).ex, (Sx.new h2).ex, T, .int (c + (i : Int)), u, h1, upd_same, rfl, R.mono (e.trans (S'.layB h2).ex) rx⟩
theorem ei_enumS (hg : Gl X "enumerate") (hm : X.mg "enumerate" = none) (hc : -(2 ^ 63) ≤ c ∧ c < 2 ^ 63) (he : EvE X E own B H σ a (rLst R) xs) (hs : St1 X a := by rfl) (hpl : (backTo pos (starEach [a] X.env)).any (·.1) = false := by rfl)
    (hall : (backToKw pos (keywordEach [⟨some "start", .Constant (.int c) k2 kp, kpos⟩] X.env)).all (·.1.isSome) = true := by rfl) (hnone : (backToKw pos (keywordEach [⟨some "start", .Constant (.int c) k2 kp, kpos⟩] X.env)).any (·.1.isNone) = false := by rfl) (hks : (backToKw pos (keywordEach [⟨some "start", .Constant (.int c) k2 kp, kpos⟩] X.env)).filterMap (·.1) = [Str.ofString "start"] := by rfl) :
    EvI X E own B H σ (.Tuple tgs kk tpos) (.Call (.Name "enumerate" p) [a] [⟨some "start", .Constant (.int c) k2 kp, kpos⟩] pos) (rPr rInt R) KoT (enumI c xs) := ⟨_, pi_enumS hg hm (pa1 hs) hc hs hpl hall hnone hks, fun B1 H1 S e1 e2 Q k => WE.sz (he B1 H1 S e1 e2 _ fun v B2 H2 S2 e3 e4 r sz => by
  obtain ⟨q, vs, h1, h2, h3⟩ := r
  subst h1
  exact ⟨q, vs, rfl, .inl (S2.bh.ex.rdL h2), k _ B2 H2 S2 e3 e4 (walk_enumS (fun own' B' H' S' e' _ => S'.bh.ex.rdL (e'.rdL h2)) h3) (by rw [enumI_len, ← plen h3]; exact sz.1 _ _ (S2.bh.ex.rdL h2))⟩)⟩
end
end Sg

namespace Sg
open PySem PySem.Spec PyProof.Rows L2
/-! ### data with texts, compared -/
class DatP (K : PySem.W.Frag) {α : Type} (R : Rel α) where
  d : α → PyData
  rd : ∀ {H : Hp} {v : V} {x : α}, R.r H v x → Dp K H v (d x)
  pl : ∀ x, (d x).plain = true
  n : Nat
  dep : ∀ x, (d x).depth ≤ n
  eq : ∀ x y, PyData.eqv (d x) (d y) = true ↔ x = y
section
variable {K : PySem.W.Frag} {α β γ : Type} {R : Rel α} {S : Rel β} {T : Rel γ}
instance : DatP K rInt := ⟨PyData.int, fun h => by rw [h]; exact .int _, fun _ => rfl, 0, fun _ => Nat.le_refl _, fun x y => by simp [PyData.eqv]⟩
instance : DatP K rBool := ⟨PyData.bool, fun h => by rw [h]; exact .bl _, fun _ => rfl, 0, fun _ => Nat.le_refl _, fun x y => by simp [PyData.eqv]⟩
instance : DatP K rStr := ⟨PyData.str, fun h => by rw [h]; exact .str _, fun _ => rfl, 0, fun _ => Nat.le_refl _, fun x y => by simp [PyData.eqv]⟩
theorem dppAll [D : DatP K R] {H : Hp} : ∀ {vs : List V} {xs : List α}, Paired (R.r H) vs xs → DpAll K H vs (xs.map D.d)
  | _, _, .nil => .nil
  | _, _, .cons h t => .cons (D.rd h) (dppAll t)
theorem plpAll [D : DatP K R] : ∀ xs : List α, PyData.plainAll (xs.map D.d) = true
  | [] => rfl
  | x :: r => by rw [List.map_cons, PyData.plainAll, D.pl, plpAll r]; rfl
theorem deppAll [D : DatP K R] : ∀ xs : List α, PyData.depthAll (xs.map D.d) ≤ D.n
  | [] => Nat.zero_le _
  | x :: r => by
    rw [List.map_cons, PyData.depthAll]
    exact Nat.max_le.mpr ⟨D.dep x, deppAll r⟩
theorem eqpAll [D : DatP K R] : ∀ xs ys : List α, PyData.eqvAll (xs.map D.d) (ys.map D.d) = true ↔ xs = ys
  | [], [] => by simp [PyData.eqvAll]
  | [], y :: r => by simp [PyData.eqvAll]
  | x :: r, [] => by simp [PyData.eqvAll]
  | x :: r, y :: q => by rw [List.map_cons, List.map_cons, PyData.eqvAll, Bool.and_eq_true, D.eq, eqpAll r q, List.cons.injEq]
instance [D : DatP K R] : DatP K (rLst R) := ⟨fun xs => .list (xs.map D.d), fun h => by
  obtain ⟨p, vs, h1, h2, h3⟩ := h
  rw [h1]
  exact .lst (.inl h2) (dppAll h3), fun xs => plpAll xs, D.n + 1, fun xs => Nat.succ_le_succ (deppAll xs), fun x y => eqpAll x y⟩
instance [D : DatP K R] : DatP K (rTup R) := ⟨fun xs => .tuple (xs.map D.d), fun h => by
  obtain ⟨p, vs, h1, h2, h3⟩ := h
  rw [h1]
  exact .tup (SqT.of h2) (dppAll h3), fun xs => plpAll xs, D.n + 1, fun xs => Nat.succ_le_succ (deppAll xs), fun x y => eqpAll x y⟩
instance [D : DatP K R] [F : DatP K S] : DatP K (rPr R S) := ⟨fun x => .tuple [D.d x.1, F.d x.2], fun h => by
  obtain ⟨p, a, b, h1, h2, h3, h4⟩ := h
  rw [h1]
  exact .tup (SqT.of h2) (.cons (D.rd h3) (.cons (F.rd h4) .nil)), fun x => by
    show (PyData.plain (D.d x.1) && (PyData.plain (F.d x.2) && true)) = true
    rw [D.pl, F.pl] <;> rfl, max D.n F.n + 1, fun x => by
    show max (PyData.depth (D.d x.1)) (max (PyData.depth (F.d x.2)) 0) + 1 ≤ max D.n F.n + 1
    have := D.dep x.1
    have := F.dep x.2
    omega, fun x y => by
    show (PyData.eqv (D.d x.1) (D.d y.1) && (PyData.eqv (F.d x.2) (F.d y.2) && true)) = true ↔ _
    rw [Bool.and_eq_true, Bool.and_true, D.eq, F.eq]
    exact ⟨fun h => Prod.ext h.1 h.2, fun h => by rw [h]; exact ⟨rfl, rfl⟩⟩⟩
instance [D : DatP K R] [F : DatP K S] [G : DatP K T] : DatP K (rT3 R S T) := ⟨fun x => .tuple [D.d x.1, F.d x.2.1, G.d x.2.2], fun h => by
  obtain ⟨p, a, b, c, h1, h2, h3, h4, h5⟩ := h
  rw [h1]
  exact .tup (SqT.of h2) (.cons (D.rd h3) (.cons (F.rd h4) (.cons (G.rd h5) .nil))), fun x => by
    show (PyData.plain (D.d x.1) && (PyData.plain (F.d x.2.1) && (PyData.plain (G.d x.2.2) && true))) = true
    rw [D.pl, F.pl, G.pl] <;> rfl, max D.n (max F.n G.n) + 1, fun x => by
    show max (PyData.depth (D.d x.1)) (max (PyData.depth (F.d x.2.1)) (max (PyData.depth (G.d x.2.2)) 0)) + 1 ≤ max D.n (max F.n G.n) + 1
    have := D.dep x.1
    have := F.dep x.2.1
    have := G.dep x.2.2
    omega, fun x y => by
    show (PyData.eqv (D.d x.1) (D.d y.1) && (PyData.eqv (F.d x.2.1) (F.d y.2.1) && (PyData.eqv (G.d x.2.2) (G.d y.2.2) && true))) = true ↔ _
    rw [Bool.and_eq_true, Bool.and_eq_true, Bool.and_true, D.eq, F.eq, G.eq]
    exact ⟨fun h => Prod.ext h.1 (Prod.ext h.2.1 h.2.2), fun h => by rw [h]; exact ⟨rfl, rfl, rfl⟩⟩⟩
end
def rEqP (K : PySem.W.Frag) (f : Bool → Bool) : R2 := fun x y H Q => ∃ d e, Dp K H x d ∧ Dp K H y e ∧ d.plain = true ∧ e.plain = true ∧ d.depth ≤ 64 ∧ Q (.bl (f (PyData.eqv d e))) H
section
variable {X : Cx} {α : Type} {R : Rel α}
theorem op_eqP (hu : X.A.units + 64 < cLine) : OpR X (compareOp .Eq) (rEqP X.K id) := by
  intro pins s σ H x y v u Q I rx ry h
  obtain ⟨d, e, hd, he, sd, se, hn, q⟩ := h
  obtain ⟨as, r1⟩ := Dp.reads I d x v hd rx
  obtain ⟨bs, r2⟩ := Dp.reads I e y u he ry
  exact SeqAt.eq_plain r1 r2 sd se (by omega) ⟨.bl _, H, I, rfl, q⟩
theorem op_neP (hu : X.A.units + 64 < cLine) : OpR X (compareOp .NotEq) (rEqP X.K not) := by
  intro pins s σ H x y v u Q I rx ry h
  obtain ⟨d, e, hd, he, sd, se, hn, q⟩ := h
  obtain ⟨as, r1⟩ := Dp.reads I d x v hd rx
  obtain ⟨bs, r2⟩ := Dp.reads I e y u he ry
  exact SeqAt.ne_plain r1 r2 sd se (by omega) ⟨.bl _, H, I, rfl, q⟩
theorem eqv_decP [DecidableEq α] [D : DatP X.K R] (x y : α) : PyData.eqv (D.d x) (D.d y) = decide (x = y) := by
  rw [Bool.eq_iff_iff, D.eq, decide_eq_true_iff]
theorem c_eqP [DecidableEq α] [D : DatP X.K R] (hu : X.A.units + 64 < cLine) (h : D.n ≤ 64 := by exact Nat.le_of_ble_eq_true rfl) : CmpR X .Eq R R (fun x y => decide (x = y)) :=
  ⟨⟨_, op_eqP hu, fun x y _ v w _ h1 h2 k => ⟨_, _, D.rd h1, D.rd h2, D.pl x, D.pl y, Nat.le_trans (D.dep x) h, by show _; rw [eqv_decP]; exact k⟩⟩, fun b => nomark b⟩
theorem c_neP [DecidableEq α] [D : DatP X.K R] (hu : X.A.units + 64 < cLine) (h : D.n ≤ 64 := by exact Nat.le_of_ble_eq_true rfl) : CmpR X .NotEq R R (fun x y => !decide (x = y)) :=
  ⟨⟨_, op_neP hu, fun x y _ v w _ h1 h2 k => ⟨_, _, D.rd h1, D.rd h2, D.pl x, D.pl y, Nat.le_trans (D.dep x) h, by show _; rw [eqv_decP]; exact k⟩⟩, fun b => nomark b⟩
end
/-! ### rules: an instance of two fields -/
structure Rul where
  heads : List (Int × Str)
  sides : List (Bool × List Str × List Str)
  deriving DecidableEq
abbrev rSide : Rel (Bool × List Str × List Str) := rT3 rBool (rLst rStr) (rLst rStr)
def rulF (d1 d2 : V) : List (Str × V) := [("heads", d1), ("sides", d2)]
def rRul (C : Addr) : Rel Rul := ⟨fun H v t => ∃ a dx d1 d2, v = .ref a ∧ H a = some (.ins C dx (rulF d1 d2)) ∧ (rDI rStr).r H d1 t.heads ∧ (rLst rSide).r H d2 t.sides,
  fun e ⟨a, dx, d1, d2, h1, h2, h3, h4⟩ => ⟨a, dx, d1, d2, h1, e.ins h2, Rel.mono _ e h3, Rel.mono _ e h4⟩⟩
instance {C : Addr} : NN (rRul C) := ⟨fun ⟨a, dx, d1, d2, h1, _⟩ => by rw [h1]; exact fun q => by cases q⟩
theorem rulF_no {m : Str} (h : [("heads" : Str), "sides"].all (fun x => !(m == x)) = true) (d1 d2 : V) : (rulF d1 d2).lookup m = none := by
  simp only [List.all_cons, List.all_nil, Bool.and_eq_true, Bool.not_eq_true', Bool.and_true] at h
  obtain ⟨h1, h2⟩ := h
  unfold rulF
  rw [List.lookup_cons, h1, List.lookup_cons, h2]
  rfl
theorem insRul {C : Addr} {m : Str} (h : [("heads" : Str), "sides"].all (fun x => !(m == x)) = true) : InsOf C m (rRul C) := fun r => by
  obtain ⟨a, dx, d1, d2, h1, h2, _⟩ := r
  exact ⟨a, dx, _, h1, h2, rulF_no h _ _⟩
theorem fldHeads {C : Addr} : FldOf C "heads" (rRul C) (rDI rStr) Rul.heads := ⟨fun r => by
  obtain ⟨a, dx, d1, d2, h1, h2, h3, h4⟩ := r
  exact ⟨a, dx, _, d1, h1, h2, rfl, h3⟩⟩
theorem fldSides {C : Addr} : FldOf C "sides" (rRul C) (rLst rSide) Rul.sides := ⟨fun r => by
  obtain ⟨a, dx, d1, d2, h1, h2, h3, h4⟩ := r
  exact ⟨a, dx, _, d2, h1, h2, rfl, h4⟩⟩
/-- the class of rules in the written part -/
structure RulTxt (K : PySem.W.Frag) (CR : Addr) : Prop where
  cls : Cls K CR
  n_heads : NoAttr K CR "heads"
  n_sides : NoAttr K CR "sides"
/-- what __init__ of rules promises -/
def kRul (CR a dx : Addr) : Ent → VK → Rul → Prop := fun E Q t => ∀ d1 d2 B H, Stt E [(a, .ins CR dx (rulF d1 d2))] B H → (rDI rStr).r B d1 t.heads → (rLst rSide).r B d2 t.sides → Q .non H
def SpInitR {δ : Type} (CR : Addr) (args : δ → AR) (f : δ → Res Rul) : Sp := fun vs H Q _ => ∃ B H0 d a dx us, vs = .ref a :: us ∧ H = upd H0 a (.ins CR dx []) ∧ H0 a = none ∧ Sx B H0 ∧ Tx H0 B ∧ (args d).r us B H0 ∧ Fin (kRul CR a dx ⟨B, H0⟩ Q) NoErr (f d)
/-! rows of rules as told: of a kind, or of two sides -/
abbrev RowT := (Str × List (Option Int)) ⊕ (Bool × List Str × List Str)
abbrev rKin : Rel (Str × List (Option Int)) := rPr rStr (rLst (rOpt rInt))
def rRow : Rel RowT := ⟨fun H v x => match x with
  | .inl y => rKin.r H v y
  | .inr z => rSide.r H v z, fun {H H' v x} e h => by
  cases x with
  | inl y => exact Rel.mono rKin e h
  | inr z => exact Rel.mono rSide e h⟩
instance : NN rRow := ⟨fun {H v x} h => by
  cases x with
  | inl y => exact NN.nn (R := rKin) h
  | inr z => exact NN.nn (R := rSide) h⟩
def lenRow : RowT → Int
  | .inl _ => 2
  | .inr _ => 3
def rowL : RowT → Option (Str × List (Option Int))
  | .inl y => some y
  | .inr _ => none
def rowR : RowT → Option (Bool × List Str × List Str)
  | .inl _ => none
  | .inr y => some y
/-- the first place of a thing -/
def ixOf {α : Type} [DecidableEq α] : List α → α → Option Int
  | [], _ => none
  | y :: ys, x => if y = x then some 0 else (ixOf ys x).map (· + 1)
theorem ixOf_at {α : Type} [DecidableEq α] {x : α} : ∀ {ys : List α} {j : Int}, ixOf ys x = some j → ∃ k : Nat, j = k ∧ ys[k]? = some x ∧ ∀ m, m < k → ∀ z, ys[m]? = some z → z ≠ x
  | [], j, h => by cases h
  | y :: ys, j, h => by
    unfold ixOf at h
    by_cases hy : y = x
    · rw [if_pos hy] at h
      cases h
      exact ⟨0, rfl, by rw [hy]; rfl, fun m hm => absurd hm (Nat.not_lt_zero _)⟩
    · rw [if_neg hy, Option.map_eq_some_iff] at h
      obtain ⟨i, h1, rfl⟩ := h
      obtain ⟨k, rfl, h2, h3⟩ := ixOf_at h1
      refine ⟨k + 1, rfl, h2, fun m hm z hz => ?_⟩
      cases m with
      | zero =>
        cases hz
        exact hy
      | succ m => exact h3 m (by omega) z hz
theorem strs_flat (ss : List Str) : (ss.map V.str).all flatV = true := by
  rw [List.all_eq_true]
  intro v hv
  obtain ⟨s, _, rfl⟩ := List.mem_map.mp hv
  rfl
/-- a tuple of texts that stands in the written part -/
def GTup (K : PySem.W.Frag) (mg : MG) (n : Str) (ws : List Str) : Prop := ∃ t o its k, mg n = some (.ref t) ∧ K.lookup t = some o ∧ o.cls = .type "tuple" ∧ o.data = .seq its k ∧ its.size ≤ sizeLine ∧ Vals (ws.map V.str) its.toList
/-- one's own class: what isinstance asks -/
structure InsC (K : PySem.W.Frag) (mg : MG) (n : Str) (C : Addr) : Prop where
  m : mg n = some (.ref C)
  cls : Cls K C
  ha : PySem.W.findIn K (.ref C) "__class__" = some (some (.builtin "object.__class__"))
  hn : PySem.W.specialIn K (.builtin "object.__class__") "__get__" = some (some (.builtin "getset_descriptor.__get__"))
  htk : PySem.W.takesIn K (.builtin "object.__class__") = some true
  hm : PySem.W.mroIn K C (.type "object") = some true
def InsR {α : Type} (C : Addr) (R : Rel α) : Prop := ∀ {H : Hp} {v : V} {x : α}, R.r H v x → ∃ a dx fs, v = .ref a ∧ H a = some (.ins C dx fs)
theorem rul_ins {C : Addr} : InsR C (rRul C) := fun r => by
  obtain ⟨a, dx, d1, d2, h1, h2, _⟩ := r
  exact ⟨a, dx, _, h1, h2⟩
theorem tab_ins {C : Addr} : InsR C (rTab C) := fun r => by
  obtain ⟨a, dx, d1, d2, d3, d4, h1, h2, _⟩ := r
  exact ⟨a, dx, _, h1, h2⟩
section
variable {X : Cx}
/-- l.count(x), flat items -/
def rCntV (K : PySem.W.Frag) : V → List V → Hp → VK → Prop := fun x xs H Q => ∃ (p : Addr) (ys : List V) (y : V), x = .ref p ∧ xs = [y] ∧ SqL K H p ys ∧ flatV y = true ∧ ys.all flatV = true ∧ Q (.int (ys.countP fun z => eqV z y : Nat)) H
theorem cnt_vals {y : V} (fy : flatV y = true) : ∀ {ys : List V} {us : List Value}, Vals ys us → ys.all flatV = true → us.countP (eqU y) = ys.countP fun z => eqV z y
  | _, _, .nil, _ => rfl
  | _, _, .cons r t, f => by
    rw [List.all_cons, Bool.and_eq_true] at f
    rw [List.countP_cons, List.countP_cons, cnt_vals fy t f.2, eqU_of r f.1]
theorem mt_cntV : MtR X "list.count" (rCntV X.K) := by
  intro pins s σ H x xs v us Q I rx rxs h
  obtain ⟨p, ys, y, rfl, rfl, hs, fy, fys, q⟩ := h
  cases rx
  obtain ⟨u, rfl, ru⟩ := rxs.one
  obtain ⟨its, rv, ⟨⟨cls, dd, data, sl⟩, n, ho, hc, hdn, hd⟩, hlen⟩ := I.list hs
  simp only at hc hd
  subst hc hd
  refine call_meets PySem.F.slot_list_count ⟨_, ho, rfl⟩ PySem.F.entry_list_count (PySem.F.args_list_count_2 _ _)
    (SeqAt.list_countAt p its.toArray n dd sl u (eqU y)) ⟨ho, fun z hz => mem_eqAt ru fy rv fys z (by simpa using hz), ?_⟩
  have ec : its.toArray.toList.countP (eqU y) = ys.countP fun z => eqV z y := cnt_vals fy rv fys
  rw [ec]
  exact ⟨.int (ys.countP fun z => eqV z y : Nat), H, I.tok _, ⟨s.toks, rfl⟩, q⟩
/-! d.values() -/
def vvO (p d : Addr) : HO := .ext fun h => h.IsValuesView p d
theorem vvO_ok {P : Program} {w : World} {H : Hp} {h : Heap} {p d : Addr} (e : h.get? p = some { cls := .type "dict_values", data := .fields #[.ref d] }) : ObjOk P w H h p (vvO p d) :=
  ⟨⟨_, e, rfl, rfl⟩, ⟨_, e⟩, fun h1 h2 ⟨o, ho, r⟩ k => ⟨o, k o ho, r⟩⟩
def rVv : V → List V → Hp → VK → Prop := fun x xs H Q => ∃ (d : Addr) (ws : List (Key × V)), x = .ref d ∧ xs = [] ∧ Rd H d (.dK ws) ∧ ∀ p, H p = none → Q (.ref p) (upd H p (vvO p d))
theorem mt_vv : MtR X "dict.values" rVv := by
  intro pins s σ H x xs v us Q I rx rxs hr
  obtain ⟨d, ws, rfl, rfl, hd, q⟩ := hr
  cases rx
  cases rxs
  obtain ⟨_, lo, vs, _, dd⟩ := dk_rd I.hok hd
  refine PySem.call_meetsIn F.slot_dict_values dd.typeIs F.entry_dict_values (F.args_dict_values_1 _) (meets_dict_values (mixKind X.prog X.w) d lo) ⟨⟨vs, dd⟩, ?_⟩
  exact ⟨.ref s.heap.objs.size, _, I.laid (t' := s.toks) (fun b u e => Heap.get?_push_of_some _ e) (Nat.le_refl _) (vvO_ok (Heap.get?_push_size _ rfl)), rfl, q _ (I.hok.fresh (Nat.le_refl _))⟩
theorem pe_vv {o : Expr} {te : TE} {ap cp : Pos} (he : PE X o te) (hb : attributeBase o "values" X.env (eval o X.env) = eval o X.env := by rfl) (hl : (ap.endLine == cp.line) = true := by rfl) : PE X (.Call (.Attribute o "values" ap) [] [] cp) (fun σ H Q => te σ H fun x H1 => rVv x [] H1 Q) := by
  refine ⟨fun pins s σ H Q I hq => ?_⟩
  refine wpAny_Call_method (T := "dict") (id := "dict.values") hb rfl hl F.plainAttrs_dict F.slot_dict_values F.type_dict_values (thn (he.run pins s σ H _ I hq) fun u s1 ⟨x, H1, I1, rx, hv⟩ => ?_)
  obtain ⟨d, ws, rfl, h2, hd, h3⟩ := hv
  obtain rfl : u = Value.ref d := rx
  obtain ⟨_, lo, vs, _, dd⟩ := dk_rd I1.hok hd
  exact ⟨dd.typeIs, dd.mapOf.noDict, Calls.callWith_builtin rfl (PySem.evalArgs_none (mt_vv pins s1 σ H1 (.ref d) [] (.ref d) [] Q I1 rfl .nil ⟨d, ws, rfl, h2, hd, h3⟩))⟩
def rListVv : List V → Hp → VK → Prop := fun xs H Q => ∃ (p d : Addr) (ws : List (Key × V)), xs = [.ref p] ∧ H p = some (vvO p d) ∧ Rd H d (.dK ws) ∧ ∀ l, H l = none → Q (.ref l) (upd H l (.lst (ws.map (·.2))))
theorem vals_seconds : ∀ {ws : List (Key × V)} {vs : List (Key × Value)} {us : List Value}, us = vs.map (·.2) → Paired (fun (w : Key × V) (v : Key × Value) => RelV w.2 v.2) ws vs → Vals (ws.map (·.2)) us
  | _, _, _, e, .nil => by subst e; exact .nil
  | _, _, _, e, .cons h t => by subst e; exact .cons h (vals_seconds rfl t)
theorem cr_listVv (hc : X.calm = true) : CallR X (.type "list") rListVv := by
  intro pins s σ H xs us Q I r hq
  obtain ⟨p, d, ws, rfl, hp, hd, q⟩ := hq
  obtain rfl := Vals.ref1 r
  have view : s.heap.IsValuesView p d := (show ObjOk X.prog X.w H s.heap p (vvO p d) from I.hok p _ hp).1
  obtain ⟨zl, lo, vs, rel, dd⟩ := dk_rd I.hok hd
  obtain ⟨ep, hat⟩ := dd.dictAt
  have l1 : ws.length = vs.length := Paired.length rel
  refine PySem.W.kdl_call (PySem.W.kdl_values (knd := mixKind X.prog X.w) (kvs := vs) (ep := ep)) (I.ok.hd hc) ⟨view, hat⟩ (by omega) fun h' tk acc c hk hD hacc => ?_
  have I2 : Inv X pins σ H { s with heap := h', toks := tk } := I.kept (t' := tk) hk
  have nl := I.hok.fresh (Nat.le_refl s.heap.objs.size)
  have ea : acc.toList = vs.map (·.2) := PySem.W.kdl_vals_eq (kvs := vs) acc.toList (by rw [Array.length_toList]; exact hacc.1) fun j v e => hacc.2 j v (by rw [← Array.getElem?_toList]; exact e)
  refine ⟨.ref s.heap.objs.size, _, I2.take (h' := h') (t' := tk) (o := .lst (ws.map (·.2))) (fun b ob _ e => e) (I.fpOk (b := s.heap.objs.size) (Nat.le_refl _) nl) ⟨by rw [List.length_map]; exact zl, acc.toList, c, vals_seconds ea (pimp rel fun _ _ z => z.2), by rw [Array.toArray_toList]; exact hD⟩, rfl, q _ nl⟩
end
section
variable {X Xb : Cx} {E : Ent} {own new own' : Own} {B H B' H' : Hp} {σ : L2.St} {α β γ δ τ ρ ρ' : Type} {R : Rel α} {S : Rel β} {T : Rel γ} {U : Rel δ} {e a b c d o it tg : Expr} {x : α} {y : β} {p pos pos' ap cp apos : Pos} {i j k k0 : Nat} {z w : Bool} {xs : List α} {ys : List β} {es : List Expr}
variable {n m f : Str} {rest body other : List Stmt} {D : Ends} {P : ρ → Prop} {Er : Err → Prop} {CR : Addr}
theorem ee_makeR {ps : List Str} {args : δ → AR} {g : δ → Res Rul} {d : δ} {r : Rul} (C : Cok X k0) (G : MkT X k n CR ps (SpInitR CR args g)) (hk : k + 1 ≤ k0) (hg : Gl X n) (ha : EvAs X E own B H σ (e :: es) (args d)) (hm : g d = .ok r)
    (hdb : (n == ("__debug__" : Str)) = false := by rfl) (hst : starEach (e :: es) X.env = (false, eval e X.env) :: starEach es X.env := by rfl) (hpl : (backTo pos (starEach es X.env)).any (·.1) = false := by rfl) : EvE X E own B H σ (.Call (.Name n p) (e :: es) [] pos) (rRul CR) r := fun B1 H1 S1 e1 e2 Q kq => by
  obtain ⟨f, fd, M, F, hmg, hb⟩ := G
  refine WE.of (pe_make (dvs := []) (ds := []) M F (C.room.mono hk) hg hmg hb .nil pass0 paW hdb hst hpl) (ha B1 H1 S1 e1 e2 _ fun vs B2 H2 S2 e3 e4 ra => ?_)
  intro x dx hx hdx hne
  rw [List.append_nil]
  have S3 : Stt E own (upd B2 dx (.own x)) (upd H2 dx (.own x)) := S2.lay hdx
  have hx3 : upd H2 dx (.own x) x = none := by rw [upd_ne hne.symm]; exact hx
  refine ⟨upd B2 dx (.own x), upd H2 dx (.own x), d, x, dx, vs, rfl, rfl, hx3, S3.bh, S3.tu, (args d).mono (S2.layB hdx).ex (Sx.new hdx).ex ra, Fin.eq hm fun d1 d2 B4 H4 T h1 h2 => ⟨rfl, ?_⟩⟩
  have S4 := S3.call T
  have nB := (S4.ow _ (List.mem_cons_self ..)).2.1
  have eB := (Sx.new (o := .ins CR dx (rulF d1 d2)) nB).ex
  exact kq (.ref x) _ H4 S4.keep (e3.trans (((S2.layB hdx).ex.trans T.b0.ex).trans eB)) (e4.trans ((Sx.new hdx).ex.trans T.h0.ex)) ⟨x, dx, d1, d2, rfl, upd_same, Rel.mono _ eB h1, Rel.mono _ eB h2⟩
theorem ev_lenRow {x : RowT} (hg : Gl X "len") (hm : X.mg "len" = none) (ha : EvB X E own B H σ a rRow x) (hs : St1 X a := by rfl) : EvB X E own B H σ (.Call (.Name "len" p) [a] [] pos) rInt (lenRow x) :=
  ev_b1 (f := lenRow) (pe_callB call_len_seq hg hm PySem.boot_len (pa1 hs) (he := hs)) ha fun H1 v Q h k => by
    cases x with
    | inl y =>
      obtain ⟨p, vs, h1, h2, h3⟩ := lenPr.l (show rKin.r H1 v y from h)
      exact ⟨p, vs, by rw [h1], .inr (SqT.of h2), k _ (by rw [h3]; rfl)⟩
    | inr y =>
      obtain ⟨p, vs, h1, h2, h3⟩ := lenT3.l (show rSide.r H1 v y from h)
      exact ⟨p, vs, by rw [h1], .inr (SqT.of h2), k _ (by rw [h3]; rfl)⟩
theorem rowL_eq {x : RowT} {y : Str × List (Option Int)} (h : rowL x = some y) : x = .inl y := by
  cases x with
  | inl z => cases h; rfl
  | inr z => cases h
theorem rowR_eq {x : RowT} {y : Bool × List Str × List Str} (h : rowR x = some y) : x = .inr y := by
  cases x with
  | inl z => cases h
  | inr z => cases h; rfl
theorem ee_rowL {x : RowT} {y : Str × List (Option Int)} (h : EvE X E own B H σ e rRow x) (q : rowL x = some y) : EvE X E own B H σ e rKin y := by
  rw [rowL_eq q] at h
  exact h
theorem ee_rowR {x : RowT} {y : Bool × List Str × List Str} (h : EvE X E own B H σ e rRow x) (q : rowR x = some y) : EvE X E own B H σ e rSide y := by
  rw [rowR_eq q] at h
  exact h
theorem ee_inl {x : Str × List (Option Int)} (h : EvE X E own B H σ e rKin x) : EvE X E own B H σ e rRow (.inl x) := h
theorem ee_inr {x : Bool × List Str × List Str} (h : EvE X E own B H σ e rSide x) : EvE X E own B H σ e rRow (.inr x) := h
theorem ee_inlO {x : Option (Str × List (Option Int))} (h : EvE X E own B H σ e (rOpt rKin) x) : EvE X E own B H σ e (rOpt rRow) (x.map Sum.inl) := by
  cases x with
  | none => exact h
  | some y => exact h
theorem ee_inrO {x : Option (Bool × List Str × List Str)} (h : EvE X E own B H σ e (rOpt rSide) x) : EvE X E own B H σ e (rOpt rRow) (x.map Sum.inr) := by
  cases x with
  | none => exact h
  | some y => exact h
/-- list(TEXTS) -/
theorem el_listGT {ws : List Str} {p2 : Pos} (G : GTup X.K X.mg n ws) (hg : Gl X "list") (hm : X.mg "list" = none) (hgn : Gl X n) (hd : (n == ("__debug__" : Str)) = false := by rfl) (hs : St1 X (.Name n p2) := by rfl) : EvL X E own B H σ (.Call (.Name "list" p) [.Name n p2] [] pos) rStr ws := fun B1 H1 S1 e1 e2 Q k => by
  obtain ⟨t, o, its, kk, h1, h2, h3, h4, h5, h6⟩ := G
  refine WE.of (pe_callTy call_list_of hg hm (by decide +kernel) (pa_cons (pe_gref hgn h1 hd) pa_nil hs) (he := hs)) ?_
  exact ⟨t, ws.map V.str, rfl, .inr (.inr ⟨o, its, kk, h2, h3, h4, h5, h6⟩), fun l hl => k l _ B1 _ (S1.alloc hl fun ys z => by cases z) (Ex.refl _) (Sx.new hl).ex (strs_pair _)⟩
/-- isinstance(x, one's own class) -/
theorem ev_isC {C : Addr} {cs : Str} {p2 : Pos} (IC : InsC X.K X.mg cs C) (hR : InsR C R) (hg : Gl X "isinstance") (hm : X.mg "isinstance" = none) (hgc : Gl X cs) (ha : EvB X E own B H σ a R x) (hdb : (cs == ("__debug__" : Str)) = false := by decide)
    (hs : starEach (a :: [.Name cs p2]) X.env = (false, eval a X.env) :: starEach [.Name cs p2] X.env := by rfl) (hs2 : St1 X (.Name cs p2) := by rfl) (hpl : (backTo pos (starEach [.Name cs p2] X.env)).any (·.1) = false := by rfl) :
    EvB X E own B H σ (.Call (.Name "isinstance" p) [a, .Name cs p2] [] pos) rBool true := fun B1 H1 S1 e1 e2 Q k =>
  WE.of (pe_callB call_isi hg hm (by decide +kernel) (pa_cons peW (pa_cons (pe_gref hgc IC.m hdb) pa_nil hs2) hs) (he := hs) (hpl := hpl)) (ha B1 H1 S1 e1 e2 _ fun v B2 H2 S2 e3 e4 r => by
    obtain ⟨q, dx, fs, h1, h2⟩ := hR r
    exact ⟨v, .ref C, .ref C, .ref C, true, rfl, .own C, by rw [h1]; exact .base (.ins h2 IC.cls IC.ha IC.hn IC.htk IC.hm), kit_self, k _ B2 H2 S2 e3 e4 rfl⟩)
/-- l.count(a text), l.index(a text) -/
theorem cnt_strs (s : Str) : ∀ ss : List Str, ((ss.map V.str).countP fun z => eqV z (V.str s)) = ss.count s
  | [] => rfl
  | t :: r => by
    rw [List.map_cons, List.countP_cons, cnt_strs s r, List.count_cons]
    rfl
theorem ev_cntS {s : Str} {ss : List Str} (ho : EvB X E own B H σ o (rLst rStr) ss) (ha : EvB X E own B H σ a rStr s)
    (hbase : attributeBase o "count" X.env (eval o X.env) = eval o X.env := by rfl)
    (hfew : ((backTo cp (starEach [a] X.env)).all (fun x => !x.1) && (backToKw cp (keywordEach [] X.env)).all (fun x => x.1.isSome) && decide ([a].length + ([] : List Keyword).length + (if ([] : List Keyword).isEmpty then 0 else 1) < 30)) = true := by rfl)
    (hline : (ap.endLine == cp.line) = true := by rfl) (hs : starEach [a] X.env = (false, eval a X.env) :: starEach [] X.env := by rfl) (hpl : (backTo cp (starEach [] X.env)).any (·.1) = false := by rfl) :
    EvB X E own B H σ (.Call (.Attribute o "count" ap) [a] [] cp) rInt (ss.count s : Nat) := fun B1 H1 S1 e1 e2 Q k =>
  WE.of (pe_bm PySem.F.plainAttrs_list PySem.F.slot_list_count PySem.F.type_list_count mt_cntV peW (pa_cons peW pa_nil hs) hbase hfew hline hs hpl) (ho B1 H1 S1 e1 e2 _ fun v B2 H2 S2 e3 e4 r => by
    obtain ⟨q, vs, rfl, h2, h3⟩ := r
    refine ⟨.inl ⟨rfl, vs, .inl h2⟩, ha B2 H2 S2 (e1.trans e3) (e2.trans e4) _ fun w B3 H3 S3 e5 e6 r2 => ?_⟩
    have r2 : w = .str s := r2
    subst r2
    rw [strs_rel h3] at h2
    exact ⟨q, _, _, rfl, rfl, .inl (e6.rdL h2), rfl, strs_flat _, by rw [cnt_strs]; exact k _ B3 H3 S3 (e3.trans e5) (e4.trans e6) rfl⟩)
theorem ev_ixOfS {s : Str} {ss : List Str} {d : Int} (ho : EvB X E own B H σ o (rLst rStr) ss) (ha : EvB X E own B H σ a rStr s) (hd : ixOf ss s = some d)
    (hbase : attributeBase o "index" X.env (eval o X.env) = eval o X.env := by rfl)
    (hfew : ((backTo cp (starEach [a] X.env)).all (fun x => !x.1) && (backToKw cp (keywordEach [] X.env)).all (fun x => x.1.isSome) && decide ([a].length + ([] : List Keyword).length + (if ([] : List Keyword).isEmpty then 0 else 1) < 30)) = true := by rfl)
    (hline : (ap.endLine == cp.line) = true := by rfl) (hs : starEach [a] X.env = (false, eval a X.env) :: starEach [] X.env := by rfl) (hpl : (backTo cp (starEach [] X.env)).any (·.1) = false := by rfl) :
    EvB X E own B H σ (.Call (.Attribute o "index" ap) [a] [] cp) rInt d := fun B1 H1 S1 e1 e2 Q k =>
  WE.of (pe_bm PySem.F.plainAttrs_list PySem.F.slot_list_index PySem.F.type_list_index mt_index peW (pa_cons peW pa_nil hs) hbase hfew hline hs hpl) (ho B1 H1 S1 e1 e2 _ fun v B2 H2 S2 e3 e4 r => by
    obtain ⟨q, vs, rfl, h2, h3⟩ := r
    refine ⟨.inl ⟨rfl, vs, .inl h2⟩, ha B2 H2 S2 (e1.trans e3) (e2.trans e4) _ fun w B3 H3 S3 e5 e6 r2 => ?_⟩
    have r2 : w = .str s := r2
    subst r2
    rw [strs_rel h3] at h2
    obtain ⟨j, rfl, g1, g2⟩ := ixOf_at hd
    refine ⟨q, _, _, j, .str s, rfl, rfl, .inl (e6.rdL h2), rfl, strs_flat _, by rw [List.getElem?_map, g1]; rfl, by show (s == s) = true; exact beq_self_eq_true s, fun mm z hm hz => ?_, k _ B3 H3 S3 (e3.trans e5) (e4.trans e6) rfl⟩
    rw [List.getElem?_map, Option.map_eq_some_iff] at hz
    obtain ⟨t, g3, rfl⟩ := hz
    show (t == s) = false
    exact beq_false_of_ne (g2 mm hm t g3))
def absI (i : Int) : Int := if i < 0 then -i else i
theorem ev_abs {d : Int} (hg : Gl X "abs") (hm : X.mg "abs" = none) (ha : EvB X E own B H σ a rInt d) (hs : St1 X a := by rfl) : EvB X E own B H σ (.Call (.Name "abs" p) [a] [] pos) rInt (absI d) :=
  ev_b1 (f := absI) (pe_callB call_abs hg hm (by decide +kernel) (pa1 hs) (he := hs)) ha fun H1 v Q h k => ⟨d, by rw [show v = .int d from h], k _ rfl⟩
theorem ee_none {kk} : EvE X E own B H σ (.Constant .none kk pos) (rOpt R) none := fun B1 H1 S1 e1 e2 Q k => WE.of pe_non (k .non B1 H1 S1 (Ex.refl _) (Ex.refl _) rfl)
theorem ee_fld {CA : Addr} {pr : α → β} (cls : Cls X.K CA) (na : NoAttr X.K CA f) (F : FldOf CA f R S pr) (ho : EvE X E own B H σ o R x) (hb : attributeBase o f X.env (eval o X.env) = eval o X.env := by rfl) : EvE X E own B H σ (.Attribute o f pos) S (pr x) := fun B1 H1 S1 e1 e2 Q q =>
  WE.of (pe_fld peW hb) (ho B1 H1 S1 e1 e2 _ fun v B2 H2 S2 e3 e4 r => by
    obtain ⟨a, dx, fs, u, h1, h2, h3, h4⟩ := F.g r
    exact ⟨a, CA, dx, fs, u, h1, S2.bh _ _ h2, cls, na, h3, q u B2 H2 S2 e3 e4 h4⟩)
theorem ee_meth0 {ps : List Str} {args : δ → AR} {g : δ → Res ρ} {RR : Rel ρ} {d : δ} {r : ρ} {CA : Addr} {pl : Sem Bool} (C : Cok X k0) (cls : Cls X.K CA) (G : MCal X k CA m ps (SpA args (kE RR) g)) (hk : k ≤ k0) (ho : EvB X E own B H σ o R x) (hi : InsOf CA m R) (hA : args d = aC R x aN) (hm : g d = .ok r)
    (ht : eval (.Call (.Attribute o m apos) [] [] pos) X.env = (do
      let ov ← eval o X.env
      standAt apos.atName
      let (f, first) ← holding [ov] (getMethod ov m pl)
      callWith pos f first (backTo pos (starEach [] X.env)) (backToKw pos (keywordEach [] X.env))) := by rfl) : EvE X E own B H σ (.Call (.Attribute o m apos) [] [] pos) RR r := fun B1 H1 S1 e1 e2 Q q => by
  obtain ⟨fa, fd, F, hM, hb⟩ := G
  refine WE.of (pe_meth0 (pl := pl) peW cls hM F (C.room.mono hk) hb .nil pass0 ht) (ho B1 H1 S1 e1 e2 _ fun v B2 H2 S2 e3 e4 r => ?_)
  obtain ⟨a, dx, fs, h1, h2, h3⟩ := hi r
  exact ⟨a, dx, fs, h1, h2, h3, B2, d, S2.bh, S2.tu, by rw [hA]; exact ⟨v, [], rfl, r, rfl⟩, kE_call S2 hm fun p B4 H4 S4 e7 e8 r => q p B4 H4 S4 (e3.trans e7) (e4.trans e8) r⟩
theorem ee_meth0K {ps : List Str} {args : δ → AR} {g : δ → Res ρ} {RR : Rel ρ} {d : δ} {r : ρ} {CA : Addr} {pl : Sem Bool} (C : Cok X k0) (cls : Cls X.K CA) (G : MCal X k CA m ps (SpA args (kE RR) g)) (hk : k ≤ k0) (ho : EvE X E own B H σ o R x) (hi : InsOf CA m R) (hA : args d = aK R x aN) (hm : g d = .ok r)
    (ht : eval (.Call (.Attribute o m apos) [] [] pos) X.env = (do
      let ov ← eval o X.env
      standAt apos.atName
      let (f, first) ← holding [ov] (getMethod ov m pl)
      callWith pos f first (backTo pos (starEach [] X.env)) (backToKw pos (keywordEach [] X.env))) := by rfl) : EvE X E own B H σ (.Call (.Attribute o m apos) [] [] pos) RR r := fun B1 H1 S1 e1 e2 Q q => by
  obtain ⟨fa, fd, F, hM, hb⟩ := G
  refine WE.of (pe_meth0 (pl := pl) peW cls hM F (C.room.mono hk) hb .nil pass0 ht) (ho B1 H1 S1 e1 e2 _ fun v B2 H2 S2 e3 e4 r => ?_)
  obtain ⟨a, dx, fs, h1, h2, h3⟩ := hi r
  exact ⟨a, dx, fs, h1, S2.bh _ _ h2, h3, B2, d, S2.bh, S2.tu, by rw [hA]; exact ⟨v, [], rfl, r, rfl⟩, kE_call S2 hm fun p B4 H4 S4 e7 e8 r => q p B4 H4 S4 (e3.trans e7) (e4.trans e8) r⟩
theorem ee_methK {ps : List Str} {A : AR} {args : δ → AR} {g : δ → Res ρ} {RR : Rel ρ} {d : δ} {r : ρ} {CA : Addr} {pl : Sem Bool} (C : Cok X k0) (cls : Cls X.K CA) (G : MCal X k CA m ps (SpA args (kE RR) g)) (hk : k ≤ k0) (ho : EvE X E own B H σ o R x) (hi : InsOf CA m R) (ha : EvAs X E own B H σ (e :: es) A) (hA : args d = aK R x A) (hm : g d = .ok r)
    (hst : starEach (e :: es) X.env = (false, eval e X.env) :: starEach es X.env := by rfl) (hpl : (backTo pos (starEach es X.env)).any (·.1) = false := by rfl)
    (ht : eval (.Call (.Attribute o m apos) (e :: es) [] pos) X.env = (do
      let ov ← eval o X.env
      standAt apos.atName
      let (f, first) ← holding [ov] (getMethod ov m pl)
      callWith pos f first (backTo pos (starEach (e :: es) X.env)) (backToKw pos (keywordEach [] X.env))) := by rfl) : EvE X E own B H σ (.Call (.Attribute o m apos) (e :: es) [] pos) RR r := fun B1 H1 S1 e1 e2 Q q => by
  obtain ⟨fa, fd, F, hM, hb⟩ := G
  refine WE.of (pe_meth (pl := pl) peW cls hM F (C.room.mono hk) hb .nil pass0 paW hst hpl ht) (ho B1 H1 S1 e1 e2 _ fun v B2 H2 S2 e3 e4 r => ?_)
  obtain ⟨a, dx, fs, h1, h2, h3⟩ := hi r
  refine ⟨a, dx, fs, h1, S2.bh _ _ h2, h3, ha B2 H2 S2 (e1.trans e3) (e2.trans e4) _ fun vs B3 H3 S3 e5 e6 q2 => ?_⟩
  rw [List.append_nil]
  exact ⟨B3, d, S3.bh, S3.tu, by rw [hA]; exact ⟨v, vs, rfl, R.mono e5 r, q2⟩, kE_call S3 hm fun v B4 H4 S4 e7 e8 r => q v B4 H4 S4 ((e3.trans e5).trans e7) ((e4.trans e6).trans e8) r⟩
theorem el_listRM {p2 pos2 : Pos} (hc : X.calm = true) (hg : Gl X "list") (hm : X.mg "list" = none) (hg2 : Gl X "reversed") (hm2 : X.mg "reversed" = none) (ha : EvM X E own B H σ a R xs) (hs : St1 X a := by rfl)
    (hs2 : starEach [.Call (.Name "reversed" p2) [a] [] pos2] X.env = (false, eval (.Call (.Name "reversed" p2) [a] [] pos2) X.env) :: starEach [] X.env := by rfl) : EvL X E own B H σ (.Call (.Name "list" p) [.Call (.Name "reversed" p2) [a] [] pos2] [] pos) R xs.reverse := fun B1 H1 S1 e1 e2 Q k =>
  WE.of (pe_listRev hc hg hm hg2 hm2 peW hs hs2) (ha B1 H1 S1 e1 e2 _ fun q vs B2 H2 S2 e3 e4 h2 h3 =>
    ⟨q, vs, rfl, .inl (.inl h2), fun l hl => k l _ B2 _ (S2.alloc hl fun ys z => by cases z) e3 (e4.trans (Sx.new hl).ex) (prev h3)⟩)
/-- list(d.values()) -/
theorem el_listVals {kvs : List (Int × α)} (hc : X.calm = true) (hg : Gl X "list") (hm : X.mg "list" = none) (ho : EvE X E own B H σ o (rDI R) kvs)
    (hb : attributeBase o "values" X.env (eval o X.env) = eval o X.env := by rfl) (hl : (ap.endLine == cp.line) = true := by rfl) (hs : St1 X (.Call (.Attribute o "values" ap) [] [] cp) := by rfl) : EvL X E own B H σ (.Call (.Name "list" p) [.Call (.Attribute o "values" ap) [] [] cp] [] pos) R (kvs.map (·.2)) := fun B1 H1 S1 e1 e2 Q k => by
  refine WE.of (pe_callTy (cr_listVv hc) hg hm (by decide +kernel) (pa_cons (pe_vv peW hb hl) pa_nil hs) (he := hs)) (ho B1 H1 S1 e1 e2 _ fun v B2 H2 S2 e3 e4 r => ?_)
  obtain ⟨d, ws, rfl, h2, h3⟩ := r
  refine ⟨d, ws, rfl, rfl, S2.bh.ex.dK h2, fun q hq => ?_⟩
  have x3 : Ex H2 (upd H2 q (vvO q d)) := (Sx.new hq).ex
  have S3 := S2.alloc hq (o := vvO q d) fun ys z => by cases z
  refine ⟨q, d, ws, rfl, upd_same, x3.dK (S2.bh.ex.dK h2), fun l hl => ?_⟩
  have S5 := (S3.alloc hl (o := .lst (ws.map (·.2))) fun ys z => by cases z).swap.drop
  refine k l _ _ _ S5 e3 ((e4.trans x3).trans (Sx.new hl).ex) ?_
  have : ∀ {ws : List (Key × V)} {kvs : List (Int × α)}, pI R B2 ws kvs → Paired (R.r B2) (ws.map (·.2)) (kvs.map (·.2)) := by
    intro ws kvs h
    induction h with
    | nil => exact .nil
    | cons h t ih => exact .cons h.2 ih
  exact this h3
end
section
variable {P : Program} {w : World} {K : PySem.W.Frag} {mg : Str → Option Value} {base : Heap}
theorem initR_ok {x qual : Str} {st : Stmt} {f : Addr} {fd : FuncData} {N ps : List Str} {k : Nat} {δ : Type} {CR : Addr} {args : δ → AR} {g : δ → Res Rul} (F : Fun K x qual st f fd) (S : FnScope N ps (defScope st)) (hl : ∀ d vs B H, (args d).r vs B H → vs.length + 1 = ps.length)
    (body : ∀ X : Cx, X.prog = P → X.w = w → X.K = K → X.mg = mg → X.base = base → Cok X k → Scp X N (defScope st) → (∀ x, X.fn x = true) → ∀ B H0 a dx us d (Q : VK), H0 a = none → Sx B H0 → Tx H0 B → (args d).r us B H0 → Fin (kRul CR a dx ⟨B, H0⟩ Q) NoErr (g d) →
      WSs X (defBody st) { nx := fun _ H' => Q .non H', rt := Q } (start N (.ref a :: us)) (upd H0 a (.ins CR dx []))) : FnOk P w K mg base CX0 (k + 1) f fd ps (SpInitR CR args g) := by
  refine F.ok S (fun vs H Q E h => ?_) (fun cdv A outer s H vs Q E hr h => ?_)
  · obtain ⟨B, H0, d, a, dx, us, rfl, _, _, _, _, h3, _⟩ := h
    exact hl d us B H0 h3
  · obtain ⟨B, H0, d, a, dx, us, rfl, rfl, h0, h1, h2, h3, h4⟩ := h
    exact ⟨_, pssW, body ((cxOf CX0 P w K mg base N qual (defScope st) f cdv A outer s _ E).nox) rfl rfl rfl rfl rfl ⟨rfl, S.nd, hr, PassesOwn.never⟩ ⟨rfl, rfl⟩ (fun _ => rfl) B H0 a dx us d Q h0 h1 h2 h3 h4⟩
end
/-! ### numbers of bounded size -/
instance {i j : Int} : Decidable (CMulX i j) := by unfold CMulX; infer_instance
section
variable {X : Cx} {E : Ent} {own : Own} {B H : Hp} {σ : L2.St} {a b : Expr} {pos : Pos} {i j : Int}
theorem ev_mulX (ha : EvB X E own B H σ a rInt i) (hb : EvB X E own B H σ b rInt j) (hc : CMulX i j) : EvB X E own B H σ (.BinOp a .Mult b pos) rInt (i * j) := ev_op op_mulX ha hb (rI_ok hc)
end
def spLawB : Sp := fun vs H Q _ => ∃ (a : Addr) (ns : List Int), vs = [.ref a] ∧ Rd H a (.lst (ns.map V.int)) ∧ ns.length ≤ 63 ∧ (∀ z ∈ ns, Builtin.Int.intBits z ≤ 1048576) ∧ ∀ H', Q (.bl true) H'
theorem fn_lawB {P : Program} {w : World} {K : PySem.W.Frag} {mg : Str → Option Value} {base : Heap} {k : Nat} {f : Addr} {fd : FuncData} {p : Str} {m : List Int → Res Bool}
    {args : List Int → AR} (F : FnOk P w K mg base CX0 k f fd [p] (SpA args (kE rBool) m)) (h : ∀ ns : List Int, ns.length ≤ 63 → (∀ z ∈ ns, Builtin.Int.intBits z ≤ 1048576) → m ns = .ok true) (ha : ∀ (H : Hp) (v : V) (ns : List Int), (rLst rInt).r H v ns → (args ns).r [v] H H := by exact fun H v ns h => ⟨_, _, rfl, h, rfl⟩) : FnOk P w K mg base CX0 k f fd [p] spLawB := by
  refine F.imp fun vs H Q E hs => ?_
  obtain ⟨a, ns, rfl, hr, hl, hb, hq⟩ := hs
  refine ⟨H, ns, Sx.refl _, fun _ _ e => e, ha _ _ _ ⟨a, _, rfl, hr, ints_rel' ns⟩, ?_⟩
  rw [h ns hl hb]
  intro v B2 H2 _ r
  rw [show v = .bl true from r]
  exact hq H2
theorem walk_lawB {l : PySem.W.OpenLaw} {q : Program} {loose : List Str} {XP : (Str → Option Value) → Heap → Prop} {YP : World → Heap → Prop} {d : DefRec} {K : Params → PySem.W.Frag} {k : Nat} {p : Str} (hn : l.most = some 63) (hdf : d.params.defaults = []) (hr : Room k callerA)
    (hY : ∀ (w : World) (h : Heap), YP w h → (K w.params).In h) (hN : ∀ w : World, noLst (K w.params) = true)
    (F : ∀ (w : World) (mg : Str → Option Value) (fa : Addr) (h : Heap), (K w.params).In h → h.Ns mainGlobals mg → mg d.name = some (.ref fa) →
      ∃ fd : FuncData, (∀ (s : Shared) (u : Value), BindsTo s fd ⟨[u], []⟩ [(p, u)]) ∧ ∀ base : Heap, (K w.params).In base → base.Ns mainGlobals mg → FnOk l.prog w (K w.params) mg base CX0 k fa fd [p] spLawB) :
    PySem.W.WalkO q loose XP YP l.row.toRowW d [] (fun f vs => PySem.call f vs) :=
  L2.walk_ofB (n := 63) (k := k) (x := p) (CX := fun _ => CX0) (sp := fun _ => spLawB) hn (by decide) hdf hr hY F (fun w _ a ns hl hb _ hS => ⟨a, ns, rfl, by
    rcases hS with h | ⟨o, its, n, h1, h2, _⟩
    · exact h
    · exact (noLst.out (hN w) h1 h2).elim, hl, hb, fun _ => rfl⟩) fun _ _ _ _ _ z => z
end Sg

namespace Sg
open PySem PySem.Spec PyProof.Rows L2
/-! ### a text again and again -/
@[irreducible] def repS (s : Str) (n : Int) : Str := ⟨(List.replicate n.toNat s.cps).foldl (· ++ ·) #[]⟩
def CRep (s : Str) (n : Int) : Prop := 2 ≤ n ∧ n ≤ 16777216 ∧ 1 ≤ s.length ∧ s.length * n.toNat ≤ 16777216
instance {s : Str} {n : Int} : Decidable (CRep s n) := by unfold CRep; infer_instance
theorem rep_size (s : Str) : ∀ (k : Nat) (a : Array Nat), ((List.replicate k s.cps).foldl (· ++ ·) a).size = a.size + k * s.cps.size
  | 0, a => by simp
  | k + 1, a => by
    rw [List.replicate_succ, List.foldl_cons, rep_size s k, Array.size_append, Nat.succ_mul]
    omega
theorem rep_len (s : Str) (n : Int) : (repS s n).length = n.toNat * s.length := by
  unfold repS
  show ((List.replicate n.toNat s.cps).foldl (· ++ ·) #[]).size = _
  rw [rep_size]
  show 0 + _ = _
  rw [Nat.zero_add]
  rfl
section
variable {X : Cx}
theorem op_mul_str : OpR X (binaryOp .Mult) (fun x y H Q => ∃ s n, x = .str s ∧ y = .int n ∧ CRep s n ∧ Q (.str (repS s n)) H) := by
  intro pins s σ H x y v u Q I rx ry h
  obtain ⟨z, n, rfl, rfl, ⟨c1, c2, c3, c4⟩, q⟩ := h
  obtain ⟨t, rfl⟩ := rx
  obtain ⟨t', rfl⟩ := ry
  have hn : ¬ n < 1 := by omega
  have hw : (n == 1 || z.length == 0) = false := by
    rw [Bool.or_eq_false_iff]
    exact ⟨beq_false_of_ne (by omega), beq_false_of_ne (by omega)⟩
  refine PySem.P.mul_str (by rw [decide_eq_false (by omega), decide_eq_false (by omega)]; rfl) (fun _ _ z1 => ?_) (fun _ _ => ?_) ?_
  · have h1 : (z.length : Int) * n ≤ 2 ^ 63 - 1 := by
      have e : ((z.length * n.toNat : Nat) : Int) = (z.length : Int) * n := by
        rw [Int.natCast_mul, Int.toNat_of_nonneg (by omega)]
      omega
    have h2 := (Int.le_ediv_iff_mul_le (show 0 < n by omega)).mpr h1
    omega
  · show decide (z.length * n.toNat > sizeLine) = false
    exact decide_eq_false (by rw [sizeLine_eq]; omega)
  · rw [if_neg hn, if_neg (by rw [hw]; decide)]
    have := rep_len z n
    unfold repS at q this
    refine ⟨?_, .str _, H, I.tok _, ⟨_, rfl⟩, q⟩
    rw [Nat.mul_comm] at this
    rw [sizeLine_eq]
    refine Nat.le_trans (Nat.le_of_eq this) ?_
    exact c4
end
/-! ### a whole number or a text -/
def rIS : Rel (Int ⊕ Str) := ⟨fun _ v x => v = match x with | .inl i => .int i | .inr s => .str s, fun _ h => h⟩
instance : Imm rIS := ⟨fun _ h => h⟩
instance : NN rIS := ⟨fun {H v x} h => by
  rw [show v = _ from h]
  cases x <;> exact fun q => by cases q⟩
def isD : Int ⊕ Str → PyData
  | .inl i => .int i
  | .inr s => .str s
instance {K : PySem.W.Frag} : DatP K rIS := ⟨isD, fun {H v x} h => by
    rw [show v = _ from h]
    cases x
    · exact .int _
    · exact .str _, fun x => by cases x <;> rfl, 0, fun x => by cases x <;> exact Nat.le_refl _, fun x y => by
    cases x <;> cases y <;> simp [isD, PyData.eqv]⟩
instance {K : PySem.W.Frag} : DatP K rCh := ⟨fun c => .str ⟨#[c]⟩, fun {H v x} h => by
    rw [show v = _ from h]
    exact .str _, fun x => rfl, 0, fun x => Nat.le_refl _, fun x y => by
    simp [PyData.eqv]⟩
instance : Flat rBool := ⟨fun h => by rw [show _ = _ from h]; rfl, fun h h' => by
  rw [show _ = _ from h, show _ = _ from h']
  show (_ == _) = _
  rw [Bool.eq_iff_iff]
  simp⟩
/-- of none a class of one's own -/
structure InsN (K : PySem.W.Frag) (C : Addr) : Prop where
  ic : PySem.W.isClsIn K C = true
  it : PySem.W.typeIn K (.ref C) = some (.type "type")
  sn : PySem.W.subIn K (.type "NoneType") (.ref C) = some false
section
variable {X : Cx} {E : Ent} {own : Own} {B H : Hp} {σ : L2.St} {α : Type} {R : Rel α} {a b o e : Expr} {x : α} {p pos ap cp : Pos} {xs : List α} {i : Int} {s : Str}
theorem ev_repS (ha : EvB X E own B H σ a rStr s) (hb : EvB X E own B H σ b rInt i) (hc : CRep s i) : EvB X E own B H σ (.BinOp a .Mult b pos) rStr (repS s i) := fun B1 H1 S1 e1 e2 Q k =>
  WE.of (pe_op op_mul_str peW peW) (ha B1 H1 S1 e1 e2 _ fun v B2 H2 S2 e3 e4 r => hb B2 H2 S2 (e1.trans e3) (e2.trans e4) _ fun w B3 H3 S3 e5 e6 r' => ⟨s, i, r, r', hc, k _ B3 H3 S3 (e3.trans e5) (e4.trans e6) rfl⟩)
theorem ev_cutS {lo hi : Option Expr} {l u : Option Int} (ho : EvB X E own B H σ o rStr s) (hl : EvP X E own B H σ lo l) (hu : EvP X E own B H σ hi u) (hz : s.length ≤ sizeLine) : EvB X E own B H σ (.Subscript o (.Slice lo hi none p) pos) rStr (cutS s l u) := fun B1 H1 S1 e1 e2 Q k => by
  obtain ⟨tl, pl, hl⟩ := hl
  obtain ⟨tu, pu, hu⟩ := hu
  exact WE.of (pe_slice sl_str peW pl pu) (ho B1 H1 S1 e1 e2 _ fun v B2 H2 S2 e3 e4 r => hl B2 H2 S2 (e1.trans e3) (e2.trans e4) _ fun B3 H3 S3 e5 e6 => hu B3 H3 S3 ((e1.trans e3).trans e5) ((e2.trans e4).trans e6) _ fun B4 H4 S4 e7 e8 =>
    ⟨s, r, hz, k _ B4 H4 S4 ((e3.trans e5).trans e7) ((e4.trans e6).trans e8) rfl⟩)
theorem tl_cutS (z : Str) (l u : Option Int) : TL.tl (cutS z l u) = cut (TL.tl z) l u := by
  have e : (TL.tl z).length = z.length := (TL.len_tl z).symm
  unfold cut
  rw [e]
  rfl
theorem ev_isL (h : EvB X E own B H σ a rInt i) : EvB X E own B H σ a rIS (.inl i) := h
theorem ev_isR (h : EvB X E own B H σ a rStr s) : EvB X E own B H σ a rIS (.inr s) := h
theorem ev_isCO {x : Option α} {C : Addr} {cs : Str} {p2 : Pos} (IC : InsC X.K X.mg cs C) (IN : InsN X.K C) (hR : InsR C R) (hg : Gl X "isinstance") (hm : X.mg "isinstance" = none) (hgc : Gl X cs) (ha : EvB X E own B H σ a (rOpt R) x) (hdb : (cs == ("__debug__" : Str)) = false := by decide)
    (hs : starEach (a :: [.Name cs p2]) X.env = (false, eval a X.env) :: starEach [.Name cs p2] X.env := by rfl) (hs2 : St1 X (.Name cs p2) := by rfl) (hpl : (backTo pos (starEach [.Name cs p2] X.env)).any (·.1) = false := by rfl) :
    EvB X E own B H σ (.Call (.Name "isinstance" p) [a, .Name cs p2] [] pos) rBool x.isSome := fun B1 H1 S1 e1 e2 Q k =>
  WE.of (pe_callB call_isi hg hm (by decide +kernel) (pa_cons peW (pa_cons (pe_gref hgc IC.m hdb) pa_nil hs2) hs) (he := hs) (hpl := hpl)) (ha B1 H1 S1 e1 e2 _ fun v B2 H2 S2 e3 e4 r => by
    cases x with
    | none => exact ⟨v, .ref C, .type "NoneType", .ref C, false, rfl, .own C, by rw [show v = .non from r]; exact .base .non, by
        show (if (Value.type "NoneType" == Value.ref C) = true then some true else PySem.W.kitCls X.K (.type "NoneType") (.ref C)) = some false
        rw [if_neg (by show ¬ (false = true); exact Bool.false_ne_true)]
        exact kit_cl IN.ic IN.it IN.sn, k _ B2 H2 S2 e3 e4 rfl⟩
    | some y =>
      obtain ⟨q, dx, fs, h1, h2⟩ := hR (show v ≠ .non ∧ R.r H2 v y from r).2
      exact ⟨v, .ref C, .ref C, .ref C, true, rfl, .own C, by rw [h1]; exact .base (.ins h2 IC.cls IC.ha IC.hn IC.htk IC.hm), kit_self, k _ B2 H2 S2 e3 e4 rfl⟩)
theorem cnt_flat [DecidableEq α] [Flat R] {H1 : Hp} {v : V} {x : α} (hx : R.r H1 v x) : ∀ {vs : List V} {xs : List α}, Paired (R.r H1) vs xs → vs.all flatV = true ∧ (vs.countP fun z => eqV z v) = xs.count x
  | _, _, .nil => ⟨rfl, rfl⟩
  | _, _, .cons (a := w) (b := y) h t => by
    obtain ⟨h1, h2⟩ := cnt_flat hx t
    refine ⟨by rw [List.all_cons, Flat.f h, h1] <;> rfl, ?_⟩
    rw [List.countP_cons, h2, Flat.eq h hx, List.count_cons]
    by_cases q : y = x
    · subst q; simp
    · simp [q]
theorem ev_cntF [DecidableEq α] [Flat R] (ho : EvB X E own B H σ o (rLst R) xs) (ha : EvB X E own B H σ a R x)
    (hbase : attributeBase o "count" X.env (eval o X.env) = eval o X.env := by rfl)
    (hfew : ((backTo cp (starEach [a] X.env)).all (fun x => !x.1) && (backToKw cp (keywordEach [] X.env)).all (fun x => x.1.isSome) && decide ([a].length + ([] : List Keyword).length + (if ([] : List Keyword).isEmpty then 0 else 1) < 30)) = true := by rfl)
    (hline : (ap.endLine == cp.line) = true := by rfl) (hs : starEach [a] X.env = (false, eval a X.env) :: starEach [] X.env := by rfl) (hpl : (backTo cp (starEach [] X.env)).any (·.1) = false := by rfl) :
    EvB X E own B H σ (.Call (.Attribute o "count" ap) [a] [] cp) rInt (xs.count x : Nat) := fun B1 H1 S1 e1 e2 Q k =>
  WE.of (pe_bm PySem.F.plainAttrs_list PySem.F.slot_list_count PySem.F.type_list_count mt_cntV peW (pa_cons peW pa_nil hs) hbase hfew hline hs hpl) (ho B1 H1 S1 e1 e2 _ fun v B2 H2 S2 e3 e4 r => by
    obtain ⟨q, vs, rfl, h2, h3⟩ := r
    refine ⟨.inl ⟨rfl, vs, .inl h2⟩, ha B2 H2 S2 (e1.trans e3) (e2.trans e4) _ fun w B3 H3 S3 e5 e6 r2 => ?_⟩
    obtain ⟨f1, f2⟩ := cnt_flat r2 (pimp h3 fun _ _ z => R.mono e6 z)
    exact ⟨q, vs, w, rfl, rfl, .inl (e6.rdL h2), Flat.f r2, f1, by rw [f2]; exact k _ B3 H3 S3 (e3.trans e5) (e4.trans e6) rfl⟩)
theorem pget2 {α β : Type} {F : α → β → Prop} : ∀ {l₁ : List α} {l₂ : List β}, Paired F l₁ l₂ → ∀ (j : Nat), (∀ y, l₂[j]? = some y → ∃ x, l₁[j]? = some x ∧ F x y) ∧ ∀ x, l₁[j]? = some x → ∃ y, l₂[j]? = some y ∧ F x y
  | _, _, .nil, j => ⟨fun y h => (by cases h), fun y h => (by cases h)⟩
  | _, _, .cons h t, 0 => ⟨fun y e => (by cases e; exact ⟨_, rfl, h⟩), fun y e => (by cases e; exact ⟨_, rfl, h⟩)⟩
  | _, _, .cons h t, j + 1 => pget2 t j
theorem ev_ixOfF [DecidableEq α] [Flat R] {d : Int} (ho : EvB X E own B H σ o (rLst R) xs) (ha : EvB X E own B H σ a R x) (hd : ixOf xs x = some d)
    (hbase : attributeBase o "index" X.env (eval o X.env) = eval o X.env := by rfl)
    (hfew : ((backTo cp (starEach [a] X.env)).all (fun x => !x.1) && (backToKw cp (keywordEach [] X.env)).all (fun x => x.1.isSome) && decide ([a].length + ([] : List Keyword).length + (if ([] : List Keyword).isEmpty then 0 else 1) < 30)) = true := by rfl)
    (hline : (ap.endLine == cp.line) = true := by rfl) (hs : starEach [a] X.env = (false, eval a X.env) :: starEach [] X.env := by rfl) (hpl : (backTo cp (starEach [] X.env)).any (·.1) = false := by rfl) :
    EvB X E own B H σ (.Call (.Attribute o "index" ap) [a] [] cp) rInt d := fun B1 H1 S1 e1 e2 Q k =>
  WE.of (pe_bm PySem.F.plainAttrs_list PySem.F.slot_list_index PySem.F.type_list_index mt_index peW (pa_cons peW pa_nil hs) hbase hfew hline hs hpl) (ho B1 H1 S1 e1 e2 _ fun v B2 H2 S2 e3 e4 r => by
    obtain ⟨q, vs, rfl, h2, h3⟩ := r
    refine ⟨.inl ⟨rfl, vs, .inl h2⟩, ha B2 H2 S2 (e1.trans e3) (e2.trans e4) _ fun w B3 H3 S3 e5 e6 r2 => ?_⟩
    have h3 := pimp h3 fun _ _ z => R.mono e6 z
    obtain ⟨f1, _⟩ := cnt_flat r2 h3
    obtain ⟨j, rfl, g1, g2⟩ := ixOf_at hd
    obtain ⟨u, hu, ru⟩ := (pget2 h3 j).1 _ g1
    refine ⟨q, vs, w, j, u, rfl, rfl, .inl (e6.rdL h2), Flat.f r2, f1, hu, by rw [Flat.eq ru r2]; exact decide_eq_true rfl, fun mm z hm hz => ?_, k _ B3 H3 S3 (e3.trans e5) (e4.trans e6) rfl⟩
    obtain ⟨y, hy, ry⟩ := (pget2 h3 mm).2 _ hz
    rw [Flat.eq ry r2]
    exact decide_eq_false (g2 mm hm y hy))
end
section
variable {X X' : Cx}
theorem Tr.tr {C : Addr} (t : Tr X X') (h : RulTxt X.K C) : RulTxt X'.K C := by rw [t.K]; exact h
theorem Tr.gtu {n : Str} {ws : List Str} (t : Tr X X') (h : GTup X.K X.mg n ws) : GTup X'.K X'.mg n ws := by rw [t.K, t.mg]; exact h
theorem Tr.isC {n : Str} {C : Addr} (t : Tr X X') (h : InsC X.K X.mg n C) : InsC X'.K X'.mg n C := by rw [t.K, t.mg]; exact h
theorem Tr.isN {C : Addr} (t : Tr X X') (h : InsN X.K C) : InsN X'.K C := by rw [t.K]; exact h
end
end Sg

namespace Sg
open PySem PySem.Spec PyProof.Rows L2
/-! ### steps: a word and a place, or a sign besides -/
abbrev StT := (Str × Int) ⊕ (Str × Int × Int)
abbrev rSt2 : Rel (Str × Int) := rPr rStr rInt
abbrev rSt3 : Rel (Str × Int × Int) := rT3 rStr rInt rInt
def rSt : Rel StT := ⟨fun H v x => match x with
  | .inl y => rSt2.r H v y
  | .inr z => rSt3.r H v z, fun {H H' v x} e h => by
  cases x with
  | inl y => exact Rel.mono rSt2 e h
  | inr z => exact Rel.mono rSt3 e h⟩
instance : Imm rSt := ⟨fun {H H' v x} e h => by
  cases x with
  | inl y => exact Imm.imm (R := rSt2) e h
  | inr z => exact Imm.imm (R := rSt3) e h⟩
instance : NN rSt := ⟨fun {H v x} h => by
  cases x with
  | inl y => exact NN.nn (R := rSt2) h
  | inr z => exact NN.nn (R := rSt3) h⟩
instance : TyR rSt "tuple" := ⟨fun {K H v x} h => by
  cases x with
  | inl y => exact TyR.ty (R := rSt2) h
  | inr z => exact TyR.ty (R := rSt3) h⟩
def stW : StT → Str
  | .inl y => y.1
  | .inr y => y.1
def stA : StT → Int
  | .inl y => y.2
  | .inr y => y.2.1
def stX : StT → Option Int
  | .inl _ => none
  | .inr y => some y.2.2
def lenSt : StT → Int
  | .inl _ => 2
  | .inr _ => 3
def stD : StT → PyData
  | .inl y => .tuple [.str y.1, .int y.2]
  | .inr y => .tuple [.str y.1, .int y.2.1, .int y.2.2]
instance {K : PySem.W.Frag} : DatP K rSt := ⟨stD, fun {H v x} h => by
    cases x with
    | inl y => exact DatP.rd (K := K) (R := rSt2) (x := y) h
    | inr y => exact DatP.rd (K := K) (R := rSt3) (x := y) h, fun x => by cases x <;> rfl, 1, fun x => by cases x <;> exact Nat.le_refl _, fun x y => by
    cases x with
    | inl a =>
      cases y with
      | inl b =>
        have := DatP.eq (K := K) (R := rSt2) a b
        exact this.trans ⟨fun e => by rw [e], fun e => Sum.inl.inj e⟩
      | inr b => simp [stD, PyData.eqv, PyData.eqvAll]
    | inr a =>
      cases y with
      | inl b => simp [stD, PyData.eqv, PyData.eqvAll]
      | inr b =>
        have := DatP.eq (K := K) (R := rSt3) a b
        exact this.trans ⟨fun e => by rw [e], fun e => Sum.inr.inj e⟩⟩
section
variable {X : Cx} {E : Ent} {own : Own} {B H : Hp} {σ : L2.St} {a o : Expr} {p pos : Pos} {x : StT} {i : Int}
theorem ev_stL {y : Str × Int} (h : EvB X E own B H σ a rSt2 y) : EvB X E own B H σ a rSt (.inl y) := h
theorem ev_stR {y : Str × Int × Int} (h : EvB X E own B H σ a rSt3 y) : EvB X E own B H σ a rSt (.inr y) := h
theorem ev_st0 {kk} {pp : Pos} (ho : EvB X E own B H σ o rSt x) : EvB X E own B H σ (.Subscript o (.Constant (.int 0) kk pp) pos) rStr (stW x) := by
  cases x with
  | inl y => exact ev_fst (R := rStr) (S := rInt) (q := y) ho
  | inr y => exact ev_t30 (R := rStr) (S := rInt) (T := rInt) (q := y) ho
theorem ev_st1 {kk} {pp : Pos} (ho : EvB X E own B H σ o rSt x) : EvB X E own B H σ (.Subscript o (.Constant (.int 1) kk pp) pos) rInt (stA x) := by
  cases x with
  | inl y => exact ev_snd (R := rStr) (S := rInt) (q := y) ho
  | inr y => exact ev_t31 (R := rStr) (S := rInt) (T := rInt) (q := y) ho
theorem ev_st2 {kk} {pp : Pos} (ho : EvB X E own B H σ o rSt x) (hx : stX x = some i) : EvB X E own B H σ (.Subscript o (.Constant (.int 2) kk pp) pos) rInt i := by
  cases x with
  | inl y => cases hx
  | inr y =>
    cases hx
    exact ev_t32 (R := rStr) (S := rInt) (T := rInt) (q := y) ho
theorem ev_lenSt (hg : Gl X "len") (hm : X.mg "len" = none) (ha : EvB X E own B H σ a rSt x) (hs : St1 X a := by rfl) : EvB X E own B H σ (.Call (.Name "len" p) [a] [] pos) rInt (lenSt x) :=
  ev_b1 (f := lenSt) (pe_callB call_len_seq hg hm PySem.boot_len (pa1 hs) (he := hs)) ha fun H1 v Q h k => by
    cases x with
    | inl y =>
      obtain ⟨p, vs, h1, h2, h3⟩ := lenPr.l (show rSt2.r H1 v y from h)
      exact ⟨p, vs, by rw [h1], .inr (SqT.of h2), k _ (by rw [h3]; rfl)⟩
    | inr y =>
      obtain ⟨p, vs, h1, h2, h3⟩ := lenT3.l (show rSt3.r H1 v y from h)
      exact ⟨p, vs, by rw [h1], .inr (SqT.of h2), k _ (by rw [h3]; rfl)⟩
end
end Sg

namespace Sg
open PySem PySem.Spec PyProof.Rows L2 HotX
/-! ### a list comprehension over range(n) while an exception is handled -/
/-- the range's turns, the handled exception among the pins -/
structure TurnQ (Pg : Program) (wd : World) (Kf : PySem.W.Frag) (tg : Expr) (J : It) (fp : List Addr) (it : Addr) (tn : Nat → Heap → Prop) : Prop where
  ob : ∀ j h, tn j h → ∀ b ∈ fp, ∃ o, h.get? b = some o ∧ ∀ v, o.data ≠ .cell v
  kp : ∀ j h h2, tn j h → (∀ b ∈ fp, ∀ o, h.get? b = some o → h2.get? b = some o) → tn j h2
  itm : ∀ (Y : Cx), Y.prog = Pg → Y.w = wd → Y.K = Kf → ∀ (j : Nat) (pl : List (Addr × Obj)) (t : Shared) (σ : L2.St) (H : Hp) (Ex : Value → Shared → Prop), Inv Y pl σ H t → (∀ b ∈ fp, FpOk Y pl H b) → tn j t.heap → J.go j H →
    wpAny (model Pg wd) Y.A (pyNext (.ref it)) (fun r t1 => ∃ u, r = some u ∧
      wpAny (model Pg wd) Y.A (letOwnedTupleGo tg (.ref it) u) (fun _ t2 => ∃ x H2, Inv Y pl σ H2 t2 ∧ RelV x u ∧ J.yld j H x H2 ∧ tn (j + 1) t2.heap ∧ ∀ b ∈ fp, H2 b = none) Ex t1) Ex t
  fin : ∀ (Y : Cx), Y.prog = Pg → Y.w = wd → Y.K = Kf → ∀ (j : Nat) (pl : List (Addr × Obj)) (p : Addr × Obj) (t : Shared) (σ : L2.St) (H : Hp) (Ex : Value → Shared → Prop), L2H.Hot1 Y.A p → p ∈ pl → Inv Y pl σ H t → (∀ b ∈ fp, FpOk Y pl H b) → tn j t.heap → J.stop j H →
    wpAny (model Pg wd) Y.A (pyNext (.ref it)) (fun r t1 => r = none ∧ Inv Y pl σ H t1) Ex t
  slf : ∀ (A : Around) (j : Nat) (t : Shared) (Q Ex : Value → Shared → Prop), tn j t.heap → Q (.ref it) t → wpAny (model Pg wd) A (pyIter (.ref it)) Q Ex t
theorem turnQ_range {Pg : Program} {wd : World} {Kf : PySem.W.Frag} {tg : Expr} (it : Addr) (lo : Int) (n : Nat) : TurnQ Pg wd Kf tg (Itr lo n) [it] it (fun j h => IsRangeIter h it (lo + (j : Nat) * 1) ((n : Int) - (j : Nat)) 1) := by
  constructor
  · intro j h st b hb
    obtain rfl : b = it := by simpa using hb
    refine ⟨_, st, fun v z => ?_⟩
    exact Data.noConfusion (show Data.fields _ = Data.cell v from z)
  · intro j h h2 st k
    exact k it (by simp) _ st
  · intro Y e1 e2 e3 j pl t σ H Ex I hf st hg
    subst e1 e2 e3
    have fo := hf it (by simp)
    have lt : j < n := hg
    refine wpAny_pyNext_range_item st (by omega) fun hp st' sb => ?_
    have go2 : IsRangeIter hp it (lo + ((j + 1 : Nat) : Int) * 1) ((n : Int) - ((j + 1 : Nat) : Int)) 1 := by
      rw [show lo + ((j + 1 : Nat) : Int) * 1 = lo + ((j : Nat) : Int) * 1 + 1 by omega, show (n : Int) - ((j + 1 : Nat) : Int) = (n : Int) - ((j : Nat) : Int) - 1 by omega]
      exact st'
    have I2 : Inv Y pl σ H { t with heap := hp, toks := t.toks + 1 } := I.turned (fun b o hb e => (sb.2 b hb).trans e) fo.1 fo.2.1 fo.2.2.2.1 fo.2.2.2.2.1 fo.2.2.2.2.2
    exact ⟨_, rfl, go_of (s := { t with heap := hp, toks := t.toks + 1 }) (n := "range_iterator") go2 rfl rfl (by decide) ⟨.int (lo + j), H, I2, ⟨t.toks, by rw [Int.mul_one]⟩, ⟨rfl, rfl⟩, go2, fun b hb => (hf b hb).1⟩⟩
  · intro Y e1 e2 e3 j pl p t σ H Ex hot hp I hf st hg
    subst e1 e2 e3
    have fo := hf it (by simp)
    obtain ⟨hh, v1, d1, c1⟩ := hot
    have hat : HotAt Y.A p.1 t.heap := ⟨hh, p.2, v1, (I.pin p (List.mem_append_right _ hp)).1, d1, c1⟩
    have le : n ≤ j := hg
    exact pyNext_range_end_hot hat st (by omega) fun hp2 eb => ⟨rfl, I.turned (t' := t.toks) (fun b o _ e => eb b o e) fo.1 fo.2.1 fo.2.2.2.1 fo.2.2.2.2.1 fo.2.2.2.2.2⟩
  · exact fun _ _ _ _ _ st h => wpAny_pyIter_rangeiter st h
def PieQ (X : Cx) (pl : List (Addr × Obj)) (σ : L2.St) (tg : Expr) (R : It → Hp → Prop) (v : Value) (t : Shared) : Prop :=
  ∃ (it : Addr) (fp : List Addr) (tn : Nat → Heap → Prop) (J : It) (H2 : Hp), v = .ref it ∧ Inv X pl σ H2 t ∧ TurnQ X.prog X.w X.K tg J fp it tn ∧ tn 0 t.heap ∧ (∀ b ∈ fp, FpOk X pl H2 b) ∧ R J H2
structure PIQ (X : Cx) (tg iter : Expr) (wi : TI) : Prop where
  run : ∀ (pl : List (Addr × Obj)) (t : Shared) (σ : L2.St) (H : Hp) (R : It → Hp → Prop), Inv X pl σ H t → wi σ H R →
    wpAny (model X.prog X.w) X.A (eval iter X.env) (fun v t1 => wpAny (model X.prog X.w) X.A (pyIter v) (PieQ X pl σ tg R) X.xe t1) X.xe t
section
variable {X : Cx} {tg : Expr}
theorem rangeQ {pl : List (Addr × Obj)} {σ : L2.St} {H : Hp} {t : Shared} {R : It → Hp → Prop} {Er : Value → Shared → Prop} {lo hi : Int} {u1 u2 u3 : Tok} {tk : Nat} (I : Inv X pl σ H t) (l1 : -(2 ^ 62) ≤ lo) (l2 : lo < 2 ^ 62) (l3 : -(2 ^ 62) ≤ hi) (l4 : hi < 2 ^ 62)
    (q : R (Itr lo (hi - lo).toNat) H) : wpAny (model X.prog X.w) X.A (pyIter (.ref t.heap.objs.size)) (PieQ X pl σ tg R) Er { t with heap := t.heap.push { cls := .type "range", data := .fields #[.int lo u1, .int hi u2, .int 1 u3] }, toks := tk } := by
  refine wpAny_pyIter_range (IsRange.new ..) (small_one l1 l2 l3 l4) ?_
  have J1 : Inv X pl σ H { t with heap := t.heap.push { cls := .type "range", data := .fields #[.int lo u1, .int hi u2, .int 1 u3] }, toks := tk } := I.kept fun b o e => Heap.get?_push_of_some _ e
  generalize hn : (t.heap.push { cls := .type "range", data := .fields #[.int lo u1, .int hi u2, .int 1 u3] }).objs.size = nw at *
  refine ⟨nw, [nw], _, _, H, rfl, J1.kept (t' := tk) fun b o e => Heap.get?_push_of_some _ e, turnQ_range _ lo (hi - lo).toNat, ?_, fun b hb => ?_, q⟩
  · have z2 : (((hi - lo).toNat : Nat) : Int) - ((0 : Nat) : Int) = Builtin.Range.rangeSize lo hi 1 := by
      rw [rangeSize_one]
      split <;> omega
    show IsRangeIter _ _ (lo + ((0 : Nat) : Int) * 1) ((((hi - lo).toNat : Nat) : Int) - ((0 : Nat) : Int)) 1
    rw [show lo + ((0 : Nat) : Int) * 1 = lo by simp, z2, ← hn]
    exact Heap.get?_push_size _ rfl
  · obtain rfl : b = nw := by simpa using hb
    have le : ({ t with heap := t.heap.push { cls := .type "range", data := .fields #[.int lo u1, .int hi u2, .int 1 u3] }, toks := tk } : Shared).heap.objs.size ≤ b := Nat.le_of_eq hn
    exact J1.fpOk le (J1.hok.fresh le)
theorem piQ_range {a : Expr} {ta : TA} {p pos : Pos} (hg : Gl X "range") (hm : X.mg "range" = none) (ha : PA X [a] ta) (hs : starEach [a] X.env = [(false, eval a X.env)] := by rfl) : PIQ X tg (.Call (.Name "range" p) [a] [] pos) (iRng1 ta) := by
  constructor
  intro pl t σ H R I h
  refine Call_ (ld_blt I hg hm boot_range (PyProof.Rows.callWith_type1 (thn (ha.run pos pl t σ H _ I h) fun us t1 ⟨vs, H1, J1, r1, j, e, q1, q2, q⟩ => ?_) hs rfl))
  subst e
  cases r1 with
  | cons r rr =>
    cases rr
    obtain ⟨tt, rfl⟩ := r
    exact call_range_1 (rangeQ J1 (by omega) (by omega) q1 q2 (by simpa using q))
end
section
variable {X : Cx}
theorem pe_lcQ {p : Addr × Obj} {elt tg iter : Expr} {ifs : List Expr} {scope : Scope} {nm : List (Str × Nat)} {pos : Pos} {wi : TI} {g : TG} {tt : TT} {te : TE} (hot : L2H.Hot1 X.A p) (hpn : p ∈ X.pn) (nd : X.N.Nodup) (hi : PIQ X tg iter wi) (ok : BlkOk X.N X.env.scope scope nm)
    (bg : ∀ (s : Shared) (H : Hp) (C : Addr) (cl : List (Str × Addr)) (fp : List Addr), PG (X.blk s H scope (compEnvC scope cl C X.env) fp) tg g) (bt : ∀ (s : Shared) (H : Hp) (C : Addr) (cl : List (Str × Addr)) (fp : List Addr), PTs (X.blk s H scope (compEnvC scope cl C X.env) fp) ifs tt)
    (be : ∀ (s : Shared) (H : Hp) (C : Addr) (cl : List (Str × Addr)) (fp : List Addr), PE (X.blk s H scope (compEnvC scope cl C X.env) fp) elt te) (hs : ∀ x, foldedSetIterable iter X.env x = pure x := by intro _; rfl) :
    PE X (.ListComp elt [⟨tg, iter, ifs, 0⟩] scope pos) (tLc wi g tt te (nm.map (·.2))) := by
  constructor
  intro pins s σ H Q I h
  rw [eval_ListComp]
  have caught : ∀ y ∈ scope.names, y.2 = .free → ∃ c, X.env.cells.lookup y.1 = some c := by
    intro y hy e
    rcases ok.free y hy e with k | k
    · exact I.ok.has _ (.inl k)
    · exact I.ok.has _ (.inr k)
  refine wpAny_comprehension_free (use := none) rfl hs (closure_ok caught) ok.kind (fun y hy e => by rw [ok.uniq y hy, e]) (thn (hi.run pins s σ H _ I h) fun xv s1 hx => thn hx fun itv s2 h2 => ?_)
  obtain ⟨it, fp, tn, J, H2, rfl, I2, T, st2, f2, q⟩ := h2
  refine wpAny_newObj_type (newEnv_comp ?_) (by show 0 ≤ sizeLine; decide)
  generalize hL : s2.heap.objs.size = L
  have nL : H2 L = none := I2.hok.fresh (Nat.le_of_eq hL)
  obtain ⟨W, ⟨m0, w0⟩, turn⟩ := q L nL
  generalize hs3 : ({ s2 with heap := s2.heap.push { cls := .type "list", data := .seq ([] : List Value).toArray } } : Shared) = s3
  have I3 : Inv X pins σ (upd H2 L (.lst [])) s3 := by
    subst hs3
    refine I2.laid (t' := s2.toks) (fun b o e => Heap.get?_push_of_some _ e) (Nat.le_of_eq hL) ⟨Nat.zero_le _, [], 0, .nil, ?_⟩
    subst hL
    exact Heap.get?_push_size _ rfl
  have hp3 : s3.heap = s2.heap.push { cls := .type "list", data := .seq ([] : List Value).toArray } := by rw [← hs3]
  have small : ∀ b ∈ fp, b < s2.heap.objs.size := by
    intro b hb
    obtain ⟨o, e, _⟩ := T.ob _ _ st2 b hb
    exact Heap.lt_size e
  have f3 : ∀ b ∈ fp, FpOk X pins (upd H2 L (.lst [])) b ∧ b < s3.heap.objs.size := by
    intro b hb
    have lt := small b hb
    refine ⟨⟨?_, (f2 b hb).2⟩, by rw [hp3, Heap.size_push]; exact Nat.lt_succ_of_lt lt⟩
    rw [upd_ne (hL ▸ Nat.ne_of_lt lt)]
    exact (f2 b hb).1
  have st3 : tn 0 s3.heap := T.kp _ _ _ st2 fun b _ o e => by rw [hp3]; exact Heap.get?_push_of_some _ e
  have I4 := block_start I3 ok nd f3
  have ip := I3.pin p (List.mem_append_left _ hpn)
  have pg := bg s3 (upd H2 L (.lst [])) s3.heap.objs.size (cellsFrom (s3.heap.objs.size + 1) scope.names (cloFrom X.env.cells scope.names [])) fp
  have pt := bt s3 (upd H2 L (.lst [])) s3.heap.objs.size (cellsFrom (s3.heap.objs.size + 1) scope.names (cloFrom X.env.cells scope.names [])) fp
  have pe := be s3 (upd H2 L (.lst [])) s3.heap.objs.size (cellsFrom (s3.heap.objs.size + 1) scope.names (cloFrom X.env.cells scope.names [])) fp
  show codeAny _ _ (.compStart (.ListComp elt [⟨tg, iter, ifs, 0⟩] scope pos) 0 (.ref it) (.ref L) (compEnvC scope (cellsFrom (s3.heap.objs.size + 1) scope.names (cloFrom X.env.cells scope.names [])) s3.heap.objs.size X.env)) (compPost (model X.prog X.w) X.A X.xe none (EP X pins σ Q) (.ref L) s3.heap.objs.size) { s3 with heap := pushCells (s3.heap.push { cls := .type "dict", data := .dict #[] }) scope.names }
  have f3n : ∀ b ∈ fp, (upd H2 L (.lst [])) b = none := fun b hb => (f3 b hb).1.1
  generalize hce : compEnvC scope (cellsFrom (s3.heap.objs.size + 1) scope.names (cloFrom X.env.cells scope.names [])) s3.heap.objs.size X.env = ce at I4 pg pt pe ⊢
  have cL : ce.locals = s3.heap.objs.size := by subst hce; rfl
  generalize hH3 : upd H2 L (.lst []) = H3 at I3 I4 pg pt pe w0 f3n f3 ip
  generalize hs4 : ({ s3 with heap := pushCells (s3.heap.push { cls := .type "dict", data := .dict #[] }) scope.names } : Shared) = s4 at I4 ⊢
  have k34 : ∀ b o, s3.heap.get? b = some o → s4.heap.get? b = some o := fun b o e => by rw [← hs4]; exact pushCells_keeps _ _ _ _ (Heap.get?_push_of_some _ e)
  have st4 : tn 0 s4.heap := T.kp _ _ _ st3 fun b _ o e => k34 b o e
  -- the handled exception is no object of the block's
  have npL : p.1 ≠ ce.locals := by
    rw [cL]
    exact Nat.ne_of_lt (Heap.lt_size ip.1)
  have npF : p.1 ∉ (X.blk s3 H3 scope ce fp).fs := fun hm => by
    rcases List.mem_cons.mp (I3.stkSub p.1 hm) with z | z
    · exact ip.2.2.1 z
    · exact ip.2.2.2.1 z
  have I4p : Inv (X.blk s3 H3 scope ce fp) [p] (wipe σ (nm.map (·.2))) H3 s4 := I4.pins_of fun q hq => by
    obtain rfl : q = p := by simpa using hq
    exact ⟨k34 _ _ ip.1, ip.2.1, npL, npF, ip.2.2.2.2⟩
  have stat : ∀ {σ' : L2.St} {H' : Hp} {s' : Shared}, Inv (X.blk s3 H3 scope ce fp) [p] σ' H' s' → (∀ b ∈ fp, H' b = none) → ∀ b ∈ fp, FpOk (X.blk s3 H3 scope ce fp) [p] H' b := by
    intro σ' H' s' I' hn b hb
    refine ⟨hn b hb, (I'.ok.exf b hb).1, I'.ok.exfs b hb, .inl hb, fun x c e => (I'.ok.exf b hb).2 x c e, fun q hq => ?_⟩
    obtain rfl : q = p := by simpa using (show q ∈ ([] : List (Addr × Obj)) ++ [p] from hq)
    exact (f3 b hb).1.2.2.2.2.2 q (List.mem_append_left _ hpn)
  have loop : codeAny (model X.prog X.w) X.A (.compLoop (.ListComp elt [⟨tg, iter, ifs, 0⟩] scope pos) 0 (.ref it) (.ref L) ce) (compPost (model X.prog X.w) X.A X.xe none (EP X pins σ Q) (.ref L) s3.heap.objs.size) s4 := by
    refine compLoop_any (fun n s' => ∃ j H', Inv (X.blk s3 H3 scope ce fp) [p] (wipe σ (nm.map (·.2))) H' s' ∧ tn j s'.heap ∧ (∀ b ∈ fp, H' b = none) ∧ W j n H') ?_ m0 ⟨0, H3, I4p, st4, f3n, w0⟩
    rintro n s5 ⟨j, H5, I5, st5, n5, w5⟩
    rcases turn j n H5 w5 with ⟨stop, qq⟩ | ⟨go, Nx, hNx, step⟩
    · refine thnF (T.fin (X.blk s3 H3 scope ce fp) rfl rfl rfl j [p] p s5 _ H5 (fun _ _ => False) hot (by simp) I5 (stat I5 n5) st5 stop) fun r s6 ⟨hr, I6⟩ => ?_
      subst hr
      have I7 : Inv X pins σ H5 s6 := I3.call' (ch := fp) I6.os I6.base I6.hok I6.bare fun b hb => ⟨(f3 b hb).1.2.2.2.1, (f3 b hb).1.2.1, (f3 b hb).1.2.2.2.2.1, (f3 b hb).1.2.2.2.2.2⟩
      have nC : H5 s3.heap.objs.size = none := cL ▸ (show H5 ce.locals = none from I6.free)
      obtain ⟨m, hn, _⟩ := I6.loc
      have hn : s6.heap.Ns s3.heap.objs.size m := cL ▸ (show s6.heap.Ns ce.locals m from hn)
      obtain ⟨g0, g1, g2, g3, g4, g5⟩ := I3.fpOk (Nat.le_refl _) nC
      exact ⟨m, hn, fun h'' sb => ⟨.ref L, H5, I7.turned (t' := s6.toks) (fun b o hb e => (sb.2 b hb).trans e) g0 g1 g3 g4 g5, rfl, qq⟩⟩
    · refine thnF (T.itm (X.blk s3 H3 scope ce fp) rfl rfl rfl j [p] s5 _ H5 (fun _ _ => False) I5 (stat I5 n5) st5 go) fun r s6 ⟨u, hr, h6⟩ => ?_
      subst hr
      refine thnF h6 fun _ s7 ⟨x, H7, I7, r7, y7, st7, n7⟩ => ?_
      have I7q := I7.pinned (stat I7 n7) (T.ob _ _ st7)
      refine thnF (pg.run _ s7 _ H7 x u _ I7q r7 (step x H7 y7)) fun _ s8 ⟨σ8, H8, I8, hw8, q8⟩ => ?_
      refine thnF (pt.run _ s8 σ8 H8 _ I8 q8) fun b s9 ⟨H9, I9, q9⟩ => ?_
      have close : ∀ {s' : Shared} {H' : Hp}, Inv (X.blk s3 H3 scope ce fp) ([p] ++ pinsAt fp s7.heap) σ8 H' s' → Nx H' → ∃ m, m < n ∧ ∃ j H', Inv (X.blk s3 H3 scope ce fp) [p] (wipe σ (nm.map (·.2))) H' s' ∧ tn j s'.heap ∧ (∀ b ∈ fp, H' b = none) ∧ W j m H' := by
        intro s' H' I' nx
        obtain ⟨m2, hm2, w2⟩ := hNx H' nx
        have stay : ∀ b ∈ fp, ∀ o, s7.heap.get? b = some o → s'.heap.get? b = some o ∧ H' b = none := by
          intro b hb o e
          have z := I'.pin (b, o) (List.mem_append_right _ (List.mem_append_right _ (mem_pinsAt hb e)))
          exact ⟨z.1, z.2.1⟩
        refine ⟨m2, hm2, j + 1, H', (I'.unpinned (pins := [p])).weak (by rw [← hw8, wipe_length]) (fun i v e => ?_), T.kp _ _ _ st7 fun b hb o e => (stay b hb o e).1, fun b hb => ?_, w2⟩
        · rw [← hw8] at e
          exact (wipe_some e).1
        · obtain ⟨o, e, _⟩ := T.ob _ _ st7 b hb
          exact (stay b hb o e).2
      cases b with
      | false =>
        simp only [Bool.false_eq_true, if_false] at q9 ⊢
        exact close I9 q9
      | true =>
        simp only [if_true] at q9 ⊢
        refine thnF (pe.run _ s9 σ8 H9 _ I9 q9) fun z s10 ⟨yv, H10, I10, r10, acc, hD10, hz10, nx⟩ => ?_
        exact app_ok (X := X.blk s3 H3 scope ce fp) I10 hD10 hz10 r10 fun s11 I11 => close I11 nx
  exact codeAny_compStart_list loop (T.slf X.A 0 _ _ _ st4 loop)
end
section
variable {X Xb : Cx} {E : Ent} {own : Own} {B H : Hp} {σ : L2.St} {α β : Type} {S : Rel β} {elt a tg : Expr} {p2 p3 pos : Pos} {k j : Nat} {ys : List β} {n : Str} {scope : Scope} {p : Addr × Obj} {hi : Int}
theorem tg_nameQ {R : Rel α} (nd : X.N.Nodup) (L : Slot X j n) : TgOk X E (.Name n pos) R (tN j R) := ⟨_, pg_name (i := j) nd L.ix L.loc L.hf, fun own B H v x σ S r Q k => k _ ⟨v, r, rfl⟩⟩
theorem Hok.hu64 (C : Hok X k p) : X.A.units + 64 < cLine := by
  have u := C.room.un
  omega
theorem Blk.nd (h : Blk X scope Xb) (C : Hok X k p) : Xb.N.Nodup := by
  obtain ⟨s, H, Cc, cl, fp, rfl⟩ := h
  exact C.nd
/-- [elt for i in range(n) if ..], as a value -/
theorem el_lcQ {cm : Int → Res Bool} {fm : Int → Res β} {ifs : List Expr} {ownN : List (Str × Nat)} {Tg : Int → Hp → L2.St → L2.St → Prop} (C : Hok X k p) (ok : BlkOk X.N X.env.scope scope ownN) (hg : Gl X "range") (hmr : X.mg "range" = none) (ha : EvB X E own B H σ a rInt hi) (hz : -8000000 ≤ hi ∧ hi ≤ 8000000)
    (ht : ∀ Xb, Blk X scope Xb → TgOk Xb E tg rInt Tg) (hm : mfM cm fm (rangeI 0 hi) = .ok ys)
    (hc : ∀ Xb x σ2 acc Dd B3 H3 b, Blk X scope Xb → Stt E ((Dd, .lst acc) :: own) B3 H3 → Ex B B3 → Tg x B3 (wipe σ (ownN.map (·.2))) σ2 → cm x = .ok b → EvTs Xb E ((Dd, .lst acc) :: own) B3 H3 σ2 ifs b)
    (he : ∀ Xb x y σ2 acc Dd B3 H3, Blk X scope Xb → Stt E ((Dd, .lst acc) :: own) B3 H3 → Ex B B3 → Tg x B3 (wipe σ (ownN.map (·.2))) σ2 → cm x = .ok true → fm x = .ok y → EvE Xb E ((Dd, .lst acc) :: own) B3 H3 σ2 elt S y)
    (hwp : ∀ x B3 σ2, Tg x B3 (wipe σ (ownN.map (·.2))) σ2 → wipe σ2 (ownN.map (·.2)) = wipe σ (ownN.map (·.2)))
    (hup : ∀ x B3 B4 σ2, Tg x B3 (wipe σ (ownN.map (·.2))) σ2 → Ex B3 B4 → Tg x B4 (wipe σ (ownN.map (·.2))) σ2)
    (hs : St1 X a := by rfl) (hs' : starEach [a] X.env = [(false, eval a X.env)] := by rfl)
    (hf : ∀ x, foldedSetIterable (.Call (.Name "range" p2) [a] [] p3) X.env x = pure x := by intro _; rfl) : EvL X E own B H σ (.ListComp elt [⟨tg, .Call (.Name "range" p2) [a] [] p3, ifs, 0⟩] scope pos) S ys := fun B1 H1 S1 e1 e2 Q k => by
  refine WE.of (pe_lcQ C.hot C.mem C.nd (piQ_range hg hmr (pa1 hs) hs') ok (fun s H Cc cl fp => ⟨fun pins s' σ H' v u Q I r h => h _ ⟨s, H, Cc, cl, fp, rfl⟩ pins s' u I r⟩) (fun s H Cc cl fp => ⟨fun pins s' σ H' Q I h => h _ ⟨s, H, Cc, cl, fp, rfl⟩ pins s' I⟩) (fun s H Cc cl fp => ⟨fun pins s' σ H' Q I h => h _ ⟨s, H, Cc, cl, fp, rfl⟩ pins s' I⟩) (g := gB X scope tg) (tt := ttB X scope ifs) (te := teB X scope elt) hf) ?_
  refine ha B1 H1 S1 e1 e2 _ fun v B2 H2 S2 e3 e4 r => ⟨hi, by rw [show v = .int hi from r], by omega, by omega, ?_⟩
  have q := walk_range (E := E) (B := B2) (lo := 0) (hi := hi)
  rw [Int.sub_zero] at q
  exact lc_read S2 q (by rw [rangeI_len, sizeLine_eq]; omega) (fun _ _ => trivial) ht hm (fun Xb x σ2 acc Dd B3 H3 b hX S3 e5 => hc Xb x σ2 acc Dd B3 H3 b hX S3 ((e1.trans e3).trans e5)) (fun Xb x y σ2 acc Dd B3 H3 hX S3 e5 => he Xb x y σ2 acc Dd B3 H3 hX S3 ((e1.trans e3).trans e5)) hwp hup
    fun p us B3 H3 S3 e5 e6 r => k p us B3 H3 S3 (e3.trans e5) (e4.trans e6) r
end
end Sg

namespace Sg
open PySem PySem.Spec PyProof.Rows L2
/-! ### defs that change what they get -/
def less (H : Hp) (ps : List Addr) : Hp := fun a => if a ∈ ps then none else H a
def Ows (io : Own) (B H : Hp) : Prop := (io.map (·.1)).Nodup ∧ ∀ q ∈ io, B q.1 = none ∧ H q.1 = some q.2
section
variable {E : Ent} {own new io rest : Own} {B H B' H' : Hp} {ps : List Addr} {p : Addr} {o : HO}
theorem less_in (h : p ∈ ps) : less H ps p = none := if_pos h
theorem less_out (h : p ∉ ps) : less H ps p = H p := if_neg h
theorem less_some (h : less H ps p = some o) : p ∉ ps ∧ H p = some o := by
  by_cases q : p ∈ ps
  · rw [less_in q] at h
    cases h
  · rw [less_out q] at h
    exact ⟨q, h⟩
theorem less_none (h : less H ps p = none) : p ∈ ps ∨ H p = none := by
  by_cases q : p ∈ ps
  · exact .inl q
  · rw [less_out q] at h
    exact .inr h
theorem Stt.enterIO (b : Sx B H) (t : Tx H B) (o : Ows io B H) : Stt ⟨B, less H (io.map (·.1))⟩ io B H :=
  ⟨Sx.refl _, fun a u e => (less_some e).2, b, t, fun _ _ e => .inl e, fun q hq => ⟨less_in (List.mem_map.mpr ⟨q, hq, rfl⟩), o.2 q hq⟩, o.1⟩
theorem Stt.ows (S : Stt E (io ++ rest) B H) : Ows io B H := by
  have n := S.nd
  rw [List.map_append] at n
  exact ⟨(List.nodup_append.mp n).1, fun q hq => (S.ow q (List.mem_append_left _ hq)).2⟩
/-- behind a call that changes what it got -/
theorem Stt.callIO (S : Stt E (io ++ rest) B H) (T : Stt ⟨B, less H (io.map (·.1))⟩ new B' H') : Stt E (new ++ rest) B' H' := by
  have nd := S.nd
  rw [List.map_append] at nd
  have dis : ∀ q ∈ rest, q.1 ∉ io.map (·.1) := fun q hq z => (List.nodup_append.mp nd).2.2 _ z _ (List.mem_map.mpr ⟨q, hq, rfl⟩) rfl
  have ioN : ∀ a, a ∈ io.map (·.1) → E.H0 a = Option.none := fun a ha => by
    obtain ⟨q, hq, rfl⟩ := List.mem_map.mp ha
    exact (S.ow q (List.mem_append_left _ hq)).1
  have hN : ∀ a, less H (io.map (·.1)) a = Option.none → E.H0 a = Option.none := fun a h => by
    rcases less_none h with h | h
    · exact ioN a h
    · exact S.h0.free h
  refine ⟨S.b0.trans T.b0, fun a u e => T.h0 a u ?_, T.bh, T.tu, fun a u e => ?_, fun q hq => ?_, ?_⟩
  · show less H (io.map (·.1)) a = some u
    rw [less_out fun z => by rw [ioN a z] at e; cases e]
    exact S.h0 a u e
  · rcases T.fr a u e with h | h
    · exact S.fr a u h
    · exact .inr (hN a h)
  · rcases List.mem_append.mp hq with hq | hq
    · obtain ⟨h1, h2, h3⟩ := T.ow q hq
      exact ⟨hN _ h1, h2, h3⟩
    · obtain ⟨h1, h2, h3⟩ := S.ow q (List.mem_append_right _ hq)
      have hl : less H (io.map (·.1)) q.1 = some q.2 := (less_out (dis q hq)).trans h3
      refine ⟨h1, ?_, T.h0 _ _ hl⟩
      cases e : B' q.1 with
      | none => rfl
      | some u =>
        rcases T.fr _ _ e with z | z
        · have z' : B q.1 = some u := z
          rw [h2] at z'
          cases z'
        · have z' : less H (io.map (·.1)) q.1 = Option.none := z
          rw [hl] at z'
          cases z'
  · rw [List.map_append]
    refine List.nodup_append.mpr ⟨T.nd, (List.nodup_append.mp nd).2.1, fun a ha b hb e => ?_⟩
    subst e
    obtain ⟨q, hq, e1⟩ := List.mem_map.mp ha
    obtain ⟨r, hr, e2⟩ := List.mem_map.mp hb
    have h1 : less H (io.map (·.1)) q.1 = Option.none := (T.ow q hq).1
    rw [e1, ← e2, less_out (dis r hr), (S.ow r (List.mem_append_right _ hr)).2.2] at h1
    cases h1
end
/-- an argument that is changed: the k-th one of these -/
def aI (k : Nat) (io : Own) (A : AR) : AR := ⟨fun vs B H => ∃ p r, vs = .ref p :: r ∧ (io.map (·.1))[k]? = some p ∧ A.r r B H, fun b e ⟨p, r, h1, h2, h3⟩ => ⟨p, r, h1, h2, A.mono b e h3⟩⟩
/-- the promise of a def that changes what it gets: what is handed back, and what stands there then -/
def SpIO {δ τ τ' ρ : Type} (ar : δ → Own → AR) (SH : Own → Hp → τ → Prop) (SH' : Own → Hp → τ' → Prop) (R : Rel ρ) (f : δ → τ → Res (ρ × τ')) : Sp := fun vs H Q _ => ∃ B d io x, Sx B H ∧ Tx H B ∧ Ows io B H ∧ SH io B x ∧ (ar d io).r vs B H ∧
  Fin (fun r => ∀ v io' B' H', Stt ⟨B, less H (io.map (·.1))⟩ io' B' H' → io'.map (·.1) = io.map (·.1) → R.r B' v r.1 → SH' io' B' r.2 → Q v H') NoErr (f d x)
section
variable {X : Cx} {E : Ent} {own new own' io rest' : Own} {B H B' H' : Hp} {σ : L2.St} {α β γ τ τ' ρ δ : Type} {R : Rel α} {S : Rel β} {T : Rel γ} {e a b c o it : Expr} {x : α} {y : β} {p pos pos' apos : Pos} {i j k k0 : Nat} {z w : Bool} {xs : List α} {es : List Expr}
variable {n m : Str} {rest body other : List Stmt} {D : Ends} {P : ρ → Prop} {Er : Err → Prop} {ps : List Str} {A : AR}
variable {ar : δ → Own → AR} {SH : Own → Hp → τ → Prop} {SH' : Own → Hp → τ' → Prop} {RR : Rel ρ} {f : δ → τ → Res (ρ × τ')} {vs : List V} {Q : VK}
theorem io_sp {r : ρ × τ'} {t : τ} {d : δ} (S1 : Stt E (io ++ rest') B H) (hx : SH io B t) (ha : (ar d io).r vs B H) (hm : f d t = .ok r)
    (k : ∀ v io' B' H', Stt E (io' ++ rest') B' H' → Ex B B' → io'.map (·.1) = io.map (·.1) → RR.r B' v r.1 → SH' io' B' r.2 → Q v H') : SpIO ar SH SH' RR f (vs ++ []) H Q E0 := by
  rw [List.append_nil]
  exact ⟨B, d, io, t, S1.bh, S1.tu, S1.ows, hx, ha, Fin.eq hm fun v io' B2 H2 T e r1 r2 => k v io' B2 H2 (S1.callIO T) T.b0.ex e r1 r2⟩
theorem we_call {sp : Sp} (C : Cok X k0) (G : Cal X k n ps sp) (hk : k ≤ k0) (hg : Gl X n) (ha : WA X (e :: es) σ H fun vs H2 => sp (vs ++ []) H2 Q E0)
    (hdb : (n == ("__debug__" : Str)) = false := by rfl) (he : starEach (e :: es) X.env = (false, eval e X.env) :: starEach es X.env := by rfl) (hpl : (backTo pos (starEach es X.env)).any (·.1) = false := by rfl) : WE X (.Call (.Name n p) (e :: es) [] pos) σ H Q :=
  WE.of (pe_cal C G hk hg hdb he hpl) ha
theorem wa_nil {Q : List V → Hp → Prop} (h : Q [] H) : WA X [] σ H Q := WA.of pa_nil h
theorem wa_cons {Q : List V → Hp → Prop} (h : WE X e σ H fun v H2 => WA X es σ H2 fun vs H3 => Q (v :: vs) H3) (hs : starEach (e :: es) X.env = (false, eval e X.env) :: starEach es X.env := by rfl) : WA X (e :: es) σ H Q := WA.of (pa_cons peW paW hs) h
theorem we_name {v : V} (hp : PE X e (tVar i)) (h : σ[i]? = some (some v)) (q : Q v H) : WE X e σ H Q := WE.of hp ⟨v, h, q⟩
/-- a tuple, what stands in it first -/
theorem we_tup {Q : VK} {x1} (h : WA X es σ H fun vs H2 => vs.length ≤ sizeLine ∧ ∀ p, H2 p = none → Q (.ref p) (upd H2 p (.tup vs))) : WE X (.Tuple es x1 pos) σ H Q := WE.of (pe_tup paW) h
/-! rows -/
theorem s_dropW (h : WE X e σ H fun _ H2 => WSs X rest D σ H2) (hs : swapsWith e none pos.line X.env = pure false := by rfl) : WSs X (.Expr e pos :: rest) D σ H := WSs.cons (ps_expr peW hs) h
theorem s_asgW (C : Cok X k) (L : Slot X i n) (h : WE X e σ H fun v H2 => WSs X rest D (σ.set i (some v)) H2) (hs : swapsWith e (some (.Name n pos')) pos.line X.env = pure false := by rfl) : WSs X (.Assign [.Name n pos'] e pos :: rest) D σ H := WSs.cons (ps_set C.nd L.ix L.loc peW hs L.hf) h
theorem s_retW (h : WE X e σ H D.rt) : WSs X (.Return (some e) pos :: rest) D σ H := WSs.cons (ps_ret peW) h
theorem s_retWN (h : D.rt .non H) : WSs X (.Return none pos :: rest) D σ H := WSs.cons ps_retN h
theorem ee_w (S0 : Stt E own B H) (he : EvE X E own B H σ e R x) (q : ∀ v B' H', Stt E own B' H' → Ex B B' → R.r B' v x → Q v H') : WE X e σ H Q := he B H S0 (Ex.refl _) (Ex.refl _) _ fun v B2 H2 S2 e1 _ r => q v B2 H2 S2 e1 r
end
/-! ### a def's promise from its body -/
section
variable {P : Program} {w : World} {K : PySem.W.Frag} {mg : Str → Option Value} {base : Heap}
theorem fun_okS {x qual : Str} {st : Stmt} {f : Addr} {fd : FuncData} {N ps : List Str} {k : Nat} {sp : Sp} (F : Fun K x qual st f fd) (S : FnScope N ps (defScope st)) (hl : ∀ vs H Q E, sp vs H Q E → vs.length = ps.length)
    (body : ∀ X : Cx, X.prog = P → X.w = w → X.K = K → X.mg = mg → X.base = base → Cok X k → Scp X N (defScope st) → (∀ x, X.fn x = true) → ∀ H vs (Q : VK) E, sp vs H Q E →
      WSs X (defBody st) { nx := fun _ H' => Q .non H', rt := Q } (start N vs) H) : FnOk P w K mg base CX0 (k + 1) f fd ps sp := by
  refine F.ok S hl (fun cdv A outer s H vs Q E hr h => ?_)
  exact ⟨_, pssW, body ((cxOf CX0 P w K mg base N qual (defScope st) f cdv A outer s H E).nox) rfl rfl rfl rfl rfl ⟨rfl, S.nd, hr, PassesOwn.never⟩ ⟨rfl, rfl⟩ (fun _ => rfl) H vs Q E h⟩
end
end Sg

namespace Sg
open PySem PySem.Spec PyProof.Rows L2
/-! ### things of two kinds -/
mutual
def dtag : PyData → List Nat
  | .none => [3]
  | .bool _ => [1]
  | .int _ => [1]
  | .str _ => [2]
  | .list _ => [4]
  | .dict _ => [6]
  | .tuple xs => 5 :: dtags xs
def dtags : List PyData → List Nat
  | [] => [0]
  | x :: r => dtag x ++ dtags r
end
mutual
theorem eqv_tag : ∀ a b : PyData, PyData.eqv a b = true → dtag a = dtag b
  | .tuple xs, .tuple ys, h => by
    have h' : PyData.eqvAll xs ys = true := by simpa [PyData.eqv] using h
    show 5 :: dtags xs = 5 :: dtags ys
    rw [eqv_tags xs ys h']
  | .none, b, h => by cases b <;> first | rfl | simp [PyData.eqv] at h
  | .bool _, b, h => by cases b <;> first | rfl | simp [PyData.eqv] at h
  | .int _, b, h => by cases b <;> first | rfl | simp [PyData.eqv] at h
  | .str _, b, h => by cases b <;> first | rfl | simp [PyData.eqv] at h
  | .list _, b, h => by cases b <;> first | rfl | simp [PyData.eqv] at h
  | .dict _, b, h => by cases b <;> first | rfl | simp [PyData.eqv] at h
  | .tuple _, .none, h => by simp [PyData.eqv] at h
  | .tuple _, .bool _, h => by simp [PyData.eqv] at h
  | .tuple _, .int _, h => by simp [PyData.eqv] at h
  | .tuple _, .str _, h => by simp [PyData.eqv] at h
  | .tuple _, .list _, h => by simp [PyData.eqv] at h
  | .tuple _, .dict _, h => by simp [PyData.eqv] at h
theorem eqv_tags : ∀ xs ys : List PyData, PyData.eqvAll xs ys = true → dtags xs = dtags ys
  | [], [], _ => rfl
  | [], y :: r, h => by simp [PyData.eqvAll] at h
  | x :: r, [], h => by simp [PyData.eqvAll] at h
  | x :: r, y :: q, h => by
    rw [PyData.eqvAll, Bool.and_eq_true] at h
    show dtag x ++ dtags r = dtag y ++ dtags q
    rw [eqv_tag x y h.1, eqv_tags r q h.2]
end
section
variable {K : PySem.W.Frag} {α β γ : Type} {R : Rel α} {S : Rel β} {T : Rel γ}
/-- of which kinds the data are -/
class DTg (K : PySem.W.Frag) {α : Type} (R : Rel α) [D : DatP K R] where
  ts : List (List Nat)
  ok : ∀ x, dtag (D.d x) ∈ ts
instance : DTg K rInt := ⟨[[1]], fun _ => List.mem_singleton.mpr rfl⟩
instance : DTg K rBool := ⟨[[1]], fun _ => List.mem_singleton.mpr rfl⟩
instance : DTg K rStr := ⟨[[2]], fun _ => List.mem_singleton.mpr rfl⟩
instance [DatP K R] : DTg K (rLst R) := ⟨[[4]], fun _ => List.mem_singleton.mpr rfl⟩
instance [D : DatP K R] [F : DatP K S] [P : DTg K R] [Q : DTg K S] : DTg K (rPr R S) := ⟨P.ts.flatMap fun a => Q.ts.map fun b => 5 :: (a ++ (b ++ [0])), fun x => List.mem_flatMap.mpr ⟨_, P.ok x.1, List.mem_map.mpr ⟨_, Q.ok x.2, rfl⟩⟩⟩
instance : DTg K rSt := ⟨[[5, 2, 1, 0], [5, 2, 1, 1, 0]], fun x => by cases x <;> simp [DatP.d, stD, dtag, dtags]⟩
def rUn (R : Rel α) (S : Rel β) : Rel (α ⊕ β) := ⟨fun H v x => match x with
  | .inl y => R.r H v y
  | .inr z => S.r H v z, fun {H H' v x} e h => by
  cases x with
  | inl y => exact R.mono e h
  | inr z => exact S.mono e h⟩
instance [Imm R] [Imm S] : Imm (rUn R S) := ⟨fun {H H' v x} e h => by
  cases x with
  | inl y => exact Imm.imm (R := R) e h
  | inr z => exact Imm.imm (R := S) e h⟩
instance [NN R] [NN S] : NN (rUn R S) := ⟨fun {H v x} h => by
  cases x with
  | inl y => exact NN.nn (R := R) h
  | inr z => exact NN.nn (R := S) h⟩
instance {R : Hp → Rel α} {S : Hp → Rel β} [AntiN R] [AntiN S] : AntiN (fun B => rUn (R B) (S B)) := ⟨fun {Bo B H v x} e h => by
  cases x with
  | inl y => exact AntiN.an (RR := R) e h
  | inr z => exact AntiN.an (RR := S) e h⟩
instance {R : Hp → Rel α} [AntiN R] : AntiN (fun B => rOpt (R B)) := ⟨fun {Bo B H v x} e h => by
  cases x with
  | none => exact h
  | some y => exact ⟨h.1, AntiN.an (RR := R) e h.2⟩⟩
/-- data of one kind or the other, never alike -/
@[reducible] def datUn [D : DatP K R] [F : DatP K S] [P : DTg K R] [Q : DTg K S] (hd : (P.ts.all fun t => !(Q.ts.contains t)) = true) : DatP K (rUn R S) where
  d := fun x => match x with
    | .inl y => D.d y
    | .inr z => F.d z
  rd := fun {H v x} h => by
    cases x with
    | inl y => exact D.rd h
    | inr z => exact F.rd h
  pl := fun x => by
    cases x with
    | inl y => exact D.pl y
    | inr z => exact F.pl z
  n := max D.n F.n
  dep := fun x => by
    cases x with
    | inl y => exact Nat.le_trans (D.dep y) (Nat.le_max_left _ _)
    | inr z => exact Nat.le_trans (F.dep z) (Nat.le_max_right _ _)
  eq := fun x y => by
    have dis : ∀ (a : α) (b : β), dtag (D.d a) ≠ dtag (F.d b) := fun a b e => by
      have h1 := List.all_eq_true.mp hd _ (P.ok a)
      rw [e] at h1
      have h2 : Q.ts.contains (dtag (F.d b)) = true := List.contains_iff_mem.mpr (Q.ok b)
      rw [h2] at h1
      cases h1
    cases x with
    | inl a =>
      cases y with
      | inl b => exact (D.eq a b).trans ⟨fun e => by rw [e], fun e => Sum.inl.inj e⟩
      | inr b => exact ⟨fun e => absurd (eqv_tag _ _ e) (dis a b), fun e => by cases e⟩
    | inr a =>
      cases y with
      | inl b => exact ⟨fun e => absurd (eqv_tag _ _ e).symm (dis b a), fun e => by cases e⟩
      | inr b => exact (F.eq a b).trans ⟨fun e => by rw [e], fun e => Sum.inr.inj e⟩
@[reducible] def tgUn [D : DatP K R] [F : DatP K S] [P : DTg K R] [Q : DTg K S] (hd : (P.ts.all fun t => !(Q.ts.contains t)) = true) : @DTg K _ (rUn R S) (datUn hd) := @DTg.mk K _ (rUn R S) (datUn hd) (P.ts ++ Q.ts) fun x => by
  cases x with
  | inl y => exact List.mem_append_left _ (P.ok y)
  | inr z => exact List.mem_append_right _ (Q.ok z)
@[reducible] def datOpt [D : DatP K R] [P : DTg K R] (hd : (!(P.ts.contains [3])) = true) : DatP K (rOpt R) where
  d := fun x => match x with
    | none => .none
    | some y => D.d y
  rd := fun {H v x} h => by
    cases x with
    | none =>
      have h' : v = .non := h
      rw [h']
      exact .non
    | some y => exact D.rd h.2
  pl := fun x => by
    cases x with
    | none => rfl
    | some y => exact D.pl y
  n := D.n
  dep := fun x => by
    cases x with
    | none => exact Nat.zero_le _
    | some y => exact D.dep y
  eq := fun x y => by
    have dis : ∀ a : α, dtag (D.d a) ≠ [3] := fun a e => by
      have h2 : P.ts.contains (dtag (D.d a)) = true := List.contains_iff_mem.mpr (P.ok a)
      rw [e] at h2
      rw [h2] at hd
      cases hd
    cases x with
    | none =>
      cases y with
      | none => exact ⟨fun _ => rfl, fun _ => rfl⟩
      | some b => exact ⟨fun e => absurd (eqv_tag _ _ e).symm (dis b), fun e => by cases e⟩
    | some a =>
      cases y with
      | none => exact ⟨fun e => absurd (eqv_tag _ _ e) (dis a), fun e => by cases e⟩
      | some b => exact (D.eq a b).trans ⟨fun e => by rw [e], fun e => Option.some.inj e⟩
@[reducible] def tgOpt [D : DatP K R] [P : DTg K R] (hd : (!(P.ts.contains [3])) = true) : @DTg K _ (rOpt R) (datOpt hd) := @DTg.mk K _ (rOpt R) (datOpt hd) ([3] :: P.ts) fun x => by
  cases x with
  | none => exact List.mem_cons_self ..
  | some y => exact List.mem_cons_of_mem _ (P.ok y)
/-- what is less known -/
class Fgt {α : Type} (R S : Rel α) : Prop where
  f : ∀ {H : Hp} {v : V} {x : α}, R.r H v x → S.r H v x
instance : Fgt R R := ⟨fun h => h⟩
instance {Bo : Hp} {R : Rel α} : Fgt (rLstN Bo R) (rLst R) := ⟨fun h => rLstN.forget h⟩
instance {R R' : Rel α} {S S' : Rel β} [Fgt R R'] [Fgt S S'] : Fgt (rUn R S) (rUn R' S') := ⟨fun {H v x} h => by
  cases x with
  | inl y => exact Fgt.f (R := R) h
  | inr z => exact Fgt.f (R := S) h⟩
instance {R R' : Rel α} [Fgt R R'] : Fgt (rOpt R) (rOpt R') := ⟨fun {H v x} h => by
  cases x with
  | none => exact h
  | some y => exact ⟨h.1, Fgt.f h.2⟩⟩
instance {R R' : Rel α} {S S' : Rel β} [Fgt R R'] [Fgt S S'] : Fgt (rPr R S) (rPr R' S') := ⟨fun ⟨p, a, b, h1, h2, h3, h4⟩ => ⟨p, a, b, h1, h2, Fgt.f h3, Fgt.f h4⟩⟩
instance {R R' : Rel α} {S S' : Rel β} {T T' : Rel γ} [Fgt R R'] [Fgt S S'] [Fgt T T'] : Fgt (rT3 R S T) (rT3 R' S' T') := ⟨fun ⟨p, a, b, c, h1, h2, h3, h4, h5⟩ => ⟨p, a, b, c, h1, h2, Fgt.f h3, Fgt.f h4, Fgt.f h5⟩⟩
instance {R R' : Rel α} [Fgt R R'] : Fgt (rLst R) (rLst R') := ⟨fun ⟨p, vs, h1, h2, h3⟩ => ⟨p, vs, h1, h2, pimp h3 fun _ _ z => Fgt.f z⟩⟩
end
section
variable {X : Cx} {E : Ent} {own : Own} {B H : Hp} {σ : L2.St} {α β : Type} {R R' : Rel α} {S : Rel β} {e : Expr} {x : α} {y : β} {xs : List α}
theorem ev_fg [Fgt R R'] (h : EvB X E own B H σ e R x) : EvB X E own B H σ e R' x := fun B1 H1 S1 e1 e2 Q k => h B1 H1 S1 e1 e2 Q fun v B2 H2 S2 e3 e4 r => k v B2 H2 S2 e3 e4 (Fgt.f r)
theorem ee_fg [Fgt R R'] (h : EvE X E own B H σ e R x) : EvE X E own B H σ e R' x := fun B1 H1 S1 e1 e2 Q k => h B1 H1 S1 e1 e2 Q fun v B2 H2 S2 e3 e4 r => k v B2 H2 S2 e3 e4 (Fgt.f r)
theorem ev_unL (h : EvB X E own B H σ e R x) : EvB X E own B H σ e (rUn R S) (.inl x) := h
theorem ev_unR (h : EvB X E own B H σ e S y) : EvB X E own B H σ e (rUn R S) (.inr y) := h
theorem ee_unL (h : EvE X E own B H σ e R x) : EvE X E own B H σ e (rUn R S) (.inl x) := h
theorem ee_unR (h : EvE X E own B H σ e S y) : EvE X E own B H σ e (rUn R S) (.inr y) := h
def unL {α β : Type} : α ⊕ β → Option α
  | .inl x => some x
  | .inr _ => none
def unR {α β : Type} : α ⊕ β → Option β
  | .inl _ => none
  | .inr y => some y
theorem ev_ofL {z : α ⊕ β} (h : EvB X E own B H σ e (rUn R S) z) (q : unL z = some x) : EvB X E own B H σ e R x := by
  cases z with
  | inl a => cases q; exact h
  | inr b => cases q
theorem ev_ofR {z : α ⊕ β} (h : EvB X E own B H σ e (rUn R S) z) (q : unR z = some y) : EvB X E own B H σ e S y := by
  cases z with
  | inl a => cases q
  | inr b => cases q; exact h
theorem ee_ofL {z : α ⊕ β} (h : EvE X E own B H σ e (rUn R S) z) (q : unL z = some x) : EvE X E own B H σ e R x := by
  cases z with
  | inl a => cases q; exact h
  | inr b => cases q
theorem ee_ofR {z : α ⊕ β} (h : EvE X E own B H σ e (rUn R S) z) (q : unR z = some y) : EvE X E own B H σ e S y := by
  cases z with
  | inl a => cases q
  | inr b => cases q; exact h
end
end Sg

namespace Sg
open PySem PySem.Spec PyProof.Rows L2
/-! ### tuples joined and cut -/
def EvTu (X : Cx) (E : Ent) (own : Own) (B H : Hp) (σ : L2.St) (e : Expr) (F : Hp → List V → Prop) : Prop := ∀ B1 H1, Stt E own B1 H1 → Ex B B1 → Ex H H1 → ∀ Q : VK,
  (∀ q ws B2 H2, Stt E own B2 H2 → Ex B1 B2 → Ex H1 H2 → B2 q = some (.tup ws) → F B2 ws → Q (.ref q) H2) → WE X e σ H1 Q
structure MonF (F : Hp → List V → Prop) : Prop where
  m : ∀ (B B' : Hp) (ws : List V), Ex B B' → F B ws → F B' ws
def stVs : StT → List V
  | .inl y => [.str y.1, .int y.2]
  | .inr y => [.str y.1, .int y.2.1, .int y.2.2]
section
variable {X : Cx} {E : Ent} {own : Own} {B H : Hp} {σ : L2.St} {α β : Type} {R : Rel α} {S : Rel β} {a b e o : Expr} {x : α} {y : β} {xs ys : List α} {F G : Hp → List V → Prop} {p pos pos' : Pos} {l u : Option Int} {lo hi : Option Expr}
theorem tu_cut (mF : MonF F) (ho : EvTu X E own B H σ o F) (hl : EvP X E own B H σ lo l) (hu : EvP X E own B H σ hi u) : EvTu X E own B H σ (.Subscript o (.Slice lo hi none p) pos) (fun B ws => ∃ zs, F B zs ∧ ws = cutV zs l u) := fun B1 H1 S1 e1 e2 Q k => by
  obtain ⟨tl, pl, hl⟩ := hl
  obtain ⟨tu, pu, hu⟩ := hu
  refine WE.of (pe_slice sl_tupA peW pl pu) (ho B1 H1 S1 e1 e2 _ fun q ws B2 H2 S2 e3 e4 hq hF => hl B2 H2 S2 (e1.trans e3) (e2.trans e4) _ fun B3 H3 S3 e5 e6 => hu B3 H3 S3 ((e1.trans e3).trans e5) ((e2.trans e4).trans e6) _ fun B4 H4 S4 e7 e8 => ?_)
  have hq4 : B4 q = some (.tup ws) := (e5.trans e7).tup hq
  have hF4 := mF.m _ _ _ (e5.trans e7) hF
  refine ⟨q, ws, rfl, SqT.of (S4.bh _ _ hq4), fun hw => ?_, fun _ p np => ?_⟩
  · refine k q ws B4 H4 S4 ((e3.trans e5).trans e7) ((e4.trans e6).trans e8) hq4 ⟨ws, hF4, ?_⟩
    unfold cutV
    rw [hw.1, hw.2, List.drop_zero, Nat.sub_zero, List.take_length]
  · exact k p _ _ _ (S4.lay np) (((e3.trans e5).trans e7).trans (S4.layB np).ex) (((e4.trans e6).trans e8).trans (Sx.new np).ex) upd_same ⟨ws, mF.m _ _ _ (S4.layB np).ex hF4, rfl⟩
theorem tu_cat (mF : MonF F) (mG : MonF G) (ha : EvTu X E own B H σ a F) (hb : EvTu X E own B H σ b G) (hz : ∀ B xs ys, F B xs → G B ys → xs.length + ys.length ≤ sizeLine) : EvTu X E own B H σ (.BinOp a .Add b pos) (fun B ws => ∃ xs ys, F B xs ∧ G B ys ∧ ws = xs ++ ys) := fun B1 H1 S1 e1 e2 Q k => by
  refine WE.of (pe_op op_catA peW peW) (ha B1 H1 S1 e1 e2 _ fun q ws B2 H2 S2 e3 e4 hq hF => hb B2 H2 S2 (e1.trans e3) (e2.trans e4) _ fun q2 us B3 H3 S3 e5 e6 hq2 hG => ?_)
  have hq3 : B3 q = some (.tup ws) := e5.tup hq
  have hF3 := mF.m _ _ _ e5 hF
  refine ⟨q, q2, ws, us, rfl, rfl, SqT.of (S3.bh _ _ hq3), SqT.of (S3.bh _ _ hq2), hz _ _ _ hF3 hG, fun h0 => ?_, fun _ h0 => ?_, fun _ _ p np => ?_⟩
  · exact k q2 us B3 H3 S3 (e3.trans e5) (e4.trans e6) hq2 ⟨ws, us, hF3, hG, by rw [h0]; rfl⟩
  · exact k q ws B3 H3 S3 (e3.trans e5) (e4.trans e6) hq3 ⟨ws, us, hF3, hG, by rw [h0, List.append_nil]⟩
  · exact k p _ _ _ (S3.lay np) ((e3.trans e5).trans (S3.layB np).ex) ((e4.trans e6).trans (Sx.new np).ex) upd_same ⟨ws, us, mF.m _ _ _ (S3.layB np).ex hF3, mG.m _ _ _ (S3.layB np).ex hG, rfl⟩
theorem tu_tup [Imm R] (h : EvB X E own B H σ o (rTup R) xs) : EvTu X E own B H σ o (fun B ws => Paired (R.r B) ws xs) := fun B1 H1 S1 e1 e2 Q k => h.toE B1 H1 S1 e1 e2 _ fun v B2 H2 S2 e3 e4 r => by
  obtain ⟨q, ws, rfl, h2, h3⟩ := r
  exact k q ws B2 H2 S2 e3 e4 h2 h3
theorem tu_st {z : StT} (h : EvB X E own B H σ o rSt z) : EvTu X E own B H σ o (fun _ ws => ws = stVs z) := fun B1 H1 S1 e1 e2 Q k => h.toE B1 H1 S1 e1 e2 _ fun v B2 H2 S2 e3 e4 r => by
  cases z with
  | inl y =>
    obtain ⟨q, c, d, rfl, h2, h3, h4⟩ := r
    have h3 : c = .str y.1 := h3
    have h4 : d = .int y.2 := h4
    subst h3
    subst h4
    exact k q _ B2 H2 S2 e3 e4 h2 rfl
  | inr y =>
    obtain ⟨q, c, d, f, rfl, h2, h3, h4, h5⟩ := r
    have h3 : c = .str y.1 := h3
    have h4 : d = .int y.2.1 := h4
    have h5 : f = .int y.2.2 := h5
    subst h3
    subst h4
    subst h5
    exact k q _ B2 H2 S2 e3 e4 h2 rfl
theorem tu_one {x1} (he : EvE X E own B H σ e R x) (hs : St1 X e := by rfl) : EvTu X E own B H σ (.Tuple [e] x1 pos) (fun B ws => ∃ v, ws = [v] ∧ R.r B v x) := fun B1 H1 S1 e1 e2 Q k =>
  WE.of (pe_tup (pa1 hs)) (he B1 H1 S1 e1 e2 _ fun v B2 H2 S2 e3 e4 r => ⟨by show 1 ≤ sizeLine; decide, fun p hp => k p [v] _ _ (S2.lay hp) (e3.trans (S2.layB hp).ex) (e4.trans (Sx.new hp).ex) upd_same ⟨v, rfl, R.mono (S2.layB hp).ex r⟩⟩)
theorem ee_tu (h : EvTu X E own B H σ e F) (hr : ∀ B q ws, B q = some (.tup ws) → F B ws → R.r B (.ref q) x) : EvE X E own B H σ e R x := fun B1 H1 S1 e1 e2 Q k => h B1 H1 S1 e1 e2 _ fun q ws B2 H2 S2 e3 e4 hq hF => k _ B2 H2 S2 e3 e4 (hr _ _ _ hq hF)
theorem mon_pd : MonF (fun B ws => Paired (R.r B) ws xs) := ⟨fun _ _ _ e h => pimp h fun _ _ z => R.mono e z⟩
theorem mon_c {us : List V} : MonF (fun _ ws => ws = us) := ⟨fun _ _ _ _ h => h⟩
theorem mon_1 : MonF (fun B ws => ∃ v, ws = [v] ∧ R.r B v x) := ⟨fun _ _ _ e ⟨v, h1, h2⟩ => ⟨v, h1, R.mono e h2⟩⟩
theorem mon_cut (mF : MonF F) : MonF (fun B ws => ∃ zs, F B zs ∧ ws = cutV zs l u) := ⟨fun _ _ _ e ⟨zs, h1, h2⟩ => ⟨zs, mF.m _ _ _ e h1, h2⟩⟩
theorem mon_cat (mF : MonF F) (mG : MonF G) : MonF (fun B ws => ∃ xs ys, F B xs ∧ G B ys ∧ ws = xs ++ ys) := ⟨fun _ _ _ e ⟨a, b, h1, h2, h3⟩ => ⟨a, b, mF.m _ _ _ e h1, mG.m _ _ _ e h2, h3⟩⟩
/-- t + u, t[l:u] of tuples of one kind -/
theorem ee_catT [Imm R] (ha : EvB X E own B H σ a (rTup R) xs) (hb : EvB X E own B H σ b (rTup R) ys) (hz : xs.length + ys.length ≤ sizeLine) : EvE X E own B H σ (.BinOp a .Add b pos) (rTup R) (xs ++ ys) :=
  ee_tu (tu_cat (mon_pd (R := R) (xs := xs)) (mon_pd (R := R) (xs := ys)) (tu_tup ha) (tu_tup hb) fun B us vs h1 h2 => by rw [plen h1, plen h2]; exact hz) fun B q ws hq ⟨us, vs, h1, h2, h3⟩ => ⟨q, ws, rfl, hq, by rw [h3]; exact pappend h1 h2⟩
theorem ee_cutT [Imm R] (ho : EvB X E own B H σ o (rTup R) xs) (hl : EvP X E own B H σ lo l) (hu : EvP X E own B H σ hi u) : EvE X E own B H σ (.Subscript o (.Slice lo hi none p) pos) (rTup R) (cut xs l u) :=
  ee_tu (tu_cut (mon_pd (R := R) (xs := xs)) (tu_tup ho) hl hu) fun B q ws hq ⟨zs, h1, h2⟩ => ⟨q, ws, rfl, hq, by rw [h2]; exact pcut l u h1⟩
/-- a step with another place -/
def stSet (z : StT) (k : Int) : StT := match z with
  | .inl y => .inl (y.1, k)
  | .inr y => .inr (y.1, k, y.2.2)
theorem ee_stSet {z : StT} {k : Int} {o2 : Expr} {c1 c2} {p1 p2 p3 p4 p5 p6 p7 p8 : Pos} {x1} (h1 : EvB X E own B H σ o rSt z) (he : EvB X E own B H σ e rInt k) (h2 : EvB X E own B H σ o2 rSt z) (hs : St1 X e := by rfl) :
    EvE X E own B H σ (.BinOp (.BinOp (.Subscript o (.Slice none (some (.Constant (.int 1) c1 p1)) none p2) p3) .Add (.Tuple [e] x1 p4) p5) .Add (.Subscript o2 (.Slice (some (.Constant (.int 2) c2 p6)) none none p7) p8) pos) rSt (stSet z k) := by
  have t1 := tu_cut (p := p2) (pos := p3) mon_c (tu_st h1) ep_n (ep_s (ev_i (i := 1) (j := c1) (pos := p1)))
  have t2 := tu_cut (p := p7) (pos := p8) mon_c (tu_st h2) (ep_s (ev_i (i := 2) (j := c2) (pos := p6))) ep_n
  have t3 := tu_one (x1 := x1) (pos := p4) he.toE hs
  have c1' : cutV (stVs z) none (some 1) = [.str (stW z)] := by cases z <;> rfl
  have c2' : cutV (stVs z) (some 2) none = (match stX z with
    | none => []
    | some q => [V.int q]) := by cases z <;> rfl
  refine ee_tu (tu_cat (mon_cat (mon_cut mon_c) mon_1) (mon_cut mon_c) (tu_cat (mon_cut mon_c) mon_1 t1 t3 fun B us vs g1 g2 => ?_) t2 fun B us vs g1 g2 => ?_) fun B q ws hq hF => ?_
  · obtain ⟨_, rfl, rfl⟩ := g1
    obtain ⟨_, rfl, _⟩ := g2
    rw [c1']
    show 2 ≤ sizeLine
    decide
  · obtain ⟨_, _, ⟨_, rfl, rfl⟩, ⟨_, rfl, _⟩, rfl⟩ := g1
    obtain ⟨_, rfl, rfl⟩ := g2
    rw [c1', c2']
    refine Nat.le_trans (m := 3) ?_ (by decide)
    cases z <;> exact Nat.le_of_ble_eq_true rfl
  · obtain ⟨_, _, ⟨_, _, ⟨_, rfl, rfl⟩, ⟨v, rfl, hv⟩, rfl⟩, ⟨_, rfl, rfl⟩, rfl⟩ := hF
    have hv : v = .int k := hv
    subst hv
    rw [c1', c2'] at hq
    cases z with
    | inl y => exact ⟨q, .str y.1, .int k, rfl, hq, rfl, rfl⟩
    | inr y => exact ⟨q, .str y.1, .int k, .int y.2.2, rfl, hq, rfl, rfl, rfl⟩
end
end Sg

namespace Sg
open PySem PySem.Spec PyProof.Rows L2
/-! ### something newer than a mark is owned again -/
theorem thaw1 {E : Ent} {own own' : Own} {Bo Ho B H : Hp} {q : Addr} {vs : List V} (So : Stt E own' Bo Ho) (hx : Ex Bo B) (S : Stt E own B H) (hq : B q = some (.lst vs)) (hn : Bo q = none) : ∃ B', Stt E ((q, .lst vs) :: own) B' H ∧ Ex Bo B' ∧ Tx B B' := by
  have hH0 : E.H0 q = none := by
    rcases S.fr q _ hq with h | h
    · rw [So.b0 _ _ h] at hn
      cases hn
    · exact h
  have hH := S.bh _ _ hq
  obtain ⟨B', S', x1, x2, x3⟩ := stt_reset (us := vs) So hx S hq hn
  have eH : upd H q (.lst vs) = H := by
    funext a
    by_cases ha : a = q
    · rw [ha, upd_same, hH]
    · rw [upd_ne ha]
  rw [eH] at S'
  have hB' : B' q = none := by
    cases e : B' q with
    | none => rfl
    | some o =>
      have := S'.bh _ _ e
      rw [hH] at this
      cases this
      exact absurd e (x3 q vs hn)
  refine ⟨B', ⟨S'.b0, S'.h0, S'.bh, S'.tu, S'.fr, fun z hz => ?_, ?_⟩, x1, x2⟩
  · rcases List.mem_cons.mp hz with rfl | hz
    · exact ⟨hH0, hB', hH⟩
    · exact S'.ow z hz
  · refine List.nodup_cons.mpr ⟨upd_nd fun z hz w => ?_, S'.nd⟩
    have := (S.ow z hz).2.1
    rw [w, hq] at this
    cases this
section
variable {α β : Type} {R : Rel α} {S : Rel β} {Bo B : Hp} {v : V}
theorem newOptL {z : Option (List α ⊕ β)} {y : List α ⊕ β} {l : List α} (h : (rOpt (rUn (rLstN Bo R) S)).r B v z) (h1 : z = some y) (h2 : unL y = some l) : ∃ q us, v = .ref q ∧ B q = some (.lst us) ∧ Bo q = none ∧ Paired (R.r B) us l := by
  subst h1
  cases y with
  | inl a =>
    cases h2
    exact h.2
  | inr b => cases h2
theorem optUnL {H : Hp} {z : Option α} (h : (rOpt R).r H v z) : (rOpt (rUn R S)).r H v (z.map Sum.inl) := by
  cases z with
  | none => exact h
  | some y => exact h
end
section
variable {X : Cx} {E : Ent} {own : Own} {B H : Hp} {σ : L2.St} {α β : Type} {R : Rel α} {S : Rel β} {e : Expr} {z : Option α} {y : Option β}
theorem ev_optUL (h : EvB X E own B H σ e (rOpt R) z) : EvB X E own B H σ e (rOpt (rUn R S)) (z.map Sum.inl) := fun B1 H1 S1 e1 e2 Q k => h B1 H1 S1 e1 e2 Q fun v B2 H2 S2 e3 e4 r => k v B2 H2 S2 e3 e4 (optUnL r)
end
end Sg

namespace Sg
open PySem PySem.Spec PyProof.Rows L2
/-! ### many things newer than a mark are owned again, and changed -/
def Lsts (io : Own) : Prop := ∀ z ∈ io, ∃ us, z.2 = HO.lst us
def Jk (qs : List Addr) (io : Own) : Prop := io.map (·.1) = qs ∧ Lsts io
theorem gather {H : Hp} : ∀ (qs : List Addr), (∀ q ∈ qs, ∃ us, H q = some (.lst us)) → ∃ io : Own, (io.map (·.1)).Nodup ∧ Lsts io ∧ (∀ z ∈ io, z.1 ∈ qs ∧ H z.1 = some z.2) ∧ ∀ q ∈ qs, q ∈ io.map (·.1)
  | [], _ => ⟨[], List.nodup_nil, fun z h => (by cases h), fun z h => (by cases h), fun q h => (by cases h)⟩
  | q :: qs, h => by
    obtain ⟨io, h1, h2, h3, h4⟩ := gather qs fun z hz => h z (List.mem_cons_of_mem _ hz)
    by_cases hq : q ∈ io.map (·.1)
    · refine ⟨io, h1, h2, fun z hz => ⟨List.mem_cons_of_mem _ (h3 z hz).1, (h3 z hz).2⟩, fun z hz => ?_⟩
      rcases List.mem_cons.mp hz with rfl | hz
      · exact hq
      · exact h4 z hz
    · obtain ⟨us, hu⟩ := h q (List.mem_cons_self ..)
      refine ⟨(q, .lst us) :: io, List.nodup_cons.mpr ⟨hq, h1⟩, fun z hz => ?_, fun z hz => ?_, fun z hz => ?_⟩
      · rcases List.mem_cons.mp hz with rfl | hz
        · exact ⟨us, rfl⟩
        · exact h2 z hz
      · rcases List.mem_cons.mp hz with rfl | hz
        · exact ⟨List.mem_cons_self .., hu⟩
        · exact ⟨List.mem_cons_of_mem _ (h3 z hz).1, (h3 z hz).2⟩
      · rcases List.mem_cons.mp hz with rfl | hz
        · exact List.mem_cons_self ..
        · exact List.mem_cons_of_mem _ (h4 z hz)
/-- what stays known when all is let go of that is newer than a mark, but tuples -/
def bkTo (Bo B : Hp) : Hp := fun x => match Bo x with
  | some _ => B x
  | none => match B x with
    | some (.tup ys) => some (.tup ys)
    | _ => none
section
variable {Bo B : Hp} {a q : Addr} {o : HO} {ys vs : List V}
theorem bkTo_in (h : bkTo Bo B a = some o) : B a = some o := by
  unfold bkTo at h
  cases hb : Bo a with
  | some u =>
    rw [hb] at h
    exact h
  | none =>
    rw [hb] at h
    cases hv : B a with
    | none => rw [hv] at h; cases h
    | some u =>
      rw [hv] at h
      cases u with
      | tup ys => exact h
      | _ => cases h
theorem bkTo_tup (h : B a = some (.tup ys)) : bkTo Bo B a = some (.tup ys) := by
  unfold bkTo
  cases hb : Bo a with
  | some u => exact h
  | none => rw [h]
theorem bkTo_old (hb : Bo a = some o) : bkTo Bo B a = B a := by
  unfold bkTo
  rw [hb]
theorem bkTo_lst (h : B q = some (.lst vs)) (hn : Bo q = none) : bkTo Bo B q = none := by
  unfold bkTo
  rw [hn, h]
end
theorem thawN {E : Ent} {own own' : Own} {Bo Ho B H : Hp} (So : Stt E own' Bo Ho) (hx : Ex Bo B) (S : Stt E own B H) (qs : List Addr) (hq : ∀ q ∈ qs, Bo q = none ∧ ∃ us, B q = some (.lst us)) : ∃ B' io, Stt E (io ++ own) B' H ∧ Ex Bo B' ∧ Tx B B' ∧ Lsts io ∧ (∀ q ∈ qs, q ∈ io.map (·.1)) ∧ ∀ z ∈ io, z.1 ∈ qs := by
  obtain ⟨io, h1, h2, h3, h4⟩ := gather (H := B) qs fun q h => (hq q h).2
  have hH0 : ∀ q us, Bo q = none → B q = some (.lst us) → E.H0 q = none := fun q us hn hb => by
    rcases S.fr q _ hb with h | h
    · rw [So.b0 _ _ h] at hn
      cases hn
    · exact h
  refine ⟨bkTo Bo B, io, ⟨fun a o e => ?_, S.h0, fun a o e => S.bh a o (bkTo_in e), fun a ys e => bkTo_tup (S.tu a ys e), fun a o e => S.fr a o (bkTo_in e), fun z hz => ?_, ?_⟩, fun a o e => ?_, fun a ys e => bkTo_tup e, h2, h4, fun z hz => (h3 z hz).1⟩
  · rw [bkTo_old (So.b0 a o e)]
    exact S.b0 a o e
  · rcases List.mem_append.mp hz with hz | hz
    · obtain ⟨q1, q2⟩ := h3 z hz
      obtain ⟨n1, us, n2⟩ := hq _ q1
      exact ⟨hH0 _ _ n1 n2, bkTo_lst n2 n1, S.bh _ _ q2⟩
    · obtain ⟨q1, q2, q3⟩ := S.ow z hz
      refine ⟨q1, ?_, q3⟩
      cases e : bkTo Bo B z.1 with
      | none => rfl
      | some u => rw [bkTo_in e] at q2; cases q2
  · rw [List.map_append]
    refine List.nodup_append.mpr ⟨h1, S.nd, fun x hx y hy e => ?_⟩
    subst e
    obtain ⟨z, hz, e1⟩ := List.mem_map.mp hx
    obtain ⟨w, hw, e2⟩ := List.mem_map.mp hy
    have hb := (S.ow w hw).2.1
    rw [e2, ← e1, ((hq _ (h3 z hz).1).2).choose_spec] at hb
    cases hb
  · obtain ⟨o', q1, q2⟩ := hx a o e
    exact ⟨o', by rw [bkTo_old e]; exact q1, q2⟩
section
variable {X : Cx} {E : Ent} {own own' io : Own} {B H B' H' Bo Ho : Hp} {σ : L2.St} {α β γ : Type} {R : Rel α} {S : Rel β} {T : Rel γ} {e a b c it : Expr} {x : α} {y : β} {z : γ} {p pos pos' apos : Pos} {i j k k0 : Nat} {xs : List α}
variable {n m : Str} {rest body : List Stmt} {D : Ends} {qs : List Addr}
/-- for x in a list of one's own: things within are changed -/
theorem s_forJn {J : Nat → Own → Prop} {tn : Str} {tp : Pos} {q : Addr} {vs : List V} (C : Cok X k0) (L : Slot X j tn) (J0 : J 0 io) (S0 : Stt E (io ++ own) B H) (hp : PE X it (tVar i)) (h : σ[i]? = some (some (.ref q))) (hk : (q, HO.lst vs) ∈ own) (hj : j < σ.length)
    (hb : ∀ i' v, vs[i']? = some v → ∀ io1 B1 H1 (D1 : Ends), J i' io1 → Stt E (io1 ++ own) B1 H1 → Ex B B1 → (∀ io2 B2 H2, J (i' + 1) io2 → Stt E (io2 ++ own) B2 H2 → Ex B1 B2 → D1.nx (σ.set j (some v)) H2) → WSs X body D1 (σ.set j (some v)) H1)
    (kt : ∀ jv io1 B1 H1, J vs.length io1 → Stt E (io1 ++ own) B1 H1 → Ex B B1 → WSs X rest D (σ.set j jv) H1)
    (hf : ∀ x, foldedSetIterable it X.env x = pure x := by intro _; rfl) : WSs X (.For (.Name tn tp) it body [] pos :: rest) D σ H := by
  have hl0 : ∀ {io1 : Own} {B1 H1 : Hp}, Stt E (io1 ++ own) B1 H1 → H1 q = some (.lst vs) := fun S1 => (S1.ow _ (List.mem_append_right _ hk)).2.2
  refine WSs.cons (ps_for C.own C.calm (pi_list (tl := WE X it) peW) (pg_name (i := j) C.nd L.ix L.loc L.hf) pssW hf) (WE.of hp ⟨_, h, q, rfl, ⟨vs, SqL.of (hl0 S0)⟩, ?_⟩)
  refine ⟨fun i' mm σ' H' => mm = vs.length - i' ∧ i' ≤ vs.length ∧ (∃ v, σ' = σ.set j v) ∧ ∃ io1 B1, J i' io1 ∧ Stt E (io1 ++ own) B1 H' ∧ Ex B B1, ⟨vs.length, rfl, Nat.zero_le _, ⟨σ[j], (List.set_getElem_self hj).symm⟩, io, B, J0, S0, Ex.refl _⟩, ?_⟩
  rintro i' mm σ' H' ⟨rfl, hi, ⟨v0, rfl⟩, io1, B1, J1, S1, e1⟩
  have hl := hl0 S1
  by_cases hlt : i' < vs.length
  · refine .inr ⟨⟨vs, vs[i'], SqL.of hl, List.getElem?_eq_getElem hlt⟩, fun σ2 H2 => (∃ v, σ2 = σ.set j v) ∧ ∃ io2 B2, J (i' + 1) io2 ∧ Stt E (io2 ++ own) B2 H2 ∧ Ex B B2, fun σ2 H2 ⟨q1, q2⟩ => ⟨vs.length - (i' + 1), by omega, rfl, hlt, q1, q2⟩, fun v H'' hy => ?_⟩
    obtain ⟨e2, hv⟩ := hy
    subst e2
    have hv1 := hv _ (SqL.of hl)
    rw [List.getElem?_eq_getElem hlt] at hv1
    have hv2 : v = vs[i'] := (Option.some.inj hv1).symm
    subst hv2
    show WSs X body _ ((σ.set j v0).set j (some vs[i'])) H''
    rw [List.set_set]
    exact hb i' _ (List.getElem?_eq_getElem hlt) io1 B1 H'' _ J1 S1 e1 fun io2 B2 H2 J2 S2 e3 => ⟨⟨_, rfl⟩, io2, B2, J2, S2, e1.trans e3⟩
  · have hi2 : i' = vs.length := by omega
    subst hi2
    exact .inl ⟨⟨vs, SqL.of hl, Nat.le_refl _⟩, kt v0 io1 B1 H' J1 S1 e1⟩
theorem s_forJk {tn : Str} {tp : Pos} {q : Addr} {vs : List V} (C : Cok X k0) (L : Slot X j tn) (J0 : Jk qs io) (S0 : Stt E (io ++ own) B H) (hp : PE X it (tVar i)) (h : σ[i]? = some (some (.ref q))) (hk : (q, HO.lst vs) ∈ own) (hj : j < σ.length)
    (hb : ∀ v ∈ vs, ∀ io1 B1 H1 (D1 : Ends), Jk qs io1 → Stt E (io1 ++ own) B1 H1 → Ex B B1 → (∀ io2 B2 H2, Jk qs io2 → Stt E (io2 ++ own) B2 H2 → Ex B1 B2 → D1.nx (σ.set j (some v)) H2) → WSs X body D1 (σ.set j (some v)) H1)
    (kt : ∀ jv io1 B1 H1, Jk qs io1 → Stt E (io1 ++ own) B1 H1 → Ex B B1 → WSs X rest D (σ.set j jv) H1)
    (hf : ∀ x, foldedSetIterable it X.env x = pure x := by intro _; rfl) : WSs X (.For (.Name tn tp) it body [] pos :: rest) D σ H :=
  s_forJn (J := fun _ => Jk qs) C L J0 S0 hp h hk hj (fun i' v hv => hb v (List.mem_of_getElem? hv)) kt hf
theorem Jk.at {v : Addr} (J : Jk qs io) (h : v ∈ qs) : ∃ (k : Nat) (us : List V), io[k]? = some (v, HO.lst us) := by
  rw [← J.1] at h
  obtain ⟨z, hz, e⟩ := List.mem_map.mp h
  obtain ⟨k, hk⟩ := List.mem_iff_getElem?.mp hz
  obtain ⟨us, hu⟩ := J.2 z hz
  exact ⟨k, us, by rw [hk, ← e, ← hu]⟩
theorem Jk.set {v : Addr} {us ws : List V} (J : Jk qs io) (h : io[k]? = some (v, HO.lst us)) : Jk qs (io.set k (v, .lst ws)) := by
  refine ⟨by rw [set_fst h]; exact J.1, fun z hz => ?_⟩
  rcases List.mem_or_eq_of_mem_set hz with hz | rfl
  · exact J.2 z hz
  · exact ⟨ws, rfl⟩
theorem set_app {β : Type} {l r : List β} {z w : β} {k : Nat} (h : l[k]? = some w) : (l ++ r).set k z = l.set k z ++ r := by
  have := (List.getElem?_eq_some_iff.mp h).1
  exact List.set_append_left _ _ this
theorem get_app {β : Type} {l r : List β} {w : β} {k : Nat} (h : l[k]? = some w) : (l ++ r)[k]? = some w := by
  rw [List.getElem?_append_left (List.getElem?_eq_some_iff.mp h).1]
  exact h
/-- for x in xs: x.clear(), lists newer than a mark -/
theorem s_forClr1 {tn : Str} {tp px pm pa pe : Pos} {q : Addr} {vs : List V} {xss : List (List α)} (C : Cok X k0) (L : Slot X j tn) (hn : PE X (.Name tn px) (tVar j)) (So : Stt E own' Bo Ho) (hx : Ex Bo B) (S0 : Stt E own B H) (hp : PE X it (tVar i)) (h : σ[i]? = some (some (.ref q))) (hk : (q, HO.lst vs) ∈ own) (hj : j < σ.length) (r : Paired ((rLstN Bo R).r B) vs xss)
    (kt : ∀ jv B1 H1, Stt E own B1 H1 → Ex Bo B1 → Tx B B1 → WSs X rest D (σ.set j jv) H1)
    (hf : ∀ x, foldedSetIterable it X.env x = pure x := by intro _; rfl) (t : BmT0 X (.Name tn px) "clear" pm pa := by exact ⟨rfl, rfl⟩) (hw : swapsWith (.Call (.Attribute (.Name tn px) "clear" pm) [] [] pa) none pe.line X.env = pure false := by rfl) :
    WSs X (.For (.Name tn tp) it [.Expr (.Call (.Attribute (.Name tn px) "clear" pm) [] [] pa) pe] [] pos :: rest) D σ H := by
  have lead : ∀ v ∈ vs, ∃ a, v = V.ref a ∧ Bo a = none ∧ ∃ us, B a = some (.lst us) := fun v hv => by
    obtain ⟨k, hk⟩ := List.mem_iff_getElem?.mp hv
    obtain ⟨xs, _, a, us, h1, h2, h3, _⟩ := L2.paired_get r hk
    exact ⟨a, h1, h3, us, h2⟩
  have hq : ∀ a ∈ vs.filterMap (fun v => match v with | .ref a => some a | _ => none), Bo a = none ∧ ∃ us, B a = some (.lst us) := fun a ha => by
    obtain ⟨v, hv, e⟩ := List.mem_filterMap.mp ha
    obtain ⟨a', rfl, h1, h2⟩ := lead v hv
    cases e
    exact ⟨h1, h2⟩
  obtain ⟨B', io, S1, x1, x2, l1, l2, _⟩ := thawN So hx S0 _ hq
  refine s_forJk (qs := io.map (·.1)) C L ⟨rfl, l1⟩ S1 hp h hk hj (fun v hv io1 B1 H1 D1 J1 S2 e2 nx => ?_) (fun jv io1 B1 H1 J1 S2 e2 => kt jv B1 H1 S2.drops (x1.trans e2) (Tx.trans x2 (Ex.tx e2))) hf
  obtain ⟨a, rfl, _, _⟩ := lead v hv
  obtain ⟨kk, us, hkk⟩ := J1.at (l2 a (List.mem_filterMap.mpr ⟨_, hv, rfl⟩))
  refine s_clear (R := rV) (vs := us) (xs := us) S2 hn (List.getElem?_set_self hj) (get_app hkk) (pV us) (fun H3 S3 _ => WSs.nil ?_) t hw
  rw [set_app hkk] at S3
  exact nx _ _ _ (J1.set hkk) S3 (Ex.refl _)
/-- for x in xs: x[1].clear() -/
theorem s_forClr2 {tn : Str} {tp px pm pa pe p1 p2 : Pos} {c1} {q : Addr} {vs : List V} {xss : List (β × List α)} (C : Cok X k0) (L : Slot X j tn) (hn : PE X (.Name tn px) (tVar j)) (So : Stt E own' Bo Ho) (hx : Ex Bo B) (S0 : Stt E own B H) (hp : PE X it (tVar i)) (h : σ[i]? = some (some (.ref q))) (hk : (q, HO.lst vs) ∈ own) (hj : j < σ.length) (r : Paired ((rPr S (rLstN Bo R)).r B) vs xss)
    (kt : ∀ jv B1 H1, Stt E own B1 H1 → Ex Bo B1 → Tx B B1 → WSs X rest D (σ.set j jv) H1)
    (hf : ∀ x, foldedSetIterable it X.env x = pure x := by intro _; rfl) (t : BmT0 X (.Subscript (.Name tn px) (.Constant (.int 1) c1 p1) p2) "clear" pm pa := by exact ⟨rfl, rfl⟩) (hw : swapsWith (.Call (.Attribute (.Subscript (.Name tn px) (.Constant (.int 1) c1 p1) p2) "clear" pm) [] [] pa) none pe.line X.env = pure false := by rfl) :
    WSs X (.For (.Name tn tp) it [.Expr (.Call (.Attribute (.Subscript (.Name tn px) (.Constant (.int 1) c1 p1) p2) "clear" pm) [] [] pa) pe] [] pos :: rest) D σ H := by
  have lead : ∀ v ∈ vs, ∃ t v0 a, v = V.ref t ∧ B t = some (.tup [v0, .ref a]) ∧ Bo a = none ∧ ∃ us, B a = some (.lst us) := fun v hv => by
    obtain ⟨k, hk⟩ := List.mem_iff_getElem?.mp hv
    obtain ⟨xs, _, t, v0, v1, h1, h2, _, a, us, h3, h4, h5, _⟩ := L2.paired_get r hk
    subst h3
    exact ⟨t, v0, a, h1, h2, h5, us, h4⟩
  have hq : ∀ a ∈ vs.filterMap (fun v => match v with | .ref t => (match B t with | some (.tup [_, .ref a]) => some a | _ => none) | _ => none), Bo a = none ∧ ∃ us, B a = some (.lst us) := fun a ha => by
    obtain ⟨v, hv, e⟩ := List.mem_filterMap.mp ha
    obtain ⟨t, v0, a', rfl, h0, h1, h2⟩ := lead v hv
    have e : (match B t with | some (.tup [_, .ref a]) => some a | _ => none) = some a := e
    rw [h0] at e
    cases e
    exact ⟨h1, h2⟩
  obtain ⟨B', io, S1, x1, x2, l1, l2, _⟩ := thawN So hx S0 _ hq
  refine s_forJk (qs := io.map (·.1)) C L ⟨rfl, l1⟩ S1 hp h hk hj (fun v hv io1 B1 H1 D1 J1 S2 e2 nx => ?_) (fun jv io1 B1 H1 J1 S2 e2 => kt jv B1 H1 S2.drops (x1.trans e2) (Tx.trans x2 (Ex.tx e2))) hf
  obtain ⟨tt, v0, a, rfl, h0, _, _⟩ := lead v hv
  obtain ⟨kk, us, hkk⟩ := J1.at (l2 a (List.mem_filterMap.mpr ⟨_, hv, by show (match B tt with | some (.tup [_, .ref a]) => some a | _ => none) = _; rw [h0]⟩))
  have ht1 : H1 tt = some (.tup [v0, .ref a]) := S2.bh _ _ (e2.tup (x2 _ _ h0))
  have hq1 := (S2.ow _ (getE (get_app hkk))).2.2
  refine WSs.cons (ps_expr (pe_bm0 PySem.F.plainAttrs_list PySem.F.slot_list_clear PySem.F.type_list_clear mt_clear (pe_ix ix_tup hn pe_int (fun _ _ => rfl)) t.1 t.2) hw) ⟨.ref tt, List.getElem?_set_self hj, tt, [v0, .ref a], 1, .ref a, rfl, rfl, SqT.of ht1, rfl, .inl ⟨rfl, _, SqL.of hq1⟩, a, us, rfl, rfl, hq1, WSs.nil ?_⟩
  have S3 := S2.put (o' := HO.lst []) (get_app hkk) fun ys z => by cases z
  rw [set_app hkk] at S3
  exact nx _ _ _ (J1.set hkk) S3 (Ex.refl _)
end
end Sg

namespace Sg
open PySem PySem.Spec PyProof.Rows L2
/-! ### lists of three unlike things: written, turned, read -/
section
variable {α β γ : Type} {R R' : Rel α} {S S' : Rel β} {T T' : Rel γ}
instance [Fgt R R'] [Fgt S S'] [Fgt T T'] : Fgt (rH3 R S T) (rH3 R' S' T') := ⟨fun ⟨p, a, b, c, h1, h2, h3, h4, h5⟩ => ⟨p, a, b, c, h1, h2, Fgt.f h3, Fgt.f h4, Fgt.f h5⟩⟩
instance {R : Hp → Rel α} {S : Hp → Rel β} {T : Hp → Rel γ} [AntiN R] [AntiN S] [AntiN T] : AntiN (fun B => rH3 (R B) (S B) (T B)) := ⟨fun e ⟨p, a, b, c, h1, h2, h3, h4, h5⟩ => ⟨p, a, b, c, h1, h2, AntiN.an (RR := R) e h3, AntiN.an (RR := S) e h4, AntiN.an (RR := T) e h5⟩⟩
/-- some list -/
def rIsL : Rel Unit := ⟨fun H v _ => ∃ q us, v = V.ref q ∧ Rd H q (.lst us), fun e ⟨q, us, h1, h2⟩ => ⟨q, us, h1, e.rdL h2⟩⟩
instance : TyR rIsL "list" := ⟨fun {K H v x} h => by
  obtain ⟨q, us, h1, h2 | ⟨ob, h2⟩⟩ := h
  · rw [h1]; exact .base (.lst h2)
  · rw [h1]; exact .base (.frz h2)⟩
/-- what is some list -/
class IsLs {α : Type} (R : Rel α) : Prop where
  l : ∀ {H : Hp} {v : V} {x : α}, R.r H v x → rIsL.r H v ()
instance : IsLs (rLst R) := ⟨fun ⟨p, vs, h1, h2, _⟩ => ⟨p, vs, h1, h2⟩⟩
instance {Bo : Hp} : IsLs (rLstN Bo R) := ⟨fun ⟨p, vs, h1, h2, _⟩ => ⟨p, vs, h1, Rd.of h2⟩⟩
theorem isL3 [IsLs R] [IsLs S] [IsLs T] {B : Hp} {a b c : V} {x : α} {y : β} {z : γ} (h1 : R.r B a x) (h2 : S.r B b y) (h3 : T.r B c z) : Paired (rIsL.r B) [a, b, c] [(), (), ()] := .cons (IsLs.l h1) (.cons (IsLs.l h2) (.cons (IsLs.l h3) .nil))
end
section
variable {X : Cx} {E : Ent} {own own' : Own} {B H B' H' Bo Ho : Hp} {σ : L2.St} {α β γ : Type} {R : Rel α} {S : Rel β} {T : Rel γ} {e a b c o it : Expr} {x : α} {y : β} {z : γ} {p pos pos' apos : Pos} {i j k : Nat} {xs : List α} {ys : List β} {zs : List γ}
variable {n m : Str} {rest body : List Stmt} {D : Ends}
/-- t[0], t[1], t[2] -/
theorem ev_h30 {q : α × β × γ} {kk} {pp : Pos} (ho : EvB X E own B H σ o (rH3 R S T) q) : EvB X E own B H σ (.Subscript o (.Constant (.int 0) kk pp) pos) R q.1 := fun B1 H1 S1 e1 e2 Q k =>
  WE.of (pe_ix ix_list peW pe_int (fun _ _ => rfl)) (ho B1 H1 S1 e1 e2 _ fun v B2 H2 S2 e3 e4 ⟨l, c, d, f, h1, h2, h3, h4, h5⟩ => ⟨l, [c, d, f], 0, c, h1, rfl, .inl h2, rfl, k c B2 H2 S2 e3 e4 h3⟩)
theorem ev_h31 {q : α × β × γ} {kk} {pp : Pos} (ho : EvB X E own B H σ o (rH3 R S T) q) : EvB X E own B H σ (.Subscript o (.Constant (.int 1) kk pp) pos) S q.2.1 := fun B1 H1 S1 e1 e2 Q k =>
  WE.of (pe_ix ix_list peW pe_int (fun _ _ => rfl)) (ho B1 H1 S1 e1 e2 _ fun v B2 H2 S2 e3 e4 ⟨l, c, d, f, h1, h2, h3, h4, h5⟩ => ⟨l, [c, d, f], 1, d, h1, rfl, .inl h2, rfl, k d B2 H2 S2 e3 e4 h4⟩)
theorem ev_h32 {q : α × β × γ} {kk} {pp : Pos} (ho : EvB X E own B H σ o (rH3 R S T) q) : EvB X E own B H σ (.Subscript o (.Constant (.int 2) kk pp) pos) T q.2.2 := fun B1 H1 S1 e1 e2 Q k =>
  WE.of (pe_ix ix_list peW pe_int (fun _ _ => rfl)) (ho B1 H1 S1 e1 e2 _ fun v B2 H2 S2 e3 e4 ⟨l, c, d, f, h1, h2, h3, h4, h5⟩ => ⟨l, [c, d, f], 2, f, h1, rfl, .inl h2, rfl, k f B2 H2 S2 e3 e4 h5⟩)
theorem Rd.ex {B H : Hp} (b : Sx B H) {p : Addr} {u : HO} (h : Rd B p u) : Rd H p u := h.imp (b _ _) fun ⟨o, q⟩ => ⟨o, b _ _ q⟩
theorem ee_h30 {q : α × β × γ} {kk} {pp : Pos} (ho : EvE X E own B H σ o (rH3 R S T) q) : EvE X E own B H σ (.Subscript o (.Constant (.int 0) kk pp) pos) R q.1 := fun B1 H1 S1 e1 e2 Q k =>
  WE.of (pe_ix ix_list peW pe_int (fun _ _ => rfl)) (ho B1 H1 S1 e1 e2 _ fun v B2 H2 S2 e3 e4 ⟨l, c, d, f, h1, h2, h3, h4, h5⟩ => ⟨l, [c, d, f], 0, c, h1, rfl, .inl (Rd.ex S2.bh h2), rfl, k c B2 H2 S2 e3 e4 h3⟩)
theorem ee_h31 {q : α × β × γ} {kk} {pp : Pos} (ho : EvE X E own B H σ o (rH3 R S T) q) : EvE X E own B H σ (.Subscript o (.Constant (.int 1) kk pp) pos) S q.2.1 := fun B1 H1 S1 e1 e2 Q k =>
  WE.of (pe_ix ix_list peW pe_int (fun _ _ => rfl)) (ho B1 H1 S1 e1 e2 _ fun v B2 H2 S2 e3 e4 ⟨l, c, d, f, h1, h2, h3, h4, h5⟩ => ⟨l, [c, d, f], 1, d, h1, rfl, .inl (Rd.ex S2.bh h2), rfl, k d B2 H2 S2 e3 e4 h4⟩)
theorem ee_h32 {q : α × β × γ} {kk} {pp : Pos} (ho : EvE X E own B H σ o (rH3 R S T) q) : EvE X E own B H σ (.Subscript o (.Constant (.int 2) kk pp) pos) T q.2.2 := fun B1 H1 S1 e1 e2 Q k =>
  WE.of (pe_ix ix_list peW pe_int (fun _ _ => rfl)) (ho B1 H1 S1 e1 e2 _ fun v B2 H2 S2 e3 e4 ⟨l, c, d, f, h1, h2, h3, h4, h5⟩ => ⟨l, [c, d, f], 2, f, h1, rfl, .inl (Rd.ex S2.bh h2), rfl, k f B2 H2 S2 e3 e4 h5⟩)
/-- x = [a, b, c], the list one's own -/
theorem s_asgOH (C : Cok X k) (L : Slot X i n) (S0 : Stt E own B H) (ha : EvE X E own B H σ a R x) (hb : EvE X E own B H σ b S y) (hc : EvE X E own B H σ c T z)
    (q : ∀ p u v w B' H', Stt E ((p, .lst [u, v, w]) :: own) B' H' → Ex B B' → R.r B' u x → S.r B' v y → T.r B' w z → WSs X rest D (σ.set i (some (.ref p))) H')
    (h1 : starEach (a :: [b, c]) X.env = (false, eval a X.env) :: starEach [b, c] X.env := by rfl) (h2 : starEach (b :: [c]) X.env = (false, eval b X.env) :: starEach [c] X.env := by rfl) (h3 : St1 X c := by rfl)
    (hs : swapsWith (.List [a, b, c] pos') (some (.Name n p)) pos.line X.env = pure false := by rfl) : WSs X (.Assign [.Name n p] (.List [a, b, c] pos') pos :: rest) D σ H :=
  WSs.cons (ps_set C.nd L.ix L.loc (pe_lst (pa_cons peW (pa_cons peW (pa_cons peW pa_nil h3) h2) h1)) hs L.hf) (ha B H S0 (Ex.refl _) (Ex.refl _) _ fun u B2 H2 S2 e1 e2 r1 => hb B2 H2 S2 e1 e2 _ fun v B3 H3 S3 e3 e4 r2 => hc B3 H3 S3 (e1.trans e3) (e2.trans e4) _ fun w B4 H4 S4 e5 e6 r3 =>
    ⟨by show 3 ≤ sizeLine; decide, fun pp hp => q pp u v w B4 _ (S4.alloc hp fun ys z => by cases z) ((e1.trans e3).trans e5) (R.mono (e3.trans e5) r1) (S.mono e5 r2) r3⟩)
theorem ev_oh {q : Addr} {u v w : V} (hp : PE X e (tVar i)) (h : σ[i]? = some (some (.ref q))) (hk : (q, HO.lst [u, v, w]) ∈ own) (r1 : R.r B u x) (r2 : S.r B v y) (r3 : T.r B w z) : EvB X E own B H σ e (rH3 R S T) (x, y, z) := fun B1 H1 S1 e1 e2 Q kq => by
  have up := e1.trans S1.bh.ex
  exact WE.of hp ⟨.ref q, h, kq _ B1 H1 S1 (Ex.refl _) (Ex.refl _) ⟨q, u, v, w, rfl, Rd.of (S1.ow _ hk).2.2, R.mono up r1, S.mono up r2, T.mono up r3⟩⟩
theorem oh_keep {q : Addr} {u v w : V} (S0 : Stt E own B H) (hk : own[k]? = some (q, .lst [u, v, w])) (r1 : R.r B u x) (r2 : S.r B v y) (r3 : T.r B w z) : ∃ B', Stt E (own.eraseIdx k) B' H ∧ Ex B B' ∧ (rH3 R S T).r B' (.ref q) (x, y, z) := by
  have e := (Sx.new (o := .lst [u, v, w]) (S0.ow _ (getE hk)).2.1).ex
  exact ⟨_, S0.keepAt hk, e, q, u, v, w, rfl, Rd.of upd_same, R.mono e r1, S.mono e r2, T.mono e r3⟩
end
/-! ### a list of three lists, all new since a mark, is changed by a def -/
section
variable {α β γ : Type} {R R' : Rel α} {S S' : Rel β} {T T' : Rel γ} {Bo : Hp}
def rH3N (Bo : Hp) (R : Rel α) (S : Rel β) (T : Rel γ) : Rel (α × β × γ) := ⟨fun H v x => ∃ p a b c, v = .ref p ∧ H p = some (.lst [a, b, c]) ∧ Bo p = none ∧ R.r H a x.1 ∧ S.r H b x.2.1 ∧ T.r H c x.2.2, fun e ⟨p, a, b, c, h1, h2, h0, h3, h4, h5⟩ => ⟨p, a, b, c, h1, e.lst h2, h0, R.mono e h3, S.mono e h4, T.mono e h5⟩⟩
instance [Fgt R R'] [Fgt S S'] [Fgt T T'] : Fgt (rH3N Bo R S T) (rH3 R' S' T') := ⟨fun ⟨p, a, b, c, h1, h2, _, h3, h4, h5⟩ => ⟨p, a, b, c, h1, Rd.of h2, Fgt.f h3, Fgt.f h4, Fgt.f h5⟩⟩
instance {R : Hp → Rel α} {S : Hp → Rel β} {T : Hp → Rel γ} [AntiN R] [AntiN S] [AntiN T] : AntiN (fun B => rH3N B (R B) (S B) (T B)) := ⟨fun e ⟨p, a, b, c, h1, h2, h0, h3, h4, h5⟩ => ⟨p, a, b, c, h1, h2, e.back h0, AntiN.an (RR := R) e h3, AntiN.an (RR := S) e h4, AntiN.an (RR := T) e h5⟩⟩
instance : NN (rH3N Bo R S T) := ⟨fun ⟨p, a, b, c, h1, _⟩ => by rw [h1]; exact fun q => by cases q⟩
end
section
variable {X : Cx} {E : Ent} {own own' : Own} {B H B' H' Bo Ho : Hp} {σ : L2.St} {α β γ : Type} {R : Rel α} {S : Rel β} {T : Rel γ} {e a b c o it : Expr} {x : α} {y : β} {z : γ} {p pos pos' apos : Pos} {i j k k0 : Nat}
variable {n m : Str} {rest body : List Stmt} {D : Ends} {ps : List Str}
theorem ev_isl3 [IsLs R] [IsLs S] [IsLs T] {q : α × β × γ} (h : EvB X E own B H σ e (rH3 R S T) q) : EvB X E own B H σ e (rLst rIsL) [(), (), ()] := fun B1 H1 S1 e1 e2 Q k => h B1 H1 S1 e1 e2 Q fun v B2 H2 S2 e3 e4 ⟨p, a, b, c, h1, h2, h3, h4, h5⟩ => k v B2 H2 S2 e3 e4 ⟨p, [a, b, c], h1, h2, isL3 h3 h4 h5⟩
theorem ee_isl3 [IsLs R] [IsLs S] [IsLs T] {q : α × β × γ} (h : EvE X E own B H σ e (rH3 R S T) q) : EvE X E own B H σ e (rLst rIsL) [(), (), ()] := fun B1 H1 S1 e1 e2 Q k => h B1 H1 S1 e1 e2 Q fun v B2 H2 S2 e3 e4 ⟨p, a, b, c, h1, h2, h3, h4, h5⟩ => k v B2 H2 S2 e3 e4 ⟨p, [a, b, c], h1, h2, isL3 h3 h4 h5⟩
theorem ee_any (h : EvE X E own B H σ e R x) : EvE X E own B H σ e rAny () := fun B1 H1 S1 e1 e2 Q k => h B1 H1 S1 e1 e2 Q fun v B2 H2 S2 e3 e4 _ => k v B2 H2 S2 e3 e4 trivial
theorem oh_keepN {q : Addr} {u v w : V} (hx : Ex Bo B) (S0 : Stt E own B H) (hk : own[k]? = some (q, .lst [u, v, w])) (r1 : R.r B u x) (r2 : S.r B v y) (r3 : T.r B w z) : ∃ B', Stt E (own.eraseIdx k) B' H ∧ Ex B B' ∧ (rH3N Bo R S T).r B' (.ref q) (x, y, z) := by
  have n := (S0.ow _ (getE hk)).2.1
  have e := (Sx.new (o := .lst [u, v, w]) n).ex
  exact ⟨_, S0.keepAt hk, e, q, u, v, w, rfl, upd_same, hx.back n, R.mono e r1, S.mono e r2, T.mono e r3⟩
theorem Stt.perm (S : Stt E own B H) (h : own.Perm own') : Stt E own' B H := ⟨S.b0, S.h0, S.bh, S.tu, S.fr, fun z hz => S.ow z (h.mem_iff.mpr hz), (h.map _).nodup_iff.mp S.nd⟩
/-- lists with room for three more -/
def RoomL (m : Nat) (io : Own) : Prop := ∀ z ∈ io, ∃ us : List V, z.2 = HO.lst us ∧ us.length + 3 ≤ sizeLine + m
theorem thaw3 {v : V} {x : List (Int × Int) × List (Int × List Int) × List Int} (So : Stt E own' Bo Ho) (hx : Ex Bo B) (S : Stt E own B H) (r : (rH3N Bo (rLstN Bo (rPr rInt rInt)) (rLstN Bo (rPr rInt (rTup rInt))) (rLstN Bo rInt)).r B v x) (hz3 : x.1.length + 3 ≤ sizeLine ∧ x.2.1.length + 3 ≤ sizeLine ∧ x.2.2.length + 3 ≤ sizeLine) :
    ∃ p q0 q1 q2 io B', v = .ref p ∧ Stt E (((p, .lst [.ref q0, .ref q1, .ref q2]) :: io) ++ own) B' H ∧ Ex Bo B' ∧ Tx B B' ∧ RoomL 0 io ∧ q0 ∈ io.map (·.1) ∧ q1 ∈ io.map (·.1) ∧ q2 ∈ io.map (·.1) := by
  obtain ⟨xa, xb, xc⟩ := x
  obtain ⟨p, a, b, c, rfl, hp, hpn, ⟨q0, u0, rfl, h0, n0, r0⟩, ⟨q1, u1, rfl, h1, n1, r1⟩, ⟨q2, u2, rfl, h2, n2, r2⟩⟩ := r
  replace r0 : Paired _ u0 xa := r0
  replace r1 : Paired _ u1 xb := r1
  replace r2 : Paired _ u2 xc := r2
  have hq : ∀ q ∈ [p, q0, q1, q2], Bo q = none ∧ ∃ us, B q = some (.lst us) := by
    intro q hq
    rcases List.mem_cons.mp hq with rfl | hq
    · exact ⟨hpn, _, hp⟩
    rcases List.mem_cons.mp hq with rfl | hq
    · exact ⟨n0, _, h0⟩
    rcases List.mem_cons.mp hq with rfl | hq
    · exact ⟨n1, _, h1⟩
    rcases List.mem_cons.mp hq with rfl | hq
    · exact ⟨n2, _, h2⟩
    · cases hq
  obtain ⟨B', io, S1, x1, x2, l1, l2, l3⟩ := thawN So hx S _ hq
  have val : ∀ z ∈ io, H z.1 = some z.2 := fun z hz => (S1.ow z (List.mem_append_left _ hz)).2.2
  obtain ⟨⟨p', u⟩, hm, e⟩ := List.mem_map.mp (l2 p (List.mem_cons_self ..))
  have e : p' = p := e
  subst e
  have hu : u = .lst [.ref q0, .ref q1, .ref q2] := by
    have := val _ hm
    rw [S.bh _ _ hp] at this
    exact (Option.some.inj this).symm
  subst hu
  have ne0 : q0 ≠ p' := fun e => by
    subst e
    rw [hp] at h0
    cases h0
    cases r0 with
    | cons h _ =>
      obtain ⟨t, a, b, e1, e2, _⟩ := h
      cases e1
      rw [hp] at e2
      cases e2
  have ne1 : q1 ≠ p' := fun e => by
    subst e
    rw [hp] at h1
    cases h1
    cases r1 with
    | cons h h' =>
      cases h' with
      | cons h _ =>
        obtain ⟨t, a, b, e1, e2, _⟩ := h
        cases e1
        rw [hp] at e2
        cases e2
  have ne2 : q2 ≠ p' := fun e => by
    subst e
    rw [hp] at h2
    cases h2
    cases r2 with
    | cons h _ => cases (show _ = _ from h)
  obtain ⟨s, t, rfl⟩ := List.append_of_mem hm
  have inn : ∀ q, q ∈ [p', q0, q1, q2] → q ≠ p' → q ∈ (s ++ t).map (·.1) := fun q hq hn => by
    obtain ⟨z, hz, e⟩ := List.mem_map.mp (l2 q hq)
    rcases List.mem_append.mp hz with hz | hz
    · exact List.mem_map.mpr ⟨z, List.mem_append_left _ hz, e⟩
    rcases List.mem_cons.mp hz with rfl | hz
    · exact absurd e.symm hn
    · exact List.mem_map.mpr ⟨z, List.mem_append_right _ hz, e⟩
  refine ⟨p', q0, q1, q2, s ++ t, B', rfl, S1.perm (List.perm_middle.append_right own), x1, x2, fun z hz => ?_, inn q0 (by simp) ne0, inn q1 (by simp) ne1, inn q2 (by simp) ne2⟩
  have hz' : z ∈ s ++ (p', HO.lst [.ref q0, .ref q1, .ref q2]) :: t := by
    rcases List.mem_append.mp hz with h | h
    · exact List.mem_append_left _ h
    · exact List.mem_append_right _ (List.mem_cons_of_mem _ h)
  obtain ⟨us, hus⟩ := l1 z hz'
  refine ⟨us, hus, ?_⟩
  have v1 := val z hz'
  rw [hus] at v1
  have l4 := l3 z hz'
  rcases List.mem_cons.mp l4 with e | l4
  · rw [e, S.bh _ _ hp] at v1
    cases v1
    show 6 ≤ sizeLine
    decide
  rcases List.mem_cons.mp l4 with e | l4
  · rw [e, S.bh _ _ h0] at v1
    cases v1
    rw [plen r0]
    exact hz3.1
  rcases List.mem_cons.mp l4 with e | l4
  · rw [e, S.bh _ _ h1] at v1
    cases v1
    rw [plen r1]
    exact hz3.2.1
  rcases List.mem_cons.mp l4 with e | l4
  · rw [e, S.bh _ _ h2] at v1
    cases v1
    rw [plen r2]
    exact hz3.2.2
  · cases l4
def SpChg : Sp := fun vs H Q _ => ∃ (B : Hp) (p q0 q1 q2 : Addr) (io : Own) (n : Int), vs = [.ref p, .int n] ∧ Sx B H ∧ Tx H B ∧ Ows ((p, .lst [.ref q0, .ref q1, .ref q2]) :: io) B H ∧ RoomL 0 io ∧ q0 ∈ io.map (·.1) ∧ q1 ∈ io.map (·.1) ∧ q2 ∈ io.map (·.1) ∧
  ∀ io' B' H', Stt ⟨B, less H (((p, HO.lst [.ref q0, .ref q1, .ref q2]) :: io).map (·.1))⟩ io' B' H' → Q .non H'
theorem s_chg3 {x : List (Int × Int) × List (Int × List Int) × List Int} {w : Int} (C : Cok X k0) (G : Cal X k n ps SpChg) (hk : k ≤ k0) (hg : Gl X n) (So : Stt E own' Bo Ho) (hx : Ex Bo B) (S0 : Stt E own B H) (ha : EvE X E own B H σ a (rH3N Bo (rLstN Bo (rPr rInt rInt)) (rLstN Bo (rPr rInt (rTup rInt))) (rLstN Bo rInt)) x) (hb : EvB X E own B H σ b rInt w) (hz : x.1.length + 3 ≤ sizeLine ∧ x.2.1.length + 3 ≤ sizeLine ∧ x.2.2.length + 3 ≤ sizeLine)
    (kt : ∀ B' H', Stt E own B' H' → Ex Bo B' → Tx B B' → WSs X rest D σ H')
    (hdb : (n == ("__debug__" : Str)) = false := by rfl) (he : starEach (a :: [b]) X.env = (false, eval a X.env) :: starEach [b] X.env := by rfl) (he2 : starEach (b :: []) X.env = (false, eval b X.env) :: starEach [] X.env := by rfl) (hpl : (backTo pos (starEach [b] X.env)).any (·.1) = false := by rfl) (hs : swapsWith (.Call (.Name n p) [a, b] [] pos) none pos'.line X.env = pure false := by rfl) :
    WSs X (.Expr (.Call (.Name n p) [a, b] [] pos) pos' :: rest) D σ H :=
  s_dropW (we_call C G hk hg (wa_cons (ha B H S0 (Ex.refl _) (Ex.refl _) _ fun v B2 H2 S2 e1 e2 r => wa_cons (hb B2 H2 S2 e1 e2 _ fun u B3 H3 S3 e3 e4 ru => wa_nil (by
    have ru : u = .int w := ru
    subst ru
    obtain ⟨p, q0, q1, q2, io, B4, rfl, S4, x1, x2, l, m0, m1, m2⟩ := thaw3 So (hx.trans (e1.trans e3)) S3 ((rH3N _ _ _ _).mono e3 r) hz
    refine ⟨B4, p, q0, q1, q2, io, w, rfl, S4.bh, S4.tu, S4.ows, l, m0, m1, m2, fun io' B5 H5 T => ?_⟩
    exact kt B5 H5 (S4.callIO T).drops (x1.trans T.b0.ex) (Tx.trans (Tx.trans (e1.trans e3).tx x2) T.b0.ex.tx))) he2) he) hdb he hpl) hs
/-- x.append(e), x among the lists with room -/
theorem room_at {qs : List Addr} {m : Nat} {q : Addr} {io : Own} (J : io.map (·.1) = qs ∧ RoomL m io) (hq : q ∈ qs) : ∃ (k : Nat) (us : List V), io[k]? = some (q, HO.lst us) ∧ us.length + 3 ≤ sizeLine + m := by
  rw [← J.1] at hq
  obtain ⟨z, hz, e⟩ := List.mem_map.mp hq
  obtain ⟨k, hk⟩ := List.mem_iff_getElem?.mp hz
  obtain ⟨us, hu, hlen⟩ := J.2 z hz
  exact ⟨k, us, by rw [hk, ← e, ← hu], hlen⟩
theorem room_set {qs : List Addr} {m m' : Nat} {q : Addr} {us ws : List V} {io : Own} (J : io.map (·.1) = qs ∧ RoomL m io) (hm : m ≤ m') (hk : io[k]? = some (q, HO.lst us)) (hw : ws.length + 3 ≤ sizeLine + m') : (io.set k (q, HO.lst ws)).map (·.1) = qs ∧ RoomL m' (io.set k (q, HO.lst ws)) := by
  refine ⟨by rw [set_fst hk]; exact J.1, fun z hz => ?_⟩
  rcases List.mem_or_eq_of_mem_set hz with hz | rfl
  · obtain ⟨us, h1, h2⟩ := J.2 z hz
    exact ⟨us, h1, by omega⟩
  · exact ⟨_, rfl, hw⟩
theorem app_room {qs : List Addr} {mm : Nat} {q : Addr} {io : Own} (S2 : Stt E (io ++ own) B H) (ha : PE X a (tVar i)) (h : σ[i]? = some (some (.ref q))) (J : io.map (·.1) = qs ∧ RoomL mm io) (hq : q ∈ qs) (hm : mm < 3) (he : EvE X E (io ++ own) B H σ e rAny ())
    (nx : ∀ io3 B3 H3, (io3.map (·.1) = qs ∧ RoomL (mm + 1) io3) → Stt E (io3 ++ own) B3 H3 → Ex B B3 → D.nx σ H3)
    (t : BmT X a "append" apos [] e p := by exact ⟨rfl, rfl, rfl, rfl, rfl⟩) (hs : St1 X e := by rfl) (hw : swapsWith (.Call (.Attribute a "append" apos) [e] [] p) none pos.line X.env = pure false := by rfl) :
    WSs X (.Expr (.Call (.Attribute a "append" apos) [e] [] p) pos :: []) D σ H := by
  obtain ⟨k, us, hk, hlen⟩ := room_at J hq
  refine s_append (R := rAny) (xs := us.map fun _ => ()) S2 ha h (get_app hk) (pAny us) he (by rw [List.length_map]; omega) (fun v B3 H3 S3 e3 _ => WSs.nil ?_) t hs hw
  rw [set_app hk] at S3
  exact nx _ B3 H3 (room_set J (Nat.le_succ _) hk (by rw [List.length_append]; show us.length + 1 + 3 ≤ _; omega)) S3 e3
end
end Sg

namespace Sg
open PySem PySem.Spec PyProof.Rows L2
/-! ### exceptions as things -/
theorem nf_ext {o : HO} {φ : Heap → Prop} (h : nf o = .ext φ) : o = .ext φ := by
  cases o with
  | frz ob u => cases u <;> cases h
  | ext _ => exact h
  | _ => cases h
theorem Ex.ext {B B' : Hp} (x : Ex B B') {a : Addr} {φ : Heap → Prop} (h : B a = some (.ext φ)) : B' a = some (.ext φ) := by
  obtain ⟨o, h1, h2⟩ := x _ _ h
  rw [nf_ext h2] at h1
  exact h1
def FldR (B : Hp) (fv : List (Str × V)) (fs : List (Str × ED)) : Prop := Paired (fun (p : Str × V) (q : Str × ED) => p.1 = q.1 ∧ EDv B p.2 q.2) fv fs
def EvO (mg : MG) (B : Hp) (a : Addr) (e : Err) : Prop := ∃ C, mg e.cls = some (.ref C) ∧ ((e.fs = [] ∧ B a = some (exo a C none)) ∨ ∃ dx fv, B a = some (exo a C (some dx)) ∧ B dx = some (exd dx fv) ∧ FldR B fv e.fs)
theorem EvO.mono {mg : MG} {B B' : Hp} {a : Addr} {e : Err} (x : Ex B B') (h : EvO mg B a e) : EvO mg B' a e := by
  obtain ⟨C, h1, h2 | ⟨dx, fv, h2, h3, h4⟩⟩ := h
  · exact ⟨C, h1, .inl ⟨h2.1, x.ext h2.2⟩⟩
  · exact ⟨C, h1, .inr ⟨dx, fv, x.ext h2, x.ext h3, pimp h4 fun _ _ z => ⟨z.1, EDv.mono x z.2⟩⟩⟩
def rEv (mg : MG) : Rel Err := ⟨fun B v e => ∃ a, v = .ref a ∧ EvO mg B a e, fun x ⟨a, h1, h2⟩ => ⟨a, h1, h2.mono x⟩⟩
instance {mg : MG} : NN (rEv mg) := ⟨fun ⟨a, h1, _⟩ => by rw [h1]; exact fun q => by cases q⟩
def fldL (e : Err) (f : Str) : Option (List Int) := match e.fs.lookup f with
  | some (.ints l) => some l
  | _ => none

/-! ### made -/
section
variable {X : Cx} {pins : List (Addr × Obj)} {σ : L2.St} {H : Hp} {s : Shared} {es : List Expr} {e : Expr} {p p1 p2 pos : Pos} {ta : TA} {te : TE}
theorem inv_laidN {a : Addr} {o : HO} {t' : Nat} {h' : Heap} (I : Inv X pins σ H s) (k : ∀ b u, s.heap.get? b = some u → h'.get? b = some u) (hp : s.heap.get? a = none) (hn : H a = none) (new : ObjOk X.prog X.w (upd H a o) h' a o) : Inv X pins σ (upd H a o) { s with heap := h', toks := t' } := by
  refine I.un ⟨fun b u q _ _ _ => k b u q, fun b u q _ _ _ => ⟨u.slots, k b u q⟩, fun b u q n _ => ?_, fun b u q _ => ⟨u, k b u q⟩, fun b xs q => ?_, fun b u xs q => ?_, fun b ps q => ⟨#[], ?_⟩⟩ fun b u z => ?_
  · rw [upd_ne fun z => by rw [z, hp] at q; cases q]
    exact n
  · rw [upd_ne (ne_of_none q hn)]
    exact q
  · rw [upd_ne (ne_of_none q hn)]
    exact q
  · rw [upd_ne (ne_of_none q hn), q]
    simp
  · by_cases hb : b = a
    · subst hb
      rw [upd_same] at z
      cases z
      exact new
    · rw [upd_ne hb] at z
      exact (I.hok b u z).stay (fun c v _ q => k c v q) (fun c q => by rw [upd_ne (ne_of_none q hn)]; exact q) fun c xs q => by rw [upd_ne (ne_of_none q hn)]; exact q
/-- C(e, ..), the class with an own __init__: the thing -/
def tMkV (C : Addr) (sp : Sp) (ta : TA) : TE := fun σ H Q => ta σ H fun vs H1 => vs.length ≤ 1000 ∧ ∀ a, H1 a = none → sp (.ref a :: vs) (upd H1 a (exo a C none)) (fun v H2 => v = .non ∧ Q (.ref a) H2) E0
theorem pe_mkV {x : Str} {C fI : Addr} {k : Nat} {fd : FuncData} {ps : List Str} {sp : Sp} (T : OexC X.K C) (iC : PySem.W.findIn X.K (.ref C) "__init__" = some (some (.ref fI))) (tI : PySem.W.typeIn X.K (.ref fI) = some (.type "function"))
    (F1 : FnOk X.prog X.w X.K X.mg X.base CX0 k fI fd ps sp) (hr : Room (k + 1) X.A) (hb : Binds X.K fd ps []) (hg : Gl X x) (hm : X.mg x = some (.ref C)) (ha : PA X (e :: es) ta)
    (hdb : (x == ("__debug__" : Str)) = false) (he : starEach (e :: es) X.env = (false, eval e X.env) :: starEach es X.env := by rfl) (hpl : (backTo pos (starEach es X.env)).any (·.1) = false := by rfl) :
    PE X (.Call (.Name x p) (e :: es) [] pos) (tMkV C sp ta) := by
  constructor
  intro pins s σ H Q I h
  have TC := T.cls
  obtain ⟨nm, q, N, bs, bm, sn, sub, ab, col, dd, k0, k1, k2, k3, k5, hC, hbm⟩ := TC
  refine wpAny_Call_Name_kw (ld_glob I hg hm (PySem.W.callWith_K (h₀ := X.base) I.ok.mod.kin T.kC (thn (ha.run pos pins s σ H _ I h) fun us s1 hh => ?_) he hpl) hdb)
  obtain ⟨vs, H1, I1, r1, hz, q1⟩ := hh
  refine ⟨I1.kIn, ?_⟩
  obtain ⟨hp, g, dr, tk, os⟩ := s1
  show wpAny _ _ (call (.ref C) us) _ _ _
  have free : H1 (hp.objs.size + 1) = none := I1.hok.fresh (Nat.le_succ _)
  have keeps : ∀ b o, hp.get? b = some o → ((hp.push (PySem.W.kdv_tup us)).push (PySem.HandSPX.excO C hp.objs.size)).get? b = some o := fun b o z => Heap.get?_push_of_some _ (Heap.get?_push_of_some _ z)
  have made : ((hp.push (PySem.W.kdv_tup us)).push (PySem.HandSPX.excO C hp.objs.size)).get? (hp.objs.size + 1) = some (PySem.HandSPX.excO C hp.objs.size) := by heap_get
  have I2 := I1.laid (t' := tk) (a := hp.objs.size + 1) (o := exo (hp.objs.size + 1) C none) keeps (Nat.le_succ _) (exo_ok made)
  have hq := q1 (hp.objs.size + 1) free
  have rv2 : Vals (V.ref (hp.objs.size + 1) :: vs) (Value.ref (hp.objs.size + 1) :: us) := .cons rfl r1
  have len2 : (Value.ref (hp.objs.size + 1) :: us ++ []).length = ps.length := by
    rw [List.append_nil, ← rv2.length]
    exact F1.len _ _ _ _ hq
  have small : us.length ≤ sizeLine := by
    have := Paired.length r1
    rw [sizeLine_eq]
    omega
  have bnd := hb _ (Value.ref (hp.objs.size + 1) :: us) I2.kIn len2
  rw [List.append_nil] at bnd
  have run := F1.run _ X.stack _ _ ⟨Value.ref (hp.objs.size + 1) :: us, []⟩ (Value.ref (hp.objs.size + 1) :: us) _ _ E0 (hr.make C us []) (I2.env0.make C us []) bnd rv2 hq
  refine wpAny_call (PySem.HandSPX.call_own F.excBase_ValueError (fun Y => PySem.HandSPX.refsVE_contains Y bm hbm) (I1.kIn _ _ hC) (PySem.W.looks_findIn I1.kIn iC) (fun self => PySem.W.bind_fn I1.kIn self tI) small (codeAny_mono run fun r s' hr' => ?_))
  cases r with
  | error er => exact pass0 pins σ _ _ er s' I2 hr'
  | ok fl =>
    cases fl with
    | brk => exact hr'.elim
    | cont => exact hr'.elim
    | next => exact hr'.elim
    | ret u =>
      obtain ⟨v, H2, I3, rv, ev, q3⟩ := I2.after hr'
      subst ev
      exact ⟨rv, ⟨V.ref (hp.objs.size + 1), H2, I3, rfl, q3⟩⟩
/-- C(..), the class without an __init__ -/
def tMk0 (C : Addr) (ta : TA) : TE := fun σ H Q => ta σ H fun vs H1 => vs.length ≤ 1000 ∧ ∀ a, H1 a = none → Q (.ref a) (upd H1 a (exo a C none))
theorem mk0_run {C : Addr} {us : List Value} {vs : List V} {Q : VK} (q : PySem.W.excIn X.K C [.type "ValueError", .type "Exception", .type "BaseException", .type "object"] "ValueError.__new__" = true) (I : Inv X pins σ H s) (r : Vals vs us) (hz : vs.length ≤ 1000) (h : ∀ a, H a = none → Q (.ref a) (upd H a (exo a C none))) :
    wpAny (model X.prog X.w) X.A (call (.ref C) us) (EP X pins σ Q) X.xe s := by
  obtain ⟨bm, N, nm, qn, bs, hdct, sn, sub, ab, col, dd, k0, k1, k2, k3, k5, mN, hC, hN, hni, T⟩ := exc_obj I.kIn q
  obtain ⟨hp, g, dr, tk, os⟩ := s
  refine wpAny_call_exc_subT F.excBase_ValueError T hC hN hni (fun h' e hm => ?_) (by have := Paired.length r; rw [sizeLine_eq]; omega)
  have hn := I.hok.gone hm.new
  obtain ⟨t, he, _, _⟩ := hm.there
  exact ⟨.ref e, _, inv_laidN (t' := tk) I hm.keeps hm.new hn (exo_ok he), rfl, h e hn⟩
theorem pe_mk0 {x : Str} {C : Addr} (q : PySem.W.excIn X.K C [.type "ValueError", .type "Exception", .type "BaseException", .type "object"] "ValueError.__new__" = true) (kC : PySem.W.keepIn X.K (.ref C) = true) (hg : Gl X x) (hm : X.mg x = some (.ref C)) (ha : PA X (e :: es) ta)
    (hdb : (x == ("__debug__" : Str)) = false) (he : starEach (e :: es) X.env = (false, eval e X.env) :: starEach es X.env := by rfl) (hpl : (backTo pos (starEach es X.env)).any (·.1) = false := by rfl) : PE X (.Call (.Name x p) (e :: es) [] pos) (tMk0 C ta) := by
  constructor
  intro pins s σ H Q I h
  refine wpAny_Call_Name_kw (ld_glob I hg hm (PySem.W.callWith_K (h₀ := X.base) I.ok.mod.kin kC (thn (ha.run pos pins s σ H _ I h) fun us s1 hh => ?_) he hpl) hdb)
  obtain ⟨vs, H1, I1, r1, hz, q1⟩ := hh
  exact ⟨I1.kIn, mk0_run q I1 r1 hz q1⟩
theorem pe_mk00 {x : Str} {C : Addr} (q : PySem.W.excIn X.K C [.type "ValueError", .type "Exception", .type "BaseException", .type "object"] "ValueError.__new__" = true) (kC : PySem.W.keepIn X.K (.ref C) = true) (hg : Gl X x) (hm : X.mg x = some (.ref C))
    (hdb : (x == ("__debug__" : Str)) = false) : PE X (.Call (.Name x p) [] [] pos) (tMk0 C tNil) := by
  constructor
  intro pins s σ H Q I h
  refine wpAny_Call_Name_kw (ld_glob I hg hm (PySem.W.callWith_K0 I.kIn kC ?_) hdb)
  exact mk0_run (us := []) q I .nil h.1 h.2
/-! ### asked -/
theorem instV {P : Program} {wd : World} {h : Heap} {mg : MG} {er : Err} {a D : Addr} {B : Hp} (hok : HOk P wd H h) (xe : Ex B H) (hx : EvO mg B a er) (m : mg er.cls = some (.ref D)) : ∃ ob od, PySem.W.InstAt h a ob D od ∧ ((er.fs = [] ∧ od = none) ∨ ∃ (o : Obj) (fv : List (Str × V)) (mA : Str → Option Value), od = some o ∧ (∀ f, PySem.W.lookIn f o = some (mA f)) ∧ (∀ f, RelO (fv.lookup f) (mA f)) ∧ FldR B fv er.fs) := by
  obtain ⟨C, h1, h2 | ⟨dx, fv, h2, h3, h4⟩⟩ := hx
  · rw [m] at h1
    cases h1
    obtain ⟨t1, ho⟩ := exo_at hok (xe.ext h2.2)
    exact ⟨_, none, ⟨ho, rfl, rfl, trivial⟩, .inl ⟨h2.1, rfl⟩⟩
  · rw [m] at h1
    cases h1
    obtain ⟨t1, ho⟩ := exo_at hok (xe.ext h2)
    obtain ⟨mA, hns, hr⟩ := exd_at hok (xe.ext h3)
    obtain ⟨ob, ho2, hl⟩ := lookIn_ns hns
    exact ⟨_, some ob, ⟨ho, rfl, rfl, ho2⟩, .inr ⟨ob, fv, mA, rfl, hl, hr, h4⟩⟩
def rIsV (K : PySem.W.Frag) (mg : MG) (er : Err) (c : V) (cv : Value) : List V → Hp → VK → Prop := fun xs H Q => ∃ (a D : Addr) (b : Bool), xs = [.ref a, c] ∧ mg er.cls = some (.ref D) ∧ IsK K D ∧ EvO mg H a er ∧ PySem.W.kitOne K (.ref D) cv = some b ∧ Q (.bl b) H
theorem cr_isV {er : Err} {c : V} {cv : Value} (hc : ∀ u, RelV c u → u = cv) (IB : IsB X.K) : CallR X (.builtin "isinstance") (rIsV X.K X.mg er c cv) := by
  intro pins s σ H xs us Q I r h
  obtain ⟨a, D, b, rfl, hmg, T, hx, hk, q⟩ := h
  cases r with
  | cons rx rr =>
    cases rr with
    | cons rt rr =>
      cases rr
      cases rx
      have := hc _ rt
      subst this
      obtain ⟨ob, od, J, _⟩ := instV I.hok (Ex.refl _) hx hmg
      exact PySem.W.kia_one (PySem.W.kitx_exc T.hcl T.hga T.hgt T.hsub T.ha IB.hn IB.ht T.hm) I.kIn J hk (fun z => nomatch z) fun tk => ⟨.bl b, H, I.kept (t' := tk) fun _ _ z => z, rfl, q⟩
theorem fldV_look {Bq : Hp} {f : Str} {u : ED} : ∀ {fv : List (Str × V)} {fs : List (Str × ED)}, FldR Bq fv fs → fs.lookup f = some u → ∃ v, fv.lookup f = some v ∧ EDv Bq v u
  | _, _, .nil, h => by cases h
  | _, _, .cons (a := a) (b := b) h r, hl => by
    obtain ⟨a1, a2⟩ := a
    obtain ⟨b1, b2⟩ := b
    obtain ⟨h1, h2⟩ := h
    have h1 : a1 = b1 := h1
    subst h1
    rw [List.lookup_cons] at hl ⊢
    cases q : f == a1 with
    | true =>
      rw [q] at hl
      cases hl
      exact ⟨a2, rfl, h2⟩
    | false =>
      rw [q] at hl
      exact fldV_look r hl
theorem pe_fldV2 {o : Expr} {f : Str} {pn : Pos} (he : PE X o te) (hb : attributeBase o f X.env (eval o X.env) = eval o X.env) : PE X (.Attribute o f pn) (fun σ H Q => te σ H fun v H1 => ∃ (a D : Addr) (er : Err) (u : ED) (B1 : Hp), v = .ref a ∧ X.mg er.cls = some (.ref D) ∧ EvO X.mg B1 a er ∧ Ex B1 H1 ∧ IsK X.K D ∧ PySem.W.findIn X.K (.ref D) f = some none ∧ er.fs.lookup f = some u ∧ ∀ w, EDv B1 w u → Q w H1) := by
  constructor
  intro pins s σ H Q I h
  refine attr_of hb (thn (he.run pins s σ H _ I h) fun w s1 hw => ?_)
  obtain ⟨v, H1, I1, rv, a, D, er, u, B1, rfl, m1, hx, xe, T, hno, hlk, q⟩ := hw
  cases (show w = Value.ref a from rv)
  obtain ⟨ob, od, J, hod⟩ := instV I1.hok xe hx m1
  rcases hod with ⟨z1, _⟩ | ⟨ob2, fv, mA, z2, z4, z5, z6⟩
  · rw [z1] at hlk
    cases hlk
  · obtain ⟨w2, hlv, hed⟩ := fldV_look z6 hlk
    have := z5 f
    rw [hlv] at this
    obtain ⟨u2, hu2, ru2⟩ := RelO.some_of (v := w2) (o := mA f) this
    subst z2
    exact HandSPX.exc_get I1.kIn J T.hga T.hgt T.hsub (PySem.W.findObj_own T.hdC hno rfl (by rw [z4, hu2])) (handed_of ru2) ⟨w2, _, I1.tok _, ru2, q w2 hed⟩
end
/-! ### the classes' own __init__ -/
def SpE2 (K : PySem.W.Frag) (f g : Str) : Sp := fun vs H Q _ => ∃ (a C : Addr) (v w : V), vs = [.ref a, v, w] ∧ OexC K C ∧ PySem.W.findIn K (.ref C) f = some none ∧ PySem.W.findIn K (.ref C) g = some none ∧ H a = some (exo a C none) ∧
  ∀ dx, H dx = none → dx ≠ a → Q .non (upd (upd (upd H dx (exd dx [(f, v)])) a (exo a C (some dx))) dx (exd dx [(g, w), (f, v)]))
def SpEL (K : PySem.W.Frag) (f : Str) : Sp := fun vs H Q _ => ∃ (a C l : Addr) (us : List V), vs = [.ref a, .ref l] ∧ OexC K C ∧ PySem.W.findIn K (.ref C) f = some none ∧ H a = some (exo a C none) ∧ Rd H l (.lst us) ∧
  ∀ q, H q = none → ∀ dx, upd H q (.lst us) dx = none → dx ≠ a → Q .non (upd (upd (upd H q (.lst us)) dx (exd dx [(f, .ref q)])) a (exo a C (some dx)))
section
variable {P : Program} {w : World} {K : PySem.W.Frag} {mg : Str → Option Value} {base : Heap}
def RzM (P : Program) (w : World) (K : PySem.W.Frag) (mg : MG) (base : Heap) (c : Str) (fl ps : List Str) (sp : Sp) : Prop := ∃ (C fI : Addr) (fd : FuncData), mg c = some (.ref C) ∧ OexC K C ∧ PySem.W.findIn K (.ref C) "__init__" = some (some (.ref fI)) ∧ PySem.W.typeIn K (.ref fI) = some (.type "function") ∧ (∀ f ∈ fl, PySem.W.findIn K (.ref C) f = some none) ∧
  FnOk P w K mg base CX0 1 fI fd ps sp ∧ Binds K fd ps []
theorem RzI.toM {c f : Str} {ps : List Str} (h : RzI P w K mg base c f ps) : RzM P w K mg base c [f] ps (SpE K f) := by
  obtain ⟨C, fI, fd, h1, h2, h3, h4, h5, h6, h7⟩ := h
  exact ⟨C, fI, fd, h1, h2, h3, h4, fun g hg => by rw [List.mem_singleton.mp hg]; exact h5, h6, h7⟩
theorem Tr.rzm {X X' : Cx} {c : Str} {fl ps : List Str} {sp : Sp} (t : Tr X X') (h : RzM X.prog X.w X.K X.mg X.base c fl ps sp) : RzM X'.prog X'.w X'.K X'.mg X'.base c fl ps sp := by
  rw [t.pr, t.w, t.K, t.mg, t.base]
  exact h
theorem in_one {Q : Str → Prop} {f : Str} (h : Q f) : ∀ x ∈ [f], Q x := fun x hx => by rw [List.mem_singleton.mp hx]; exact h
theorem in_two {Q : Str → Prop} {f g : Str} (h : Q f) (h2 : Q g) : ∀ x ∈ [f, g], Q x := fun x hx => by
  rcases List.mem_cons.mp hx with e | hx
  · rw [e]; exact h
  · exact in_one h2 x hx
/-- def __init__(self, x, y): Base.__init__(self, text); self.f = x; self.g = y -/
theorem ini2_ok {qual fl fg an ao msg : Str} {st : Stmt} {f CF : Addr} {fd : FuncData} {k j : Nat} {p0 p1 p2 p3 p4 p5 p6 p7 p8 p9 q6 q7 q8 q9 : Pos} (F : Fun K "__init__" qual st f fd) (S : FnScope ["self", an, ao] ["self", an, ao] (defScope st)) (tb : nmOk (defScope st) [("self", .local), (an, .local), (ao, .local), ("FormError", .globalImplicit)] = true)
    (hb : defBody st = [.Expr (.Call (.Attribute (.Name "FormError" p0) "__init__" p1) [.Name "self" p2, .Constant (.str msg) j p3] [] p4) p5, .Assign [.Attribute (.Name "self" p6) fl p7] (.Name an p8) p9, .Assign [.Attribute (.Name "self" q6) fg q7] (.Name ao q8) q9])
    (FK : FeK K CF) (hm : mg "FormError" = some (.ref CF))
    (hc : ∀ env : Env, ∃ pl : Sem Bool, eval (.Call (.Attribute (.Name "FormError" p0) "__init__" p1) [.Name "self" p2, .Constant (.str msg) j p3] [] p4) env = (do
      let ov ← eval (.Name "FormError" p0) env
      standAt p1.atName
      let (f, first) ← holding [ov] (getMethod ov "__init__" pl)
      callWith p4 f first (backTo p4 (starEach [.Name "self" p2, .Constant (.str msg) j p3] env)) (backToKw p4 (keywordEach [] env)))) : FnOk P w K mg base CX0 (k + 1) f fd ["self", an, ao] (SpE2 K fl fg) := by
  refine F.ok S (fun vs H Q E h => ?_) (fun cdv A outer s H vs Q E hr h => ?_)
  · obtain ⟨a, C, v, w, rfl, _⟩ := h
    rfl
  obtain ⟨a, C, v, w', rfl, T, hno, hno2, ea, q⟩ := h
  have V : Scp ((cxOf CX0 P w K mg base ["self", an, ao] qual (defScope st) f cdv A outer s H E).nox) ["self", an, ao] (defScope st) := ⟨rfl, rfl⟩
  have hs : ∀ pq, PE _ (.Name "self" pq) (tVar 0) := fun pq => V.var (pos := pq) tb 0 0
  have hx : ∀ pq, PE _ (.Name an pq) (tVar 1) := fun pq => V.var (pos := pq) tb 1 1
  have hy : ∀ pq, PE _ (.Name ao pq) (tVar 2) := fun pq => V.var (pos := pq) tb 2 2
  obtain ⟨pl, hpl⟩ := hc ((cxOf CX0 P w K mg base ["self", an, ao] qual (defScope st) f cdv A outer s H E).nox).env
  rw [hb]
  refine ⟨_, pss_cons (ps_expr (pe_feI (pl := pl) (hc := hpl) FK (V.gl tb 3) hm (by decide) (pa_cons (hs _) (pa_cons pe_str pa_nil)))) (pss_cons (ps_ost (hs _) (hx _)) (pss_cons (ps_ost (hs _) (hy _)) pss_nil)), ?_⟩
  refine ⟨.ref a, rfl, a, C, [.str msg], rfl, Nat.le_of_ble_eq_true rfl, T, ea, ?_⟩
  refine ⟨v, rfl, .ref a, rfl, a, C, rfl, T, hno, .inl ⟨ea, fun dx hd hn => ?_⟩⟩
  exact ⟨w', rfl, .ref a, rfl, a, C, rfl, T, hno2, .inr ⟨dx, [(fl, v)], upd_same, by rw [upd_ne hn, upd_same], Nat.le_of_ble_eq_true rfl, q dx hd hn⟩⟩
/-- def __init__(self, xs): Base.__init__(self, text); self.f = list(xs) -/
theorem iniL_ok {qual fl an msg : Str} {st : Stmt} {f CF : Addr} {fd : FuncData} {k j : Nat} {p0 p1 p2 p3 p4 p5 p6 p7 p8 p9 q1 q2 : Pos} (F : Fun K "__init__" qual st f fd) (S : FnScope ["self", an] ["self", an] (defScope st)) (tb : nmOk (defScope st) [("self", .local), (an, .local), ("FormError", .globalImplicit), ("list", .globalImplicit)] = true)
    (hb : defBody st = [.Expr (.Call (.Attribute (.Name "FormError" p0) "__init__" p1) [.Name "self" p2, .Constant (.str msg) j p3] [] p4) p5, .Assign [.Attribute (.Name "self" p6) fl p7] (.Call (.Name "list" q1) [.Name an p8] [] q2) p9])
    (FK : FeK K CF) (hm : mg "FormError" = some (.ref CF)) (hml : mg "list" = none)
    (hc : ∀ env : Env, ∃ pl : Sem Bool, eval (.Call (.Attribute (.Name "FormError" p0) "__init__" p1) [.Name "self" p2, .Constant (.str msg) j p3] [] p4) env = (do
      let ov ← eval (.Name "FormError" p0) env
      standAt p1.atName
      let (f, first) ← holding [ov] (getMethod ov "__init__" pl)
      callWith p4 f first (backTo p4 (starEach [.Name "self" p2, .Constant (.str msg) j p3] env)) (backToKw p4 (keywordEach [] env)))) : FnOk P w K mg base CX0 (k + 1) f fd ["self", an] (SpEL K fl) := by
  refine F.ok S (fun vs H Q E h => ?_) (fun cdv A outer s H vs Q E hr h => ?_)
  · obtain ⟨a, C, l, us, rfl, _⟩ := h
    rfl
  obtain ⟨a, C, l, us, rfl, T, hno, ea, hl, q⟩ := h
  have V : Scp ((cxOf CX0 P w K mg base ["self", an] qual (defScope st) f cdv A outer s H E).nox) ["self", an] (defScope st) := ⟨rfl, rfl⟩
  have hs : ∀ pq, PE _ (.Name "self" pq) (tVar 0) := fun pq => V.var (pos := pq) tb 0 0
  have hx : ∀ pq, PE _ (.Name an pq) (tVar 1) := fun pq => V.var (pos := pq) tb 1 1
  obtain ⟨pl, hpl⟩ := hc ((cxOf CX0 P w K mg base ["self", an] qual (defScope st) f cdv A outer s H E).nox).env
  rw [hb]
  refine ⟨_, pss_cons (ps_expr (pe_feI (pl := pl) (hc := hpl) FK (V.gl tb 2) hm (by decide) (pa_cons (hs _) (pa_cons pe_str pa_nil)))) (pss_cons (ps_ost (hs _) (pe_callTy call_list_of (V.gl tb 3) hml (by decide +kernel) (pa_cons (hx _) pa_nil))) pss_nil), ?_⟩
  refine ⟨.ref a, rfl, a, C, [.str msg], rfl, Nat.le_of_ble_eq_true rfl, T, ea, ?_⟩
  refine ⟨.ref l, rfl, l, us, rfl, .inl (.inl hl), fun q' hq' => ?_⟩
  have na : a ≠ q' := fun z => by rw [z, hq'] at ea; cases ea
  exact ⟨.ref a, rfl, a, C, rfl, T, hno, .inl ⟨by rw [upd_ne na]; exact ea, fun dx hd hn => q q' hq' dx hd hn⟩⟩
end
/-! ### in expressions -/
section
variable {X : Cx} {E : Ent} {own : Own} {B H B' H' : Hp} {σ : L2.St} {α β γ : Type} {R : Rel α} {e a b : Expr} {x : α} {q p p1 p2 p3 pos pn : Pos} {i j k k0 : Nat} {xs : List Int}
variable {n cn f g : Str} {ps : List Str} {er : Err}
theorem cell_two {H : Hp} {a dx : Addr} {o u v : HO} (hn : dx ≠ a) : upd (upd (upd H a o) dx u) a v = upd (upd H dx u) a v := by
  funext y
  by_cases hy : y = a
  · rw [hy, upd_same, upd_same]
  · rw [upd_ne hy, upd_ne hy]
    by_cases hd : y = dx
    · rw [hd, upd_same, upd_same]
    · rw [upd_ne hd, upd_ne hd, upd_ne hy]
theorem ee_mk1 {u : Int} (C : Cok X k) (hk : 2 ≤ k) (hz : RzM X.prog X.w X.K X.mg X.base cn [f] ps (SpE X.K f)) (hg : Gl X cn) (he : EvB X E own B H σ e rInt u) (hdb : (cn == ("__debug__" : Str)) = false := by decide)
    (hs : starEach (e :: []) X.env = (false, eval e X.env) :: starEach [] X.env := by rfl) : EvE X E own B H σ (.Call (.Name cn p1) [e] [] p3) (rEv X.mg) ⟨cn, [(f, .int u)]⟩ := fun B1 H1 S1 e1 e2 Q k2 => by
  obtain ⟨C0, fI, fd, m1, T, iC, tI, hno, F1, hb⟩ := hz
  refine WE.of (pe_mkV T iC tI F1 (C.room.mono hk) hb hg m1 (pa_cons peW pa_nil hs) hdb hs) (he B1 H1 S1 e1 e2 _ fun v B2 H2 S2 e3 e4 r => ⟨Nat.le_of_ble_eq_true rfl, fun a ha => ?_⟩)
  refine ⟨a, C0, v, rfl, T, hno f (List.mem_singleton.mpr rfl), upd_same, fun dx hd hn => ⟨rfl, ?_⟩⟩
  rw [cell_two hn]
  rw [upd_ne hn] at hd
  have ha2 : upd H2 dx (exd dx [(f, v)]) a = none := by rw [upd_ne hn.symm]; exact ha
  have S3 : Stt E own (upd (upd B2 dx (exd dx [(f, v)])) a (exo a C0 (some dx))) (upd (upd H2 dx (exd dx [(f, v)])) a (exo a C0 (some dx))) := (S2.lay hd).lay ha2
  have x1 : Ex B2 (upd (upd B2 dx (exd dx [(f, v)])) a (exo a C0 (some dx))) := (S2.layB hd).ex.trans ((S2.lay hd).layB ha2).ex
  exact k2 (.ref a) _ _ S3 (e3.trans x1) (e4.trans ((Sx.new hd).ex.trans (Sx.new ha2).ex)) ⟨a, rfl, C0, m1, .inr ⟨dx, [(f, v)], upd_same, by rw [upd_ne hn, upd_same], .cons ⟨rfl, show v = .int u from r⟩ .nil⟩⟩
theorem ee_mk2 {u u2 : Int} (C : Cok X k) (hk : 2 ≤ k) (hz : RzM X.prog X.w X.K X.mg X.base cn [f, g] ps (SpE2 X.K f g)) (hg : Gl X cn) (he : EvB X E own B H σ e rInt u) (he2 : EvB X E own B H σ b rInt u2) (hdb : (cn == ("__debug__" : Str)) = false := by decide)
    (hs : starEach (e :: [b]) X.env = (false, eval e X.env) :: starEach [b] X.env := by rfl) (hs2 : starEach (b :: []) X.env = (false, eval b X.env) :: starEach [] X.env := by rfl) (hpl : (backTo p3 (starEach [b] X.env)).any (·.1) = false := by rfl) : EvE X E own B H σ (.Call (.Name cn p1) [e, b] [] p3) (rEv X.mg) ⟨cn, [(g, .int u2), (f, .int u)]⟩ := fun B1 H1 S1 e1 e2 Q k2 => by
  obtain ⟨C0, fI, fd, m1, T, iC, tI, hno, F1, hb⟩ := hz
  refine WE.of (pe_mkV T iC tI F1 (C.room.mono hk) hb hg m1 (pa_cons peW (pa_cons peW pa_nil hs2) hs) hdb hs hpl) (he B1 H1 S1 e1 e2 _ fun v B2' H2' S2' e3' e4' r => he2 B2' H2' S2' (e1.trans e3') (e2.trans e4') _ fun w B2 H2 S2 e3 e4 r2 => ⟨Nat.le_of_ble_eq_true rfl, fun a ha => ?_⟩)
  refine ⟨a, C0, v, w, rfl, T, hno f (List.mem_cons_self ..), hno g (List.mem_cons_of_mem _ (List.mem_cons_self ..)), upd_same, fun dx hd hn => ⟨rfl, ?_⟩⟩
  rw [cell_two hn]
  rw [upd_ne hn] at hd
  have ha2 : upd H2 dx (exd dx [(g, w), (f, v)]) a = none := by rw [upd_ne hn.symm]; exact ha
  have eq : upd (upd (upd H2 dx (exd dx [(f, v)])) a (exo a C0 (some dx))) dx (exd dx [(g, w), (f, v)]) = upd (upd H2 dx (exd dx [(g, w), (f, v)])) a (exo a C0 (some dx)) := by
    funext y
    by_cases hd : y = dx
    · rw [hd, upd_same, upd_ne hn, upd_same]
    · rw [upd_ne hd]
      by_cases hy : y = a
      · rw [hy, upd_same, upd_same]
      · rw [upd_ne hy, upd_ne hy, upd_ne hd, upd_ne hd]
  rw [eq]
  have S3 : Stt E own (upd (upd B2 dx (exd dx [(g, w), (f, v)])) a (exo a C0 (some dx))) (upd (upd H2 dx (exd dx [(g, w), (f, v)])) a (exo a C0 (some dx))) := (S2.lay hd).lay ha2
  have x1 : Ex B2 (upd (upd B2 dx (exd dx [(g, w), (f, v)])) a (exo a C0 (some dx))) := (S2.layB hd).ex.trans ((S2.lay hd).layB ha2).ex
  exact k2 (.ref a) _ _ S3 ((e3'.trans e3).trans x1) ((e4'.trans e4).trans ((Sx.new hd).ex.trans (Sx.new ha2).ex)) ⟨a, rfl, C0, m1, .inr ⟨dx, [(g, w), (f, v)], upd_same, by rw [upd_ne hn, upd_same], .cons ⟨rfl, show w = .int u2 from r2⟩ (.cons ⟨rfl, show v = .int u from r⟩ .nil)⟩⟩
theorem ee_mkL (C : Cok X k) (hk : 2 ≤ k) (hz : RzM X.prog X.w X.K X.mg X.base cn [f] ps (SpEL X.K f)) (hg : Gl X cn) (he : EvB X E own B H σ e (rLst rInt) xs) (hdb : (cn == ("__debug__" : Str)) = false := by decide)
    (hs : starEach (e :: []) X.env = (false, eval e X.env) :: starEach [] X.env := by rfl) : EvE X E own B H σ (.Call (.Name cn p1) [e] [] p3) (rEv X.mg) ⟨cn, [(f, .ints xs)]⟩ := fun B1 H1 S1 e1 e2 Q k2 => by
  obtain ⟨C0, fI, fd, m1, T, iC, tI, hno, F1, hb⟩ := hz
  refine WE.of (pe_mkV T iC tI F1 (C.room.mono hk) hb hg m1 (pa_cons peW pa_nil hs) hdb hs) (he B1 H1 S1 e1 e2 _ fun v B2 H2 S2 e3 e4 r => ⟨Nat.le_of_ble_eq_true rfl, fun a ha => ?_⟩)
  obtain ⟨l, us, rfl, h2, h3⟩ := r
  refine ⟨a, C0, l, us, rfl, T, hno f (List.mem_singleton.mpr rfl), upd_same, Rd.ex (Sx.new ha) h2, fun q hq dx hd hn => ⟨rfl, ?_⟩⟩
  have hqa : q ≠ a := fun z => by rw [z, upd_same] at hq; cases hq
  rw [upd_ne hqa] at hq
  have nq : dx ≠ q := fun z => by rw [z, upd_same] at hd; cases hd
  rw [upd_ne nq, upd_ne hn] at hd
  have hd2 : upd H2 q (.lst us) dx = none := by rw [upd_ne nq]; exact hd
  have ha2 : upd (upd H2 q (.lst us)) dx (exd dx [(f, .ref q)]) a = none := by rw [upd_ne hn.symm, upd_ne hqa.symm]; exact ha
  have eq : upd (upd (upd (upd H2 a (exo a C0 none)) q (.lst us)) dx (exd dx [(f, .ref q)])) a (exo a C0 (some dx)) = upd (upd (upd H2 q (.lst us)) dx (exd dx [(f, .ref q)])) a (exo a C0 (some dx)) := by
    funext y
    by_cases hy : y = a
    · rw [hy, upd_same, upd_same]
    · rw [upd_ne hy, upd_ne hy]
      by_cases hd : y = dx
      · rw [hd, upd_same, upd_same]
      · rw [upd_ne hd, upd_ne hd]
        by_cases hq : y = q
        · rw [hq, upd_same, upd_same]
        · rw [upd_ne hq, upd_ne hq, upd_ne hy]
  rw [eq]
  have s1 : Stt E own (upd B2 q (.lst us)) (upd H2 q (.lst us)) := S2.lay hq
  have x1 := (S2.layB (o := HO.lst us) hq).ex
  have s2 := s1.lay (o := exd dx [(f, .ref q)]) hd2
  have x2 := (s1.layB (o := exd dx [(f, .ref q)]) hd2).ex
  have s3 := s2.lay (o := exo a C0 (some dx)) ha2
  have x3 := (s2.layB (o := exo a C0 (some dx)) ha2).ex
  have rl : (rLst rInt).r (upd (upd (upd B2 q (.lst us)) dx (exd dx [(f, .ref q)])) a (exo a C0 (some dx))) (.ref q) xs := ⟨q, us, rfl, .inl (by rw [upd_ne hqa, upd_ne nq.symm, upd_same]), pimp h3 fun _ _ z => z⟩
  exact k2 (.ref a) _ _ s3 (e3.trans ((x1.trans x2).trans x3)) (e4.trans (((Sx.new hq).ex.trans (Sx.new hd2).ex).trans (Sx.new ha2).ex)) ⟨a, rfl, C0, m1, .inr ⟨dx, [(f, .ref q)], upd_same, by rw [upd_ne hn, upd_same], .cons ⟨rfl, rl⟩ .nil⟩⟩
theorem ee_mk0s {msg : Str} {j2 : Nat} (hz : Rz X.K X.mg cn) (hg : Gl X cn) (hdb : (cn == ("__debug__" : Str)) = false := by decide) : EvE X E own B H σ (.Call (.Name cn p1) [.Constant (.str msg) j2 p2] [] p3) (rEv X.mg) ⟨cn, []⟩ := fun B1 H1 S1 e1 e2 Q k2 => by
  obtain ⟨A, h1, h2, h3, h4, h5⟩ := hz
  refine WE.of (pe_mk0 h3 h2 hg h1 (pa_cons pe_str pa_nil) hdb) ⟨Nat.le_of_ble_eq_true rfl, fun a ha => ?_⟩
  exact k2 (.ref a) _ _ (S1.lay ha) (S1.layB ha).ex (Sx.new ha).ex ⟨a, rfl, A, h1, .inl ⟨rfl, upd_same⟩⟩
theorem ee_mk00 (hz : Rz X.K X.mg cn) (hg : Gl X cn) (hdb : (cn == ("__debug__" : Str)) = false := by decide) : EvE X E own B H σ (.Call (.Name cn p1) [] [] p3) (rEv X.mg) ⟨cn, []⟩ := fun B1 H1 S1 e1 e2 Q k2 => by
  obtain ⟨A, h1, h2, h3, h4, h5⟩ := hz
  refine WE.of (pe_mk00 h3 h2 hg h1 hdb) ⟨Nat.zero_le _, fun a ha => ?_⟩
  exact k2 (.ref a) _ _ (S1.lay ha) (S1.layB ha).ex (Sx.new ha).ex ⟨a, rfl, A, h1, .inl ⟨rfl, upd_same⟩⟩
/-! isinstance of one -/
theorem ev_isV {cs : Str} {z : Bool} (IB : IsB X.K) (hg : Gl X "isinstance") (hm : X.mg "isinstance" = none) (hgc : Gl X cs) (he : EvB X E own B H σ a (rEv X.mg) er) (ht : IsT X.K X.mg er.cls cs z)
    (hdb : (cs == ("__debug__" : Str)) = false := by decide) (hs : starEach (a :: [.Name cs p2]) X.env = (false, eval a X.env) :: starEach [.Name cs p2] X.env := by rfl) (hs2 : St1 X (.Name cs p2) := by rfl) (hpl : (backTo pos (starEach [.Name cs p2] X.env)).any (·.1) = false := by rfl) :
    EvB X E own B H σ (.Call (.Name "isinstance" q) [a, .Name cs p2] [] pos) rBool z := fun B1 H1 S1 e1 e2 Q k => by
  obtain ⟨C1, D1, m1, m2, T, hk⟩ := ht
  refine WE.of (pe_callB (cr_isV (er := er) (c := .ref D1) (cv := .ref D1) (fun _ h => h) IB) hg hm (by decide +kernel) (pa_cons peW (pa_cons (pe_gref hgc m2 hdb) pa_nil hs2) hs) (he := hs) (hpl := hpl)) (he B1 H1 S1 e1 e2 _ fun v B2 H2 S2 e3 e4 r => ?_)
  obtain ⟨a, rfl, ho⟩ := r
  exact ⟨a, C1, z, rfl, m1, T, ho, hk, k _ B2 H2 S2 e3 e4 rfl⟩
theorem ev_isVB {cs : Str} {cnb : String} {z : Bool} (IB : IsB X.K) (hg : Gl X "isinstance") (hm : X.mg "isinstance" = none) (hgc : Gl X cs) (hmc : X.mg cs = none) (hv : bootBuiltins cs = some (.type cnb)) (he : EvB X E own B H σ a (rEv X.mg) er) (ht : IsTB X.K X.mg er.cls cnb z)
    (hn : cs ≠ "__name__" := by decide) (hdb : (cs == ("__debug__" : Str)) = false := by decide) (hs : starEach (a :: [.Name cs p2]) X.env = (false, eval a X.env) :: starEach [.Name cs p2] X.env := by rfl) (hs2 : St1 X (.Name cs p2) := by rfl) (hpl : (backTo pos (starEach [.Name cs p2] X.env)).any (·.1) = false := by rfl) :
    EvB X E own B H σ (.Call (.Name "isinstance" q) [a, .Name cs p2] [] pos) rBool z := fun B1 H1 S1 e1 e2 Q k => by
  obtain ⟨C1, m1, T, hk⟩ := ht
  refine WE.of (pe_callB (cr_isV (er := er) (c := .ty cnb) (cv := .type cnb) (fun _ h => h) IB) hg hm (by decide +kernel) (pa_cons peW (pa_cons (pe_bltn (v := .ty cnb) hgc hmc hv rfl hn hdb) pa_nil hs2) hs) (he := hs) (hpl := hpl)) (he B1 H1 S1 e1 e2 _ fun v B2 H2 S2 e3 e4 r => ?_)
  obtain ⟨a, rfl, ho⟩ := r
  exact ⟨a, C1, z, rfl, m1, T, ho, hk, k _ B2 H2 S2 e3 e4 rfl⟩
/-! its fields -/
theorem ev_fV {u : Int} {RL : List Str} (he : EvB X E own B H σ a (rEv X.mg) er) (hl : RL.contains er.cls = true) (NF : NoFld X.K X.mg RL f) (hf : fldI er f = some u) (hb : attributeBase a f X.env (eval a X.env) = eval a X.env := by rfl) : EvB X E own B H σ (.Attribute a f pn) rInt u := fun B1 H1 S1 e1 e2 Q k2 => by
  obtain ⟨D0, m1, T, hno⟩ := NF _ hl
  refine WE.of (pe_fldV2 peW hb) (he B1 H1 S1 e1 e2 _ fun v B2 H2 S2 e3 e4 r => ?_)
  obtain ⟨a, rfl, ho⟩ := r
  have hlk : er.fs.lookup f = some (.int u) := by
    unfold fldI at hf
    split at hf
    · rename_i i hi
      cases hf
      exact hi
    · cases hf
  refine ⟨a, D0, er, _, H2, rfl, m1, ho, Ex.refl _, T, hno, hlk, fun w hw => ?_⟩
  exact k2 w B2 H2 S2 e3 e4 hw
theorem ev_fVL {RL : List Str} (he : EvB X E own B H σ a (rEv X.mg) er) (hl : RL.contains er.cls = true) (NF : NoFld X.K X.mg RL f) (hf : fldL er f = some xs) (hb : attributeBase a f X.env (eval a X.env) = eval a X.env := by rfl) : EvB X E own B H σ (.Attribute a f pn) (rLst rInt) xs := fun B1 H1 S1 e1 e2 Q k2 => by
  obtain ⟨D0, m1, T, hno⟩ := NF _ hl
  refine WE.of (pe_fldV2 peW hb) (he B1 H1 S1 e1 e2 _ fun v B2 H2 S2 e3 e4 r => ?_)
  obtain ⟨a, rfl, ho⟩ := r
  have hlk : er.fs.lookup f = some (.ints xs) := by
    unfold fldL at hf
    split at hf
    · rename_i i hi
      cases hf
      exact hi
    · cases hf
  refine ⟨a, D0, er, _, H2, rfl, m1, ho, Ex.refl _, T, hno, hlk, fun w hw => ?_⟩
  exact k2 w B2 H2 S2 e3 e4 hw
end
end Sg

namespace Sg
open PySem PySem.Spec PyProof.Rows L2
/-! ### plain laws -/
section
variable {α β τ ρ : Type}
theorem ok_bind (a : α) (f : α → Res β) : (Res.ok a).bind f = f a := rfl
theorem of_some {a : α} {f : α → Res β} {o : Option α} (h : o = some a) : (Res.of o).bind f = f a := by rw [h]; rfl
theorem need_pos {c : Prop} [Decidable c] {m : Res α} (h : c) : Res.need c m = m := by unfold Res.need; rw [if_pos h]
theorem bind_eq {m : Res α} {a : α} {f : α → Res β} (h : m = .ok a) : m.bind f = f a := by rw [h]; rfl
theorem forM_inv {step : τ → α → Res τ} (I : List α → τ → Prop) : ∀ (xs pre : List α) (a : τ), I pre a → (∀ pr x po a, pre ++ xs = pr ++ x :: po → I pr a → ∃ a', step a x = .ok a' ∧ I (pr ++ [x]) a') → ∃ a', forM step xs a = .ok a' ∧ I (pre ++ xs) a'
  | [], pre, a, h, _ => ⟨a, rfl, by rw [List.append_nil]; exact h⟩
  | x :: r, pre, a, h, hs => by
    obtain ⟨a', e, h'⟩ := hs pre x r a rfl h
    obtain ⟨a2, e2, h2⟩ := forM_inv I r (pre ++ [x]) a' h' fun pr y po b eq hb => hs pr y po b (by rw [← eq, List.append_assoc]; rfl) hb
    refine ⟨a2, ?_, by rw [List.append_assoc] at h2; exact h2⟩
    unfold forM
    rw [e]
    exact e2
theorem forM_inv0 {step : τ → α → Res τ} {xs : List α} {a : τ} (I : List α → τ → Prop) (h : I [] a) (hs : ∀ pr x po a, xs = pr ++ x :: po → I pr a → ∃ a', step a x = .ok a' ∧ I (pr ++ [x]) a') : ∃ a', forM step xs a = .ok a' ∧ I xs a' := by
  obtain ⟨a', e, q⟩ := forM_inv I xs [] a h fun pr x po a eq => hs pr x po a (by simpa using eq)
  exact ⟨a', e, by simpa using q⟩
theorem forR_inv {step : τ → α → Res (ρ ⊕ τ)} (I : List α → τ → Prop) : ∀ (xs pre : List α) (a : τ), I pre a → (∀ pr x po a, pre ++ xs = pr ++ x :: po → I pr a → ∃ a', step a x = .ok (.inr a') ∧ I (pr ++ [x]) a') → ∃ a', forR step xs a = .ok (.inr a') ∧ I (pre ++ xs) a'
  | [], pre, a, h, _ => ⟨a, rfl, by rw [List.append_nil]; exact h⟩
  | x :: r, pre, a, h, hs => by
    obtain ⟨a', e, h'⟩ := hs pre x r a rfl h
    obtain ⟨a2, e2, h2⟩ := forR_inv I r (pre ++ [x]) a' h' fun pr y po b eq hb => hs pr y po b (by rw [← eq, List.append_assoc]; rfl) hb
    refine ⟨a2, ?_, by rw [List.append_assoc] at h2; exact h2⟩
    unfold forR
    rw [e]
    exact e2
theorem forR_all {step : τ → α → Res (ρ ⊕ τ)} {a : τ} : ∀ {xs : List α}, (∀ x ∈ xs, step a x = .ok (.inr a)) → forR step xs a = .ok (.inr a)
  | [], _ => rfl
  | x :: r, h => by
    unfold forR
    rw [h x (List.mem_cons_self ..)]
    exact forR_all fun y hy => h y (List.mem_cons_of_mem _ hy)
theorem forM_all {step : τ → α → Res τ} {a : τ} : ∀ {xs : List α}, (∀ x ∈ xs, step a x = .ok a) → forM step xs a = .ok a
  | [], _ => rfl
  | x :: r, h => by
    unfold forM
    rw [h x (List.mem_cons_self ..)]
    exact forM_all fun y hy => h y (List.mem_cons_of_mem _ hy)
theorem whileR_inv {step : τ → Res (ρ ⊕ τ)} (I : τ → Prop) (P : ρ → Prop) (m : τ → Nat) (hs : ∀ a, I a → (∃ u, step a = .ok (.inl u) ∧ P u) ∨ ∃ a', step a = .ok (.inr a') ∧ I a' ∧ m a' < m a) : ∀ (n : Nat) (a : τ), I a → m a < n → ∃ u, whileR step n a = .ok u ∧ P u
  | 0, _, _, h => absurd h (Nat.not_lt_zero _)
  | n + 1, a, h, hm => by
    unfold whileR
    rcases hs a h with ⟨u, e, p⟩ | ⟨a', e, h', hlt⟩
    · rw [e]
      exact ⟨u, rfl, p⟩
    · rw [e]
      exact whileR_inv I P m hs n a' h' (by omega)
theorem mfM_ok {c : α → Res Bool} {f : α → Res β} {cb : α → Bool} {fb : α → β} : ∀ {xs : List α}, (∀ x ∈ xs, c x = .ok (cb x)) → (∀ x ∈ xs, cb x = true → f x = .ok (fb x)) → mfM c f xs = .ok ((xs.filter cb).map fb)
  | [], _, _ => rfl
  | x :: r, hc, hf => by
    have ih := mfM_ok (xs := r) (fun y hy => hc y (List.mem_cons_of_mem _ hy)) (fun y hy => hf y (List.mem_cons_of_mem _ hy))
    unfold mfM
    rw [hc x (List.mem_cons_self ..), ok_bind, ih, List.filter_cons]
    by_cases h : cb x = true
    · rw [if_pos h, if_pos h, hf x (List.mem_cons_self ..) h]
      rfl
    · rw [if_neg h, if_neg h]
/-- it ends well -/
def Ok (P : α → Prop) (m : Res α) : Prop := ∃ a, m = .ok a ∧ P a
theorem Ok.ret {P : α → Prop} {a : α} (h : P a) : Ok P (.ok a) := ⟨a, rfl, h⟩
theorem Ok.bind {Q : α → Prop} {P : β → Prop} {m : Res α} {f : α → Res β} (h : Ok Q m) (k : ∀ a, m = .ok a → Q a → Ok P (f a)) : Ok P (m.bind f) := by
  obtain ⟨a, e, q⟩ := h
  obtain ⟨b, e2, p⟩ := k a e q
  exact ⟨b, (bind_eq e).trans e2, p⟩
theorem Ok.need {P : α → Prop} {c : Prop} [Decidable c] {m : Res α} (h : c) (k : Ok P m) : Ok P (Res.need c m) := by
  rw [need_pos h]
  exact k
theorem Ok.of {P : β → Prop} {o : Option α} {a : α} {f : α → Res β} (h : o = some a) (k : Ok P (f a)) : Ok P ((Res.of o).bind f) := by
  rw [of_some h]
  exact k
theorem Ok.tt {P : α → Prop} {b : Bool} {m n : Res α} (h : b = true) (k : Ok P m) : Ok P (if b = true then m else n) := by
  rw [if_pos h]
  exact k
theorem Ok.ff {P : α → Prop} {b : Bool} {m n : Res α} (h : b = false) (k : Ok P n) : Ok P (if b = true then m else n) := by
  rw [if_neg (by rw [h]; exact Bool.false_ne_true)]
  exact k
theorem Ok.ite {P : α → Prop} {b : Bool} {m n : Res α} (h : b = true → Ok P m) (k : b = false → Ok P n) : Ok P (if b = true then m else n) := by
  cases e : b with
  | true => exact h e
  | false => exact k e
theorem Ok.imp {P Q : α → Prop} {m : Res α} (h : Ok P m) (k : ∀ a, P a → Q a) : Ok Q m := by
  obtain ⟨a, e, p⟩ := h
  exact ⟨a, e, k a p⟩
theorem Ok.forM {step : τ → α → Res τ} {xs : List α} {a : τ} (I : List α → τ → Prop) (h : I [] a) (hs : ∀ pr x po a, xs = pr ++ x :: po → I pr a → Ok (I (pr ++ [x])) (step a x)) : Ok (I xs) (forM step xs a) := forM_inv0 I h hs
theorem Ok.forR {step : τ → α → Res (ρ ⊕ τ)} {xs : List α} {a : τ} (I : List α → τ → Prop) (h : I [] a) (hs : ∀ pr x po a, xs = pr ++ x :: po → I pr a → Ok (fun o => ∃ a', o = .inr a' ∧ I (pr ++ [x]) a') (step a x)) : Ok (fun o => ∃ a', o = .inr a' ∧ I xs a') (forR step xs a) := by
  obtain ⟨a', e, q⟩ := forR_inv (step := step) I xs [] a h fun pr x po a eq hI => by
    obtain ⟨o, e, a', rfl, q⟩ := hs pr x po a (by simpa using eq) hI
    exact ⟨a', e, q⟩
  exact ⟨_, e, a', rfl, by simpa using q⟩
theorem Ok.mfM {c : α → Res Bool} {f : α → Res β} {cb : α → Bool} {fb : α → β} {xs : List α} {P : List β → Prop} (hc : ∀ x ∈ xs, c x = .ok (cb x)) (hf : ∀ x ∈ xs, cb x = true → f x = .ok (fb x)) (h : P ((xs.filter cb).map fb)) : Ok P (mfM c f xs) := ⟨_, mfM_ok hc hf, h⟩
theorem Ok.mfMap {f : α → Res β} {fb : α → β} {xs : List α} {P : List β → Prop} (hf : ∀ x ∈ xs, f x = .ok (fb x)) (h : P (xs.map fb)) : Ok P (Sg.mfM (fun _ => Res.ok true) f xs) := by
  have := mfM_ok (cb := fun _ => true) (c := fun _ => Res.ok true) (fun x _ => rfl) (fun x hx _ => hf x hx)
  rw [List.filter_eq_self.mpr (fun _ _ => rfl)] at this
  exact ⟨_, this, h⟩
/-! dicts -/
variable {κ : Type} [DecidableEq κ]
theorem dget_nil (k : κ) : dget ([] : List (κ × α)) k = none := rfl
theorem dget_cons (q : κ × α) (d : List (κ × α)) (k : κ) : dget (q :: d) k = if q.1 = k then some q.2 else dget d k := by
  unfold dget
  rw [List.find?_cons]
  by_cases h : q.1 = k
  · rw [decide_eq_true h, if_pos h]
    rfl
  · rw [decide_eq_false h, if_neg h]
theorem dget_app (d e : List (κ × α)) (k : κ) : dget (d ++ e) k = (dget d k).or (dget e k) := by
  induction d with
  | nil => rfl
  | cons q r ih =>
    rw [List.cons_append, dget_cons, dget_cons, ih]
    by_cases h : q.1 = k
    · rw [if_pos h, if_pos h]
      rfl
    · rw [if_neg h, if_neg h]
theorem dget_none {d : List (κ × α)} {k : κ} : dget d k = none ↔ k ∉ d.map (·.1) := by
  induction d with
  | nil => simp [dget_nil]
  | cons q r ih =>
    rw [dget_cons, List.map_cons, List.mem_cons, not_or]
    by_cases h : q.1 = k
    · rw [if_pos h]
      constructor
      · intro z; cases z
      · intro z; exact absurd h.symm z.1
    · rw [if_neg h, ih]
      exact ⟨fun z => ⟨fun y => h y.symm, z⟩, fun z => z.2⟩
theorem dget_isSome {d : List (κ × α)} {k : κ} : (dget d k).isSome = true ↔ k ∈ d.map (·.1) := by
  cases h : dget d k with
  | none => exact ⟨fun z => (by cases z), fun z => absurd z (dget_none.mp h)⟩
  | some v =>
    refine ⟨fun _ => Classical.byContradiction fun z => ?_, fun _ => rfl⟩
    rw [dget_none.mpr z] at h
    cases h
theorem dget_mem {d : List (κ × α)} {k : κ} {v : α} (h : dget d k = some v) : (k, v) ∈ d := by
  induction d with
  | nil => cases h
  | cons q r ih =>
    rw [dget_cons] at h
    by_cases e : q.1 = k
    · rw [if_pos e] at h
      have e2 : q.2 = v := Option.some.inj h
      have : q = (k, v) := Prod.ext e e2
      rw [this]
      exact List.mem_cons_self ..
    · rw [if_neg e] at h
      exact List.mem_cons_of_mem _ (ih h)
theorem dget_of {d : List (κ × α)} (nd : (d.map (·.1)).Nodup) {k : κ} {v : α} (h : (k, v) ∈ d) : dget d k = some v := by
  induction d with
  | nil => cases h
  | cons q r ih =>
    rw [List.map_cons, List.nodup_cons] at nd
    rw [dget_cons]
    rcases List.mem_cons.mp h with e | h'
    · rw [← e, if_pos rfl]
    · have : q.1 ≠ k := fun z => nd.1 (by rw [z]; exact List.mem_map.mpr ⟨(k, v), h', rfl⟩)
      rw [if_neg this]
      exact ih nd.2 h'
theorem dput_new {d : List (κ × α)} {k : κ} {v : α} (h : k ∉ d.map (·.1)) : dput d k v = d ++ [(k, v)] := by
  unfold dput
  have : (d.any fun kv => decide (kv.1 = k)) = false := by
    rw [List.any_eq_false]
    intro q hq z
    exact h (List.mem_map.mpr ⟨q, hq, of_decide_eq_true z⟩)
  rw [this]
  rfl
theorem dput_keys {d : List (κ × α)} {k : κ} {v : α} : (dput d k v).map (·.1) = if k ∈ d.map (·.1) then d.map (·.1) else d.map (·.1) ++ [k] := by
  by_cases h : k ∈ d.map (·.1)
  · rw [if_pos h]
    unfold dput
    have : (d.any fun kv => decide (kv.1 = k)) = true := by
      obtain ⟨q, hq, e⟩ := List.mem_map.mp h
      exact List.any_eq_true.mpr ⟨q, hq, decide_eq_true e⟩
    rw [this, if_pos rfl, List.map_map]
    apply List.map_congr_left
    intro q hq
    show (if q.1 = k then (q.1, v) else q : κ × α).1 = q.1
    by_cases e : q.1 = k
    · rw [if_pos e]
    · rw [if_neg e]
  · rw [if_neg h, dput_new h, List.map_append]
    rfl
theorem dget_mapset {k l : κ} {v : α} : ∀ d : List (κ × α), dget (d.map (fun kv => if kv.1 = k then (kv.1, v) else kv)) l = if k = l then (dget d l).map (fun _ => v) else dget d l
  | [] => by
    rw [List.map_nil, dget_nil]
    by_cases h : k = l
    · rw [if_pos h]; rfl
    · rw [if_neg h]
  | q :: r => by
    rw [List.map_cons, dget_cons, dget_cons, dget_mapset r]
    by_cases h : k = l
    · rw [if_pos h, if_pos h]
      by_cases e : q.1 = k
      · rw [if_pos e, if_pos (e.trans h), if_pos (e.trans h)]
        rfl
      · rw [if_neg e, if_neg (fun z => e (z.trans h.symm)), if_neg (fun z => e (z.trans h.symm))]
    · rw [if_neg h, if_neg h]
      by_cases e : q.1 = k
      · rw [if_pos e, if_neg (fun z => h (e.symm.trans z)), if_neg (fun z => h (e.symm.trans z))]
      · rw [if_neg e]
theorem dget_dput {d : List (κ × α)} {k l : κ} {v : α} : dget (dput d k v) l = if k = l then some v else dget d l := by
  by_cases h : k ∈ d.map (·.1)
  · unfold dput
    have : (d.any fun kv => decide (kv.1 = k)) = true := by
      obtain ⟨q, hq, e⟩ := List.mem_map.mp h
      exact List.any_eq_true.mpr ⟨q, hq, decide_eq_true e⟩
    rw [this, if_pos rfl, dget_mapset]
    by_cases kl : k = l
    · rw [if_pos kl, if_pos kl]
      rw [kl] at h
      have := dget_isSome.mpr h
      cases e : dget d l with
      | none => rw [e] at this; cases this
      | some w => rfl
    · rw [if_neg kl, if_neg kl]
  · rw [dput_new h, dget_app]
    by_cases kl : k = l
    · rw [if_pos kl, ← kl, dget_none.mpr h, dget_cons, if_pos rfl]
      rfl
    · rw [if_neg kl, dget_cons, if_neg kl, dget_nil]
      cases dget d l <;> rfl
theorem dput_nd {d : List (κ × α)} {k : κ} {v : α} (nd : (d.map (·.1)).Nodup) : ((dput d k v).map (·.1)).Nodup := by
  rw [dput_keys]
  by_cases h : k ∈ d.map (·.1)
  · rw [if_pos h]
    exact nd
  · rw [if_neg h]
    exact List.nodup_append.mpr ⟨nd, List.nodup_cons.mpr ⟨by simp, List.nodup_nil⟩, fun a ha b hb e => h (by rw [← List.mem_singleton.mp hb, ← e]; exact ha)⟩
theorem dmerge_nd {d : List (κ × α)} (nd : (d.map (·.1)).Nodup) : dmerge d = d := by
  have key : ∀ (e acc : List (κ × α)), ((acc ++ e).map (·.1)).Nodup → e.foldl (fun acc kv => dput acc kv.1 kv.2) acc = acc ++ e := by
    intro e
    induction e with
    | nil => intro acc _; rw [List.append_nil]; rfl
    | cons q r ih =>
      intro acc h
      have hn : q.1 ∉ acc.map (·.1) := by
        rw [List.map_append, List.map_cons] at h
        have := (List.nodup_append.mp h).2.2
        exact fun z => this _ z _ (List.mem_cons_self ..) rfl
      rw [List.foldl_cons, dput_new hn, ih]
      · rw [List.append_assoc]; rfl
      · rw [List.append_assoc]; exact h
  exact key d [] (by simpa using nd)
theorem nd_len : ∀ {xs ys : List κ}, xs.Nodup → (∀ x ∈ xs, x ∈ ys) → xs.length ≤ ys.length
  | [], _, _, _ => Nat.zero_le _
  | x :: r, ys, nd, h => by
    rw [List.nodup_cons] at nd
    have hx := h x (List.mem_cons_self ..)
    have := nd_len (xs := r) (ys := ys.erase x) nd.2 fun y hy => (List.mem_erase_of_ne (fun (z : y = x) => nd.1 (z ▸ hy))).mpr (h y (List.mem_cons_of_mem _ hy))
    rw [List.length_erase_of_mem hx] at this
    have := List.length_pos_of_mem hx
    rw [List.length_cons]
    omega
/-! sorted -/
theorem sortI_mem {x : Int} {xs : List Int} : x ∈ sortI xs ↔ x ∈ xs := (sortI_perm xs).mem_iff
theorem sortI_nd {xs : List Int} (h : xs.Nodup) : (sortI xs).Nodup := (sortI_perm xs).nodup_iff.mpr h
theorem sortI_len (xs : List Int) : (sortI xs).length = xs.length := (sortI_perm xs).length_eq
/-- no neighbours alike -/
theorem zip_adj {xs : List Int} (nd : xs.Nodup) : ∀ p ∈ xs.zip (xs.drop 1), p.1 ≠ p.2 := by
  induction xs with
  | nil => intro p h; cases h
  | cons a r ih =>
    intro p hp
    cases r with
    | nil => cases hp
    | cons b t =>
      rw [List.drop_one, List.tail_cons, List.zip_cons_cons] at hp
      rw [List.nodup_cons] at nd
      rcases List.mem_cons.mp hp with e | hp
      · rw [e]
        intro z
        have z' : a = b := z
        exact nd.1 (by rw [z']; exact List.mem_cons_self ..)
      · exact ih nd.2 p (by rw [List.drop_one, List.tail_cons]; exact hp)
theorem cut_tail (xs : List α) (k : Nat) : cut xs (some (k : Int)) none = xs.drop k := by
  unfold cut
  rw [HT.sIx_nat, HT.sIx_none]
  by_cases h : k ≤ xs.length
  · rw [Nat.min_eq_left h, List.take_of_length_le (Nat.le_of_eq List.length_drop)]
  · rw [Nat.min_eq_right (by omega), List.drop_length, List.drop_of_length_le (by omega)]
    simp
theorem cut_head (xs : List α) (k : Nat) : cut xs none (some (k : Int)) = xs.take k := by
  unfold cut
  rw [HT.sIx_nat, HT.sIx_none, List.drop_zero, Nat.sub_zero]
  by_cases h : k ≤ xs.length
  · rw [Nat.min_eq_left h]
  · rw [Nat.min_eq_right (by omega), List.take_length, List.take_of_length_le (by omega)]
theorem cut_mid (xs : List α) (j k : Nat) (h : j ≤ k) : cut xs (some (j : Int)) (some (k : Int)) = (xs.take k).drop j := by
  unfold cut
  rw [HT.sIx_nat, HT.sIx_nat, List.drop_take]
  by_cases h1 : k ≤ xs.length
  · rw [Nat.min_eq_left h1, Nat.min_eq_left (by omega)]
  · by_cases h2 : j ≤ xs.length
    · rw [Nat.min_eq_right (by omega), Nat.min_eq_left h2, List.take_of_length_le (Nat.le_of_eq List.length_drop), List.take_of_length_le (by rw [List.length_drop]; omega)]
    · rw [Nat.min_eq_right (by omega), Nat.min_eq_right (by omega), List.drop_length, List.drop_of_length_le (by omega)]
      simp
theorem cut_init (xs : List α) : cut xs none (some (-1)) = xs.dropLast := by
  unfold cut
  rw [HT.sIx_none, List.drop_zero, Nat.sub_zero]
  have : HT.sIx xs.length xs.length (some (-1)) = ((-1 : Int) + (xs.length : Int)).toNat := by
    simp [HT.sIx]
  rw [this, List.dropLast_eq_take]
  congr 1
  omega
theorem cut_len {xs : List α} {a b : Option Int} : (cut xs a b).length ≤ xs.length := by
  unfold cut
  rw [List.length_take, List.length_drop]
  omega
theorem cut_mem {xs : List α} {a b : Option Int} {x : α} (h : x ∈ cut xs a b) : x ∈ xs := List.mem_of_mem_drop (List.mem_of_mem_take h)
theorem atI_nat (xs : List α) (k : Nat) : atI xs (k : Int) = xs[k]? := by
  unfold atI ixN
  rw [if_pos (Int.natCast_nonneg _)]
  by_cases h : k < xs.length
  · rw [if_pos (by omega)]
    rfl
  · rw [if_neg (by omega), List.getElem?_eq_none (by omega)]
    rfl
theorem atI_in {xs : List α} {k : Int} (h0 : 0 ≤ k) (h1 : k < xs.length) : ∃ x, atI xs k = some x ∧ x ∈ xs := by
  obtain ⟨j, rfl⟩ := Int.eq_ofNat_of_zero_le h0
  have hj : j < xs.length := by omega
  exact ⟨xs[j], (atI_nat xs j).trans (List.getElem?_eq_getElem hj), List.getElem_mem hj⟩
end
end Sg

namespace Sg
open PySem PySem.Spec PyProof.Rows L2
/-! ### what holds if it ends well -/
def Sat {α : Type} (P : α → Prop) (m : Res α) : Prop := ∀ a, m = .ok a → P a
section
variable {α β τ : Type}
theorem Sat.ret {P : α → Prop} {a : α} (h : P a) : Sat P (.ok a) := fun b e => by cases e; exact h
theorem Sat.any {m : Res α} : Sat (fun _ => True) m := fun _ _ => trivial
theorem Sat.bind {Q : α → Prop} {P : β → Prop} {m : Res α} {f : α → Res β} (h : Sat Q m) (k : ∀ a, Q a → Sat P (f a)) : Sat P (m.bind f) := fun b e => by
  obtain ⟨a, e1, e2⟩ := Res.bind_ok e
  exact k a (h a e1) b e2
theorem Sat.need {P : α → Prop} {c : Prop} [Decidable c] {m : Res α} (h : c → Sat P m) : Sat P (Res.need c m) := fun b e => by
  obtain ⟨hc, e⟩ := Res.need_ok e
  exact h hc b e
theorem Sat.of {P : β → Prop} {o : Option α} {f : α → Res β} (h : ∀ a, o = some a → Sat P (f a)) : Sat P ((Res.of o).bind f) := fun b e => by
  obtain ⟨a, e1, e2⟩ := Res.of_ok e
  exact h a e1 b e2
theorem Sat.ite {P : α → Prop} {b : Bool} {m n : Res α} (h : b = true → Sat P m) (k : b = false → Sat P n) : Sat P (if b = true then m else n) := by
  cases e : b with
  | true => exact h e
  | false => exact k e
theorem Sat.imp {P Q : α → Prop} {m : Res α} (h : Sat P m) (k : ∀ a, P a → Q a) : Sat Q m := fun a e => k a (h a e)
theorem Sat.forM {step : τ → α → Res τ} (I : τ → Prop) : ∀ {xs : List α} {a : τ}, I a → (∀ a x, x ∈ xs → I a → Sat I (step a x)) → Sat I (forM step xs a)
  | [], a, h, _ => Sat.ret h
  | x :: xs, a, h, hs => by
    unfold Sg.forM
    exact Sat.bind (hs a x (List.mem_cons_self ..) h) fun b hb => Sat.forM I hb fun c y hy => hs c y (List.mem_cons_of_mem _ hy)
theorem Ok.sat {P Q : α → Prop} {m : Res α} (h : Ok P m) (k : Sat Q m) : Ok (fun a => P a ∧ Q a) m := by
  obtain ⟨a, e, p⟩ := h
  exact ⟨a, e, p, k a e⟩
theorem dput_mem {κ : Type} [DecidableEq κ] {d : List (κ × α)} {k : κ} {v : α} {q : κ × α} (h : q ∈ dput d k v) : q = (k, v) ∨ q ∈ d := by
  unfold dput at h
  by_cases hc : (d.any fun kv => decide (kv.1 = k)) = true
  · rw [if_pos hc] at h
    obtain ⟨z, hz, e⟩ := List.mem_map.mp h
    by_cases hk : z.1 = k
    · rw [if_pos hk] at e
      subst e
      subst hk
      exact .inl rfl
    · rw [if_neg hk] at e
      subst e
      exact .inr hz
  · rw [if_neg hc] at h
    rcases List.mem_append.mp h with h | h
    · exact .inr h
    · exact .inl (List.mem_singleton.mp h)
end
/-! ### small steps -/
theorem cut_low (xs : List Int) (lo hi : Int) (h0 : 0 ≤ lo) (h1 : lo ≤ hi) : (cut xs (some lo) (some hi)).length ≤ (hi - lo).toNat := by
  obtain ⟨a, rfl⟩ := Int.eq_ofNat_of_zero_le h0
  obtain ⟨b, rfl⟩ := Int.eq_ofNat_of_zero_le (show 0 ≤ hi by omega)
  rw [cut_mid _ _ _ (by omega), List.length_drop, List.length_take]
  omega
theorem Ok.is {α : Type} {P : α → Prop} {m : Res α} {a : α} (e : m = .ok a) (h : P a) : Ok P m := ⟨a, e, h⟩
theorem Ok.bindE {α β : Type} {P : β → Prop} {m : Res α} {f : α → Res β} {a : α} (e : m = .ok a) (k : Ok P (f a)) : Ok P (m.bind f) := by
  rw [bind_eq e]
  exact k
end Sg

namespace Sg.W
open PySem PySem.Spec PyProof.Rows L2 Sg
def topS (i : Nat) : Stmt := PySem.Challenge.pw_signforms_k19_refusals_made.main.body.getD i (.Pass ⟨0, 0, 0, 0⟩)
/-! l_cell_at -/
abbrev st_l_cell_at : Stmt := topS 18
abbrev N_l_cell_at : List Str := ["_law_script", "_law_k"]
theorem tb_l_cell_at : nmOk (defScope st_l_cell_at) [("_law_script", .local), ("_law_k", .local), ("len", .globalImplicit)] = true := by decide +kernel
theorem sc_l_cell_at : FnScope N_l_cell_at ["_law_script", "_law_k"] (defScope st_l_cell_at) := ⟨rfl, rfl, rfl, by decide +kernel, rfl, by decide +kernel, by decide +kernel⟩
def m_l_cell_at (l_script : (List Int)) (l_k : Int) : Res Int := if (decide (l_k < ((l_script).length : Int))) = true then (Res.of (atI l_script l_k)).bind fun x6 => Res.ok x6 else Res.ok 0
abbrev args_l_cell_at (CT : Addr) (EM : MG) : (List Int) × Int → AR := fun d => (aC (rLst rInt) d.1 (aC rInt d.2 aN))
abbrev sp_l_cell_at (CT : Addr) (EM : MG) : Sp := SpA (args_l_cell_at CT EM) (kE rInt) (fun d => m_l_cell_at d.1 d.2)
theorem body_l_cell_at {X : Cx} {CT : Addr} {EM : MG} (C : Cok X 0) (VS : Scp X N_l_cell_at (defScope st_l_cell_at)) (fn : ∀ x, X.fn x = true) (T : Blt X.mg) (TE : X.mg = EM)  : ∀ (B H : Hp) (vs : List V) (d : (List Int) × Int) (Q : VK), Sx B H → Tx H B → (args_l_cell_at CT EM d).r vs B H → Fin ((kE rInt) ⟨B, H⟩ Q) NoErr (m_l_cell_at d.1 d.2) →
    WSs X (defBody st_l_cell_at) { nx := fun _ H' => Q .non H', rt := Q } (start N_l_cell_at vs) H := by
  rintro B H vs ⟨l_script, l_k⟩ Q hb ht ⟨v1, _, rfl, r1_, ⟨_, _, rfl, rfl, rfl⟩⟩ F
  subst TE
  have S0 := Stt.enter hb ht
  refine s_if S0 (c_lt.et (ev_v (VS.var tb_l_cell_at 1 1) rfl rfl) (ev_lenL (VS.gl tb_l_cell_at 2) T.len (ev_v (VS.var tb_l_cell_at 0 0) rfl (Rel.mono _ S0.h0.ex r1_)))) (fun z1 B2 H3 S4 e5 => ?_) (fun z1 B8 H9 S10 e11 => ?_)
  · replace F := Fin.tt F z1
    obtain ⟨x6, h7, F⟩ := Fin.of F
    exact s_retE S4 ((ev_ixL (ev_v (VS.var tb_l_cell_at 0 0) rfl (Rel.mono _ S4.h0.ex r1_)) (ev_v (VS.var tb_l_cell_at 1 1) rfl rfl) h7)).toE F
  · replace F := Fin.ff F z1
    refine WSs.nil ?_
    exact s_retE S10 (ev_i).toE F
/-! l_made -/
abbrev st_l_made : Stmt := topS 21
abbrev N_l_made : List Str := ["_law_one", "_law_other", "_law_signs", "_law_way", "_law_some"]
theorem tb_l_made : nmOk (defScope st_l_made) [("_law_one", .local), ("_law_other", .local), ("_law_signs", .local), ("_law_way", .local), ("_law_some", .local), ("NoRow", .globalImplicit), ("Twice", .globalImplicit), ("NoPair", .globalImplicit), ("Same", .globalImplicit), ("Ring", .globalImplicit), ("TooLong", .globalImplicit), ("NoStep", .globalImplicit), ("Unlike", .globalImplicit), ("TooMany", .globalImplicit), ("NotFormed", .globalImplicit), ("Double", .globalImplicit), ("NoKind", .globalImplicit), ("Nothing", .globalImplicit), ("NoPlace", .globalImplicit), ("NoUndo", .globalImplicit)] = true := by decide +kernel
theorem sc_l_made : FnScope N_l_made ["_law_one", "_law_other", "_law_signs", "_law_way"] (defScope st_l_made) := ⟨rfl, rfl, rfl, by decide +kernel, rfl, by decide +kernel, by decide +kernel⟩
def m_l_made (l_one : Int) (l_other : Int) (l_signs : (List Int)) (l_way : Int) : Res (List Err) := (if (decide (l_way = 0)) = true then Res.need (([(⟨"NoRow", [("at", .int l_one)]⟩ : Err), (⟨"Twice", [("sign", .int l_other)]⟩ : Err), (⟨"NoPair", [("sign", .int l_one)]⟩ : Err), (⟨"Same", [("other", .int l_other), ("one", .int l_one)]⟩ : Err), (⟨"Ring", [("signs", .ints l_signs)]⟩ : Err), (⟨"TooLong", [("sign", .int l_other)]⟩ : Err)]).length < sizeLine) (Res.ok ([(⟨"NoRow", [("at", .int l_one)]⟩ : Err), (⟨"Twice", [("sign", .int l_other)]⟩ : Err), (⟨"NoPair", [("sign", .int l_one)]⟩ : Err), (⟨"Same", [("other", .int l_other), ("one", .int l_one)]⟩ : Err), (⟨"Ring", [("signs", .ints l_signs)]⟩ : Err), (⟨"TooLong", [("sign", .int l_other)]⟩ : Err)] ++ [(⟨"NoStep", []⟩ : Err)])) else Res.need (([(⟨"NoRow", [("at", .int l_one)]⟩ : Err), (⟨"Twice", [("sign", .int l_other)]⟩ : Err), (⟨"NoPair", [("sign", .int l_one)]⟩ : Err), (⟨"Same", [("other", .int l_other), ("one", .int l_one)]⟩ : Err), (⟨"Ring", [("signs", .ints l_signs)]⟩ : Err), (⟨"TooLong", [("sign", .int l_other)]⟩ : Err)]).length < sizeLine) (Res.ok ([(⟨"NoRow", [("at", .int l_one)]⟩ : Err), (⟨"Twice", [("sign", .int l_other)]⟩ : Err), (⟨"NoPair", [("sign", .int l_one)]⟩ : Err), (⟨"Same", [("other", .int l_other), ("one", .int l_one)]⟩ : Err), (⟨"Ring", [("signs", .ints l_signs)]⟩ : Err), (⟨"TooLong", [("sign", .int l_other)]⟩ : Err)] ++ [(⟨"NoStep", []⟩ : Err)]))).bind fun (a48 : (List Err)) => Res.need ((a48).length + ([(⟨"Unlike", [("at", .int l_one)]⟩ : Err), (⟨"TooMany", []⟩ : Err), (⟨"NotFormed", [("which", .int l_other)]⟩ : Err), (⟨"Double", [("at", .int l_one)]⟩ : Err), (⟨"NoKind", [("at", .int l_other)]⟩ : Err)]).length ≤ sizeLine) (if (decide (l_way = 0)) = true then Res.need (((a48 ++ [(⟨"Unlike", [("at", .int l_one)]⟩ : Err), (⟨"TooMany", []⟩ : Err), (⟨"NotFormed", [("which", .int l_other)]⟩ : Err), (⟨"Double", [("at", .int l_one)]⟩ : Err), (⟨"NoKind", [("at", .int l_other)]⟩ : Err)])).length + ([(⟨"Nothing", []⟩ : Err), (⟨"NoPlace", []⟩ : Err), (⟨"NoUndo", []⟩ : Err)]).length ≤ sizeLine) (Res.ok ((a48 ++ [(⟨"Unlike", [("at", .int l_one)]⟩ : Err), (⟨"TooMany", []⟩ : Err), (⟨"NotFormed", [("which", .int l_other)]⟩ : Err), (⟨"Double", [("at", .int l_one)]⟩ : Err), (⟨"NoKind", [("at", .int l_other)]⟩ : Err)]) ++ [(⟨"Nothing", []⟩ : Err), (⟨"NoPlace", []⟩ : Err), (⟨"NoUndo", []⟩ : Err)])) else Res.need (((a48 ++ [(⟨"Unlike", [("at", .int l_one)]⟩ : Err), (⟨"TooMany", []⟩ : Err), (⟨"NotFormed", [("which", .int l_other)]⟩ : Err), (⟨"Double", [("at", .int l_one)]⟩ : Err), (⟨"NoKind", [("at", .int l_other)]⟩ : Err)])).length + ([(⟨"Nothing", []⟩ : Err), (⟨"NoPlace", []⟩ : Err), (⟨"NoUndo", []⟩ : Err)]).length ≤ sizeLine) (Res.ok ((a48 ++ [(⟨"Unlike", [("at", .int l_one)]⟩ : Err), (⟨"TooMany", []⟩ : Err), (⟨"NotFormed", [("which", .int l_other)]⟩ : Err), (⟨"Double", [("at", .int l_one)]⟩ : Err), (⟨"NoKind", [("at", .int l_other)]⟩ : Err)]) ++ [(⟨"Nothing", []⟩ : Err), (⟨"NoPlace", []⟩ : Err), (⟨"NoUndo", []⟩ : Err)])))
abbrev args_l_made (CT : Addr) (EM : MG) : Int × Int × (List Int) × Int → AR := fun d => (aC rInt d.1 (aC rInt d.2.1 (aC (rLst rInt) d.2.2.1 (aC rInt d.2.2.2 aN))))
abbrev sp_l_made (CT : Addr) (EM : MG) : Sp := SpA (args_l_made CT EM) (kL (rEv EM)) (fun d => m_l_made d.1 d.2.1 d.2.2.1 d.2.2.2)
theorem body_l_made {X : Cx} {CT : Addr} {EM : MG} (C : Cok X 2) (VS : Scp X N_l_made (defScope st_l_made)) (fn : ∀ x, X.fn x = true) (T : Blt X.mg) (TE : X.mg = EM) (Z_NoStep : Rz X.K X.mg "NoStep") (Z_TooMany : Rz X.K X.mg "TooMany") (Z_Nothing : Rz X.K X.mg "Nothing") (Z_NoPlace : Rz X.K X.mg "NoPlace") (Z_NoUndo : Rz X.K X.mg "NoUndo") (ZM_NoRow : RzM X.prog X.w X.K X.mg X.base "NoRow" (["at"] : List Str) (["self", "at"] : List Str) (SpE X.K "at")) (ZM_Twice : RzM X.prog X.w X.K X.mg X.base "Twice" (["sign"] : List Str) (["self", "sign"] : List Str) (SpE X.K "sign")) (ZM_NoPair : RzM X.prog X.w X.K X.mg X.base "NoPair" (["sign"] : List Str) (["self", "sign"] : List Str) (SpE X.K "sign")) (ZM_Same : RzM X.prog X.w X.K X.mg X.base "Same" (["one", "other"] : List Str) (["self", "one", "other"] : List Str) (SpE2 X.K "one" "other")) (ZM_Ring : RzM X.prog X.w X.K X.mg X.base "Ring" (["signs"] : List Str) (["self", "signs"] : List Str) (SpEL X.K "signs")) (ZM_TooLong : RzM X.prog X.w X.K X.mg X.base "TooLong" (["sign"] : List Str) (["self", "sign"] : List Str) (SpE X.K "sign")) (ZM_Unlike : RzM X.prog X.w X.K X.mg X.base "Unlike" (["at"] : List Str) (["self", "at"] : List Str) (SpE X.K "at")) (ZM_NotFormed : RzM X.prog X.w X.K X.mg X.base "NotFormed" (["which"] : List Str) (["self", "which"] : List Str) (SpE X.K "which")) (ZM_Double : RzM X.prog X.w X.K X.mg X.base "Double" (["at"] : List Str) (["self", "at"] : List Str) (SpE X.K "at")) (ZM_NoKind : RzM X.prog X.w X.K X.mg X.base "NoKind" (["at"] : List Str) (["self", "at"] : List Str) (SpE X.K "at")) : ∀ (B H : Hp) (vs : List V) (d : Int × Int × (List Int) × Int) (Q : VK), Sx B H → Tx H B → (args_l_made CT EM d).r vs B H → Fin ((kL (rEv EM)) ⟨B, H⟩ Q) NoErr (m_l_made d.1 d.2.1 d.2.2.1 d.2.2.2) →
    WSs X (defBody st_l_made) { nx := fun _ H' => Q .non H', rt := Q } (start N_l_made vs) H := by
  rintro B H vs ⟨l_one, l_other, l_signs, l_way⟩ Q hb ht ⟨_, _, rfl, rfl, ⟨_, _, rfl, rfl, ⟨v3, _, rfl, r3_, ⟨_, _, rfl, rfl, rfl⟩⟩⟩⟩ F
  subst TE
  have S0 := Stt.enter hb ht
  refine s_asgL C (VS.slot tb_l_made fn 4 4) S0 (el_lst (R := (rEv X.mg)) (ea_cons (ee_mk1 C (by decide) ZM_NoRow (VS.gl tb_l_made 5) (ev_v (VS.var tb_l_made 0 0) rfl rfl)) (ea_cons (ee_mk1 C (by decide) ZM_Twice (VS.gl tb_l_made 6) (ev_v (VS.var tb_l_made 1 1) rfl rfl)) (ea_cons (ee_mk1 C (by decide) ZM_NoPair (VS.gl tb_l_made 7) (ev_v (VS.var tb_l_made 0 0) rfl rfl)) (ea_cons (ee_mk2 C (by decide) ZM_Same (VS.gl tb_l_made 8) (ev_v (VS.var tb_l_made 0 0) rfl rfl) (ev_v (VS.var tb_l_made 1 1) rfl rfl)) (ea_cons (ee_mkL C (by decide) ZM_Ring (VS.gl tb_l_made 9) (ev_v (VS.var tb_l_made 2 2) rfl (Rel.mono _ S0.h0.ex r3_))) (ea_cons (ee_mk1 C (by decide) ZM_TooLong (VS.gl tb_l_made 10) (ev_v (VS.var tb_l_made 1 1) rfl rfl)) ea_nil))))))) (fun p5 u6 B1 H2 S3 e4 r7 => ?_)
  refine s_ifJ S3 (c_eqI.et (ev_v (VS.var tb_l_made 3 3) rfl rfl) ev_i) F (fun (a : (List Err)) σ' own' B' => ∃ (w8_4 : List V), σ' = [some (.int l_one), some (.int l_other), some v3, some (.int l_way), some (.ref p5)] ∧ own' = [(p5, .lst w8_4)] ∧ Paired ((rEv X.mg).r B') w8_4 a) (fun z47 B23 H24 S25 e26 Q27 F => ?_) (fun z47 B35 H36 S37 e38 Q39 F => ?_) (fun a48 _ _ B49 H50 iv53 S51 e52 F => ?_)
  · skip
    obtain ⟨h28, F⟩ := Fin.need F
    refine s_append S25 (VS.var tb_l_made 4 4) rfl (k := 0) rfl (pimp r7 fun _ _ z => Rel.mono _ e26 z) (ee_mk00 Z_NoStep (VS.gl tb_l_made 11)) h28 (fun v29 B30 H31 S32 e33 r34 => ?_)
    exact WSs.nil ⟨([(⟨"NoRow", [("at", .int l_one)]⟩ : Err), (⟨"Twice", [("sign", .int l_other)]⟩ : Err), (⟨"NoPair", [("sign", .int l_one)]⟩ : Err), (⟨"Same", [("other", .int l_other), ("one", .int l_one)]⟩ : Err), (⟨"Ring", [("signs", .ints l_signs)]⟩ : Err), (⟨"TooLong", [("sign", .int l_other)]⟩ : Err)] ++ [(⟨"NoStep", []⟩ : Err)]), _, _, F, S32, e33, ⟨(u6 ++ [v29]), rfl, rfl, r34⟩⟩
  · skip
    obtain ⟨h40, F⟩ := Fin.need F
    refine s_append S37 (VS.var tb_l_made 4 4) rfl (k := 0) rfl (pimp r7 fun _ _ z => Rel.mono _ e38 z) (ee_mk0s Z_NoStep (VS.gl tb_l_made 11)) h40 (fun v41 B42 H43 S44 e45 r46 => ?_)
    exact WSs.nil ⟨([(⟨"NoRow", [("at", .int l_one)]⟩ : Err), (⟨"Twice", [("sign", .int l_other)]⟩ : Err), (⟨"NoPair", [("sign", .int l_one)]⟩ : Err), (⟨"Same", [("other", .int l_other), ("one", .int l_one)]⟩ : Err), (⟨"Ring", [("signs", .ints l_signs)]⟩ : Err), (⟨"TooLong", [("sign", .int l_other)]⟩ : Err)] ++ [(⟨"NoStep", []⟩ : Err)]), _, _, F, S44, e45, ⟨(u6 ++ [v41]), rfl, rfl, r46⟩⟩
  · skip
    obtain ⟨w8_4, rfl, rfl, r54⟩ := iv53
    obtain ⟨h55, F⟩ := Fin.need F
    refine s_asgL C (VS.slot tb_l_made fn 4 4) S51 (el_catM (em_own (VS.var tb_l_made 4 4) rfl (List.mem_of_getElem? (i := 0) rfl) r54) (em_E ((el_lst (R := (rEv X.mg)) (ea_cons (ee_mk1 C (by decide) ZM_Unlike (VS.gl tb_l_made 12) (ev_v (VS.var tb_l_made 0 0) rfl rfl)) (ea_cons (ee_mk0s Z_TooMany (VS.gl tb_l_made 13)) (ea_cons (ee_mk1 C (by decide) ZM_NotFormed (VS.gl tb_l_made 14) (ev_v (VS.var tb_l_made 1 1) rfl rfl)) (ea_cons (ee_mk1 C (by decide) ZM_Double (VS.gl tb_l_made 15) (ev_v (VS.var tb_l_made 0 0) rfl rfl)) (ea_cons (ee_mk1 C (by decide) ZM_NoKind (VS.gl tb_l_made 16) (ev_v (VS.var tb_l_made 1 1) rfl rfl)) ea_nil))))))).toE) h55) (fun p60 u61 B56 H57 S58 e59 r62 => ?_)
    have S63 := Stt.pick [0] S58
    refine s_if S63 (c_eqI.et (ev_v (VS.var tb_l_made 3 3) rfl rfl) ev_i) (fun z64 B65 H66 S67 e68 => ?_) (fun z64 B70 H71 S72 e73 => ?_)
    · replace F := Fin.tt F z64
      obtain ⟨h69, F⟩ := Fin.need F
      exact s_retL S67 (el_catM (em_own (VS.var tb_l_made 4 4) rfl (List.mem_of_getElem? (i := 0) rfl) (pimp r62 fun _ _ z => Rel.mono _ e68 z)) (em_E ((el_lst (R := (rEv X.mg)) (ea_cons (ee_mk0s Z_Nothing (VS.gl tb_l_made 17)) (ea_cons (ee_mk00 Z_NoPlace (VS.gl tb_l_made 18)) (ea_cons (ee_mk0s Z_NoUndo (VS.gl tb_l_made 19)) ea_nil))))).toE) h69) F
    · replace F := Fin.ff F z64
      refine WSs.nil ?_
      obtain ⟨h74, F⟩ := Fin.need F
      exact s_retL S72 (el_catM (em_own (VS.var tb_l_made 4 4) rfl (List.mem_of_getElem? (i := 0) rfl) (pimp r62 fun _ _ z => Rel.mono _ e73 z)) (em_E ((el_lst (R := (rEv X.mg)) (ea_cons (ee_mk00 Z_Nothing (VS.gl tb_l_made 17)) (ea_cons (ee_mk0s Z_NoPlace (VS.gl tb_l_made 18)) (ea_cons (ee_mk00 Z_NoUndo (VS.gl tb_l_made 19)) ea_nil))))).toE) h74) F
/-! l_classes -/
abbrev st_l_classes : Stmt := topS 20
abbrev N_l_classes : List Str := ["_law_e", "_law_some", "_law_k"]
theorem tb_l_classes : nmOk (defScope st_l_classes) [("_law_e", .local), ("_law_some", .cell), ("isinstance", .globalImplicit), ("NoRow", .globalImplicit), ("Twice", .globalImplicit), ("NoPair", .globalImplicit), ("Same", .globalImplicit), ("Ring", .globalImplicit), ("TooLong", .globalImplicit), ("NoStep", .globalImplicit), ("Unlike", .globalImplicit), ("TooMany", .globalImplicit), ("NotFormed", .globalImplicit), ("Double", .globalImplicit), ("NoKind", .globalImplicit), ("Nothing", .globalImplicit), ("NoPlace", .globalImplicit), ("NoUndo", .globalImplicit), ("range", .globalImplicit), ("int", .globalImplicit), ("ValueError", .globalImplicit)] = true := by decide +kernel
theorem sc_l_classes : FnScope N_l_classes ["_law_e"] (defScope st_l_classes) := ⟨rfl, rfl, rfl, by decide +kernel, rfl, by decide +kernel, by decide +kernel⟩
abbrev csc_l_classes_c1 : Scope := { kind := .function, names := [(".0", .local), ("_law_k", .local), ("_law_some", .free)], isGenerator := false, isCoroutine := false, more := [] }
theorem tb_l_classes_c1 : nmOk (relS csc_l_classes_c1 (defScope st_l_classes)) [("_law_k", .local), ("_law_some", .cell)] = true := by decide +kernel
theorem bk_l_classes_c1 : blkC N_l_classes (defScope st_l_classes) csc_l_classes_c1 [("_law_k", 2)] = true := by decide +kernel
def m_l_classes (l_e : Err) : Res (List Int) := Res.need ((["Double", "NoKind", "NoPair", "NoPlace", "NoRow", "NoStep", "NoUndo", "NotFormed", "Nothing", "Ring", "Same", "TooLong", "TooMany", "Twice", "Unlike"] : List Str).contains l_e.cls = true) (Res.need ((["Double", "NoKind", "NoPair", "NoPlace", "NoRow", "NoStep", "NoUndo", "NotFormed", "Nothing", "Ring", "Same", "TooLong", "TooMany", "Twice", "Unlike"] : List Str).contains l_e.cls = true) (Res.need ((["Double", "NoKind", "NoPair", "NoPlace", "NoRow", "NoStep", "NoUndo", "NotFormed", "Nothing", "Ring", "Same", "TooLong", "TooMany", "Twice", "Unlike"] : List Str).contains l_e.cls = true) (Res.need ((["Double", "NoKind", "NoPair", "NoPlace", "NoRow", "NoStep", "NoUndo", "NotFormed", "Nothing", "Ring", "Same", "TooLong", "TooMany", "Twice", "Unlike"] : List Str).contains l_e.cls = true) (Res.need ((["Double", "NoKind", "NoPair", "NoPlace", "NoRow", "NoStep", "NoUndo", "NotFormed", "Nothing", "Ring", "Same", "TooLong", "TooMany", "Twice", "Unlike"] : List Str).contains l_e.cls = true) (Res.need ((["Double", "NoKind", "NoPair", "NoPlace", "NoRow", "NoStep", "NoUndo", "NotFormed", "Nothing", "Ring", "Same", "TooLong", "TooMany", "Twice", "Unlike"] : List Str).contains l_e.cls = true) (Res.need ((["Double", "NoKind", "NoPair", "NoPlace", "NoRow", "NoStep", "NoUndo", "NotFormed", "Nothing", "Ring", "Same", "TooLong", "TooMany", "Twice", "Unlike"] : List Str).contains l_e.cls = true) (Res.need ((["Double", "NoKind", "NoPair", "NoPlace", "NoRow", "NoStep", "NoUndo", "NotFormed", "Nothing", "Ring", "Same", "TooLong", "TooMany", "Twice", "Unlike"] : List Str).contains l_e.cls = true) (Res.need (([((["NoRow"] : List Str).contains l_e.cls), ((["Twice"] : List Str).contains l_e.cls), ((["NoPair"] : List Str).contains l_e.cls), ((["Same"] : List Str).contains l_e.cls)]).length + ([((["Ring"] : List Str).contains l_e.cls), ((["TooLong"] : List Str).contains l_e.cls), ((["NoStep"] : List Str).contains l_e.cls), ((["Unlike"] : List Str).contains l_e.cls)]).length ≤ sizeLine) (Res.need ((["Double", "NoKind", "NoPair", "NoPlace", "NoRow", "NoStep", "NoUndo", "NotFormed", "Nothing", "Ring", "Same", "TooLong", "TooMany", "Twice", "Unlike"] : List Str).contains l_e.cls = true) (Res.need ((["Double", "NoKind", "NoPair", "NoPlace", "NoRow", "NoStep", "NoUndo", "NotFormed", "Nothing", "Ring", "Same", "TooLong", "TooMany", "Twice", "Unlike"] : List Str).contains l_e.cls = true) (Res.need ((["Double", "NoKind", "NoPair", "NoPlace", "NoRow", "NoStep", "NoUndo", "NotFormed", "Nothing", "Ring", "Same", "TooLong", "TooMany", "Twice", "Unlike"] : List Str).contains l_e.cls = true) (Res.need ((["Double", "NoKind", "NoPair", "NoPlace", "NoRow", "NoStep", "NoUndo", "NotFormed", "Nothing", "Ring", "Same", "TooLong", "TooMany", "Twice", "Unlike"] : List Str).contains l_e.cls = true) (Res.need ((([((["NoRow"] : List Str).contains l_e.cls), ((["Twice"] : List Str).contains l_e.cls), ((["NoPair"] : List Str).contains l_e.cls), ((["Same"] : List Str).contains l_e.cls)] ++ [((["Ring"] : List Str).contains l_e.cls), ((["TooLong"] : List Str).contains l_e.cls), ((["NoStep"] : List Str).contains l_e.cls), ((["Unlike"] : List Str).contains l_e.cls)])).length + ([((["TooMany"] : List Str).contains l_e.cls), ((["NotFormed"] : List Str).contains l_e.cls), ((["Double"] : List Str).contains l_e.cls), ((["NoKind"] : List Str).contains l_e.cls)]).length ≤ sizeLine) (Res.need ((["Double", "NoKind", "NoPair", "NoPlace", "NoRow", "NoStep", "NoUndo", "NotFormed", "Nothing", "Ring", "Same", "TooLong", "TooMany", "Twice", "Unlike"] : List Str).contains l_e.cls = true) (Res.need ((["Double", "NoKind", "NoPair", "NoPlace", "NoRow", "NoStep", "NoUndo", "NotFormed", "Nothing", "Ring", "Same", "TooLong", "TooMany", "Twice", "Unlike"] : List Str).contains l_e.cls = true) (Res.need ((["Double", "NoKind", "NoPair", "NoPlace", "NoRow", "NoStep", "NoUndo", "NotFormed", "Nothing", "Ring", "Same", "TooLong", "TooMany", "Twice", "Unlike"] : List Str).contains l_e.cls = true) (Res.need (((([((["NoRow"] : List Str).contains l_e.cls), ((["Twice"] : List Str).contains l_e.cls), ((["NoPair"] : List Str).contains l_e.cls), ((["Same"] : List Str).contains l_e.cls)] ++ [((["Ring"] : List Str).contains l_e.cls), ((["TooLong"] : List Str).contains l_e.cls), ((["NoStep"] : List Str).contains l_e.cls), ((["Unlike"] : List Str).contains l_e.cls)]) ++ [((["TooMany"] : List Str).contains l_e.cls), ((["NotFormed"] : List Str).contains l_e.cls), ((["Double"] : List Str).contains l_e.cls), ((["NoKind"] : List Str).contains l_e.cls)])).length + ([((["Nothing"] : List Str).contains l_e.cls), ((["NoPlace"] : List Str).contains l_e.cls), ((["NoUndo"] : List Str).contains l_e.cls)]).length ≤ sizeLine) ((mfM (fun i43 : Int => (Res.of (atI ((([((["NoRow"] : List Str).contains l_e.cls), ((["Twice"] : List Str).contains l_e.cls), ((["NoPair"] : List Str).contains l_e.cls), ((["Same"] : List Str).contains l_e.cls)] ++ [((["Ring"] : List Str).contains l_e.cls), ((["TooLong"] : List Str).contains l_e.cls), ((["NoStep"] : List Str).contains l_e.cls), ((["Unlike"] : List Str).contains l_e.cls)]) ++ [((["TooMany"] : List Str).contains l_e.cls), ((["NotFormed"] : List Str).contains l_e.cls), ((["Double"] : List Str).contains l_e.cls), ((["NoKind"] : List Str).contains l_e.cls)]) ++ [((["Nothing"] : List Str).contains l_e.cls), ((["NoPlace"] : List Str).contains l_e.cls), ((["NoUndo"] : List Str).contains l_e.cls)]) i43)).bind fun x44 => Res.ok x44) (fun i43 => Res.ok i43) (rangeI 0 15)).bind fun l46 => Res.need ((["Double", "NoKind", "NoPair", "NoPlace", "NoRow", "NoStep", "NoUndo", "NotFormed", "Nothing", "Ring", "Same", "TooLong", "TooMany", "Twice", "Unlike"] : List Str).contains l_e.cls = true) (Res.need (-(2 ^ 63) ≤ (b2i ((["Double", "NoKind", "NoPair", "NoPlace", "NoRow", "NoStep", "NoUndo", "NotFormed", "Nothing", "Ring", "Same", "TooLong", "TooMany", "Twice", "Unlike"] : List Str).contains l_e.cls)) ∧ (b2i ((["Double", "NoKind", "NoPair", "NoPlace", "NoRow", "NoStep", "NoUndo", "NotFormed", "Nothing", "Ring", "Same", "TooLong", "TooMany", "Twice", "Unlike"] : List Str).contains l_e.cls)) < 2 ^ 63 ∧ (([15] : List Int)).length * ((b2i ((["Double", "NoKind", "NoPair", "NoPlace", "NoRow", "NoStep", "NoUndo", "NotFormed", "Nothing", "Ring", "Same", "TooLong", "TooMany", "Twice", "Unlike"] : List Str).contains l_e.cls))).toNat ≤ sizeLine) (Res.need ((l46).length + ((List.replicate ((b2i ((["Double", "NoKind", "NoPair", "NoPlace", "NoRow", "NoStep", "NoUndo", "NotFormed", "Nothing", "Ring", "Same", "TooLong", "TooMany", "Twice", "Unlike"] : List Str).contains l_e.cls))).toNat ([15] : List Int)).flatten).length ≤ sizeLine) (Res.ok (l46 ++ (List.replicate ((b2i ((["Double", "NoKind", "NoPair", "NoPlace", "NoRow", "NoStep", "NoUndo", "NotFormed", "Nothing", "Ring", "Same", "TooLong", "TooMany", "Twice", "Unlike"] : List Str).contains l_e.cls))).toNat ([15] : List Int)).flatten))))))))))))))))))))))
abbrev args_l_classes (CT : Addr) (EM : MG) : Err → AR := fun d => (aC (rEv EM) d aN)
abbrev sp_l_classes (CT : Addr) (EM : MG) : Sp := SpA (args_l_classes CT EM) (kL rInt) (fun d => m_l_classes d)
theorem body_l_classes {X : Cx} {CT : Addr} {EM : MG} (C : Cok X 0) (VS : Scp X N_l_classes (defScope st_l_classes)) (fn : ∀ x, X.fn x = true) (T : Blt X.mg) (TE : X.mg = EM) (IB : IsB X.K) (I_NoRow : IsAll X.K X.mg (["Double", "NoKind", "NoPair", "NoPlace", "NoRow", "NoStep", "NoUndo", "NotFormed", "Nothing", "Ring", "Same", "TooLong", "TooMany", "Twice", "Unlike"] : List Str) "NoRow" (["NoRow"] : List Str)) (I_Twice : IsAll X.K X.mg (["Double", "NoKind", "NoPair", "NoPlace", "NoRow", "NoStep", "NoUndo", "NotFormed", "Nothing", "Ring", "Same", "TooLong", "TooMany", "Twice", "Unlike"] : List Str) "Twice" (["Twice"] : List Str)) (I_NoPair : IsAll X.K X.mg (["Double", "NoKind", "NoPair", "NoPlace", "NoRow", "NoStep", "NoUndo", "NotFormed", "Nothing", "Ring", "Same", "TooLong", "TooMany", "Twice", "Unlike"] : List Str) "NoPair" (["NoPair"] : List Str)) (I_Same : IsAll X.K X.mg (["Double", "NoKind", "NoPair", "NoPlace", "NoRow", "NoStep", "NoUndo", "NotFormed", "Nothing", "Ring", "Same", "TooLong", "TooMany", "Twice", "Unlike"] : List Str) "Same" (["Same"] : List Str)) (I_Ring : IsAll X.K X.mg (["Double", "NoKind", "NoPair", "NoPlace", "NoRow", "NoStep", "NoUndo", "NotFormed", "Nothing", "Ring", "Same", "TooLong", "TooMany", "Twice", "Unlike"] : List Str) "Ring" (["Ring"] : List Str)) (I_TooLong : IsAll X.K X.mg (["Double", "NoKind", "NoPair", "NoPlace", "NoRow", "NoStep", "NoUndo", "NotFormed", "Nothing", "Ring", "Same", "TooLong", "TooMany", "Twice", "Unlike"] : List Str) "TooLong" (["TooLong"] : List Str)) (I_NoStep : IsAll X.K X.mg (["Double", "NoKind", "NoPair", "NoPlace", "NoRow", "NoStep", "NoUndo", "NotFormed", "Nothing", "Ring", "Same", "TooLong", "TooMany", "Twice", "Unlike"] : List Str) "NoStep" (["NoStep"] : List Str)) (I_Unlike : IsAll X.K X.mg (["Double", "NoKind", "NoPair", "NoPlace", "NoRow", "NoStep", "NoUndo", "NotFormed", "Nothing", "Ring", "Same", "TooLong", "TooMany", "Twice", "Unlike"] : List Str) "Unlike" (["Unlike"] : List Str)) (I_TooMany : IsAll X.K X.mg (["Double", "NoKind", "NoPair", "NoPlace", "NoRow", "NoStep", "NoUndo", "NotFormed", "Nothing", "Ring", "Same", "TooLong", "TooMany", "Twice", "Unlike"] : List Str) "TooMany" (["TooMany"] : List Str)) (I_NotFormed : IsAll X.K X.mg (["Double", "NoKind", "NoPair", "NoPlace", "NoRow", "NoStep", "NoUndo", "NotFormed", "Nothing", "Ring", "Same", "TooLong", "TooMany", "Twice", "Unlike"] : List Str) "NotFormed" (["NotFormed"] : List Str)) (I_Double : IsAll X.K X.mg (["Double", "NoKind", "NoPair", "NoPlace", "NoRow", "NoStep", "NoUndo", "NotFormed", "Nothing", "Ring", "Same", "TooLong", "TooMany", "Twice", "Unlike"] : List Str) "Double" (["Double"] : List Str)) (I_NoKind : IsAll X.K X.mg (["Double", "NoKind", "NoPair", "NoPlace", "NoRow", "NoStep", "NoUndo", "NotFormed", "Nothing", "Ring", "Same", "TooLong", "TooMany", "Twice", "Unlike"] : List Str) "NoKind" (["NoKind"] : List Str)) (I_Nothing : IsAll X.K X.mg (["Double", "NoKind", "NoPair", "NoPlace", "NoRow", "NoStep", "NoUndo", "NotFormed", "Nothing", "Ring", "Same", "TooLong", "TooMany", "Twice", "Unlike"] : List Str) "Nothing" (["Nothing"] : List Str)) (I_NoPlace : IsAll X.K X.mg (["Double", "NoKind", "NoPair", "NoPlace", "NoRow", "NoStep", "NoUndo", "NotFormed", "Nothing", "Ring", "Same", "TooLong", "TooMany", "Twice", "Unlike"] : List Str) "NoPlace" (["NoPlace"] : List Str)) (I_NoUndo : IsAll X.K X.mg (["Double", "NoKind", "NoPair", "NoPlace", "NoRow", "NoStep", "NoUndo", "NotFormed", "Nothing", "Ring", "Same", "TooLong", "TooMany", "Twice", "Unlike"] : List Str) "NoUndo" (["NoUndo"] : List Str)) (J_ValueError : IsAllB X.K X.mg (["Double", "NoKind", "NoPair", "NoPlace", "NoRow", "NoStep", "NoUndo", "NotFormed", "Nothing", "Ring", "Same", "TooLong", "TooMany", "Twice", "Unlike"] : List Str) "ValueError" "ValueError" (["Double", "NoKind", "NoPair", "NoPlace", "NoRow", "NoStep", "NoUndo", "NotFormed", "Nothing", "Ring", "Same", "TooLong", "TooMany", "Twice", "Unlike"] : List Str)) : ∀ (B H : Hp) (vs : List V) (d : Err) (Q : VK), Sx B H → Tx H B → (args_l_classes CT EM d).r vs B H → Fin ((kL rInt) ⟨B, H⟩ Q) NoErr (m_l_classes d) →
    WSs X (defBody st_l_classes) { nx := fun _ H' => Q .non H', rt := Q } (start N_l_classes vs) H := by
  rintro B H vs l_e Q hb ht ⟨v1, _, rfl, r1_, rfl⟩ F
  subst TE
  have S0 := Stt.enter hb ht
  obtain ⟨h1, F⟩ := Fin.need F
  obtain ⟨h2, F⟩ := Fin.need F
  obtain ⟨h3, F⟩ := Fin.need F
  obtain ⟨h4, F⟩ := Fin.need F
  refine s_asg C (VS.slot tb_l_classes fn 1 1) S0 ((el_lst (R := rBool) (ea_cons ((ev_isV IB (VS.gl tb_l_classes 2) T.isinstance (VS.gl tb_l_classes 3) (ev_v (VS.var tb_l_classes 0 0) rfl (Rel.mono _ S0.h0.ex r1_)) (I_NoRow _ h1))).toE (ea_cons ((ev_isV IB (VS.gl tb_l_classes 2) T.isinstance (VS.gl tb_l_classes 4) (ev_v (VS.var tb_l_classes 0 0) rfl (Rel.mono _ S0.h0.ex r1_)) (I_Twice _ h2))).toE (ea_cons ((ev_isV IB (VS.gl tb_l_classes 2) T.isinstance (VS.gl tb_l_classes 5) (ev_v (VS.var tb_l_classes 0 0) rfl (Rel.mono _ S0.h0.ex r1_)) (I_NoPair _ h3))).toE (ea_cons ((ev_isV IB (VS.gl tb_l_classes 2) T.isinstance (VS.gl tb_l_classes 6) (ev_v (VS.var tb_l_classes 0 0) rfl (Rel.mono _ S0.h0.ex r1_)) (I_Same _ h4))).toE ea_nil)))))).toE (fun v9 B5 H6 S7 e8 r10 => ?_)
  obtain ⟨h11, F⟩ := Fin.need F
  obtain ⟨h12, F⟩ := Fin.need F
  obtain ⟨h13, F⟩ := Fin.need F
  obtain ⟨h14, F⟩ := Fin.need F
  obtain ⟨h15, F⟩ := Fin.need F
  refine s_asg C (VS.slot tb_l_classes fn 1 1) S7 ((el_cat ((ee_v (VS.var tb_l_classes 1 1) rfl r10)).toB ((el_lst (R := rBool) (ea_cons ((ev_isV IB (VS.gl tb_l_classes 2) T.isinstance (VS.gl tb_l_classes 7) (ev_v (VS.var tb_l_classes 0 0) rfl (Rel.mono _ S7.h0.ex r1_)) (I_Ring _ h11))).toE (ea_cons ((ev_isV IB (VS.gl tb_l_classes 2) T.isinstance (VS.gl tb_l_classes 8) (ev_v (VS.var tb_l_classes 0 0) rfl (Rel.mono _ S7.h0.ex r1_)) (I_TooLong _ h12))).toE (ea_cons ((ev_isV IB (VS.gl tb_l_classes 2) T.isinstance (VS.gl tb_l_classes 9) (ev_v (VS.var tb_l_classes 0 0) rfl (Rel.mono _ S7.h0.ex r1_)) (I_NoStep _ h13))).toE (ea_cons ((ev_isV IB (VS.gl tb_l_classes 2) T.isinstance (VS.gl tb_l_classes 10) (ev_v (VS.var tb_l_classes 0 0) rfl (Rel.mono _ S7.h0.ex r1_)) (I_Unlike _ h14))).toE ea_nil)))))).toB h15)).toE (fun v20 B16 H17 S18 e19 r21 => ?_)
  obtain ⟨h22, F⟩ := Fin.need F
  obtain ⟨h23, F⟩ := Fin.need F
  obtain ⟨h24, F⟩ := Fin.need F
  obtain ⟨h25, F⟩ := Fin.need F
  obtain ⟨h26, F⟩ := Fin.need F
  refine s_asg C (VS.slot tb_l_classes fn 1 1) S18 ((el_cat ((ee_v (VS.var tb_l_classes 1 1) rfl r21)).toB ((el_lst (R := rBool) (ea_cons ((ev_isV IB (VS.gl tb_l_classes 2) T.isinstance (VS.gl tb_l_classes 11) (ev_v (VS.var tb_l_classes 0 0) rfl (Rel.mono _ S18.h0.ex r1_)) (I_TooMany _ h22))).toE (ea_cons ((ev_isV IB (VS.gl tb_l_classes 2) T.isinstance (VS.gl tb_l_classes 12) (ev_v (VS.var tb_l_classes 0 0) rfl (Rel.mono _ S18.h0.ex r1_)) (I_NotFormed _ h23))).toE (ea_cons ((ev_isV IB (VS.gl tb_l_classes 2) T.isinstance (VS.gl tb_l_classes 13) (ev_v (VS.var tb_l_classes 0 0) rfl (Rel.mono _ S18.h0.ex r1_)) (I_Double _ h24))).toE (ea_cons ((ev_isV IB (VS.gl tb_l_classes 2) T.isinstance (VS.gl tb_l_classes 14) (ev_v (VS.var tb_l_classes 0 0) rfl (Rel.mono _ S18.h0.ex r1_)) (I_NoKind _ h25))).toE ea_nil)))))).toB h26)).toE (fun v31 B27 H28 S29 e30 r32 => ?_)
  obtain ⟨h33, F⟩ := Fin.need F
  obtain ⟨h34, F⟩ := Fin.need F
  obtain ⟨h35, F⟩ := Fin.need F
  obtain ⟨h36, F⟩ := Fin.need F
  refine s_asg C (VS.slot tb_l_classes fn 1 1) S29 ((el_cat ((ee_v (VS.var tb_l_classes 1 1) rfl r32)).toB ((el_lst (R := rBool) (ea_cons ((ev_isV IB (VS.gl tb_l_classes 2) T.isinstance (VS.gl tb_l_classes 15) (ev_v (VS.var tb_l_classes 0 0) rfl (Rel.mono _ S29.h0.ex r1_)) (I_Nothing _ h33))).toE (ea_cons ((ev_isV IB (VS.gl tb_l_classes 2) T.isinstance (VS.gl tb_l_classes 16) (ev_v (VS.var tb_l_classes 0 0) rfl (Rel.mono _ S29.h0.ex r1_)) (I_NoPlace _ h34))).toE (ea_cons ((ev_isV IB (VS.gl tb_l_classes 2) T.isinstance (VS.gl tb_l_classes 17) (ev_v (VS.var tb_l_classes 0 0) rfl (Rel.mono _ S29.h0.ex r1_)) (I_NoUndo _ h35))).toE ea_nil))))).toB h36)).toE (fun v41 B37 H38 S39 e40 r42 => ?_)
  obtain ⟨l46, h47, F⟩ := Fin.get F
  obtain ⟨h48, F⟩ := Fin.need F
  obtain ⟨h49, F⟩ := Fin.need F
  obtain ⟨h50, F⟩ := Fin.need F
  exact s_retL S39 (el_cat ((el_lc (S := rInt) C (VS.blk bk_l_classes_c1) (ei_r1 (VS.gl tb_l_classes 18) T.range ev_i ⟨by decide, by decide⟩) (fun _ _ => trivial) (fun Xb hX => tg_name (R := rInt) (hX.cok C) (hX.slot VS tb_l_classes_c1 2 0)) h47
                                                            (fun Xb i43 σ2 acc Dd Bc1 Hc1 b hX1 S1001 ec1 tg hb => by
                                                                obtain ⟨v1001, rfl, rfl⟩ := tg
                                                                have T1 : Blt Xb.mg := by rw [hX1.mg]; exact T
                                                                obtain ⟨x44, h45, hb⟩ := Res.of_ok hb
                                                                have hb := Res.ok_inj hb
                                                                subst hb
                                                                exact ets_one (et_val (ev_ixL ((ee_v ((hX1.scp VS).var tb_l_classes_c1 1 1) rfl (Rel.mono _ ec1 r42))).toB (ev_v ((hX1.scp VS).var tb_l_classes_c1 2 0) rfl rfl) h45))
                                                            )
                                                            (fun Xb i43 y σ2 acc Dd Bc1 Hc1 hX1 S1001 ec1 tg hb hf => by
                                                                obtain ⟨v1001, rfl, rfl⟩ := tg
                                                                have T1 : Blt Xb.mg := by rw [hX1.mg]; exact T
                                                                have hf := Res.ok_inj hf
                                                                subst hf
                                                                exact ((ev_v ((hX1.scp VS).var tb_l_classes_c1 2 0) rfl rfl)).toE
                                                            ) (fun x B3 σ2 h => by obtain ⟨v, _, rfl⟩ := h; rfl) (fun x B3 B4 σ2 ⟨v, r, q⟩ e => ⟨v, Rel.mono _ e r, q⟩))).toB ((el_repK (el_lst (R := rInt) (ea_cons (ev_i).toE ea_nil)) (ev_intB (VS.gl tb_l_classes 19) T.int (ev_isVB IB (VS.gl tb_l_classes 2) T.isinstance (VS.gl tb_l_classes 20) J_ValueError.1 (by decide +kernel) (ev_v (VS.var tb_l_classes 0 0) rfl (Rel.mono _ S39.h0.ex r1_)) (J_ValueError.2 _ h48))) h49)).toB h50) F
/-! l_whole -/
abbrev st_l_whole : Stmt := topS 19
abbrev N_l_whole : List Str := ["_law_found"]
theorem tb_l_whole : nmOk (defScope st_l_whole) [("_law_found", .local), ("isinstance", .globalImplicit), ("int", .globalImplicit), ("bool", .globalImplicit)] = true := by decide +kernel
theorem sc_l_whole : FnScope N_l_whole ["_law_found"] (defScope st_l_whole) := ⟨rfl, rfl, rfl, by decide +kernel, rfl, by decide +kernel, by decide +kernel⟩
def m_l_whole (l_found : Int) : Res Bool := Res.ok (true && (!false))
abbrev args_l_whole (CT : Addr) (EM : MG) : Int → AR := fun d => (aC rInt d aN)
abbrev sp_l_whole (CT : Addr) (EM : MG) : Sp := SpA (args_l_whole CT EM) (kE rBool) (fun d => m_l_whole d)
theorem body_l_whole {X : Cx} {CT : Addr} {EM : MG} (C : Cok X 0) (VS : Scp X N_l_whole (defScope st_l_whole)) (fn : ∀ x, X.fn x = true) (T : Blt X.mg) (TE : X.mg = EM)  : ∀ (B H : Hp) (vs : List V) (d : Int) (Q : VK), Sx B H → Tx H B → (args_l_whole CT EM d).r vs B H → Fin ((kE rBool) ⟨B, H⟩ Q) NoErr (m_l_whole d) →
    WSs X (defBody st_l_whole) { nx := fun _ H' => Q .non H', rt := Q } (start N_l_whole vs) H := by
  rintro B H vs l_found Q hb ht ⟨_, _, rfl, rfl, rfl⟩ F
  subst TE
  have S0 := Stt.enter hb ht
  exact s_retE S0 ((ev_and' (ev_isi (R := rInt) (cn := "int") (z := true) (VS.gl tb_l_whole 1) T.isinstance (VS.gl tb_l_whole 2) T.int (by decide +kernel) (ev_v (VS.var tb_l_whole 0 0) rfl rfl) (by decide +kernel)) fun _ => (ev_one (ev_not (ev_isi (R := rInt) (cn := "bool") (z := false) (VS.gl tb_l_whole 1) T.isinstance (VS.gl tb_l_whole 3) T.bool (by decide +kernel) (ev_v (VS.var tb_l_whole 0 0) rfl rfl) (by decide +kernel)))))).toE F
/-! l_right -/
abbrev st_l_right : Stmt := topS 22
abbrev N_l_right : List Str := ["_law_some", "_law_one", "_law_other", "_law_signs", "_law_k", "_law_fields", "_law_due", "_law_field"]
theorem tb_l_right : nmOk (defScope st_l_right) [("_law_some", .local), ("_law_one", .local), ("_law_other", .local), ("_law_signs", .local), ("_law_k", .local), ("_law_fields", .local), ("_law_due", .local), ("range", .globalImplicit), ("isinstance", .globalImplicit), ("FormError", .globalImplicit), ("_law_classes", .globalImplicit), ("all", .globalImplicit), ("list", .globalImplicit)] = true := by decide +kernel
theorem sc_l_right : FnScope N_l_right ["_law_some", "_law_one", "_law_other", "_law_signs"] (defScope st_l_right) := ⟨rfl, rfl, rfl, by decide +kernel, rfl, by decide +kernel, by decide +kernel⟩
abbrev csc_l_right_c1 : Scope := { kind := .function, names := [(".0", .local), ("_law_field", .local), ("_law_whole", .globalImplicit)], isGenerator := false, isCoroutine := false, more := [] }
theorem tb_l_right_c1 : nmOk (relS csc_l_right_c1 (defScope st_l_right)) [("_law_field", .local), ("_law_whole", .globalImplicit)] = true := by decide +kernel
theorem bk_l_right_c1 : blkC N_l_right (defScope st_l_right) csc_l_right_c1 [("_law_field", 7)] = true := by decide +kernel
def m_l_right (l_some : (List Err)) (l_one : Int) (l_other : Int) (l_signs : (List Int)) : Res Bool := (forR (fun (a23 : Unit) (x24 : Int) => ((Res.of (atI l_some x24)).bind fun x40 => Res.need ((["Double", "NoKind", "NoPair", "NoPlace", "NoRow", "NoStep", "NoUndo", "NotFormed", "Nothing", "Ring", "Same", "TooLong", "TooMany", "Twice", "Unlike"] : List Str).contains x40.cls = true) ((if (!((["Double", "NoKind", "NoPair", "NoPlace", "NoRow", "NoStep", "NoUndo", "NotFormed", "Nothing", "Ring", "Same", "TooLong", "TooMany", "Twice", "Unlike"] : List Str).contains x40.cls)) = true then Res.ok true else (Res.of (atI l_some x24)).bind fun x43 => (m_l_classes x43).bind fun r45 => Res.ok (!decide (r45 = [x24, 15]))).bind fun b47 => if b47 = true then Res.ok (Sum.inl false) else Res.ok (Sum.inr ())) : Res (Bool ⊕ Unit))) (rangeI 0 15) ()).bind (sel (fun r => Res.ok r) (fun (a36 : Unit) => (Res.of (atI l_some 0)).bind fun x59 => Res.need ((["Double", "NoKind", "NoPair", "NoPlace", "NoRow", "NoStep", "NoUndo", "NotFormed", "Nothing", "Ring", "Same", "TooLong", "TooMany", "Twice", "Unlike"] : List Str).contains x59.cls = true) ((Res.of (fldI x59 "at")).bind fun x62 => (Res.of (atI l_some 1)).bind fun x64 => Res.need ((["Double", "NoKind", "NoPair", "NoPlace", "NoRow", "NoStep", "NoUndo", "NotFormed", "Nothing", "Ring", "Same", "TooLong", "TooMany", "Twice", "Unlike"] : List Str).contains x64.cls = true) ((Res.of (fldI x64 "sign")).bind fun x67 => (Res.of (atI l_some 2)).bind fun x69 => Res.need ((["Double", "NoKind", "NoPair", "NoPlace", "NoRow", "NoStep", "NoUndo", "NotFormed", "Nothing", "Ring", "Same", "TooLong", "TooMany", "Twice", "Unlike"] : List Str).contains x69.cls = true) ((Res.of (fldI x69 "sign")).bind fun x72 => (Res.of (atI l_some 3)).bind fun x74 => Res.need ((["Double", "NoKind", "NoPair", "NoPlace", "NoRow", "NoStep", "NoUndo", "NotFormed", "Nothing", "Ring", "Same", "TooLong", "TooMany", "Twice", "Unlike"] : List Str).contains x74.cls = true) ((Res.of (fldI x74 "one")).bind fun x77 => (Res.of (atI l_some 3)).bind fun x85 => Res.need ((["Double", "NoKind", "NoPair", "NoPlace", "NoRow", "NoStep", "NoUndo", "NotFormed", "Nothing", "Ring", "Same", "TooLong", "TooMany", "Twice", "Unlike"] : List Str).contains x85.cls = true) ((Res.of (fldI x85 "other")).bind fun x88 => (Res.of (atI l_some 5)).bind fun x90 => Res.need ((["Double", "NoKind", "NoPair", "NoPlace", "NoRow", "NoStep", "NoUndo", "NotFormed", "Nothing", "Ring", "Same", "TooLong", "TooMany", "Twice", "Unlike"] : List Str).contains x90.cls = true) ((Res.of (fldI x90 "sign")).bind fun x93 => (Res.of (atI l_some 7)).bind fun x95 => Res.need ((["Double", "NoKind", "NoPair", "NoPlace", "NoRow", "NoStep", "NoUndo", "NotFormed", "Nothing", "Ring", "Same", "TooLong", "TooMany", "Twice", "Unlike"] : List Str).contains x95.cls = true) ((Res.of (fldI x95 "at")).bind fun x98 => Res.need (([x62, x67, x72, x77]).length + ([x88, x93, x98]).length ≤ sizeLine) ((Res.of (atI l_some 9)).bind fun x107 => Res.need ((["Double", "NoKind", "NoPair", "NoPlace", "NoRow", "NoStep", "NoUndo", "NotFormed", "Nothing", "Ring", "Same", "TooLong", "TooMany", "Twice", "Unlike"] : List Str).contains x107.cls = true) ((Res.of (fldI x107 "which")).bind fun x110 => (Res.of (atI l_some 10)).bind fun x112 => Res.need ((["Double", "NoKind", "NoPair", "NoPlace", "NoRow", "NoStep", "NoUndo", "NotFormed", "Nothing", "Ring", "Same", "TooLong", "TooMany", "Twice", "Unlike"] : List Str).contains x112.cls = true) ((Res.of (fldI x112 "at")).bind fun x115 => (Res.of (atI l_some 11)).bind fun x117 => Res.need ((["Double", "NoKind", "NoPair", "NoPlace", "NoRow", "NoStep", "NoUndo", "NotFormed", "Nothing", "Ring", "Same", "TooLong", "TooMany", "Twice", "Unlike"] : List Str).contains x117.cls = true) ((Res.of (fldI x117 "at")).bind fun x120 => Res.need ((([x62, x67, x72, x77] ++ [x88, x93, x98])).length + ([x110, x115, x120]).length ≤ sizeLine) ((mfM (fun i129 : Int => Res.ok true) (fun i129 => (m_l_whole i129).bind fun r130 => Res.ok r130) (([x62, x67, x72, x77] ++ [x88, x93, x98]) ++ [x110, x115, x120])).bind fun l132 => (if (!((l132).all id)) = true then Res.ok true else (Res.of (atI l_some 4)).bind fun x134 => Res.need ((["Double", "NoKind", "NoPair", "NoPlace", "NoRow", "NoStep", "NoUndo", "NotFormed", "Nothing", "Ring", "Same", "TooLong", "TooMany", "Twice", "Unlike"] : List Str).contains x134.cls = true) ((Res.of (fldL x134 "signs")).bind fun x137 => Res.ok (!true))).bind fun b139 => if b139 = true then Res.ok false else Res.need (([l_one, l_other, l_one, l_one, l_other, l_other, l_one]).length + ([l_other, l_one, l_other]).length ≤ sizeLine) ((if (decide ((([x62, x67, x72, x77] ++ [x88, x93, x98]) ++ [x110, x115, x120]) = ([l_one, l_other, l_one, l_one, l_other, l_other, l_one] ++ [l_other, l_one, l_other]))) = true then (Res.of (atI l_some 4)).bind fun x164 => Res.need ((["Double", "NoKind", "NoPair", "NoPlace", "NoRow", "NoStep", "NoUndo", "NotFormed", "Nothing", "Ring", "Same", "TooLong", "TooMany", "Twice", "Unlike"] : List Str).contains x164.cls = true) ((Res.of (fldL x164 "signs")).bind fun x167 => Res.ok (decide (x167 = l_signs))) else Res.ok false).bind fun b169 => Res.ok b169)))))))))))))))
abbrev args_l_right (CT : Addr) (EM : MG) : (List Err) × Int × Int × (List Int) → AR := fun d => (aC (rLst (rEv EM)) d.1 (aC rInt d.2.1 (aC rInt d.2.2.1 (aC (rLst rInt) d.2.2.2 aN))))
abbrev sp_l_right (CT : Addr) (EM : MG) : Sp := SpA (args_l_right CT EM) (kE rBool) (fun d => m_l_right d.1 d.2.1 d.2.2.1 d.2.2.2)
theorem body_l_right {X : Cx} {CT : Addr} {EM : MG} (C : Cok X 1) (VS : Scp X N_l_right (defScope st_l_right)) (fn : ∀ x, X.fn x = true) (T : Blt X.mg) (TE : X.mg = EM) (G_l_classes : Cal X 1 "_law_classes" ["_law_e"] (sp_l_classes CT EM)) (G_l_whole : Cal X 1 "_law_whole" ["_law_found"] (sp_l_whole CT EM)) (IB : IsB X.K) (I_FormError : IsAll X.K X.mg (["Double", "NoKind", "NoPair", "NoPlace", "NoRow", "NoStep", "NoUndo", "NotFormed", "Nothing", "Ring", "Same", "TooLong", "TooMany", "Twice", "Unlike"] : List Str) "FormError" (["Double", "NoKind", "NoPair", "NoPlace", "NoRow", "NoStep", "NoUndo", "NotFormed", "Nothing", "Ring", "Same", "TooLong", "TooMany", "Twice", "Unlike"] : List Str)) (NF_at : NoFld X.K X.mg (["Double", "NoKind", "NoPair", "NoPlace", "NoRow", "NoStep", "NoUndo", "NotFormed", "Nothing", "Ring", "Same", "TooLong", "TooMany", "Twice", "Unlike"] : List Str) "at") (NF_sign : NoFld X.K X.mg (["Double", "NoKind", "NoPair", "NoPlace", "NoRow", "NoStep", "NoUndo", "NotFormed", "Nothing", "Ring", "Same", "TooLong", "TooMany", "Twice", "Unlike"] : List Str) "sign") (NF_one : NoFld X.K X.mg (["Double", "NoKind", "NoPair", "NoPlace", "NoRow", "NoStep", "NoUndo", "NotFormed", "Nothing", "Ring", "Same", "TooLong", "TooMany", "Twice", "Unlike"] : List Str) "one") (NF_other : NoFld X.K X.mg (["Double", "NoKind", "NoPair", "NoPlace", "NoRow", "NoStep", "NoUndo", "NotFormed", "Nothing", "Ring", "Same", "TooLong", "TooMany", "Twice", "Unlike"] : List Str) "other") (NF_which : NoFld X.K X.mg (["Double", "NoKind", "NoPair", "NoPlace", "NoRow", "NoStep", "NoUndo", "NotFormed", "Nothing", "Ring", "Same", "TooLong", "TooMany", "Twice", "Unlike"] : List Str) "which") (NF_signs : NoFld X.K X.mg (["Double", "NoKind", "NoPair", "NoPlace", "NoRow", "NoStep", "NoUndo", "NotFormed", "Nothing", "Ring", "Same", "TooLong", "TooMany", "Twice", "Unlike"] : List Str) "signs") : ∀ (B H : Hp) (vs : List V) (d : (List Err) × Int × Int × (List Int)) (Q : VK), Sx B H → Tx H B → (args_l_right CT EM d).r vs B H → Fin ((kE rBool) ⟨B, H⟩ Q) NoErr (m_l_right d.1 d.2.1 d.2.2.1 d.2.2.2) →
    WSs X (defBody st_l_right) { nx := fun _ H' => Q .non H', rt := Q } (start N_l_right vs) H := by
  rintro B H vs ⟨l_some, l_one, l_other, l_signs⟩ Q hb ht ⟨v1, _, rfl, r1_, ⟨_, _, rfl, rfl, ⟨_, _, rfl, rfl, ⟨v4, _, rfl, r4_, rfl⟩⟩⟩⟩ F
  subst TE
  have S0 := Stt.enter hb ht
  refine s_forR C (tg_name (R := rInt) C (VS.slot tb_l_right fn 4 4)) S0 (ei_r1 (VS.gl tb_l_right 7) T.range ev_i ⟨by decide, by decide⟩) F (fun (a : Unit) σ' own' B' => ∃ (j22_4 : Option V), σ' = [some v1, some (.int l_one), some (.int l_other), some v4, j22_4, none, none, none] ∧ own' = [])
      (fun Bz e => ⟨_, rfl, rfl⟩) (fun _ _ _ _ _ => trivial) (fun _ _ _ _ _ h e => by obtain ⟨w0, h1, h2⟩ := h; exact ⟨w0, h1, h2⟩) (fun a23 x24 _ _ _ B25 H26 Q30 iv29 S27 e28 tg F => ?_) (fun a36 _ _ B31 H32 iv35 S33 e34 F => ?_)
  · obtain ⟨j22_4i, rfl, rfl⟩ := iv29
    obtain ⟨v38, rfl, rfl⟩ := tg
    obtain ⟨x40, h41, F⟩ := Fin.of F
    obtain ⟨h42, F⟩ := Fin.need F
    obtain ⟨b47, h48, F⟩ := Fin.get F
    refine s_if S27 ((ew_or (et_not (et_val (ev_isV IB (VS.gl tb_l_right 8) T.isinstance (VS.gl tb_l_right 9) (ev_ixL (ev_v (VS.var tb_l_right 0 0) rfl (Rel.mono _ S27.h0.ex r1_)) (ev_v (VS.var tb_l_right 4 4) rfl rfl) h41) (I_FormError _ h42)))) (fun hz => by
                                                                have q49 := Res.ff_ok h48 hz
                                                                obtain ⟨x43, h44, q49⟩ := Res.of_ok q49
                                                                obtain ⟨r45, h46, q49⟩ := Res.bind_ok q49
                                                                have q49 := Res.ok_inj q49
                                                                rw [← q49]
                                                                exact (ew_or1 ((c_neD (R := (rLst rInt)) C.hu64).et ((el_call C G_l_classes (by decide) (VS.gl tb_l_right 10) (d := (x43)) (as_cons (ev_ixL (ev_v (VS.var tb_l_right 0 0) rfl (Rel.mono _ S27.h0.ex r1_)) (ev_v (VS.var tb_l_right 4 4) rfl rfl) h44) as_nil) h46)).toB ((el_lst (R := rInt) (ea_cons ((ev_v (VS.var tb_l_right 4 4) rfl rfl)).toE (ea_cons (ev_i).toE ea_nil)))).toB))
                                                            ) (fun hz => (Res.ok_inj (Res.tt_ok h48 hz)).symm))).t (fun z50 B51 H52 S53 e54 => ?_) (fun z50 B55 H56 S57 e58 => ?_)
    · replace F := Fin.tt F z50
      exact s_retE S53 (ev_bl).toE F
    · replace F := Fin.ff F z50
      refine WSs.nil ?_
      exact WSs.nil ⟨(), _, _, F, S57, e58, ⟨_, rfl, rfl⟩⟩
  · obtain ⟨j22_4, rfl, rfl⟩ := iv35
    obtain ⟨x59, h60, F⟩ := Fin.of F
    obtain ⟨h61, F⟩ := Fin.need F
    obtain ⟨x62, h63, F⟩ := Fin.of F
    obtain ⟨x64, h65, F⟩ := Fin.of F
    obtain ⟨h66, F⟩ := Fin.need F
    obtain ⟨x67, h68, F⟩ := Fin.of F
    obtain ⟨x69, h70, F⟩ := Fin.of F
    obtain ⟨h71, F⟩ := Fin.need F
    obtain ⟨x72, h73, F⟩ := Fin.of F
    obtain ⟨x74, h75, F⟩ := Fin.of F
    obtain ⟨h76, F⟩ := Fin.need F
    obtain ⟨x77, h78, F⟩ := Fin.of F
    refine s_asg C (VS.slot tb_l_right fn 5 5) S33 ((el_lst (R := rInt) (ea_cons ((ev_fV (ev_ixL (ev_v (VS.var tb_l_right 0 0) rfl (Rel.mono _ S33.h0.ex r1_)) ev_i h60) h61 NF_at h63)).toE (ea_cons ((ev_fV (ev_ixL (ev_v (VS.var tb_l_right 0 0) rfl (Rel.mono _ S33.h0.ex r1_)) ev_i h65) h66 NF_sign h68)).toE (ea_cons ((ev_fV (ev_ixL (ev_v (VS.var tb_l_right 0 0) rfl (Rel.mono _ S33.h0.ex r1_)) ev_i h70) h71 NF_sign h73)).toE (ea_cons ((ev_fV (ev_ixL (ev_v (VS.var tb_l_right 0 0) rfl (Rel.mono _ S33.h0.ex r1_)) ev_i h75) h76 NF_one h78)).toE ea_nil)))))).toE (fun v83 B79 H80 S81 e82 r84 => ?_)
    obtain ⟨x85, h86, F⟩ := Fin.of F
    obtain ⟨h87, F⟩ := Fin.need F
    obtain ⟨x88, h89, F⟩ := Fin.of F
    obtain ⟨x90, h91, F⟩ := Fin.of F
    obtain ⟨h92, F⟩ := Fin.need F
    obtain ⟨x93, h94, F⟩ := Fin.of F
    obtain ⟨x95, h96, F⟩ := Fin.of F
    obtain ⟨h97, F⟩ := Fin.need F
    obtain ⟨x98, h99, F⟩ := Fin.of F
    obtain ⟨h100, F⟩ := Fin.need F
    refine s_asg C (VS.slot tb_l_right fn 5 5) S81 ((el_cat ((ee_v (VS.var tb_l_right 5 5) rfl r84)).toB ((el_lst (R := rInt) (ea_cons ((ev_fV (ev_ixL (ev_v (VS.var tb_l_right 0 0) rfl (Rel.mono _ S81.h0.ex r1_)) ev_i h86) h87 NF_other h89)).toE (ea_cons ((ev_fV (ev_ixL (ev_v (VS.var tb_l_right 0 0) rfl (Rel.mono _ S81.h0.ex r1_)) ev_i h91) h92 NF_sign h94)).toE (ea_cons ((ev_fV (ev_ixL (ev_v (VS.var tb_l_right 0 0) rfl (Rel.mono _ S81.h0.ex r1_)) ev_i h96) h97 NF_at h99)).toE ea_nil))))).toB h100)).toE (fun v105 B101 H102 S103 e104 r106 => ?_)
    obtain ⟨x107, h108, F⟩ := Fin.of F
    obtain ⟨h109, F⟩ := Fin.need F
    obtain ⟨x110, h111, F⟩ := Fin.of F
    obtain ⟨x112, h113, F⟩ := Fin.of F
    obtain ⟨h114, F⟩ := Fin.need F
    obtain ⟨x115, h116, F⟩ := Fin.of F
    obtain ⟨x117, h118, F⟩ := Fin.of F
    obtain ⟨h119, F⟩ := Fin.need F
    obtain ⟨x120, h121, F⟩ := Fin.of F
    obtain ⟨h122, F⟩ := Fin.need F
    refine s_asg C (VS.slot tb_l_right fn 5 5) S103 ((el_cat ((ee_v (VS.var tb_l_right 5 5) rfl r106)).toB ((el_lst (R := rInt) (ea_cons ((ev_fV (ev_ixL (ev_v (VS.var tb_l_right 0 0) rfl (Rel.mono _ S103.h0.ex r1_)) ev_i h108) h109 NF_which h111)).toE (ea_cons ((ev_fV (ev_ixL (ev_v (VS.var tb_l_right 0 0) rfl (Rel.mono _ S103.h0.ex r1_)) ev_i h113) h114 NF_at h116)).toE (ea_cons ((ev_fV (ev_ixL (ev_v (VS.var tb_l_right 0 0) rfl (Rel.mono _ S103.h0.ex r1_)) ev_i h118) h119 NF_at h121)).toE ea_nil))))).toB h122)).toE (fun v127 B123 H124 S125 e126 r128 => ?_)
    obtain ⟨l132, h133, F⟩ := Fin.get F
    obtain ⟨b139, h140, F⟩ := Fin.get F
    refine s_if S125 ((ew_or (et_not (et_val (ev_all C.calm (VS.gl tb_l_right 11) T.all ((el_lc (S := rBool) C (VS.blk bk_l_right_c1) (ei_E (ee_v (VS.var tb_l_right 5 5) rfl r128)) (fun _ _ => trivial) (fun Xb hX => tg_name (R := rInt) (hX.cok C) (hX.slot VS tb_l_right_c1 7 0)) h133
                                                            (fun Xb i129 σ2 acc Dd Bc1 Hc1 b hX1 S1001 ec1 tg hb => by
                                                                obtain ⟨v1001, rfl, rfl⟩ := tg
                                                                have T1 : Blt Xb.mg := by rw [hX1.mg]; exact T
                                                                have hb := Res.ok_inj hb
                                                                subst hb
                                                                exact ets_nil
                                                            )
                                                            (fun Xb i129 y σ2 acc Dd Bc1 Hc1 hX1 S1001 ec1 tg hb hf => by
                                                                obtain ⟨v1001, rfl, rfl⟩ := tg
                                                                have T1 : Blt Xb.mg := by rw [hX1.mg]; exact T
                                                                obtain ⟨r130, h131, hf⟩ := Res.bind_ok hf
                                                                have hf := Res.ok_inj hf
                                                                subst hf
                                                                exact (ee_call (hX1.cok C) (hX1.cal G_l_whole) (by decide) ((hX1.scp VS).gl tb_l_right_c1 1) (d := (i129)) (as_cons (ev_v ((hX1.scp VS).var tb_l_right_c1 7 0) rfl rfl) as_nil) h131)
                                                            ) (fun x B3 σ2 h => by obtain ⟨v, _, rfl⟩ := h; rfl) (fun x B3 B4 σ2 ⟨v, r, q⟩ e => ⟨v, Rel.mono _ e r, q⟩))).toB))) (fun hz => by
                                                                have q141 := Res.ff_ok h140 hz
                                                                obtain ⟨x134, h135, q141⟩ := Res.of_ok q141
                                                                obtain ⟨h136, q141⟩ := Res.need_ok q141
                                                                obtain ⟨x137, h138, q141⟩ := Res.of_ok q141
                                                                have q141 := Res.ok_inj q141
                                                                rw [← q141]
                                                                exact (ew_or1 (et_not (et_val (ev_isi (R := (rLst rInt)) (cn := "list") (z := true) (VS.gl tb_l_right 8) T.isinstance (VS.gl tb_l_right 12) T.list (by decide +kernel) (ev_fVL (ev_ixL (ev_v (VS.var tb_l_right 0 0) rfl (Rel.mono _ S125.h0.ex r1_)) ev_i h135) h136 NF_signs h138) (by decide +kernel)))))
                                                            ) (fun hz => (Res.ok_inj (Res.tt_ok h140 hz)).symm))).t (fun z142 B143 H144 S145 e146 => ?_) (fun z142 B147 H148 S149 e150 => ?_)
    · replace F := Fin.tt F z142
      exact s_retE S145 (ev_bl).toE F
    · replace F := Fin.ff F z142
      refine WSs.nil ?_
      refine s_asg C (VS.slot tb_l_right fn 6 6) S149 ((el_lst (R := rInt) (ea_cons ((ev_v (VS.var tb_l_right 1 1) rfl rfl)).toE (ea_cons ((ev_v (VS.var tb_l_right 2 2) rfl rfl)).toE (ea_cons ((ev_v (VS.var tb_l_right 1 1) rfl rfl)).toE (ea_cons ((ev_v (VS.var tb_l_right 1 1) rfl rfl)).toE (ea_cons ((ev_v (VS.var tb_l_right 2 2) rfl rfl)).toE (ea_cons ((ev_v (VS.var tb_l_right 2 2) rfl rfl)).toE (ea_cons ((ev_v (VS.var tb_l_right 1 1) rfl rfl)).toE ea_nil))))))))).toE (fun v155 B151 H152 S153 e154 r156 => ?_)
      obtain ⟨h157, F⟩ := Fin.need F
      refine s_asg C (VS.slot tb_l_right fn 6 6) S153 ((el_cat ((ee_v (VS.var tb_l_right 6 6) rfl r156)).toB ((el_lst (R := rInt) (ea_cons ((ev_v (VS.var tb_l_right 2 2) rfl rfl)).toE (ea_cons ((ev_v (VS.var tb_l_right 1 1) rfl rfl)).toE (ea_cons ((ev_v (VS.var tb_l_right 2 2) rfl rfl)).toE ea_nil))))).toB h157)).toE (fun v162 B158 H159 S160 e161 r163 => ?_)
      obtain ⟨b169, h170, F⟩ := Fin.get F
      exact s_retE S160 ((ev_and ((c_eqD (R := (rLst rInt)) C.hu64).ev ((ee_v (VS.var tb_l_right 5 5) rfl (Rel.mono _ ((e150.trans e154).trans e161) r128))).toB ((ee_v (VS.var tb_l_right 6 6) rfl r163)).toB) (fun hz => by
                                                                have q171 := Res.tt_ok h170 hz
                                                                obtain ⟨x164, h165, q171⟩ := Res.of_ok q171
                                                                obtain ⟨h166, q171⟩ := Res.need_ok q171
                                                                obtain ⟨x167, h168, q171⟩ := Res.of_ok q171
                                                                have q171 := Res.ok_inj q171
                                                                rw [← q171]
                                                                exact (ev_one ((c_eqD (R := (rLst rInt)) C.hu64).ev (ev_fVL (ev_ixL (ev_v (VS.var tb_l_right 0 0) rfl (Rel.mono _ S160.h0.ex r1_)) ev_i h165) h166 NF_signs h168) (ev_v (VS.var tb_l_right 3 3) rfl (Rel.mono _ S160.h0.ex r4_))))
                                                            ) (fun hz => (Res.ok_inj (Res.ff_ok h170 hz)).symm))).toE F
/-! law -/
abbrev st_law : Stmt := topS 23
abbrev N_law : List Str := ["_law_script", "_law_head", "_law_one", "_law_other", "_law_signs", "_law_handed", "_law_some", "_law_again", "_law_cell"]
theorem tb_law : nmOk (defScope st_law) [("_law_script", .local), ("_law_head", .local), ("_law_one", .local), ("_law_other", .local), ("_law_signs", .local), ("_law_handed", .local), ("_law_some", .local), ("_law_again", .local), ("_law_cell_at", .globalImplicit), ("list", .globalImplicit), ("_law_made", .globalImplicit), ("_law_right", .globalImplicit)] = true := by decide +kernel
theorem sc_law : FnScope N_law ["_law_script"] (defScope st_law) := ⟨rfl, rfl, rfl, by decide +kernel, rfl, by decide +kernel, by decide +kernel⟩
abbrev csc_law_c1 : Scope := { kind := .function, names := [(".0", .local), ("_law_cell", .local)], isGenerator := false, isCoroutine := false, more := [] }
theorem tb_law_c1 : nmOk (relS csc_law_c1 (defScope st_law)) [("_law_cell", .local)] = true := by decide +kernel
theorem bk_law_c1 : blkC N_law (defScope st_law) csc_law_c1 [("_law_cell", 8)] = true := by decide +kernel
def m_law (l_script : (List Int)) : Res Bool := (m_l_cell_at l_script 0).bind fun r1 => (m_l_cell_at l_script 1).bind fun r7 => (m_l_cell_at l_script 2).bind fun r13 => (m_l_made (r7 % (powI 10 60)) (r13 % 97) ((cut l_script (some 3) (some (3 + ((r1 / 2) % 21)))).map fun i19 => (i19 % (powI 10 60))) (r1 % 2)).bind fun r38 => Res.need ((((cut l_script (some 3) (some (3 + ((r1 / 2) % 21)))).map fun i19 => (i19 % (powI 10 60)))).length + (([7] : List Int)).length ≤ sizeLine) ((m_l_made (r13 % 97) (r7 % (powI 10 60)) (((cut l_script (some 3) (some (3 + ((r1 / 2) % 21)))).map fun i19 => (i19 % (powI 10 60))) ++ ([7] : List Int)) (1 - (r1 % 2))).bind fun r47 => if (!decide (((cut l_script (some 3) (some (3 + ((r1 / 2) % 21)))).map fun i19 => (i19 % (powI 10 60))) = ((cut l_script (some 3) (some (3 + ((r1 / 2) % 21)))).map fun i19 => (i19 % (powI 10 60))))) = true then Res.ok false else Res.need (((cut l_script (some 3) (some (3 + ((r1 / 2) % 21)))).map fun i19 => (i19 % (powI 10 60))).length < sizeLine) ((m_l_right r38 (r7 % (powI 10 60)) (r13 % 97) ((cut l_script (some 3) (some (3 + ((r1 / 2) % 21)))).map fun i19 => (i19 % (powI 10 60)))).bind fun r71 => (if (!r71) = true then Res.ok true else Res.need ((((cut l_script (some 3) (some (3 + ((r1 / 2) % 21)))).map fun i19 => (i19 % (powI 10 60)))).length + (([7] : List Int)).length ≤ sizeLine) ((m_l_right r47 (r13 % 97) (r7 % (powI 10 60)) (((cut l_script (some 3) (some (3 + ((r1 / 2) % 21)))).map fun i19 => (i19 % (powI 10 60))) ++ ([7] : List Int))).bind fun r74 => Res.ok (!r74))).bind fun b76 => if b76 = true then Res.ok false else (m_l_right r38 (r7 % (powI 10 60)) (r13 % 97) ((cut l_script (some 3) (some (3 + ((r1 / 2) % 21)))).map fun i19 => (i19 % (powI 10 60)))).bind fun r91 => Res.ok r91))
abbrev args_law (CT : Addr) (EM : MG) : (List Int) → AR := fun d => (aC (rLst rInt) d aN)
abbrev sp_law (CT : Addr) (EM : MG) : Sp := SpA (args_law CT EM) (kE rBool) (fun d => m_law d)
theorem body_law {X : Cx} {CT : Addr} {EM : MG} (C : Cok X 3) (VS : Scp X N_law (defScope st_law)) (fn : ∀ x, X.fn x = true) (T : Blt X.mg) (TE : X.mg = EM) (G_l_cell_at : Cal X 1 "_law_cell_at" ["_law_script", "_law_k"] (sp_l_cell_at CT EM)) (G_l_made : Cal X 3 "_law_made" ["_law_one", "_law_other", "_law_signs", "_law_way"] (sp_l_made CT EM)) (G_l_right : Cal X 2 "_law_right" ["_law_some", "_law_one", "_law_other", "_law_signs"] (sp_l_right CT EM)) : ∀ (B H : Hp) (vs : List V) (d : (List Int)) (Q : VK), Sx B H → Tx H B → (args_law CT EM d).r vs B H → Fin ((kE rBool) ⟨B, H⟩ Q) NoErr (m_law d) →
    WSs X (defBody st_law) { nx := fun _ H' => Q .non H', rt := Q } (start N_law vs) H := by
  rintro B H vs l_script Q hb ht ⟨v1, _, rfl, r1_, rfl⟩ F
  subst TE
  have S0 := Stt.enter hb ht
  obtain ⟨r1, h2, F⟩ := Fin.get F
  refine s_asgI C (VS.slot tb_law fn 1 1) S0 ((ee_call C G_l_cell_at (by decide) (VS.gl tb_law 8) (d := (l_script, 0)) (as_cons (ev_v (VS.var tb_law 0 0) rfl (Rel.mono _ S0.h0.ex r1_)) (as_cons ev_i as_nil)) h2)).toB (fun B3 H4 S5 e6 => ?_)
  obtain ⟨r7, h8, F⟩ := Fin.get F
  refine s_asgI C (VS.slot tb_law fn 2 2) S5 (ev_mod ((ee_call C G_l_cell_at (by decide) (VS.gl tb_law 8) (d := (l_script, 1)) (as_cons (ev_v (VS.var tb_law 0 0) rfl (Rel.mono _ S5.h0.ex r1_)) (as_cons ev_i as_nil)) h8)).toB (ev_pow ev_i ev_i) (by decide)) (fun B9 H10 S11 e12 => ?_)
  obtain ⟨r13, h14, F⟩ := Fin.get F
  refine s_asgI C (VS.slot tb_law fn 3 3) S11 (ev_mod ((ee_call C G_l_cell_at (by decide) (VS.gl tb_law 8) (d := (l_script, 2)) (as_cons (ev_v (VS.var tb_law 0 0) rfl (Rel.mono _ S11.h0.ex r1_)) (as_cons ev_i as_nil)) h14)).toB ev_i (by decide)) (fun B15 H16 S17 e18 => ?_)
  refine s_asgLc (S := rInt) C (i := 4) (n := "_law_signs") (by rw [VS.n]; rfl) (VS.lk tb_law 4) (sw_loc VS sc_law.kind (VS.lk tb_law 4)) S17 (VS.blk bk_law_c1) (ei_E ((el_cut (ev_v (VS.var tb_law 0 0) rfl (Rel.mono _ S17.h0.ex r1_)) (ep_s ev_i) (ep_s (ev_add ev_i (ev_mod (ev_div (ev_v (VS.var tb_law 1 1) rfl rfl) ev_i ⟨by decide, by decide⟩) ev_i (by decide)))))).toE) (fun _ _ => trivial) (fun Xb hX => tg_name (R := rInt) (hX.cok C) (hX.slot VS tb_law_c1 8 0)) (mfM_map (fun i19 : Int => (i19 % (powI 10 60))) _)
                                                            (fun Xb i19 σ2 acc Dd Bc1 Hc1 b hX1 S1001 ec1 tg hb => by
                                                                obtain ⟨v1001, rfl, rfl⟩ := tg
                                                                have T1 : Blt Xb.mg := by rw [hX1.mg]; exact T
                                                                have hb := Res.ok_inj hb
                                                                subst hb
                                                                exact ets_nil
                                                            )
                                                            (fun Xb i19 y σ2 acc Dd Bc1 Hc1 hX1 S1001 ec1 tg hb hf => by
                                                                obtain ⟨v1001, rfl, rfl⟩ := tg
                                                                have T1 : Blt Xb.mg := by rw [hX1.mg]; exact T
                                                                have hf := Res.ok_inj hf
                                                                subst hf
                                                                exact ((ev_mod (ev_v ((hX1.scp VS).var tb_law_c1 8 0) rfl rfl) (ev_pow ev_i ev_i) (by decide))).toE
                                                            ) (fun x B3 σ2 h => by obtain ⟨v, _, rfl⟩ := h; rfl) (fun x B3 B4 σ2 ⟨v, r, q⟩ e => ⟨v, Rel.mono _ e r, q⟩) (fun p20 u21 B22 H23 S24 e25 r26 => ?_)
  obtain ⟨Bk27, S28, e29, r30⟩ := rl_keep (R := rInt) S24 (k := 0) rfl r26
  refine s_asgL C (VS.slot tb_law fn 5 5) S28 (el_listL (VS.gl tb_law 9) T.list ((ee_v (VS.var tb_law 4 4) rfl r30)).toB) (fun p35 u36 B31 H32 S33 e34 r37 => ?_)
  obtain ⟨r38, h39, F⟩ := Fin.get F
  refine s_asg C (VS.slot tb_law fn 6 6) S33 ((el_call C G_l_made (by decide) (VS.gl tb_law 10) (d := ((r7 % (powI 10 60)), (r13 % 97), ((cut l_script (some 3) (some (3 + ((r1 / 2) % 21)))).map fun i19 => (i19 % (powI 10 60))), (r1 % 2))) (as_cons (ev_v (VS.var tb_law 2 2) rfl rfl) (as_cons (ev_v (VS.var tb_law 3 3) rfl rfl) (as_cons (ev_own (VS.var tb_law 5 5) rfl (List.mem_of_getElem? (i := 0) rfl) r37) (as_cons (ev_mod (ev_v (VS.var tb_law 1 1) rfl rfl) ev_i (by decide)) as_nil)))) (by exact h39))).toE (fun v44 B40 H41 S42 e43 r45 => ?_)
  obtain ⟨h46, F⟩ := Fin.need F
  obtain ⟨r47, h48, F⟩ := Fin.get F
  refine s_asg C (VS.slot tb_law fn 7 7) S42 ((el_call C G_l_made (by decide) (VS.gl tb_law 10) (d := ((r13 % 97), (r7 % (powI 10 60)), (((cut l_script (some 3) (some (3 + ((r1 / 2) % 21)))).map fun i19 => (i19 % (powI 10 60))) ++ ([7] : List Int)), (1 - (r1 % 2)))) (as_cons (ev_v (VS.var tb_law 3 3) rfl rfl) (as_cons (ev_v (VS.var tb_law 2 2) rfl rfl) (as_cons ((el_cat (ev_own (VS.var tb_law 5 5) rfl (List.mem_of_getElem? (i := 0) rfl) (pimp r37 fun _ _ z => Rel.mono _ e43 z)) ((el_lst (R := rInt) (ea_cons (ev_i).toE ea_nil))).toB h46)).toB (as_cons (ev_sub ev_i (ev_mod (ev_v (VS.var tb_law 1 1) rfl rfl) ev_i (by decide))) as_nil)))) (by exact h48))).toE (fun v53 B49 H50 S51 e52 r54 => ?_)
  refine s_if S51 ((c_neD (R := (rLst rInt)) C.hu64).et (ev_own (VS.var tb_law 5 5) rfl (List.mem_of_getElem? (i := 0) rfl) (pimp r37 fun _ _ z => Rel.mono _ (e43.trans e52) z)) ((ee_v (VS.var tb_law 4 4) rfl (Rel.mono _ ((e34.trans e43).trans e52) r30))).toB) (fun z55 B56 H57 S58 e59 => ?_) (fun z55 B60 H61 S62 e63 => ?_)
  · replace F := Fin.tt F z55
    exact s_retE S58 (ev_bl).toE F
  · replace F := Fin.ff F z55
    refine WSs.nil ?_
    obtain ⟨h64, F⟩ := Fin.need F
    refine s_append S62 (VS.var tb_law 5 5) rfl (k := 0) rfl (pimp r37 fun _ _ z => Rel.mono _ ((e43.trans e52).trans e63) z) (ev_i).toE h64 (fun v65 B66 H67 S68 e69 r70 => ?_)
    obtain ⟨r71, h72, F⟩ := Fin.get F
    obtain ⟨b76, h77, F⟩ := Fin.get F
    refine s_if S68 ((ew_or (et_not (et_val ((ee_call C G_l_right (by decide) (VS.gl tb_law 11) (d := (r38, (r7 % (powI 10 60)), (r13 % 97), ((cut l_script (some 3) (some (3 + ((r1 / 2) % 21)))).map fun i19 => (i19 % (powI 10 60))))) (as_cons ((ee_v (VS.var tb_law 6 6) rfl (Rel.mono _ ((e52.trans e63).trans e69) r45))).toB (as_cons (ev_v (VS.var tb_law 2 2) rfl rfl) (as_cons (ev_v (VS.var tb_law 3 3) rfl rfl) (as_cons ((ee_v (VS.var tb_law 4 4) rfl (Rel.mono _ ((((e34.trans e43).trans e52).trans e63).trans e69) r30))).toB as_nil)))) (by exact h72))).toB)) (fun hz => by
                                                                have q78 := Res.ff_ok h77 hz
                                                                obtain ⟨h73, q78⟩ := Res.need_ok q78
                                                                obtain ⟨r74, h75, q78⟩ := Res.bind_ok q78
                                                                have q78 := Res.ok_inj q78
                                                                rw [← q78]
                                                                exact (ew_or1 (et_not (et_val ((ee_call C G_l_right (by decide) (VS.gl tb_law 11) (d := (r47, (r13 % 97), (r7 % (powI 10 60)), (((cut l_script (some 3) (some (3 + ((r1 / 2) % 21)))).map fun i19 => (i19 % (powI 10 60))) ++ ([7] : List Int)))) (as_cons ((ee_v (VS.var tb_law 7 7) rfl (Rel.mono _ (e63.trans e69) r54))).toB (as_cons (ev_v (VS.var tb_law 3 3) rfl rfl) (as_cons (ev_v (VS.var tb_law 2 2) rfl rfl) (as_cons ((el_cat ((ee_v (VS.var tb_law 4 4) rfl (Rel.mono _ ((((e34.trans e43).trans e52).trans e63).trans e69) r30))).toB ((el_lst (R := rInt) (ea_cons (ev_i).toE ea_nil))).toB h73)).toB as_nil)))) (by exact h75))).toB)))
                                                            ) (fun hz => (Res.ok_inj (Res.tt_ok h77 hz)).symm))).t (fun z79 B80 H81 S82 e83 => ?_) (fun z79 B84 H85 S86 e87 => ?_)
    · replace F := Fin.tt F z79
      exact s_retE S82 (ev_bl).toE F
    · replace F := Fin.ff F z79
      refine WSs.nil ?_
      refine s_clear S86 (VS.var tb_law 5 5) rfl (k := 0) rfl (pimp r70 fun _ _ z => Rel.mono _ e87 z) (fun H88 S89 r90 => ?_)
      obtain ⟨r91, h92, F⟩ := Fin.get F
      exact s_retE S89 (ee_call C G_l_right (by decide) (VS.gl tb_law 11) (d := (r38, (r7 % (powI 10 60)), (r13 % 97), ((cut l_script (some 3) (some (3 + ((r1 / 2) % 21)))).map fun i19 => (i19 % (powI 10 60))))) (as_cons ((ee_v (VS.var tb_law 6 6) rfl (Rel.mono _ (((e52.trans e63).trans e69).trans e87) r45))).toB (as_cons (ev_v (VS.var tb_law 2 2) rfl rfl) (as_cons (ev_v (VS.var tb_law 3 3) rfl rfl) (as_cons ((ee_v (VS.var tb_law 4 4) rfl (Rel.mono _ (((((e34.trans e43).trans e52).trans e63).trans e69).trans e87) r30))).toB as_nil)))) (by exact h92)) F
theorem cell_ok (xs : List Int) (k : Int) (h : 0 ≤ k) : ∃ r, m_l_cell_at xs k = .ok r := by
  unfold m_l_cell_at
  by_cases hk : k < (xs.length : Int)
  · rw [if_pos (decide_eq_true hk)]
    obtain ⟨x, e, _⟩ := atI_in h hk
    exact ⟨x, of_some e⟩
  · rw [if_neg (by simpa using hk)]
    exact ⟨0, rfl⟩
def mk19 (one other : Int) (signs : List Int) : List Err := [⟨"NoRow", [("at", .int one)]⟩, ⟨"Twice", [("sign", .int other)]⟩, ⟨"NoPair", [("sign", .int one)]⟩, ⟨"Same", [("other", .int other), ("one", .int one)]⟩, ⟨"Ring", [("signs", .ints signs)]⟩, ⟨"TooLong", [("sign", .int other)]⟩, ⟨"NoStep", []⟩, ⟨"Unlike", [("at", .int one)]⟩, ⟨"TooMany", []⟩, ⟨"NotFormed", [("which", .int other)]⟩, ⟨"Double", [("at", .int one)]⟩, ⟨"NoKind", [("at", .int other)]⟩, ⟨"Nothing", []⟩, ⟨"NoPlace", []⟩, ⟨"NoUndo", []⟩]
theorem made_ok (one other : Int) (signs : List Int) (way : Int) : m_l_made one other signs way = .ok (mk19 one other signs) := by
  unfold m_l_made
  generalize decide (way = 0) = b
  cases b with
  | true => kernel_rfl
  | false => kernel_rfl
theorem right_ok (one other : Int) (signs : List Int) : m_l_right (mk19 one other signs) one other signs = .ok true := by
  have h : m_l_right (mk19 one other signs) one other signs = (if (decide ((([one, other, one, one] ++ [other, other, one]) ++ [other, one, other]) = ([one, other, one, one, other, other, one] ++ [other, one, other]))) = true then Res.ok (decide (signs = signs)) else Res.ok false).bind fun b => Res.ok b := by kernel_rfl
  rw [h, if_pos (by exact decide_eq_true rfl), decide_eq_true (rfl : signs = signs)]
  rfl
theorem law_true : ∀ ns : List Int, ns.length ≤ 63 → m_law ns = .ok true := by
  intro ns hns
  have key : Ok (fun b => b = true) (m_law ns) := by
    unfold m_law
    obtain ⟨r1, e1⟩ := cell_ok ns 0 (by decide)
    obtain ⟨r2, e2⟩ := cell_ok ns 1 (by decide)
    obtain ⟨r3, e3⟩ := cell_ok ns 2 (by decide)
    refine Ok.bindE e1 (Ok.bindE e2 (Ok.bindE e3 ?_))
    have hl : ((cut ns (some 3) (some (3 + ((r1 / 2) % 21)))).map fun i19 => (i19 % (powI 10 60))).length ≤ 63 := by
      rw [List.length_map]
      exact Nat.le_trans cut_len hns
    generalize ((cut ns (some 3) (some (3 + ((r1 / 2) % 21)))).map fun i19 => (i19 % (powI 10 60))) = signs at hl
    refine Ok.bindE (made_ok _ _ _ _) (Ok.need ?_ (Ok.bindE (made_ok _ _ _ _) ?_))
    · rw [sizeLine_eq]; show signs.length + 1 ≤ _; omega
    refine Ok.ff (by rw [decide_eq_true rfl]; rfl) (Ok.need (by rw [sizeLine_eq]; omega) (Ok.bindE (right_ok _ _ _) ?_))
    rw [if_neg (by decide)]
    rw [need_pos (by rw [sizeLine_eq]; show signs.length + 1 ≤ _; omega), bind_eq (right_ok _ _ _)]
    refine Ok.bindE (rfl : Res.ok (!true) = Res.ok false) (Ok.ff rfl (Ok.bindE (right_ok _ _ _) (Ok.ret rfl)))
  obtain ⟨b, e, h⟩ := key
  rw [e, h]

theorem ok_l_cell_at {P : Program} {w : World} {K : PySem.W.Frag} {mg : Str → Option Value} {base : Heap} {CT f : Addr} {EM : MG} {fd : FuncData} (F : Fun K "_law_cell_at" "_law_cell_at" st_l_cell_at f fd) (T : Blt mg) (TE : mg = EM)  : FnOk P w K mg base CX0 1 f fd ["_law_script", "_law_k"] (sp_l_cell_at CT EM) :=
  fun_ok F sc_l_cell_at (fun d vs B H h => by
    obtain ⟨_, _⟩ := d
    obtain ⟨v1, _, rfl, _, ⟨_, _, rfl, rfl, rfl⟩⟩ := h
    rfl) fun X e1 e2 e3 e4 e5 C VS fn => by
    subst e1 e2 e3 e4 e5
    exact body_l_cell_at (CT := CT) (EM := EM) C VS fn T TE 
theorem ok_l_made {P : Program} {w : World} {K : PySem.W.Frag} {mg : Str → Option Value} {base : Heap} {CT f : Addr} {EM : MG} {fd : FuncData} (F : Fun K "_law_made" "_law_made" st_l_made f fd) (T : Blt mg) (TE : mg = EM) (Z_NoStep : Rz K mg "NoStep") (Z_TooMany : Rz K mg "TooMany") (Z_Nothing : Rz K mg "Nothing") (Z_NoPlace : Rz K mg "NoPlace") (Z_NoUndo : Rz K mg "NoUndo") (ZM_NoRow : RzM P w K mg base "NoRow" (["at"] : List Str) (["self", "at"] : List Str) (SpE K "at")) (ZM_Twice : RzM P w K mg base "Twice" (["sign"] : List Str) (["self", "sign"] : List Str) (SpE K "sign")) (ZM_NoPair : RzM P w K mg base "NoPair" (["sign"] : List Str) (["self", "sign"] : List Str) (SpE K "sign")) (ZM_Same : RzM P w K mg base "Same" (["one", "other"] : List Str) (["self", "one", "other"] : List Str) (SpE2 K "one" "other")) (ZM_Ring : RzM P w K mg base "Ring" (["signs"] : List Str) (["self", "signs"] : List Str) (SpEL K "signs")) (ZM_TooLong : RzM P w K mg base "TooLong" (["sign"] : List Str) (["self", "sign"] : List Str) (SpE K "sign")) (ZM_Unlike : RzM P w K mg base "Unlike" (["at"] : List Str) (["self", "at"] : List Str) (SpE K "at")) (ZM_NotFormed : RzM P w K mg base "NotFormed" (["which"] : List Str) (["self", "which"] : List Str) (SpE K "which")) (ZM_Double : RzM P w K mg base "Double" (["at"] : List Str) (["self", "at"] : List Str) (SpE K "at")) (ZM_NoKind : RzM P w K mg base "NoKind" (["at"] : List Str) (["self", "at"] : List Str) (SpE K "at")) : FnOk P w K mg base CX0 3 f fd ["_law_one", "_law_other", "_law_signs", "_law_way"] (sp_l_made CT EM) :=
  fun_ok F sc_l_made (fun d vs B H h => by
    obtain ⟨_, _, _, _⟩ := d
    obtain ⟨_, _, rfl, rfl, ⟨_, _, rfl, rfl, ⟨v3, _, rfl, _, ⟨_, _, rfl, rfl, rfl⟩⟩⟩⟩ := h
    rfl) fun X e1 e2 e3 e4 e5 C VS fn => by
    subst e1 e2 e3 e4 e5
    exact body_l_made (CT := CT) (EM := EM) C VS fn T TE Z_NoStep Z_TooMany Z_Nothing Z_NoPlace Z_NoUndo ZM_NoRow ZM_Twice ZM_NoPair ZM_Same ZM_Ring ZM_TooLong ZM_Unlike ZM_NotFormed ZM_Double ZM_NoKind
theorem ok_l_classes {P : Program} {w : World} {K : PySem.W.Frag} {mg : Str → Option Value} {base : Heap} {CT f : Addr} {EM : MG} {fd : FuncData} (F : Fun K "_law_classes" "_law_classes" st_l_classes f fd) (T : Blt mg) (TE : mg = EM) (IB : IsB K) (I_NoRow : IsAll K mg (["Double", "NoKind", "NoPair", "NoPlace", "NoRow", "NoStep", "NoUndo", "NotFormed", "Nothing", "Ring", "Same", "TooLong", "TooMany", "Twice", "Unlike"] : List Str) "NoRow" (["NoRow"] : List Str)) (I_Twice : IsAll K mg (["Double", "NoKind", "NoPair", "NoPlace", "NoRow", "NoStep", "NoUndo", "NotFormed", "Nothing", "Ring", "Same", "TooLong", "TooMany", "Twice", "Unlike"] : List Str) "Twice" (["Twice"] : List Str)) (I_NoPair : IsAll K mg (["Double", "NoKind", "NoPair", "NoPlace", "NoRow", "NoStep", "NoUndo", "NotFormed", "Nothing", "Ring", "Same", "TooLong", "TooMany", "Twice", "Unlike"] : List Str) "NoPair" (["NoPair"] : List Str)) (I_Same : IsAll K mg (["Double", "NoKind", "NoPair", "NoPlace", "NoRow", "NoStep", "NoUndo", "NotFormed", "Nothing", "Ring", "Same", "TooLong", "TooMany", "Twice", "Unlike"] : List Str) "Same" (["Same"] : List Str)) (I_Ring : IsAll K mg (["Double", "NoKind", "NoPair", "NoPlace", "NoRow", "NoStep", "NoUndo", "NotFormed", "Nothing", "Ring", "Same", "TooLong", "TooMany", "Twice", "Unlike"] : List Str) "Ring" (["Ring"] : List Str)) (I_TooLong : IsAll K mg (["Double", "NoKind", "NoPair", "NoPlace", "NoRow", "NoStep", "NoUndo", "NotFormed", "Nothing", "Ring", "Same", "TooLong", "TooMany", "Twice", "Unlike"] : List Str) "TooLong" (["TooLong"] : List Str)) (I_NoStep : IsAll K mg (["Double", "NoKind", "NoPair", "NoPlace", "NoRow", "NoStep", "NoUndo", "NotFormed", "Nothing", "Ring", "Same", "TooLong", "TooMany", "Twice", "Unlike"] : List Str) "NoStep" (["NoStep"] : List Str)) (I_Unlike : IsAll K mg (["Double", "NoKind", "NoPair", "NoPlace", "NoRow", "NoStep", "NoUndo", "NotFormed", "Nothing", "Ring", "Same", "TooLong", "TooMany", "Twice", "Unlike"] : List Str) "Unlike" (["Unlike"] : List Str)) (I_TooMany : IsAll K mg (["Double", "NoKind", "NoPair", "NoPlace", "NoRow", "NoStep", "NoUndo", "NotFormed", "Nothing", "Ring", "Same", "TooLong", "TooMany", "Twice", "Unlike"] : List Str) "TooMany" (["TooMany"] : List Str)) (I_NotFormed : IsAll K mg (["Double", "NoKind", "NoPair", "NoPlace", "NoRow", "NoStep", "NoUndo", "NotFormed", "Nothing", "Ring", "Same", "TooLong", "TooMany", "Twice", "Unlike"] : List Str) "NotFormed" (["NotFormed"] : List Str)) (I_Double : IsAll K mg (["Double", "NoKind", "NoPair", "NoPlace", "NoRow", "NoStep", "NoUndo", "NotFormed", "Nothing", "Ring", "Same", "TooLong", "TooMany", "Twice", "Unlike"] : List Str) "Double" (["Double"] : List Str)) (I_NoKind : IsAll K mg (["Double", "NoKind", "NoPair", "NoPlace", "NoRow", "NoStep", "NoUndo", "NotFormed", "Nothing", "Ring", "Same", "TooLong", "TooMany", "Twice", "Unlike"] : List Str) "NoKind" (["NoKind"] : List Str)) (I_Nothing : IsAll K mg (["Double", "NoKind", "NoPair", "NoPlace", "NoRow", "NoStep", "NoUndo", "NotFormed", "Nothing", "Ring", "Same", "TooLong", "TooMany", "Twice", "Unlike"] : List Str) "Nothing" (["Nothing"] : List Str)) (I_NoPlace : IsAll K mg (["Double", "NoKind", "NoPair", "NoPlace", "NoRow", "NoStep", "NoUndo", "NotFormed", "Nothing", "Ring", "Same", "TooLong", "TooMany", "Twice", "Unlike"] : List Str) "NoPlace" (["NoPlace"] : List Str)) (I_NoUndo : IsAll K mg (["Double", "NoKind", "NoPair", "NoPlace", "NoRow", "NoStep", "NoUndo", "NotFormed", "Nothing", "Ring", "Same", "TooLong", "TooMany", "Twice", "Unlike"] : List Str) "NoUndo" (["NoUndo"] : List Str)) (J_ValueError : IsAllB K mg (["Double", "NoKind", "NoPair", "NoPlace", "NoRow", "NoStep", "NoUndo", "NotFormed", "Nothing", "Ring", "Same", "TooLong", "TooMany", "Twice", "Unlike"] : List Str) "ValueError" "ValueError" (["Double", "NoKind", "NoPair", "NoPlace", "NoRow", "NoStep", "NoUndo", "NotFormed", "Nothing", "Ring", "Same", "TooLong", "TooMany", "Twice", "Unlike"] : List Str)) : FnOk P w K mg base CX0 1 f fd ["_law_e"] (sp_l_classes CT EM) :=
  fun_ok F sc_l_classes (fun d vs B H h => by
    obtain ⟨v1, _, rfl, _, rfl⟩ := h
    rfl) fun X e1 e2 e3 e4 e5 C VS fn => by
    subst e1 e2 e3 e4 e5
    exact body_l_classes (CT := CT) (EM := EM) C VS fn T TE IB I_NoRow I_Twice I_NoPair I_Same I_Ring I_TooLong I_NoStep I_Unlike I_TooMany I_NotFormed I_Double I_NoKind I_Nothing I_NoPlace I_NoUndo J_ValueError
theorem ok_l_whole {P : Program} {w : World} {K : PySem.W.Frag} {mg : Str → Option Value} {base : Heap} {CT f : Addr} {EM : MG} {fd : FuncData} (F : Fun K "_law_whole" "_law_whole" st_l_whole f fd) (T : Blt mg) (TE : mg = EM)  : FnOk P w K mg base CX0 1 f fd ["_law_found"] (sp_l_whole CT EM) :=
  fun_ok F sc_l_whole (fun d vs B H h => by
    obtain ⟨_, _, rfl, rfl, rfl⟩ := h
    rfl) fun X e1 e2 e3 e4 e5 C VS fn => by
    subst e1 e2 e3 e4 e5
    exact body_l_whole (CT := CT) (EM := EM) C VS fn T TE 
theorem ok_l_right {P : Program} {w : World} {K : PySem.W.Frag} {mg : Str → Option Value} {base : Heap} {CT f : Addr} {EM : MG} {fd : FuncData} (F : Fun K "_law_right" "_law_right" st_l_right f fd) (T : Blt mg) (TE : mg = EM) (G_l_classes : CalM P w K mg base 1 "_law_classes" ["_law_e"] (sp_l_classes CT EM)) (G_l_whole : CalM P w K mg base 1 "_law_whole" ["_law_found"] (sp_l_whole CT EM)) (IB : IsB K) (I_FormError : IsAll K mg (["Double", "NoKind", "NoPair", "NoPlace", "NoRow", "NoStep", "NoUndo", "NotFormed", "Nothing", "Ring", "Same", "TooLong", "TooMany", "Twice", "Unlike"] : List Str) "FormError" (["Double", "NoKind", "NoPair", "NoPlace", "NoRow", "NoStep", "NoUndo", "NotFormed", "Nothing", "Ring", "Same", "TooLong", "TooMany", "Twice", "Unlike"] : List Str)) (NF_at : NoFld K mg (["Double", "NoKind", "NoPair", "NoPlace", "NoRow", "NoStep", "NoUndo", "NotFormed", "Nothing", "Ring", "Same", "TooLong", "TooMany", "Twice", "Unlike"] : List Str) "at") (NF_sign : NoFld K mg (["Double", "NoKind", "NoPair", "NoPlace", "NoRow", "NoStep", "NoUndo", "NotFormed", "Nothing", "Ring", "Same", "TooLong", "TooMany", "Twice", "Unlike"] : List Str) "sign") (NF_one : NoFld K mg (["Double", "NoKind", "NoPair", "NoPlace", "NoRow", "NoStep", "NoUndo", "NotFormed", "Nothing", "Ring", "Same", "TooLong", "TooMany", "Twice", "Unlike"] : List Str) "one") (NF_other : NoFld K mg (["Double", "NoKind", "NoPair", "NoPlace", "NoRow", "NoStep", "NoUndo", "NotFormed", "Nothing", "Ring", "Same", "TooLong", "TooMany", "Twice", "Unlike"] : List Str) "other") (NF_which : NoFld K mg (["Double", "NoKind", "NoPair", "NoPlace", "NoRow", "NoStep", "NoUndo", "NotFormed", "Nothing", "Ring", "Same", "TooLong", "TooMany", "Twice", "Unlike"] : List Str) "which") (NF_signs : NoFld K mg (["Double", "NoKind", "NoPair", "NoPlace", "NoRow", "NoStep", "NoUndo", "NotFormed", "Nothing", "Ring", "Same", "TooLong", "TooMany", "Twice", "Unlike"] : List Str) "signs") : FnOk P w K mg base CX0 2 f fd ["_law_some", "_law_one", "_law_other", "_law_signs"] (sp_l_right CT EM) :=
  fun_ok F sc_l_right (fun d vs B H h => by
    obtain ⟨_, _, _, _⟩ := d
    obtain ⟨v1, _, rfl, _, ⟨_, _, rfl, rfl, ⟨_, _, rfl, rfl, ⟨v4, _, rfl, _, rfl⟩⟩⟩⟩ := h
    rfl) fun X e1 e2 e3 e4 e5 C VS fn => by
    subst e1 e2 e3 e4 e5
    exact body_l_right (CT := CT) (EM := EM) C VS fn T TE G_l_classes G_l_whole IB I_FormError NF_at NF_sign NF_one NF_other NF_which NF_signs
theorem ok_law {P : Program} {w : World} {K : PySem.W.Frag} {mg : Str → Option Value} {base : Heap} {CT f : Addr} {EM : MG} {fd : FuncData} (F : Fun K "law" "law" st_law f fd) (T : Blt mg) (TE : mg = EM) (G_l_cell_at : CalM P w K mg base 1 "_law_cell_at" ["_law_script", "_law_k"] (sp_l_cell_at CT EM)) (G_l_made : CalM P w K mg base 3 "_law_made" ["_law_one", "_law_other", "_law_signs", "_law_way"] (sp_l_made CT EM)) (G_l_right : CalM P w K mg base 2 "_law_right" ["_law_some", "_law_one", "_law_other", "_law_signs"] (sp_l_right CT EM)) : FnOk P w K mg base CX0 4 f fd ["_law_script"] (sp_law CT EM) :=
  fun_ok F sc_law (fun d vs B H h => by
    obtain ⟨v1, _, rfl, _, rfl⟩ := h
    rfl) fun X e1 e2 e3 e4 e5 C VS fn => by
    subst e1 e2 e3 e4 e5
    exact body_law (CT := CT) (EM := EM) C VS fn T TE G_l_cell_at G_l_made G_l_right
abbrev st_ini_NoRow : Stmt := inClass (topS 2) 0
theorem tb_ini_NoRow : nmOk (defScope st_ini_NoRow) [("self", .local), ("at", .local), ("FormError", .globalImplicit)] = true := by decide +kernel
theorem sc_ini_NoRow : FnScope ["self", "at"] ["self", "at"] (defScope st_ini_NoRow) := ⟨rfl, rfl, rfl, by decide +kernel, rfl, by decide +kernel, by decide +kernel⟩
abbrev st_ini_Twice : Stmt := inClass (topS 3) 0
theorem tb_ini_Twice : nmOk (defScope st_ini_Twice) [("self", .local), ("sign", .local), ("FormError", .globalImplicit)] = true := by decide +kernel
theorem sc_ini_Twice : FnScope ["self", "sign"] ["self", "sign"] (defScope st_ini_Twice) := ⟨rfl, rfl, rfl, by decide +kernel, rfl, by decide +kernel, by decide +kernel⟩
abbrev st_ini_NoPair : Stmt := inClass (topS 4) 0
theorem tb_ini_NoPair : nmOk (defScope st_ini_NoPair) [("self", .local), ("sign", .local), ("FormError", .globalImplicit)] = true := by decide +kernel
theorem sc_ini_NoPair : FnScope ["self", "sign"] ["self", "sign"] (defScope st_ini_NoPair) := ⟨rfl, rfl, rfl, by decide +kernel, rfl, by decide +kernel, by decide +kernel⟩
abbrev st_ini_Same : Stmt := inClass (topS 5) 0
theorem tb_ini_Same : nmOk (defScope st_ini_Same) [("self", .local), ("one", .local), ("other", .local), ("FormError", .globalImplicit)] = true := by decide +kernel
theorem sc_ini_Same : FnScope ["self", "one", "other"] ["self", "one", "other"] (defScope st_ini_Same) := ⟨rfl, rfl, rfl, by decide +kernel, rfl, by decide +kernel, by decide +kernel⟩
abbrev st_ini_Ring : Stmt := inClass (topS 6) 0
theorem tb_ini_Ring : nmOk (defScope st_ini_Ring) [("self", .local), ("signs", .local), ("FormError", .globalImplicit), ("list", .globalImplicit)] = true := by decide +kernel
theorem sc_ini_Ring : FnScope ["self", "signs"] ["self", "signs"] (defScope st_ini_Ring) := ⟨rfl, rfl, rfl, by decide +kernel, rfl, by decide +kernel, by decide +kernel⟩
abbrev st_ini_TooLong : Stmt := inClass (topS 7) 0
theorem tb_ini_TooLong : nmOk (defScope st_ini_TooLong) [("self", .local), ("sign", .local), ("FormError", .globalImplicit)] = true := by decide +kernel
theorem sc_ini_TooLong : FnScope ["self", "sign"] ["self", "sign"] (defScope st_ini_TooLong) := ⟨rfl, rfl, rfl, by decide +kernel, rfl, by decide +kernel, by decide +kernel⟩
abbrev st_ini_Unlike : Stmt := inClass (topS 9) 0
theorem tb_ini_Unlike : nmOk (defScope st_ini_Unlike) [("self", .local), ("at", .local), ("FormError", .globalImplicit)] = true := by decide +kernel
theorem sc_ini_Unlike : FnScope ["self", "at"] ["self", "at"] (defScope st_ini_Unlike) := ⟨rfl, rfl, rfl, by decide +kernel, rfl, by decide +kernel, by decide +kernel⟩
abbrev st_ini_NotFormed : Stmt := inClass (topS 11) 0
theorem tb_ini_NotFormed : nmOk (defScope st_ini_NotFormed) [("self", .local), ("which", .local), ("FormError", .globalImplicit)] = true := by decide +kernel
theorem sc_ini_NotFormed : FnScope ["self", "which"] ["self", "which"] (defScope st_ini_NotFormed) := ⟨rfl, rfl, rfl, by decide +kernel, rfl, by decide +kernel, by decide +kernel⟩
abbrev st_ini_Double : Stmt := inClass (topS 12) 0
theorem tb_ini_Double : nmOk (defScope st_ini_Double) [("self", .local), ("at", .local), ("FormError", .globalImplicit)] = true := by decide +kernel
theorem sc_ini_Double : FnScope ["self", "at"] ["self", "at"] (defScope st_ini_Double) := ⟨rfl, rfl, rfl, by decide +kernel, rfl, by decide +kernel, by decide +kernel⟩
abbrev st_ini_NoKind : Stmt := inClass (topS 13) 0
theorem tb_ini_NoKind : nmOk (defScope st_ini_NoKind) [("self", .local), ("at", .local), ("FormError", .globalImplicit)] = true := by decide +kernel
theorem sc_ini_NoKind : FnScope ["self", "at"] ["self", "at"] (defScope st_ini_NoKind) := ⟨rfl, rfl, rfl, by decide +kernel, rfl, by decide +kernel, by decide +kernel⟩
theorem all_mk {P : Program} {w : World} {K : PySem.W.Frag} {h : Heap} {mg : Str → Option Value} {fa f0 f1 f2 f3 f4 f5 K_NoStep K_TooMany K_Nothing K_NoPlace K_NoUndo K_NoRow K_Twice K_NoPair K_Same K_Ring K_TooLong K_Unlike K_NotFormed K_Double K_NoKind K_FormError fi_NoRow fi_Twice fi_NoPair fi_Same fi_Ring fi_TooLong fi_Unlike fi_NotFormed fi_Double fi_NoKind : Addr} (X : K.In h) (G : h.Ns mainGlobals mg) (hfa : mg "law" = some (.ref fa))
    {od0 an0 od1 an1 od2 an2 od3 an3 od4 an4 od5 an5 : Option Addr} {sl0 sl1 sl2 sl3 sl4 sl5 : Array (Option Value)} {oc0 kV0 dc0 pm0 cd0 ct0 oc1 kV1 dc1 pm1 cd1 ct1 oc2 kV2 dc2 pm2 cd2 ct2 oc3 kV3 dc3 pm3 cd3 ct3 oc4 kV4 dc4 pm4 cd4 ct4 oc5 kV5 dc5 pm5 cd5 ct5 : Value} {xa_NoRow : Str} {xb_NoRow : Str} {xc_NoRow : Addr} {xd_NoRow xe_NoRow : List Value} {xf_NoRow : List Str} {xg_NoRow : List Value} {xh_NoRow : Bool} {xi_NoRow : Option Bool} {xj_NoRow : Option Addr} {xk_NoRow xl_NoRow xm_NoRow xn_NoRow xp_NoRow : Option Value} {iod_NoRow ian_NoRow : Option Addr} {isl_NoRow : Array (Option Value)} {ioc_NoRow ikV_NoRow idc_NoRow ipm_NoRow icd_NoRow ict_NoRow : Value} {xa_Twice : Str} {xb_Twice : Str} {xc_Twice : Addr} {xd_Twice xe_Twice : List Value} {xf_Twice : List Str} {xg_Twice : List Value} {xh_Twice : Bool} {xi_Twice : Option Bool} {xj_Twice : Option Addr} {xk_Twice xl_Twice xm_Twice xn_Twice xp_Twice : Option Value} {iod_Twice ian_Twice : Option Addr} {isl_Twice : Array (Option Value)} {ioc_Twice ikV_Twice idc_Twice ipm_Twice icd_Twice ict_Twice : Value} {xa_NoPair : Str} {xb_NoPair : Str} {xc_NoPair : Addr} {xd_NoPair xe_NoPair : List Value} {xf_NoPair : List Str} {xg_NoPair : List Value} {xh_NoPair : Bool} {xi_NoPair : Option Bool} {xj_NoPair : Option Addr} {xk_NoPair xl_NoPair xm_NoPair xn_NoPair xp_NoPair : Option Value} {iod_NoPair ian_NoPair : Option Addr} {isl_NoPair : Array (Option Value)} {ioc_NoPair ikV_NoPair idc_NoPair ipm_NoPair icd_NoPair ict_NoPair : Value} {xa_Same : Str} {xb_Same : Str} {xc_Same : Addr} {xd_Same xe_Same : List Value} {xf_Same : List Str} {xg_Same : List Value} {xh_Same : Bool} {xi_Same : Option Bool} {xj_Same : Option Addr} {xk_Same xl_Same xm_Same xn_Same xp_Same : Option Value} {iod_Same ian_Same : Option Addr} {isl_Same : Array (Option Value)} {ioc_Same ikV_Same idc_Same ipm_Same icd_Same ict_Same : Value} {xa_Ring : Str} {xb_Ring : Str} {xc_Ring : Addr} {xd_Ring xe_Ring : List Value} {xf_Ring : List Str} {xg_Ring : List Value} {xh_Ring : Bool} {xi_Ring : Option Bool} {xj_Ring : Option Addr} {xk_Ring xl_Ring xm_Ring xn_Ring xp_Ring : Option Value} {iod_Ring ian_Ring : Option Addr} {isl_Ring : Array (Option Value)} {ioc_Ring ikV_Ring idc_Ring ipm_Ring icd_Ring ict_Ring : Value} {xa_TooLong : Str} {xb_TooLong : Str} {xc_TooLong : Addr} {xd_TooLong xe_TooLong : List Value} {xf_TooLong : List Str} {xg_TooLong : List Value} {xh_TooLong : Bool} {xi_TooLong : Option Bool} {xj_TooLong : Option Addr} {xk_TooLong xl_TooLong xm_TooLong xn_TooLong xp_TooLong : Option Value} {iod_TooLong ian_TooLong : Option Addr} {isl_TooLong : Array (Option Value)} {ioc_TooLong ikV_TooLong idc_TooLong ipm_TooLong icd_TooLong ict_TooLong : Value} {xa_Unlike : Str} {xb_Unlike : Str} {xc_Unlike : Addr} {xd_Unlike xe_Unlike : List Value} {xf_Unlike : List Str} {xg_Unlike : List Value} {xh_Unlike : Bool} {xi_Unlike : Option Bool} {xj_Unlike : Option Addr} {xk_Unlike xl_Unlike xm_Unlike xn_Unlike xp_Unlike : Option Value} {iod_Unlike ian_Unlike : Option Addr} {isl_Unlike : Array (Option Value)} {ioc_Unlike ikV_Unlike idc_Unlike ipm_Unlike icd_Unlike ict_Unlike : Value} {xa_NotFormed : Str} {xb_NotFormed : Str} {xc_NotFormed : Addr} {xd_NotFormed xe_NotFormed : List Value} {xf_NotFormed : List Str} {xg_NotFormed : List Value} {xh_NotFormed : Bool} {xi_NotFormed : Option Bool} {xj_NotFormed : Option Addr} {xk_NotFormed xl_NotFormed xm_NotFormed xn_NotFormed xp_NotFormed : Option Value} {iod_NotFormed ian_NotFormed : Option Addr} {isl_NotFormed : Array (Option Value)} {ioc_NotFormed ikV_NotFormed idc_NotFormed ipm_NotFormed icd_NotFormed ict_NotFormed : Value} {xa_Double : Str} {xb_Double : Str} {xc_Double : Addr} {xd_Double xe_Double : List Value} {xf_Double : List Str} {xg_Double : List Value} {xh_Double : Bool} {xi_Double : Option Bool} {xj_Double : Option Addr} {xk_Double xl_Double xm_Double xn_Double xp_Double : Option Value} {iod_Double ian_Double : Option Addr} {isl_Double : Array (Option Value)} {ioc_Double ikV_Double idc_Double ipm_Double icd_Double ict_Double : Value} {xa_NoKind : Str} {xb_NoKind : Str} {xc_NoKind : Addr} {xd_NoKind xe_NoKind : List Value} {xf_NoKind : List Str} {xg_NoKind : List Value} {xh_NoKind : Bool} {xi_NoKind : Option Bool} {xj_NoKind : Option Addr} {xk_NoKind xl_NoKind xm_NoKind xn_NoKind xp_NoKind : Option Value} {iod_NoKind ian_NoKind : Option Addr} {isl_NoKind : Array (Option Value)} {ioc_NoKind ikV_NoKind idc_NoKind ipm_NoKind icd_NoKind ict_NoKind : Value}
    (a0 : PySem.W.nsIn K mainGlobals "_law_cell_at" = some (some (.ref f0)))
    (l0 : K.lookup f0 = some ⟨oc0, od0, .func (PySem.W.fnOf "_law_cell_at" "_law_cell_at" (defArgs st_l_cell_at) (defBody st_l_cell_at) (defScope st_l_cell_at) .none kV0 dc0 pm0 an0 cd0 ct0), sl0⟩)
    (c0 : PySem.W.codeIn K cd0 "_law_cell_at" = true)
    (k0 : PySem.W.keepIn K (.ref f0) = true)
    (a1 : PySem.W.nsIn K mainGlobals "_law_made" = some (some (.ref f1)))
    (l1 : K.lookup f1 = some ⟨oc1, od1, .func (PySem.W.fnOf "_law_made" "_law_made" (defArgs st_l_made) (defBody st_l_made) (defScope st_l_made) .none kV1 dc1 pm1 an1 cd1 ct1), sl1⟩)
    (c1 : PySem.W.codeIn K cd1 "_law_made" = true)
    (k1 : PySem.W.keepIn K (.ref f1) = true)
    (a2 : PySem.W.nsIn K mainGlobals "_law_classes" = some (some (.ref f2)))
    (l2 : K.lookup f2 = some ⟨oc2, od2, .func (PySem.W.fnOf "_law_classes" "_law_classes" (defArgs st_l_classes) (defBody st_l_classes) (defScope st_l_classes) .none kV2 dc2 pm2 an2 cd2 ct2), sl2⟩)
    (c2 : PySem.W.codeIn K cd2 "_law_classes" = true)
    (k2 : PySem.W.keepIn K (.ref f2) = true)
    (a3 : PySem.W.nsIn K mainGlobals "_law_whole" = some (some (.ref f3)))
    (l3 : K.lookup f3 = some ⟨oc3, od3, .func (PySem.W.fnOf "_law_whole" "_law_whole" (defArgs st_l_whole) (defBody st_l_whole) (defScope st_l_whole) .none kV3 dc3 pm3 an3 cd3 ct3), sl3⟩)
    (c3 : PySem.W.codeIn K cd3 "_law_whole" = true)
    (k3 : PySem.W.keepIn K (.ref f3) = true)
    (a4 : PySem.W.nsIn K mainGlobals "_law_right" = some (some (.ref f4)))
    (l4 : K.lookup f4 = some ⟨oc4, od4, .func (PySem.W.fnOf "_law_right" "_law_right" (defArgs st_l_right) (defBody st_l_right) (defScope st_l_right) .none kV4 dc4 pm4 an4 cd4 ct4), sl4⟩)
    (c4 : PySem.W.codeIn K cd4 "_law_right" = true)
    (k4 : PySem.W.keepIn K (.ref f4) = true)
    (a5 : PySem.W.nsIn K mainGlobals "law" = some (some (.ref f5)))
    (l5 : K.lookup f5 = some ⟨oc5, od5, .func (PySem.W.fnOf "law" "law" (defArgs st_law) (defBody st_law) (defScope st_law) .none kV5 dc5 pm5 an5 cd5 ct5), sl5⟩)
    (c5 : PySem.W.codeIn K cd5 "law" = true)
    (k5 : PySem.W.keepIn K (.ref f5) = true)
    (z_len : PySem.W.nsIn K mainGlobals "len" = some none)
    (z_list : PySem.W.nsIn K mainGlobals "list" = some none)
    (z_sorted : PySem.W.nsIn K mainGlobals "sorted" = some none)
    (z_isinstance : PySem.W.nsIn K mainGlobals "isinstance" = some none)
    (z_range : PySem.W.nsIn K mainGlobals "range" = some none)
    (z_dict : PySem.W.nsIn K mainGlobals "dict" = some none)
    (z_all : PySem.W.nsIn K mainGlobals "all" = some none)
    (z_any : PySem.W.nsIn K mainGlobals "any" = some none)
    (z_min : PySem.W.nsIn K mainGlobals "min" = some none)
    (z_max : PySem.W.nsIn K mainGlobals "max" = some none)
    (z_sum : PySem.W.nsIn K mainGlobals "sum" = some none)
    (z_reversed : PySem.W.nsIn K mainGlobals "reversed" = some none)
    (z_int : PySem.W.nsIn K mainGlobals "int" = some none)
    (z_str : PySem.W.nsIn K mainGlobals "str" = some none)
    (z_enumerate : PySem.W.nsIn K mainGlobals "enumerate" = some none)
    (z_zip : PySem.W.nsIn K mainGlobals "zip" = some none)
    (z_tuple : PySem.W.nsIn K mainGlobals "tuple" = some none)
    (z_abs : PySem.W.nsIn K mainGlobals "abs" = some none)
    (z_bool : PySem.W.nsIn K mainGlobals "bool" = some none)
    (aK_NoStep : PySem.W.nsIn K mainGlobals "NoStep" = some (some (.ref K_NoStep)))
    (aK_TooMany : PySem.W.nsIn K mainGlobals "TooMany" = some (some (.ref K_TooMany)))
    (aK_Nothing : PySem.W.nsIn K mainGlobals "Nothing" = some (some (.ref K_Nothing)))
    (aK_NoPlace : PySem.W.nsIn K mainGlobals "NoPlace" = some (some (.ref K_NoPlace)))
    (aK_NoUndo : PySem.W.nsIn K mainGlobals "NoUndo" = some (some (.ref K_NoUndo)))
    (aK_NoRow : PySem.W.nsIn K mainGlobals "NoRow" = some (some (.ref K_NoRow)))
    (aK_Twice : PySem.W.nsIn K mainGlobals "Twice" = some (some (.ref K_Twice)))
    (aK_NoPair : PySem.W.nsIn K mainGlobals "NoPair" = some (some (.ref K_NoPair)))
    (aK_Same : PySem.W.nsIn K mainGlobals "Same" = some (some (.ref K_Same)))
    (aK_Ring : PySem.W.nsIn K mainGlobals "Ring" = some (some (.ref K_Ring)))
    (aK_TooLong : PySem.W.nsIn K mainGlobals "TooLong" = some (some (.ref K_TooLong)))
    (aK_Unlike : PySem.W.nsIn K mainGlobals "Unlike" = some (some (.ref K_Unlike)))
    (aK_NotFormed : PySem.W.nsIn K mainGlobals "NotFormed" = some (some (.ref K_NotFormed)))
    (aK_Double : PySem.W.nsIn K mainGlobals "Double" = some (some (.ref K_Double)))
    (aK_NoKind : PySem.W.nsIn K mainGlobals "NoKind" = some (some (.ref K_NoKind)))
    (aK_FormError : PySem.W.nsIn K mainGlobals "FormError" = some (some (.ref K_FormError)))
    (kK_NoStep : PySem.W.keepIn K (.ref K_NoStep) = true)
    (xK_NoStep : PySem.W.excIn K K_NoStep [.type "ValueError", .type "Exception", .type "BaseException", .type "object"] "ValueError.__new__" = true)
    (sK_NoStep : PySem.W.subIn K (.ref K_NoStep) (.type "BaseException") = some true)
    (tK_NoStep : PySem.W.typeIn K (.ref K_NoStep) = some (.type "type"))
    (kK_TooMany : PySem.W.keepIn K (.ref K_TooMany) = true)
    (xK_TooMany : PySem.W.excIn K K_TooMany [.type "ValueError", .type "Exception", .type "BaseException", .type "object"] "ValueError.__new__" = true)
    (sK_TooMany : PySem.W.subIn K (.ref K_TooMany) (.type "BaseException") = some true)
    (tK_TooMany : PySem.W.typeIn K (.ref K_TooMany) = some (.type "type"))
    (kK_Nothing : PySem.W.keepIn K (.ref K_Nothing) = true)
    (xK_Nothing : PySem.W.excIn K K_Nothing [.type "ValueError", .type "Exception", .type "BaseException", .type "object"] "ValueError.__new__" = true)
    (sK_Nothing : PySem.W.subIn K (.ref K_Nothing) (.type "BaseException") = some true)
    (tK_Nothing : PySem.W.typeIn K (.ref K_Nothing) = some (.type "type"))
    (kK_NoPlace : PySem.W.keepIn K (.ref K_NoPlace) = true)
    (xK_NoPlace : PySem.W.excIn K K_NoPlace [.type "ValueError", .type "Exception", .type "BaseException", .type "object"] "ValueError.__new__" = true)
    (sK_NoPlace : PySem.W.subIn K (.ref K_NoPlace) (.type "BaseException") = some true)
    (tK_NoPlace : PySem.W.typeIn K (.ref K_NoPlace) = some (.type "type"))
    (kK_NoUndo : PySem.W.keepIn K (.ref K_NoUndo) = true)
    (xK_NoUndo : PySem.W.excIn K K_NoUndo [.type "ValueError", .type "Exception", .type "BaseException", .type "object"] "ValueError.__new__" = true)
    (sK_NoUndo : PySem.W.subIn K (.ref K_NoUndo) (.type "BaseException") = some true)
    (tK_NoUndo : PySem.W.typeIn K (.ref K_NoUndo) = some (.type "type"))
    (ib1 : PySem.W.specialIn K (.builtin "object.__class__") "__get__" = some (some (.builtin "getset_descriptor.__get__")))
    (ib2 : PySem.W.takesIn K (.builtin "object.__class__") = some true)
    (j0_Double : PySem.W.isClsIn K K_Double = true)
    (j1_Double : PySem.W.findIn K (.ref K_Double) "__getattribute__" = some (some (.builtin "BaseException.__getattribute__")))
    (j2_Double : PySem.W.findIn K (.ref K_Double) "__getattr__" = some none)
    (j3_Double : PySem.W.subIn K (.ref K_Double) (.type "BaseException") = some true)
    (j4_Double : PySem.W.findIn K (.ref K_Double) "__class__" = some (some (.builtin "object.__class__")))
    (j5_Double : PySem.W.mroIn K K_Double (.type "object") = some true)
    (j6_Double : PySem.W.hasDictIn K K_Double = true)
    (nf_Double_at : PySem.W.findIn K (.ref K_Double) "at" = some none)
    (nf_Double_sign : PySem.W.findIn K (.ref K_Double) "sign" = some none)
    (nf_Double_one : PySem.W.findIn K (.ref K_Double) "one" = some none)
    (nf_Double_other : PySem.W.findIn K (.ref K_Double) "other" = some none)
    (nf_Double_which : PySem.W.findIn K (.ref K_Double) "which" = some none)
    (nf_Double_signs : PySem.W.findIn K (.ref K_Double) "signs" = some none)
    (s_Double_NoRow : PySem.W.subIn K (.ref K_Double) (.ref K_NoRow) = some false)
    (n_Double_NoRow : (Value.ref K_Double == Value.ref K_NoRow) = false)
    (s_Double_Twice : PySem.W.subIn K (.ref K_Double) (.ref K_Twice) = some false)
    (n_Double_Twice : (Value.ref K_Double == Value.ref K_Twice) = false)
    (s_Double_NoPair : PySem.W.subIn K (.ref K_Double) (.ref K_NoPair) = some false)
    (n_Double_NoPair : (Value.ref K_Double == Value.ref K_NoPair) = false)
    (s_Double_Same : PySem.W.subIn K (.ref K_Double) (.ref K_Same) = some false)
    (n_Double_Same : (Value.ref K_Double == Value.ref K_Same) = false)
    (s_Double_Ring : PySem.W.subIn K (.ref K_Double) (.ref K_Ring) = some false)
    (n_Double_Ring : (Value.ref K_Double == Value.ref K_Ring) = false)
    (s_Double_TooLong : PySem.W.subIn K (.ref K_Double) (.ref K_TooLong) = some false)
    (n_Double_TooLong : (Value.ref K_Double == Value.ref K_TooLong) = false)
    (s_Double_NoStep : PySem.W.subIn K (.ref K_Double) (.ref K_NoStep) = some false)
    (n_Double_NoStep : (Value.ref K_Double == Value.ref K_NoStep) = false)
    (s_Double_Unlike : PySem.W.subIn K (.ref K_Double) (.ref K_Unlike) = some false)
    (n_Double_Unlike : (Value.ref K_Double == Value.ref K_Unlike) = false)
    (s_Double_TooMany : PySem.W.subIn K (.ref K_Double) (.ref K_TooMany) = some false)
    (n_Double_TooMany : (Value.ref K_Double == Value.ref K_TooMany) = false)
    (s_Double_NotFormed : PySem.W.subIn K (.ref K_Double) (.ref K_NotFormed) = some false)
    (n_Double_NotFormed : (Value.ref K_Double == Value.ref K_NotFormed) = false)
    (s_Double_NoKind : PySem.W.subIn K (.ref K_Double) (.ref K_NoKind) = some false)
    (n_Double_NoKind : (Value.ref K_Double == Value.ref K_NoKind) = false)
    (s_Double_Nothing : PySem.W.subIn K (.ref K_Double) (.ref K_Nothing) = some false)
    (n_Double_Nothing : (Value.ref K_Double == Value.ref K_Nothing) = false)
    (s_Double_NoPlace : PySem.W.subIn K (.ref K_Double) (.ref K_NoPlace) = some false)
    (n_Double_NoPlace : (Value.ref K_Double == Value.ref K_NoPlace) = false)
    (s_Double_NoUndo : PySem.W.subIn K (.ref K_Double) (.ref K_NoUndo) = some false)
    (n_Double_NoUndo : (Value.ref K_Double == Value.ref K_NoUndo) = false)
    (s_Double_FormError : PySem.W.subIn K (.ref K_Double) (.ref K_FormError) = some true)
    (n_Double_FormError : (Value.ref K_Double == Value.ref K_FormError) = false)
    (s_Double_ValueError : PySem.W.subIn K (.ref K_Double) (.type "ValueError") = some true)
    (j0_NoKind : PySem.W.isClsIn K K_NoKind = true)
    (j1_NoKind : PySem.W.findIn K (.ref K_NoKind) "__getattribute__" = some (some (.builtin "BaseException.__getattribute__")))
    (j2_NoKind : PySem.W.findIn K (.ref K_NoKind) "__getattr__" = some none)
    (j3_NoKind : PySem.W.subIn K (.ref K_NoKind) (.type "BaseException") = some true)
    (j4_NoKind : PySem.W.findIn K (.ref K_NoKind) "__class__" = some (some (.builtin "object.__class__")))
    (j5_NoKind : PySem.W.mroIn K K_NoKind (.type "object") = some true)
    (j6_NoKind : PySem.W.hasDictIn K K_NoKind = true)
    (nf_NoKind_at : PySem.W.findIn K (.ref K_NoKind) "at" = some none)
    (nf_NoKind_sign : PySem.W.findIn K (.ref K_NoKind) "sign" = some none)
    (nf_NoKind_one : PySem.W.findIn K (.ref K_NoKind) "one" = some none)
    (nf_NoKind_other : PySem.W.findIn K (.ref K_NoKind) "other" = some none)
    (nf_NoKind_which : PySem.W.findIn K (.ref K_NoKind) "which" = some none)
    (nf_NoKind_signs : PySem.W.findIn K (.ref K_NoKind) "signs" = some none)
    (s_NoKind_NoRow : PySem.W.subIn K (.ref K_NoKind) (.ref K_NoRow) = some false)
    (n_NoKind_NoRow : (Value.ref K_NoKind == Value.ref K_NoRow) = false)
    (s_NoKind_Twice : PySem.W.subIn K (.ref K_NoKind) (.ref K_Twice) = some false)
    (n_NoKind_Twice : (Value.ref K_NoKind == Value.ref K_Twice) = false)
    (s_NoKind_NoPair : PySem.W.subIn K (.ref K_NoKind) (.ref K_NoPair) = some false)
    (n_NoKind_NoPair : (Value.ref K_NoKind == Value.ref K_NoPair) = false)
    (s_NoKind_Same : PySem.W.subIn K (.ref K_NoKind) (.ref K_Same) = some false)
    (n_NoKind_Same : (Value.ref K_NoKind == Value.ref K_Same) = false)
    (s_NoKind_Ring : PySem.W.subIn K (.ref K_NoKind) (.ref K_Ring) = some false)
    (n_NoKind_Ring : (Value.ref K_NoKind == Value.ref K_Ring) = false)
    (s_NoKind_TooLong : PySem.W.subIn K (.ref K_NoKind) (.ref K_TooLong) = some false)
    (n_NoKind_TooLong : (Value.ref K_NoKind == Value.ref K_TooLong) = false)
    (s_NoKind_NoStep : PySem.W.subIn K (.ref K_NoKind) (.ref K_NoStep) = some false)
    (n_NoKind_NoStep : (Value.ref K_NoKind == Value.ref K_NoStep) = false)
    (s_NoKind_Unlike : PySem.W.subIn K (.ref K_NoKind) (.ref K_Unlike) = some false)
    (n_NoKind_Unlike : (Value.ref K_NoKind == Value.ref K_Unlike) = false)
    (s_NoKind_TooMany : PySem.W.subIn K (.ref K_NoKind) (.ref K_TooMany) = some false)
    (n_NoKind_TooMany : (Value.ref K_NoKind == Value.ref K_TooMany) = false)
    (s_NoKind_NotFormed : PySem.W.subIn K (.ref K_NoKind) (.ref K_NotFormed) = some false)
    (n_NoKind_NotFormed : (Value.ref K_NoKind == Value.ref K_NotFormed) = false)
    (s_NoKind_Double : PySem.W.subIn K (.ref K_NoKind) (.ref K_Double) = some false)
    (n_NoKind_Double : (Value.ref K_NoKind == Value.ref K_Double) = false)
    (s_NoKind_Nothing : PySem.W.subIn K (.ref K_NoKind) (.ref K_Nothing) = some false)
    (n_NoKind_Nothing : (Value.ref K_NoKind == Value.ref K_Nothing) = false)
    (s_NoKind_NoPlace : PySem.W.subIn K (.ref K_NoKind) (.ref K_NoPlace) = some false)
    (n_NoKind_NoPlace : (Value.ref K_NoKind == Value.ref K_NoPlace) = false)
    (s_NoKind_NoUndo : PySem.W.subIn K (.ref K_NoKind) (.ref K_NoUndo) = some false)
    (n_NoKind_NoUndo : (Value.ref K_NoKind == Value.ref K_NoUndo) = false)
    (s_NoKind_FormError : PySem.W.subIn K (.ref K_NoKind) (.ref K_FormError) = some true)
    (n_NoKind_FormError : (Value.ref K_NoKind == Value.ref K_FormError) = false)
    (s_NoKind_ValueError : PySem.W.subIn K (.ref K_NoKind) (.type "ValueError") = some true)
    (j0_NoPair : PySem.W.isClsIn K K_NoPair = true)
    (j1_NoPair : PySem.W.findIn K (.ref K_NoPair) "__getattribute__" = some (some (.builtin "BaseException.__getattribute__")))
    (j2_NoPair : PySem.W.findIn K (.ref K_NoPair) "__getattr__" = some none)
    (j3_NoPair : PySem.W.subIn K (.ref K_NoPair) (.type "BaseException") = some true)
    (j4_NoPair : PySem.W.findIn K (.ref K_NoPair) "__class__" = some (some (.builtin "object.__class__")))
    (j5_NoPair : PySem.W.mroIn K K_NoPair (.type "object") = some true)
    (j6_NoPair : PySem.W.hasDictIn K K_NoPair = true)
    (nf_NoPair_at : PySem.W.findIn K (.ref K_NoPair) "at" = some none)
    (nf_NoPair_sign : PySem.W.findIn K (.ref K_NoPair) "sign" = some none)
    (nf_NoPair_one : PySem.W.findIn K (.ref K_NoPair) "one" = some none)
    (nf_NoPair_other : PySem.W.findIn K (.ref K_NoPair) "other" = some none)
    (nf_NoPair_which : PySem.W.findIn K (.ref K_NoPair) "which" = some none)
    (nf_NoPair_signs : PySem.W.findIn K (.ref K_NoPair) "signs" = some none)
    (s_NoPair_NoRow : PySem.W.subIn K (.ref K_NoPair) (.ref K_NoRow) = some false)
    (n_NoPair_NoRow : (Value.ref K_NoPair == Value.ref K_NoRow) = false)
    (s_NoPair_Twice : PySem.W.subIn K (.ref K_NoPair) (.ref K_Twice) = some false)
    (n_NoPair_Twice : (Value.ref K_NoPair == Value.ref K_Twice) = false)
    (s_NoPair_Same : PySem.W.subIn K (.ref K_NoPair) (.ref K_Same) = some false)
    (n_NoPair_Same : (Value.ref K_NoPair == Value.ref K_Same) = false)
    (s_NoPair_Ring : PySem.W.subIn K (.ref K_NoPair) (.ref K_Ring) = some false)
    (n_NoPair_Ring : (Value.ref K_NoPair == Value.ref K_Ring) = false)
    (s_NoPair_TooLong : PySem.W.subIn K (.ref K_NoPair) (.ref K_TooLong) = some false)
    (n_NoPair_TooLong : (Value.ref K_NoPair == Value.ref K_TooLong) = false)
    (s_NoPair_NoStep : PySem.W.subIn K (.ref K_NoPair) (.ref K_NoStep) = some false)
    (n_NoPair_NoStep : (Value.ref K_NoPair == Value.ref K_NoStep) = false)
    (s_NoPair_Unlike : PySem.W.subIn K (.ref K_NoPair) (.ref K_Unlike) = some false)
    (n_NoPair_Unlike : (Value.ref K_NoPair == Value.ref K_Unlike) = false)
    (s_NoPair_TooMany : PySem.W.subIn K (.ref K_NoPair) (.ref K_TooMany) = some false)
    (n_NoPair_TooMany : (Value.ref K_NoPair == Value.ref K_TooMany) = false)
    (s_NoPair_NotFormed : PySem.W.subIn K (.ref K_NoPair) (.ref K_NotFormed) = some false)
    (n_NoPair_NotFormed : (Value.ref K_NoPair == Value.ref K_NotFormed) = false)
    (s_NoPair_Double : PySem.W.subIn K (.ref K_NoPair) (.ref K_Double) = some false)
    (n_NoPair_Double : (Value.ref K_NoPair == Value.ref K_Double) = false)
    (s_NoPair_NoKind : PySem.W.subIn K (.ref K_NoPair) (.ref K_NoKind) = some false)
    (n_NoPair_NoKind : (Value.ref K_NoPair == Value.ref K_NoKind) = false)
    (s_NoPair_Nothing : PySem.W.subIn K (.ref K_NoPair) (.ref K_Nothing) = some false)
    (n_NoPair_Nothing : (Value.ref K_NoPair == Value.ref K_Nothing) = false)
    (s_NoPair_NoPlace : PySem.W.subIn K (.ref K_NoPair) (.ref K_NoPlace) = some false)
    (n_NoPair_NoPlace : (Value.ref K_NoPair == Value.ref K_NoPlace) = false)
    (s_NoPair_NoUndo : PySem.W.subIn K (.ref K_NoPair) (.ref K_NoUndo) = some false)
    (n_NoPair_NoUndo : (Value.ref K_NoPair == Value.ref K_NoUndo) = false)
    (s_NoPair_FormError : PySem.W.subIn K (.ref K_NoPair) (.ref K_FormError) = some true)
    (n_NoPair_FormError : (Value.ref K_NoPair == Value.ref K_FormError) = false)
    (s_NoPair_ValueError : PySem.W.subIn K (.ref K_NoPair) (.type "ValueError") = some true)
    (j0_NoPlace : PySem.W.isClsIn K K_NoPlace = true)
    (j1_NoPlace : PySem.W.findIn K (.ref K_NoPlace) "__getattribute__" = some (some (.builtin "BaseException.__getattribute__")))
    (j2_NoPlace : PySem.W.findIn K (.ref K_NoPlace) "__getattr__" = some none)
    (j3_NoPlace : PySem.W.subIn K (.ref K_NoPlace) (.type "BaseException") = some true)
    (j4_NoPlace : PySem.W.findIn K (.ref K_NoPlace) "__class__" = some (some (.builtin "object.__class__")))
    (j5_NoPlace : PySem.W.mroIn K K_NoPlace (.type "object") = some true)
    (j6_NoPlace : PySem.W.hasDictIn K K_NoPlace = true)
    (nf_NoPlace_at : PySem.W.findIn K (.ref K_NoPlace) "at" = some none)
    (nf_NoPlace_sign : PySem.W.findIn K (.ref K_NoPlace) "sign" = some none)
    (nf_NoPlace_one : PySem.W.findIn K (.ref K_NoPlace) "one" = some none)
    (nf_NoPlace_other : PySem.W.findIn K (.ref K_NoPlace) "other" = some none)
    (nf_NoPlace_which : PySem.W.findIn K (.ref K_NoPlace) "which" = some none)
    (nf_NoPlace_signs : PySem.W.findIn K (.ref K_NoPlace) "signs" = some none)
    (s_NoPlace_NoRow : PySem.W.subIn K (.ref K_NoPlace) (.ref K_NoRow) = some false)
    (n_NoPlace_NoRow : (Value.ref K_NoPlace == Value.ref K_NoRow) = false)
    (s_NoPlace_Twice : PySem.W.subIn K (.ref K_NoPlace) (.ref K_Twice) = some false)
    (n_NoPlace_Twice : (Value.ref K_NoPlace == Value.ref K_Twice) = false)
    (s_NoPlace_NoPair : PySem.W.subIn K (.ref K_NoPlace) (.ref K_NoPair) = some false)
    (n_NoPlace_NoPair : (Value.ref K_NoPlace == Value.ref K_NoPair) = false)
    (s_NoPlace_Same : PySem.W.subIn K (.ref K_NoPlace) (.ref K_Same) = some false)
    (n_NoPlace_Same : (Value.ref K_NoPlace == Value.ref K_Same) = false)
    (s_NoPlace_Ring : PySem.W.subIn K (.ref K_NoPlace) (.ref K_Ring) = some false)
    (n_NoPlace_Ring : (Value.ref K_NoPlace == Value.ref K_Ring) = false)
    (s_NoPlace_TooLong : PySem.W.subIn K (.ref K_NoPlace) (.ref K_TooLong) = some false)
    (n_NoPlace_TooLong : (Value.ref K_NoPlace == Value.ref K_TooLong) = false)
    (s_NoPlace_NoStep : PySem.W.subIn K (.ref K_NoPlace) (.ref K_NoStep) = some false)
    (n_NoPlace_NoStep : (Value.ref K_NoPlace == Value.ref K_NoStep) = false)
    (s_NoPlace_Unlike : PySem.W.subIn K (.ref K_NoPlace) (.ref K_Unlike) = some false)
    (n_NoPlace_Unlike : (Value.ref K_NoPlace == Value.ref K_Unlike) = false)
    (s_NoPlace_TooMany : PySem.W.subIn K (.ref K_NoPlace) (.ref K_TooMany) = some false)
    (n_NoPlace_TooMany : (Value.ref K_NoPlace == Value.ref K_TooMany) = false)
    (s_NoPlace_NotFormed : PySem.W.subIn K (.ref K_NoPlace) (.ref K_NotFormed) = some false)
    (n_NoPlace_NotFormed : (Value.ref K_NoPlace == Value.ref K_NotFormed) = false)
    (s_NoPlace_Double : PySem.W.subIn K (.ref K_NoPlace) (.ref K_Double) = some false)
    (n_NoPlace_Double : (Value.ref K_NoPlace == Value.ref K_Double) = false)
    (s_NoPlace_NoKind : PySem.W.subIn K (.ref K_NoPlace) (.ref K_NoKind) = some false)
    (n_NoPlace_NoKind : (Value.ref K_NoPlace == Value.ref K_NoKind) = false)
    (s_NoPlace_Nothing : PySem.W.subIn K (.ref K_NoPlace) (.ref K_Nothing) = some false)
    (n_NoPlace_Nothing : (Value.ref K_NoPlace == Value.ref K_Nothing) = false)
    (s_NoPlace_NoUndo : PySem.W.subIn K (.ref K_NoPlace) (.ref K_NoUndo) = some false)
    (n_NoPlace_NoUndo : (Value.ref K_NoPlace == Value.ref K_NoUndo) = false)
    (s_NoPlace_FormError : PySem.W.subIn K (.ref K_NoPlace) (.ref K_FormError) = some true)
    (n_NoPlace_FormError : (Value.ref K_NoPlace == Value.ref K_FormError) = false)
    (s_NoPlace_ValueError : PySem.W.subIn K (.ref K_NoPlace) (.type "ValueError") = some true)
    (j0_NoRow : PySem.W.isClsIn K K_NoRow = true)
    (j1_NoRow : PySem.W.findIn K (.ref K_NoRow) "__getattribute__" = some (some (.builtin "BaseException.__getattribute__")))
    (j2_NoRow : PySem.W.findIn K (.ref K_NoRow) "__getattr__" = some none)
    (j3_NoRow : PySem.W.subIn K (.ref K_NoRow) (.type "BaseException") = some true)
    (j4_NoRow : PySem.W.findIn K (.ref K_NoRow) "__class__" = some (some (.builtin "object.__class__")))
    (j5_NoRow : PySem.W.mroIn K K_NoRow (.type "object") = some true)
    (j6_NoRow : PySem.W.hasDictIn K K_NoRow = true)
    (nf_NoRow_at : PySem.W.findIn K (.ref K_NoRow) "at" = some none)
    (nf_NoRow_sign : PySem.W.findIn K (.ref K_NoRow) "sign" = some none)
    (nf_NoRow_one : PySem.W.findIn K (.ref K_NoRow) "one" = some none)
    (nf_NoRow_other : PySem.W.findIn K (.ref K_NoRow) "other" = some none)
    (nf_NoRow_which : PySem.W.findIn K (.ref K_NoRow) "which" = some none)
    (nf_NoRow_signs : PySem.W.findIn K (.ref K_NoRow) "signs" = some none)
    (s_NoRow_Twice : PySem.W.subIn K (.ref K_NoRow) (.ref K_Twice) = some false)
    (n_NoRow_Twice : (Value.ref K_NoRow == Value.ref K_Twice) = false)
    (s_NoRow_NoPair : PySem.W.subIn K (.ref K_NoRow) (.ref K_NoPair) = some false)
    (n_NoRow_NoPair : (Value.ref K_NoRow == Value.ref K_NoPair) = false)
    (s_NoRow_Same : PySem.W.subIn K (.ref K_NoRow) (.ref K_Same) = some false)
    (n_NoRow_Same : (Value.ref K_NoRow == Value.ref K_Same) = false)
    (s_NoRow_Ring : PySem.W.subIn K (.ref K_NoRow) (.ref K_Ring) = some false)
    (n_NoRow_Ring : (Value.ref K_NoRow == Value.ref K_Ring) = false)
    (s_NoRow_TooLong : PySem.W.subIn K (.ref K_NoRow) (.ref K_TooLong) = some false)
    (n_NoRow_TooLong : (Value.ref K_NoRow == Value.ref K_TooLong) = false)
    (s_NoRow_NoStep : PySem.W.subIn K (.ref K_NoRow) (.ref K_NoStep) = some false)
    (n_NoRow_NoStep : (Value.ref K_NoRow == Value.ref K_NoStep) = false)
    (s_NoRow_Unlike : PySem.W.subIn K (.ref K_NoRow) (.ref K_Unlike) = some false)
    (n_NoRow_Unlike : (Value.ref K_NoRow == Value.ref K_Unlike) = false)
    (s_NoRow_TooMany : PySem.W.subIn K (.ref K_NoRow) (.ref K_TooMany) = some false)
    (n_NoRow_TooMany : (Value.ref K_NoRow == Value.ref K_TooMany) = false)
    (s_NoRow_NotFormed : PySem.W.subIn K (.ref K_NoRow) (.ref K_NotFormed) = some false)
    (n_NoRow_NotFormed : (Value.ref K_NoRow == Value.ref K_NotFormed) = false)
    (s_NoRow_Double : PySem.W.subIn K (.ref K_NoRow) (.ref K_Double) = some false)
    (n_NoRow_Double : (Value.ref K_NoRow == Value.ref K_Double) = false)
    (s_NoRow_NoKind : PySem.W.subIn K (.ref K_NoRow) (.ref K_NoKind) = some false)
    (n_NoRow_NoKind : (Value.ref K_NoRow == Value.ref K_NoKind) = false)
    (s_NoRow_Nothing : PySem.W.subIn K (.ref K_NoRow) (.ref K_Nothing) = some false)
    (n_NoRow_Nothing : (Value.ref K_NoRow == Value.ref K_Nothing) = false)
    (s_NoRow_NoPlace : PySem.W.subIn K (.ref K_NoRow) (.ref K_NoPlace) = some false)
    (n_NoRow_NoPlace : (Value.ref K_NoRow == Value.ref K_NoPlace) = false)
    (s_NoRow_NoUndo : PySem.W.subIn K (.ref K_NoRow) (.ref K_NoUndo) = some false)
    (n_NoRow_NoUndo : (Value.ref K_NoRow == Value.ref K_NoUndo) = false)
    (s_NoRow_FormError : PySem.W.subIn K (.ref K_NoRow) (.ref K_FormError) = some true)
    (n_NoRow_FormError : (Value.ref K_NoRow == Value.ref K_FormError) = false)
    (s_NoRow_ValueError : PySem.W.subIn K (.ref K_NoRow) (.type "ValueError") = some true)
    (j0_NoStep : PySem.W.isClsIn K K_NoStep = true)
    (j1_NoStep : PySem.W.findIn K (.ref K_NoStep) "__getattribute__" = some (some (.builtin "BaseException.__getattribute__")))
    (j2_NoStep : PySem.W.findIn K (.ref K_NoStep) "__getattr__" = some none)
    (j3_NoStep : PySem.W.subIn K (.ref K_NoStep) (.type "BaseException") = some true)
    (j4_NoStep : PySem.W.findIn K (.ref K_NoStep) "__class__" = some (some (.builtin "object.__class__")))
    (j5_NoStep : PySem.W.mroIn K K_NoStep (.type "object") = some true)
    (j6_NoStep : PySem.W.hasDictIn K K_NoStep = true)
    (nf_NoStep_at : PySem.W.findIn K (.ref K_NoStep) "at" = some none)
    (nf_NoStep_sign : PySem.W.findIn K (.ref K_NoStep) "sign" = some none)
    (nf_NoStep_one : PySem.W.findIn K (.ref K_NoStep) "one" = some none)
    (nf_NoStep_other : PySem.W.findIn K (.ref K_NoStep) "other" = some none)
    (nf_NoStep_which : PySem.W.findIn K (.ref K_NoStep) "which" = some none)
    (nf_NoStep_signs : PySem.W.findIn K (.ref K_NoStep) "signs" = some none)
    (s_NoStep_NoRow : PySem.W.subIn K (.ref K_NoStep) (.ref K_NoRow) = some false)
    (n_NoStep_NoRow : (Value.ref K_NoStep == Value.ref K_NoRow) = false)
    (s_NoStep_Twice : PySem.W.subIn K (.ref K_NoStep) (.ref K_Twice) = some false)
    (n_NoStep_Twice : (Value.ref K_NoStep == Value.ref K_Twice) = false)
    (s_NoStep_NoPair : PySem.W.subIn K (.ref K_NoStep) (.ref K_NoPair) = some false)
    (n_NoStep_NoPair : (Value.ref K_NoStep == Value.ref K_NoPair) = false)
    (s_NoStep_Same : PySem.W.subIn K (.ref K_NoStep) (.ref K_Same) = some false)
    (n_NoStep_Same : (Value.ref K_NoStep == Value.ref K_Same) = false)
    (s_NoStep_Ring : PySem.W.subIn K (.ref K_NoStep) (.ref K_Ring) = some false)
    (n_NoStep_Ring : (Value.ref K_NoStep == Value.ref K_Ring) = false)
    (s_NoStep_TooLong : PySem.W.subIn K (.ref K_NoStep) (.ref K_TooLong) = some false)
    (n_NoStep_TooLong : (Value.ref K_NoStep == Value.ref K_TooLong) = false)
    (s_NoStep_Unlike : PySem.W.subIn K (.ref K_NoStep) (.ref K_Unlike) = some false)
    (n_NoStep_Unlike : (Value.ref K_NoStep == Value.ref K_Unlike) = false)
    (s_NoStep_TooMany : PySem.W.subIn K (.ref K_NoStep) (.ref K_TooMany) = some false)
    (n_NoStep_TooMany : (Value.ref K_NoStep == Value.ref K_TooMany) = false)
    (s_NoStep_NotFormed : PySem.W.subIn K (.ref K_NoStep) (.ref K_NotFormed) = some false)
    (n_NoStep_NotFormed : (Value.ref K_NoStep == Value.ref K_NotFormed) = false)
    (s_NoStep_Double : PySem.W.subIn K (.ref K_NoStep) (.ref K_Double) = some false)
    (n_NoStep_Double : (Value.ref K_NoStep == Value.ref K_Double) = false)
    (s_NoStep_NoKind : PySem.W.subIn K (.ref K_NoStep) (.ref K_NoKind) = some false)
    (n_NoStep_NoKind : (Value.ref K_NoStep == Value.ref K_NoKind) = false)
    (s_NoStep_Nothing : PySem.W.subIn K (.ref K_NoStep) (.ref K_Nothing) = some false)
    (n_NoStep_Nothing : (Value.ref K_NoStep == Value.ref K_Nothing) = false)
    (s_NoStep_NoPlace : PySem.W.subIn K (.ref K_NoStep) (.ref K_NoPlace) = some false)
    (n_NoStep_NoPlace : (Value.ref K_NoStep == Value.ref K_NoPlace) = false)
    (s_NoStep_NoUndo : PySem.W.subIn K (.ref K_NoStep) (.ref K_NoUndo) = some false)
    (n_NoStep_NoUndo : (Value.ref K_NoStep == Value.ref K_NoUndo) = false)
    (s_NoStep_FormError : PySem.W.subIn K (.ref K_NoStep) (.ref K_FormError) = some true)
    (n_NoStep_FormError : (Value.ref K_NoStep == Value.ref K_FormError) = false)
    (s_NoStep_ValueError : PySem.W.subIn K (.ref K_NoStep) (.type "ValueError") = some true)
    (j0_NoUndo : PySem.W.isClsIn K K_NoUndo = true)
    (j1_NoUndo : PySem.W.findIn K (.ref K_NoUndo) "__getattribute__" = some (some (.builtin "BaseException.__getattribute__")))
    (j2_NoUndo : PySem.W.findIn K (.ref K_NoUndo) "__getattr__" = some none)
    (j3_NoUndo : PySem.W.subIn K (.ref K_NoUndo) (.type "BaseException") = some true)
    (j4_NoUndo : PySem.W.findIn K (.ref K_NoUndo) "__class__" = some (some (.builtin "object.__class__")))
    (j5_NoUndo : PySem.W.mroIn K K_NoUndo (.type "object") = some true)
    (j6_NoUndo : PySem.W.hasDictIn K K_NoUndo = true)
    (nf_NoUndo_at : PySem.W.findIn K (.ref K_NoUndo) "at" = some none)
    (nf_NoUndo_sign : PySem.W.findIn K (.ref K_NoUndo) "sign" = some none)
    (nf_NoUndo_one : PySem.W.findIn K (.ref K_NoUndo) "one" = some none)
    (nf_NoUndo_other : PySem.W.findIn K (.ref K_NoUndo) "other" = some none)
    (nf_NoUndo_which : PySem.W.findIn K (.ref K_NoUndo) "which" = some none)
    (nf_NoUndo_signs : PySem.W.findIn K (.ref K_NoUndo) "signs" = some none)
    (s_NoUndo_NoRow : PySem.W.subIn K (.ref K_NoUndo) (.ref K_NoRow) = some false)
    (n_NoUndo_NoRow : (Value.ref K_NoUndo == Value.ref K_NoRow) = false)
    (s_NoUndo_Twice : PySem.W.subIn K (.ref K_NoUndo) (.ref K_Twice) = some false)
    (n_NoUndo_Twice : (Value.ref K_NoUndo == Value.ref K_Twice) = false)
    (s_NoUndo_NoPair : PySem.W.subIn K (.ref K_NoUndo) (.ref K_NoPair) = some false)
    (n_NoUndo_NoPair : (Value.ref K_NoUndo == Value.ref K_NoPair) = false)
    (s_NoUndo_Same : PySem.W.subIn K (.ref K_NoUndo) (.ref K_Same) = some false)
    (n_NoUndo_Same : (Value.ref K_NoUndo == Value.ref K_Same) = false)
    (s_NoUndo_Ring : PySem.W.subIn K (.ref K_NoUndo) (.ref K_Ring) = some false)
    (n_NoUndo_Ring : (Value.ref K_NoUndo == Value.ref K_Ring) = false)
    (s_NoUndo_TooLong : PySem.W.subIn K (.ref K_NoUndo) (.ref K_TooLong) = some false)
    (n_NoUndo_TooLong : (Value.ref K_NoUndo == Value.ref K_TooLong) = false)
    (s_NoUndo_NoStep : PySem.W.subIn K (.ref K_NoUndo) (.ref K_NoStep) = some false)
    (n_NoUndo_NoStep : (Value.ref K_NoUndo == Value.ref K_NoStep) = false)
    (s_NoUndo_Unlike : PySem.W.subIn K (.ref K_NoUndo) (.ref K_Unlike) = some false)
    (n_NoUndo_Unlike : (Value.ref K_NoUndo == Value.ref K_Unlike) = false)
    (s_NoUndo_TooMany : PySem.W.subIn K (.ref K_NoUndo) (.ref K_TooMany) = some false)
    (n_NoUndo_TooMany : (Value.ref K_NoUndo == Value.ref K_TooMany) = false)
    (s_NoUndo_NotFormed : PySem.W.subIn K (.ref K_NoUndo) (.ref K_NotFormed) = some false)
    (n_NoUndo_NotFormed : (Value.ref K_NoUndo == Value.ref K_NotFormed) = false)
    (s_NoUndo_Double : PySem.W.subIn K (.ref K_NoUndo) (.ref K_Double) = some false)
    (n_NoUndo_Double : (Value.ref K_NoUndo == Value.ref K_Double) = false)
    (s_NoUndo_NoKind : PySem.W.subIn K (.ref K_NoUndo) (.ref K_NoKind) = some false)
    (n_NoUndo_NoKind : (Value.ref K_NoUndo == Value.ref K_NoKind) = false)
    (s_NoUndo_Nothing : PySem.W.subIn K (.ref K_NoUndo) (.ref K_Nothing) = some false)
    (n_NoUndo_Nothing : (Value.ref K_NoUndo == Value.ref K_Nothing) = false)
    (s_NoUndo_NoPlace : PySem.W.subIn K (.ref K_NoUndo) (.ref K_NoPlace) = some false)
    (n_NoUndo_NoPlace : (Value.ref K_NoUndo == Value.ref K_NoPlace) = false)
    (s_NoUndo_FormError : PySem.W.subIn K (.ref K_NoUndo) (.ref K_FormError) = some true)
    (n_NoUndo_FormError : (Value.ref K_NoUndo == Value.ref K_FormError) = false)
    (s_NoUndo_ValueError : PySem.W.subIn K (.ref K_NoUndo) (.type "ValueError") = some true)
    (j0_NotFormed : PySem.W.isClsIn K K_NotFormed = true)
    (j1_NotFormed : PySem.W.findIn K (.ref K_NotFormed) "__getattribute__" = some (some (.builtin "BaseException.__getattribute__")))
    (j2_NotFormed : PySem.W.findIn K (.ref K_NotFormed) "__getattr__" = some none)
    (j3_NotFormed : PySem.W.subIn K (.ref K_NotFormed) (.type "BaseException") = some true)
    (j4_NotFormed : PySem.W.findIn K (.ref K_NotFormed) "__class__" = some (some (.builtin "object.__class__")))
    (j5_NotFormed : PySem.W.mroIn K K_NotFormed (.type "object") = some true)
    (j6_NotFormed : PySem.W.hasDictIn K K_NotFormed = true)
    (nf_NotFormed_at : PySem.W.findIn K (.ref K_NotFormed) "at" = some none)
    (nf_NotFormed_sign : PySem.W.findIn K (.ref K_NotFormed) "sign" = some none)
    (nf_NotFormed_one : PySem.W.findIn K (.ref K_NotFormed) "one" = some none)
    (nf_NotFormed_other : PySem.W.findIn K (.ref K_NotFormed) "other" = some none)
    (nf_NotFormed_which : PySem.W.findIn K (.ref K_NotFormed) "which" = some none)
    (nf_NotFormed_signs : PySem.W.findIn K (.ref K_NotFormed) "signs" = some none)
    (s_NotFormed_NoRow : PySem.W.subIn K (.ref K_NotFormed) (.ref K_NoRow) = some false)
    (n_NotFormed_NoRow : (Value.ref K_NotFormed == Value.ref K_NoRow) = false)
    (s_NotFormed_Twice : PySem.W.subIn K (.ref K_NotFormed) (.ref K_Twice) = some false)
    (n_NotFormed_Twice : (Value.ref K_NotFormed == Value.ref K_Twice) = false)
    (s_NotFormed_NoPair : PySem.W.subIn K (.ref K_NotFormed) (.ref K_NoPair) = some false)
    (n_NotFormed_NoPair : (Value.ref K_NotFormed == Value.ref K_NoPair) = false)
    (s_NotFormed_Same : PySem.W.subIn K (.ref K_NotFormed) (.ref K_Same) = some false)
    (n_NotFormed_Same : (Value.ref K_NotFormed == Value.ref K_Same) = false)
    (s_NotFormed_Ring : PySem.W.subIn K (.ref K_NotFormed) (.ref K_Ring) = some false)
    (n_NotFormed_Ring : (Value.ref K_NotFormed == Value.ref K_Ring) = false)
    (s_NotFormed_TooLong : PySem.W.subIn K (.ref K_NotFormed) (.ref K_TooLong) = some false)
    (n_NotFormed_TooLong : (Value.ref K_NotFormed == Value.ref K_TooLong) = false)
    (s_NotFormed_NoStep : PySem.W.subIn K (.ref K_NotFormed) (.ref K_NoStep) = some false)
    (n_NotFormed_NoStep : (Value.ref K_NotFormed == Value.ref K_NoStep) = false)
    (s_NotFormed_Unlike : PySem.W.subIn K (.ref K_NotFormed) (.ref K_Unlike) = some false)
    (n_NotFormed_Unlike : (Value.ref K_NotFormed == Value.ref K_Unlike) = false)
    (s_NotFormed_TooMany : PySem.W.subIn K (.ref K_NotFormed) (.ref K_TooMany) = some false)
    (n_NotFormed_TooMany : (Value.ref K_NotFormed == Value.ref K_TooMany) = false)
    (s_NotFormed_Double : PySem.W.subIn K (.ref K_NotFormed) (.ref K_Double) = some false)
    (n_NotFormed_Double : (Value.ref K_NotFormed == Value.ref K_Double) = false)
    (s_NotFormed_NoKind : PySem.W.subIn K (.ref K_NotFormed) (.ref K_NoKind) = some false)
    (n_NotFormed_NoKind : (Value.ref K_NotFormed == Value.ref K_NoKind) = false)
    (s_NotFormed_Nothing : PySem.W.subIn K (.ref K_NotFormed) (.ref K_Nothing) = some false)
    (n_NotFormed_Nothing : (Value.ref K_NotFormed == Value.ref K_Nothing) = false)
    (s_NotFormed_NoPlace : PySem.W.subIn K (.ref K_NotFormed) (.ref K_NoPlace) = some false)
    (n_NotFormed_NoPlace : (Value.ref K_NotFormed == Value.ref K_NoPlace) = false)
    (s_NotFormed_NoUndo : PySem.W.subIn K (.ref K_NotFormed) (.ref K_NoUndo) = some false)
    (n_NotFormed_NoUndo : (Value.ref K_NotFormed == Value.ref K_NoUndo) = false)
    (s_NotFormed_FormError : PySem.W.subIn K (.ref K_NotFormed) (.ref K_FormError) = some true)
    (n_NotFormed_FormError : (Value.ref K_NotFormed == Value.ref K_FormError) = false)
    (s_NotFormed_ValueError : PySem.W.subIn K (.ref K_NotFormed) (.type "ValueError") = some true)
    (j0_Nothing : PySem.W.isClsIn K K_Nothing = true)
    (j1_Nothing : PySem.W.findIn K (.ref K_Nothing) "__getattribute__" = some (some (.builtin "BaseException.__getattribute__")))
    (j2_Nothing : PySem.W.findIn K (.ref K_Nothing) "__getattr__" = some none)
    (j3_Nothing : PySem.W.subIn K (.ref K_Nothing) (.type "BaseException") = some true)
    (j4_Nothing : PySem.W.findIn K (.ref K_Nothing) "__class__" = some (some (.builtin "object.__class__")))
    (j5_Nothing : PySem.W.mroIn K K_Nothing (.type "object") = some true)
    (j6_Nothing : PySem.W.hasDictIn K K_Nothing = true)
    (nf_Nothing_at : PySem.W.findIn K (.ref K_Nothing) "at" = some none)
    (nf_Nothing_sign : PySem.W.findIn K (.ref K_Nothing) "sign" = some none)
    (nf_Nothing_one : PySem.W.findIn K (.ref K_Nothing) "one" = some none)
    (nf_Nothing_other : PySem.W.findIn K (.ref K_Nothing) "other" = some none)
    (nf_Nothing_which : PySem.W.findIn K (.ref K_Nothing) "which" = some none)
    (nf_Nothing_signs : PySem.W.findIn K (.ref K_Nothing) "signs" = some none)
    (s_Nothing_NoRow : PySem.W.subIn K (.ref K_Nothing) (.ref K_NoRow) = some false)
    (n_Nothing_NoRow : (Value.ref K_Nothing == Value.ref K_NoRow) = false)
    (s_Nothing_Twice : PySem.W.subIn K (.ref K_Nothing) (.ref K_Twice) = some false)
    (n_Nothing_Twice : (Value.ref K_Nothing == Value.ref K_Twice) = false)
    (s_Nothing_NoPair : PySem.W.subIn K (.ref K_Nothing) (.ref K_NoPair) = some false)
    (n_Nothing_NoPair : (Value.ref K_Nothing == Value.ref K_NoPair) = false)
    (s_Nothing_Same : PySem.W.subIn K (.ref K_Nothing) (.ref K_Same) = some false)
    (n_Nothing_Same : (Value.ref K_Nothing == Value.ref K_Same) = false)
    (s_Nothing_Ring : PySem.W.subIn K (.ref K_Nothing) (.ref K_Ring) = some false)
    (n_Nothing_Ring : (Value.ref K_Nothing == Value.ref K_Ring) = false)
    (s_Nothing_TooLong : PySem.W.subIn K (.ref K_Nothing) (.ref K_TooLong) = some false)
    (n_Nothing_TooLong : (Value.ref K_Nothing == Value.ref K_TooLong) = false)
    (s_Nothing_NoStep : PySem.W.subIn K (.ref K_Nothing) (.ref K_NoStep) = some false)
    (n_Nothing_NoStep : (Value.ref K_Nothing == Value.ref K_NoStep) = false)
    (s_Nothing_Unlike : PySem.W.subIn K (.ref K_Nothing) (.ref K_Unlike) = some false)
    (n_Nothing_Unlike : (Value.ref K_Nothing == Value.ref K_Unlike) = false)
    (s_Nothing_TooMany : PySem.W.subIn K (.ref K_Nothing) (.ref K_TooMany) = some false)
    (n_Nothing_TooMany : (Value.ref K_Nothing == Value.ref K_TooMany) = false)
    (s_Nothing_NotFormed : PySem.W.subIn K (.ref K_Nothing) (.ref K_NotFormed) = some false)
    (n_Nothing_NotFormed : (Value.ref K_Nothing == Value.ref K_NotFormed) = false)
    (s_Nothing_Double : PySem.W.subIn K (.ref K_Nothing) (.ref K_Double) = some false)
    (n_Nothing_Double : (Value.ref K_Nothing == Value.ref K_Double) = false)
    (s_Nothing_NoKind : PySem.W.subIn K (.ref K_Nothing) (.ref K_NoKind) = some false)
    (n_Nothing_NoKind : (Value.ref K_Nothing == Value.ref K_NoKind) = false)
    (s_Nothing_NoPlace : PySem.W.subIn K (.ref K_Nothing) (.ref K_NoPlace) = some false)
    (n_Nothing_NoPlace : (Value.ref K_Nothing == Value.ref K_NoPlace) = false)
    (s_Nothing_NoUndo : PySem.W.subIn K (.ref K_Nothing) (.ref K_NoUndo) = some false)
    (n_Nothing_NoUndo : (Value.ref K_Nothing == Value.ref K_NoUndo) = false)
    (s_Nothing_FormError : PySem.W.subIn K (.ref K_Nothing) (.ref K_FormError) = some true)
    (n_Nothing_FormError : (Value.ref K_Nothing == Value.ref K_FormError) = false)
    (s_Nothing_ValueError : PySem.W.subIn K (.ref K_Nothing) (.type "ValueError") = some true)
    (j0_Ring : PySem.W.isClsIn K K_Ring = true)
    (j1_Ring : PySem.W.findIn K (.ref K_Ring) "__getattribute__" = some (some (.builtin "BaseException.__getattribute__")))
    (j2_Ring : PySem.W.findIn K (.ref K_Ring) "__getattr__" = some none)
    (j3_Ring : PySem.W.subIn K (.ref K_Ring) (.type "BaseException") = some true)
    (j4_Ring : PySem.W.findIn K (.ref K_Ring) "__class__" = some (some (.builtin "object.__class__")))
    (j5_Ring : PySem.W.mroIn K K_Ring (.type "object") = some true)
    (j6_Ring : PySem.W.hasDictIn K K_Ring = true)
    (nf_Ring_at : PySem.W.findIn K (.ref K_Ring) "at" = some none)
    (nf_Ring_sign : PySem.W.findIn K (.ref K_Ring) "sign" = some none)
    (nf_Ring_one : PySem.W.findIn K (.ref K_Ring) "one" = some none)
    (nf_Ring_other : PySem.W.findIn K (.ref K_Ring) "other" = some none)
    (nf_Ring_which : PySem.W.findIn K (.ref K_Ring) "which" = some none)
    (nf_Ring_signs : PySem.W.findIn K (.ref K_Ring) "signs" = some none)
    (s_Ring_NoRow : PySem.W.subIn K (.ref K_Ring) (.ref K_NoRow) = some false)
    (n_Ring_NoRow : (Value.ref K_Ring == Value.ref K_NoRow) = false)
    (s_Ring_Twice : PySem.W.subIn K (.ref K_Ring) (.ref K_Twice) = some false)
    (n_Ring_Twice : (Value.ref K_Ring == Value.ref K_Twice) = false)
    (s_Ring_NoPair : PySem.W.subIn K (.ref K_Ring) (.ref K_NoPair) = some false)
    (n_Ring_NoPair : (Value.ref K_Ring == Value.ref K_NoPair) = false)
    (s_Ring_Same : PySem.W.subIn K (.ref K_Ring) (.ref K_Same) = some false)
    (n_Ring_Same : (Value.ref K_Ring == Value.ref K_Same) = false)
    (s_Ring_TooLong : PySem.W.subIn K (.ref K_Ring) (.ref K_TooLong) = some false)
    (n_Ring_TooLong : (Value.ref K_Ring == Value.ref K_TooLong) = false)
    (s_Ring_NoStep : PySem.W.subIn K (.ref K_Ring) (.ref K_NoStep) = some false)
    (n_Ring_NoStep : (Value.ref K_Ring == Value.ref K_NoStep) = false)
    (s_Ring_Unlike : PySem.W.subIn K (.ref K_Ring) (.ref K_Unlike) = some false)
    (n_Ring_Unlike : (Value.ref K_Ring == Value.ref K_Unlike) = false)
    (s_Ring_TooMany : PySem.W.subIn K (.ref K_Ring) (.ref K_TooMany) = some false)
    (n_Ring_TooMany : (Value.ref K_Ring == Value.ref K_TooMany) = false)
    (s_Ring_NotFormed : PySem.W.subIn K (.ref K_Ring) (.ref K_NotFormed) = some false)
    (n_Ring_NotFormed : (Value.ref K_Ring == Value.ref K_NotFormed) = false)
    (s_Ring_Double : PySem.W.subIn K (.ref K_Ring) (.ref K_Double) = some false)
    (n_Ring_Double : (Value.ref K_Ring == Value.ref K_Double) = false)
    (s_Ring_NoKind : PySem.W.subIn K (.ref K_Ring) (.ref K_NoKind) = some false)
    (n_Ring_NoKind : (Value.ref K_Ring == Value.ref K_NoKind) = false)
    (s_Ring_Nothing : PySem.W.subIn K (.ref K_Ring) (.ref K_Nothing) = some false)
    (n_Ring_Nothing : (Value.ref K_Ring == Value.ref K_Nothing) = false)
    (s_Ring_NoPlace : PySem.W.subIn K (.ref K_Ring) (.ref K_NoPlace) = some false)
    (n_Ring_NoPlace : (Value.ref K_Ring == Value.ref K_NoPlace) = false)
    (s_Ring_NoUndo : PySem.W.subIn K (.ref K_Ring) (.ref K_NoUndo) = some false)
    (n_Ring_NoUndo : (Value.ref K_Ring == Value.ref K_NoUndo) = false)
    (s_Ring_FormError : PySem.W.subIn K (.ref K_Ring) (.ref K_FormError) = some true)
    (n_Ring_FormError : (Value.ref K_Ring == Value.ref K_FormError) = false)
    (s_Ring_ValueError : PySem.W.subIn K (.ref K_Ring) (.type "ValueError") = some true)
    (j0_Same : PySem.W.isClsIn K K_Same = true)
    (j1_Same : PySem.W.findIn K (.ref K_Same) "__getattribute__" = some (some (.builtin "BaseException.__getattribute__")))
    (j2_Same : PySem.W.findIn K (.ref K_Same) "__getattr__" = some none)
    (j3_Same : PySem.W.subIn K (.ref K_Same) (.type "BaseException") = some true)
    (j4_Same : PySem.W.findIn K (.ref K_Same) "__class__" = some (some (.builtin "object.__class__")))
    (j5_Same : PySem.W.mroIn K K_Same (.type "object") = some true)
    (j6_Same : PySem.W.hasDictIn K K_Same = true)
    (nf_Same_at : PySem.W.findIn K (.ref K_Same) "at" = some none)
    (nf_Same_sign : PySem.W.findIn K (.ref K_Same) "sign" = some none)
    (nf_Same_one : PySem.W.findIn K (.ref K_Same) "one" = some none)
    (nf_Same_other : PySem.W.findIn K (.ref K_Same) "other" = some none)
    (nf_Same_which : PySem.W.findIn K (.ref K_Same) "which" = some none)
    (nf_Same_signs : PySem.W.findIn K (.ref K_Same) "signs" = some none)
    (s_Same_NoRow : PySem.W.subIn K (.ref K_Same) (.ref K_NoRow) = some false)
    (n_Same_NoRow : (Value.ref K_Same == Value.ref K_NoRow) = false)
    (s_Same_Twice : PySem.W.subIn K (.ref K_Same) (.ref K_Twice) = some false)
    (n_Same_Twice : (Value.ref K_Same == Value.ref K_Twice) = false)
    (s_Same_NoPair : PySem.W.subIn K (.ref K_Same) (.ref K_NoPair) = some false)
    (n_Same_NoPair : (Value.ref K_Same == Value.ref K_NoPair) = false)
    (s_Same_Ring : PySem.W.subIn K (.ref K_Same) (.ref K_Ring) = some false)
    (n_Same_Ring : (Value.ref K_Same == Value.ref K_Ring) = false)
    (s_Same_TooLong : PySem.W.subIn K (.ref K_Same) (.ref K_TooLong) = some false)
    (n_Same_TooLong : (Value.ref K_Same == Value.ref K_TooLong) = false)
    (s_Same_NoStep : PySem.W.subIn K (.ref K_Same) (.ref K_NoStep) = some false)
    (n_Same_NoStep : (Value.ref K_Same == Value.ref K_NoStep) = false)
    (s_Same_Unlike : PySem.W.subIn K (.ref K_Same) (.ref K_Unlike) = some false)
    (n_Same_Unlike : (Value.ref K_Same == Value.ref K_Unlike) = false)
    (s_Same_TooMany : PySem.W.subIn K (.ref K_Same) (.ref K_TooMany) = some false)
    (n_Same_TooMany : (Value.ref K_Same == Value.ref K_TooMany) = false)
    (s_Same_NotFormed : PySem.W.subIn K (.ref K_Same) (.ref K_NotFormed) = some false)
    (n_Same_NotFormed : (Value.ref K_Same == Value.ref K_NotFormed) = false)
    (s_Same_Double : PySem.W.subIn K (.ref K_Same) (.ref K_Double) = some false)
    (n_Same_Double : (Value.ref K_Same == Value.ref K_Double) = false)
    (s_Same_NoKind : PySem.W.subIn K (.ref K_Same) (.ref K_NoKind) = some false)
    (n_Same_NoKind : (Value.ref K_Same == Value.ref K_NoKind) = false)
    (s_Same_Nothing : PySem.W.subIn K (.ref K_Same) (.ref K_Nothing) = some false)
    (n_Same_Nothing : (Value.ref K_Same == Value.ref K_Nothing) = false)
    (s_Same_NoPlace : PySem.W.subIn K (.ref K_Same) (.ref K_NoPlace) = some false)
    (n_Same_NoPlace : (Value.ref K_Same == Value.ref K_NoPlace) = false)
    (s_Same_NoUndo : PySem.W.subIn K (.ref K_Same) (.ref K_NoUndo) = some false)
    (n_Same_NoUndo : (Value.ref K_Same == Value.ref K_NoUndo) = false)
    (s_Same_FormError : PySem.W.subIn K (.ref K_Same) (.ref K_FormError) = some true)
    (n_Same_FormError : (Value.ref K_Same == Value.ref K_FormError) = false)
    (s_Same_ValueError : PySem.W.subIn K (.ref K_Same) (.type "ValueError") = some true)
    (j0_TooLong : PySem.W.isClsIn K K_TooLong = true)
    (j1_TooLong : PySem.W.findIn K (.ref K_TooLong) "__getattribute__" = some (some (.builtin "BaseException.__getattribute__")))
    (j2_TooLong : PySem.W.findIn K (.ref K_TooLong) "__getattr__" = some none)
    (j3_TooLong : PySem.W.subIn K (.ref K_TooLong) (.type "BaseException") = some true)
    (j4_TooLong : PySem.W.findIn K (.ref K_TooLong) "__class__" = some (some (.builtin "object.__class__")))
    (j5_TooLong : PySem.W.mroIn K K_TooLong (.type "object") = some true)
    (j6_TooLong : PySem.W.hasDictIn K K_TooLong = true)
    (nf_TooLong_at : PySem.W.findIn K (.ref K_TooLong) "at" = some none)
    (nf_TooLong_sign : PySem.W.findIn K (.ref K_TooLong) "sign" = some none)
    (nf_TooLong_one : PySem.W.findIn K (.ref K_TooLong) "one" = some none)
    (nf_TooLong_other : PySem.W.findIn K (.ref K_TooLong) "other" = some none)
    (nf_TooLong_which : PySem.W.findIn K (.ref K_TooLong) "which" = some none)
    (nf_TooLong_signs : PySem.W.findIn K (.ref K_TooLong) "signs" = some none)
    (s_TooLong_NoRow : PySem.W.subIn K (.ref K_TooLong) (.ref K_NoRow) = some false)
    (n_TooLong_NoRow : (Value.ref K_TooLong == Value.ref K_NoRow) = false)
    (s_TooLong_Twice : PySem.W.subIn K (.ref K_TooLong) (.ref K_Twice) = some false)
    (n_TooLong_Twice : (Value.ref K_TooLong == Value.ref K_Twice) = false)
    (s_TooLong_NoPair : PySem.W.subIn K (.ref K_TooLong) (.ref K_NoPair) = some false)
    (n_TooLong_NoPair : (Value.ref K_TooLong == Value.ref K_NoPair) = false)
    (s_TooLong_Same : PySem.W.subIn K (.ref K_TooLong) (.ref K_Same) = some false)
    (n_TooLong_Same : (Value.ref K_TooLong == Value.ref K_Same) = false)
    (s_TooLong_Ring : PySem.W.subIn K (.ref K_TooLong) (.ref K_Ring) = some false)
    (n_TooLong_Ring : (Value.ref K_TooLong == Value.ref K_Ring) = false)
    (s_TooLong_NoStep : PySem.W.subIn K (.ref K_TooLong) (.ref K_NoStep) = some false)
    (n_TooLong_NoStep : (Value.ref K_TooLong == Value.ref K_NoStep) = false)
    (s_TooLong_Unlike : PySem.W.subIn K (.ref K_TooLong) (.ref K_Unlike) = some false)
    (n_TooLong_Unlike : (Value.ref K_TooLong == Value.ref K_Unlike) = false)
    (s_TooLong_TooMany : PySem.W.subIn K (.ref K_TooLong) (.ref K_TooMany) = some false)
    (n_TooLong_TooMany : (Value.ref K_TooLong == Value.ref K_TooMany) = false)
    (s_TooLong_NotFormed : PySem.W.subIn K (.ref K_TooLong) (.ref K_NotFormed) = some false)
    (n_TooLong_NotFormed : (Value.ref K_TooLong == Value.ref K_NotFormed) = false)
    (s_TooLong_Double : PySem.W.subIn K (.ref K_TooLong) (.ref K_Double) = some false)
    (n_TooLong_Double : (Value.ref K_TooLong == Value.ref K_Double) = false)
    (s_TooLong_NoKind : PySem.W.subIn K (.ref K_TooLong) (.ref K_NoKind) = some false)
    (n_TooLong_NoKind : (Value.ref K_TooLong == Value.ref K_NoKind) = false)
    (s_TooLong_Nothing : PySem.W.subIn K (.ref K_TooLong) (.ref K_Nothing) = some false)
    (n_TooLong_Nothing : (Value.ref K_TooLong == Value.ref K_Nothing) = false)
    (s_TooLong_NoPlace : PySem.W.subIn K (.ref K_TooLong) (.ref K_NoPlace) = some false)
    (n_TooLong_NoPlace : (Value.ref K_TooLong == Value.ref K_NoPlace) = false)
    (s_TooLong_NoUndo : PySem.W.subIn K (.ref K_TooLong) (.ref K_NoUndo) = some false)
    (n_TooLong_NoUndo : (Value.ref K_TooLong == Value.ref K_NoUndo) = false)
    (s_TooLong_FormError : PySem.W.subIn K (.ref K_TooLong) (.ref K_FormError) = some true)
    (n_TooLong_FormError : (Value.ref K_TooLong == Value.ref K_FormError) = false)
    (s_TooLong_ValueError : PySem.W.subIn K (.ref K_TooLong) (.type "ValueError") = some true)
    (j0_TooMany : PySem.W.isClsIn K K_TooMany = true)
    (j1_TooMany : PySem.W.findIn K (.ref K_TooMany) "__getattribute__" = some (some (.builtin "BaseException.__getattribute__")))
    (j2_TooMany : PySem.W.findIn K (.ref K_TooMany) "__getattr__" = some none)
    (j3_TooMany : PySem.W.subIn K (.ref K_TooMany) (.type "BaseException") = some true)
    (j4_TooMany : PySem.W.findIn K (.ref K_TooMany) "__class__" = some (some (.builtin "object.__class__")))
    (j5_TooMany : PySem.W.mroIn K K_TooMany (.type "object") = some true)
    (j6_TooMany : PySem.W.hasDictIn K K_TooMany = true)
    (nf_TooMany_at : PySem.W.findIn K (.ref K_TooMany) "at" = some none)
    (nf_TooMany_sign : PySem.W.findIn K (.ref K_TooMany) "sign" = some none)
    (nf_TooMany_one : PySem.W.findIn K (.ref K_TooMany) "one" = some none)
    (nf_TooMany_other : PySem.W.findIn K (.ref K_TooMany) "other" = some none)
    (nf_TooMany_which : PySem.W.findIn K (.ref K_TooMany) "which" = some none)
    (nf_TooMany_signs : PySem.W.findIn K (.ref K_TooMany) "signs" = some none)
    (s_TooMany_NoRow : PySem.W.subIn K (.ref K_TooMany) (.ref K_NoRow) = some false)
    (n_TooMany_NoRow : (Value.ref K_TooMany == Value.ref K_NoRow) = false)
    (s_TooMany_Twice : PySem.W.subIn K (.ref K_TooMany) (.ref K_Twice) = some false)
    (n_TooMany_Twice : (Value.ref K_TooMany == Value.ref K_Twice) = false)
    (s_TooMany_NoPair : PySem.W.subIn K (.ref K_TooMany) (.ref K_NoPair) = some false)
    (n_TooMany_NoPair : (Value.ref K_TooMany == Value.ref K_NoPair) = false)
    (s_TooMany_Same : PySem.W.subIn K (.ref K_TooMany) (.ref K_Same) = some false)
    (n_TooMany_Same : (Value.ref K_TooMany == Value.ref K_Same) = false)
    (s_TooMany_Ring : PySem.W.subIn K (.ref K_TooMany) (.ref K_Ring) = some false)
    (n_TooMany_Ring : (Value.ref K_TooMany == Value.ref K_Ring) = false)
    (s_TooMany_TooLong : PySem.W.subIn K (.ref K_TooMany) (.ref K_TooLong) = some false)
    (n_TooMany_TooLong : (Value.ref K_TooMany == Value.ref K_TooLong) = false)
    (s_TooMany_NoStep : PySem.W.subIn K (.ref K_TooMany) (.ref K_NoStep) = some false)
    (n_TooMany_NoStep : (Value.ref K_TooMany == Value.ref K_NoStep) = false)
    (s_TooMany_Unlike : PySem.W.subIn K (.ref K_TooMany) (.ref K_Unlike) = some false)
    (n_TooMany_Unlike : (Value.ref K_TooMany == Value.ref K_Unlike) = false)
    (s_TooMany_NotFormed : PySem.W.subIn K (.ref K_TooMany) (.ref K_NotFormed) = some false)
    (n_TooMany_NotFormed : (Value.ref K_TooMany == Value.ref K_NotFormed) = false)
    (s_TooMany_Double : PySem.W.subIn K (.ref K_TooMany) (.ref K_Double) = some false)
    (n_TooMany_Double : (Value.ref K_TooMany == Value.ref K_Double) = false)
    (s_TooMany_NoKind : PySem.W.subIn K (.ref K_TooMany) (.ref K_NoKind) = some false)
    (n_TooMany_NoKind : (Value.ref K_TooMany == Value.ref K_NoKind) = false)
    (s_TooMany_Nothing : PySem.W.subIn K (.ref K_TooMany) (.ref K_Nothing) = some false)
    (n_TooMany_Nothing : (Value.ref K_TooMany == Value.ref K_Nothing) = false)
    (s_TooMany_NoPlace : PySem.W.subIn K (.ref K_TooMany) (.ref K_NoPlace) = some false)
    (n_TooMany_NoPlace : (Value.ref K_TooMany == Value.ref K_NoPlace) = false)
    (s_TooMany_NoUndo : PySem.W.subIn K (.ref K_TooMany) (.ref K_NoUndo) = some false)
    (n_TooMany_NoUndo : (Value.ref K_TooMany == Value.ref K_NoUndo) = false)
    (s_TooMany_FormError : PySem.W.subIn K (.ref K_TooMany) (.ref K_FormError) = some true)
    (n_TooMany_FormError : (Value.ref K_TooMany == Value.ref K_FormError) = false)
    (s_TooMany_ValueError : PySem.W.subIn K (.ref K_TooMany) (.type "ValueError") = some true)
    (j0_Twice : PySem.W.isClsIn K K_Twice = true)
    (j1_Twice : PySem.W.findIn K (.ref K_Twice) "__getattribute__" = some (some (.builtin "BaseException.__getattribute__")))
    (j2_Twice : PySem.W.findIn K (.ref K_Twice) "__getattr__" = some none)
    (j3_Twice : PySem.W.subIn K (.ref K_Twice) (.type "BaseException") = some true)
    (j4_Twice : PySem.W.findIn K (.ref K_Twice) "__class__" = some (some (.builtin "object.__class__")))
    (j5_Twice : PySem.W.mroIn K K_Twice (.type "object") = some true)
    (j6_Twice : PySem.W.hasDictIn K K_Twice = true)
    (nf_Twice_at : PySem.W.findIn K (.ref K_Twice) "at" = some none)
    (nf_Twice_sign : PySem.W.findIn K (.ref K_Twice) "sign" = some none)
    (nf_Twice_one : PySem.W.findIn K (.ref K_Twice) "one" = some none)
    (nf_Twice_other : PySem.W.findIn K (.ref K_Twice) "other" = some none)
    (nf_Twice_which : PySem.W.findIn K (.ref K_Twice) "which" = some none)
    (nf_Twice_signs : PySem.W.findIn K (.ref K_Twice) "signs" = some none)
    (s_Twice_NoRow : PySem.W.subIn K (.ref K_Twice) (.ref K_NoRow) = some false)
    (n_Twice_NoRow : (Value.ref K_Twice == Value.ref K_NoRow) = false)
    (s_Twice_NoPair : PySem.W.subIn K (.ref K_Twice) (.ref K_NoPair) = some false)
    (n_Twice_NoPair : (Value.ref K_Twice == Value.ref K_NoPair) = false)
    (s_Twice_Same : PySem.W.subIn K (.ref K_Twice) (.ref K_Same) = some false)
    (n_Twice_Same : (Value.ref K_Twice == Value.ref K_Same) = false)
    (s_Twice_Ring : PySem.W.subIn K (.ref K_Twice) (.ref K_Ring) = some false)
    (n_Twice_Ring : (Value.ref K_Twice == Value.ref K_Ring) = false)
    (s_Twice_TooLong : PySem.W.subIn K (.ref K_Twice) (.ref K_TooLong) = some false)
    (n_Twice_TooLong : (Value.ref K_Twice == Value.ref K_TooLong) = false)
    (s_Twice_NoStep : PySem.W.subIn K (.ref K_Twice) (.ref K_NoStep) = some false)
    (n_Twice_NoStep : (Value.ref K_Twice == Value.ref K_NoStep) = false)
    (s_Twice_Unlike : PySem.W.subIn K (.ref K_Twice) (.ref K_Unlike) = some false)
    (n_Twice_Unlike : (Value.ref K_Twice == Value.ref K_Unlike) = false)
    (s_Twice_TooMany : PySem.W.subIn K (.ref K_Twice) (.ref K_TooMany) = some false)
    (n_Twice_TooMany : (Value.ref K_Twice == Value.ref K_TooMany) = false)
    (s_Twice_NotFormed : PySem.W.subIn K (.ref K_Twice) (.ref K_NotFormed) = some false)
    (n_Twice_NotFormed : (Value.ref K_Twice == Value.ref K_NotFormed) = false)
    (s_Twice_Double : PySem.W.subIn K (.ref K_Twice) (.ref K_Double) = some false)
    (n_Twice_Double : (Value.ref K_Twice == Value.ref K_Double) = false)
    (s_Twice_NoKind : PySem.W.subIn K (.ref K_Twice) (.ref K_NoKind) = some false)
    (n_Twice_NoKind : (Value.ref K_Twice == Value.ref K_NoKind) = false)
    (s_Twice_Nothing : PySem.W.subIn K (.ref K_Twice) (.ref K_Nothing) = some false)
    (n_Twice_Nothing : (Value.ref K_Twice == Value.ref K_Nothing) = false)
    (s_Twice_NoPlace : PySem.W.subIn K (.ref K_Twice) (.ref K_NoPlace) = some false)
    (n_Twice_NoPlace : (Value.ref K_Twice == Value.ref K_NoPlace) = false)
    (s_Twice_NoUndo : PySem.W.subIn K (.ref K_Twice) (.ref K_NoUndo) = some false)
    (n_Twice_NoUndo : (Value.ref K_Twice == Value.ref K_NoUndo) = false)
    (s_Twice_FormError : PySem.W.subIn K (.ref K_Twice) (.ref K_FormError) = some true)
    (n_Twice_FormError : (Value.ref K_Twice == Value.ref K_FormError) = false)
    (s_Twice_ValueError : PySem.W.subIn K (.ref K_Twice) (.type "ValueError") = some true)
    (j0_Unlike : PySem.W.isClsIn K K_Unlike = true)
    (j1_Unlike : PySem.W.findIn K (.ref K_Unlike) "__getattribute__" = some (some (.builtin "BaseException.__getattribute__")))
    (j2_Unlike : PySem.W.findIn K (.ref K_Unlike) "__getattr__" = some none)
    (j3_Unlike : PySem.W.subIn K (.ref K_Unlike) (.type "BaseException") = some true)
    (j4_Unlike : PySem.W.findIn K (.ref K_Unlike) "__class__" = some (some (.builtin "object.__class__")))
    (j5_Unlike : PySem.W.mroIn K K_Unlike (.type "object") = some true)
    (j6_Unlike : PySem.W.hasDictIn K K_Unlike = true)
    (nf_Unlike_at : PySem.W.findIn K (.ref K_Unlike) "at" = some none)
    (nf_Unlike_sign : PySem.W.findIn K (.ref K_Unlike) "sign" = some none)
    (nf_Unlike_one : PySem.W.findIn K (.ref K_Unlike) "one" = some none)
    (nf_Unlike_other : PySem.W.findIn K (.ref K_Unlike) "other" = some none)
    (nf_Unlike_which : PySem.W.findIn K (.ref K_Unlike) "which" = some none)
    (nf_Unlike_signs : PySem.W.findIn K (.ref K_Unlike) "signs" = some none)
    (s_Unlike_NoRow : PySem.W.subIn K (.ref K_Unlike) (.ref K_NoRow) = some false)
    (n_Unlike_NoRow : (Value.ref K_Unlike == Value.ref K_NoRow) = false)
    (s_Unlike_Twice : PySem.W.subIn K (.ref K_Unlike) (.ref K_Twice) = some false)
    (n_Unlike_Twice : (Value.ref K_Unlike == Value.ref K_Twice) = false)
    (s_Unlike_NoPair : PySem.W.subIn K (.ref K_Unlike) (.ref K_NoPair) = some false)
    (n_Unlike_NoPair : (Value.ref K_Unlike == Value.ref K_NoPair) = false)
    (s_Unlike_Same : PySem.W.subIn K (.ref K_Unlike) (.ref K_Same) = some false)
    (n_Unlike_Same : (Value.ref K_Unlike == Value.ref K_Same) = false)
    (s_Unlike_Ring : PySem.W.subIn K (.ref K_Unlike) (.ref K_Ring) = some false)
    (n_Unlike_Ring : (Value.ref K_Unlike == Value.ref K_Ring) = false)
    (s_Unlike_TooLong : PySem.W.subIn K (.ref K_Unlike) (.ref K_TooLong) = some false)
    (n_Unlike_TooLong : (Value.ref K_Unlike == Value.ref K_TooLong) = false)
    (s_Unlike_NoStep : PySem.W.subIn K (.ref K_Unlike) (.ref K_NoStep) = some false)
    (n_Unlike_NoStep : (Value.ref K_Unlike == Value.ref K_NoStep) = false)
    (s_Unlike_TooMany : PySem.W.subIn K (.ref K_Unlike) (.ref K_TooMany) = some false)
    (n_Unlike_TooMany : (Value.ref K_Unlike == Value.ref K_TooMany) = false)
    (s_Unlike_NotFormed : PySem.W.subIn K (.ref K_Unlike) (.ref K_NotFormed) = some false)
    (n_Unlike_NotFormed : (Value.ref K_Unlike == Value.ref K_NotFormed) = false)
    (s_Unlike_Double : PySem.W.subIn K (.ref K_Unlike) (.ref K_Double) = some false)
    (n_Unlike_Double : (Value.ref K_Unlike == Value.ref K_Double) = false)
    (s_Unlike_NoKind : PySem.W.subIn K (.ref K_Unlike) (.ref K_NoKind) = some false)
    (n_Unlike_NoKind : (Value.ref K_Unlike == Value.ref K_NoKind) = false)
    (s_Unlike_Nothing : PySem.W.subIn K (.ref K_Unlike) (.ref K_Nothing) = some false)
    (n_Unlike_Nothing : (Value.ref K_Unlike == Value.ref K_Nothing) = false)
    (s_Unlike_NoPlace : PySem.W.subIn K (.ref K_Unlike) (.ref K_NoPlace) = some false)
    (n_Unlike_NoPlace : (Value.ref K_Unlike == Value.ref K_NoPlace) = false)
    (s_Unlike_NoUndo : PySem.W.subIn K (.ref K_Unlike) (.ref K_NoUndo) = some false)
    (n_Unlike_NoUndo : (Value.ref K_Unlike == Value.ref K_NoUndo) = false)
    (s_Unlike_FormError : PySem.W.subIn K (.ref K_Unlike) (.ref K_FormError) = some true)
    (n_Unlike_FormError : (Value.ref K_Unlike == Value.ref K_FormError) = false)
    (s_Unlike_ValueError : PySem.W.subIn K (.ref K_Unlike) (.type "ValueError") = some true)
    (ic_NoRow : PySem.W.isClsIn K K_NoRow = true)
    (it_NoRow : PySem.W.typeIn K (.ref K_NoRow) = some (.type "type"))
    (ic_Twice : PySem.W.isClsIn K K_Twice = true)
    (it_Twice : PySem.W.typeIn K (.ref K_Twice) = some (.type "type"))
    (ic_NoPair : PySem.W.isClsIn K K_NoPair = true)
    (it_NoPair : PySem.W.typeIn K (.ref K_NoPair) = some (.type "type"))
    (ic_Same : PySem.W.isClsIn K K_Same = true)
    (it_Same : PySem.W.typeIn K (.ref K_Same) = some (.type "type"))
    (ic_Ring : PySem.W.isClsIn K K_Ring = true)
    (it_Ring : PySem.W.typeIn K (.ref K_Ring) = some (.type "type"))
    (ic_TooLong : PySem.W.isClsIn K K_TooLong = true)
    (it_TooLong : PySem.W.typeIn K (.ref K_TooLong) = some (.type "type"))
    (ic_NoStep : PySem.W.isClsIn K K_NoStep = true)
    (it_NoStep : PySem.W.typeIn K (.ref K_NoStep) = some (.type "type"))
    (ic_Unlike : PySem.W.isClsIn K K_Unlike = true)
    (it_Unlike : PySem.W.typeIn K (.ref K_Unlike) = some (.type "type"))
    (ic_TooMany : PySem.W.isClsIn K K_TooMany = true)
    (it_TooMany : PySem.W.typeIn K (.ref K_TooMany) = some (.type "type"))
    (ic_NotFormed : PySem.W.isClsIn K K_NotFormed = true)
    (it_NotFormed : PySem.W.typeIn K (.ref K_NotFormed) = some (.type "type"))
    (ic_Double : PySem.W.isClsIn K K_Double = true)
    (it_Double : PySem.W.typeIn K (.ref K_Double) = some (.type "type"))
    (ic_NoKind : PySem.W.isClsIn K K_NoKind = true)
    (it_NoKind : PySem.W.typeIn K (.ref K_NoKind) = some (.type "type"))
    (ic_Nothing : PySem.W.isClsIn K K_Nothing = true)
    (it_Nothing : PySem.W.typeIn K (.ref K_Nothing) = some (.type "type"))
    (ic_NoPlace : PySem.W.isClsIn K K_NoPlace = true)
    (it_NoPlace : PySem.W.typeIn K (.ref K_NoPlace) = some (.type "type"))
    (ic_NoUndo : PySem.W.isClsIn K K_NoUndo = true)
    (it_NoUndo : PySem.W.typeIn K (.ref K_NoUndo) = some (.type "type"))
    (ic_FormError : PySem.W.isClsIn K K_FormError = true)
    (it_FormError : PySem.W.typeIn K (.ref K_FormError) = some (.type "type"))
    (xo_NoRow : K.lookup K_NoRow = some (excClassObj xa_NoRow xb_NoRow K_NoRow xc_NoRow xd_NoRow xe_NoRow true xf_NoRow xg_NoRow xh_NoRow xi_NoRow xj_NoRow xk_NoRow xl_NoRow xm_NoRow xn_NoRow xp_NoRow "ValueError.__new__"))
    (xr_NoRow : PySem.HandSPX.refsVE xe_NoRow = true)
    (xs_NoRow : PySem.W.findIn K (.ref K_NoRow) "__setattr__" = some (some (.builtin "object.__setattr__")))
    (xt_NoRow : PySem.W.subIn K (.ref K_NoRow) (.type "BaseException") = some true)
    (xu_NoRow : PySem.W.typeIn K (.ref K_NoRow) = some (.type "type"))
    (xv_NoRow : PySem.W.keepIn K (.ref K_NoRow) = true)
    (xw_NoRow : PySem.W.findIn K (.ref K_NoRow) "__init__" = some (some (.ref fi_NoRow)))
    (xx_NoRow : PySem.W.typeIn K (.ref fi_NoRow) = some (.type "function"))
    (xy_NoRow : PySem.W.findIn K (.ref K_NoRow) "at" = some none)
    (yl_NoRow : K.lookup fi_NoRow = some ⟨ioc_NoRow, iod_NoRow, .func (PySem.W.fnOf "__init__" "NoRow.__init__" (defArgs st_ini_NoRow) (defBody st_ini_NoRow) (defScope st_ini_NoRow) .none ikV_NoRow idc_NoRow ipm_NoRow ian_NoRow icd_NoRow ict_NoRow), isl_NoRow⟩)
    (ym_NoRow : PySem.W.codeIn K icd_NoRow "NoRow.__init__" = true)
    (yn_NoRow : PySem.W.keepIn K (.ref fi_NoRow) = true)
    (xo_Twice : K.lookup K_Twice = some (excClassObj xa_Twice xb_Twice K_Twice xc_Twice xd_Twice xe_Twice true xf_Twice xg_Twice xh_Twice xi_Twice xj_Twice xk_Twice xl_Twice xm_Twice xn_Twice xp_Twice "ValueError.__new__"))
    (xr_Twice : PySem.HandSPX.refsVE xe_Twice = true)
    (xs_Twice : PySem.W.findIn K (.ref K_Twice) "__setattr__" = some (some (.builtin "object.__setattr__")))
    (xt_Twice : PySem.W.subIn K (.ref K_Twice) (.type "BaseException") = some true)
    (xu_Twice : PySem.W.typeIn K (.ref K_Twice) = some (.type "type"))
    (xv_Twice : PySem.W.keepIn K (.ref K_Twice) = true)
    (xw_Twice : PySem.W.findIn K (.ref K_Twice) "__init__" = some (some (.ref fi_Twice)))
    (xx_Twice : PySem.W.typeIn K (.ref fi_Twice) = some (.type "function"))
    (xy_Twice : PySem.W.findIn K (.ref K_Twice) "sign" = some none)
    (yl_Twice : K.lookup fi_Twice = some ⟨ioc_Twice, iod_Twice, .func (PySem.W.fnOf "__init__" "Twice.__init__" (defArgs st_ini_Twice) (defBody st_ini_Twice) (defScope st_ini_Twice) .none ikV_Twice idc_Twice ipm_Twice ian_Twice icd_Twice ict_Twice), isl_Twice⟩)
    (ym_Twice : PySem.W.codeIn K icd_Twice "Twice.__init__" = true)
    (yn_Twice : PySem.W.keepIn K (.ref fi_Twice) = true)
    (xo_NoPair : K.lookup K_NoPair = some (excClassObj xa_NoPair xb_NoPair K_NoPair xc_NoPair xd_NoPair xe_NoPair true xf_NoPair xg_NoPair xh_NoPair xi_NoPair xj_NoPair xk_NoPair xl_NoPair xm_NoPair xn_NoPair xp_NoPair "ValueError.__new__"))
    (xr_NoPair : PySem.HandSPX.refsVE xe_NoPair = true)
    (xs_NoPair : PySem.W.findIn K (.ref K_NoPair) "__setattr__" = some (some (.builtin "object.__setattr__")))
    (xt_NoPair : PySem.W.subIn K (.ref K_NoPair) (.type "BaseException") = some true)
    (xu_NoPair : PySem.W.typeIn K (.ref K_NoPair) = some (.type "type"))
    (xv_NoPair : PySem.W.keepIn K (.ref K_NoPair) = true)
    (xw_NoPair : PySem.W.findIn K (.ref K_NoPair) "__init__" = some (some (.ref fi_NoPair)))
    (xx_NoPair : PySem.W.typeIn K (.ref fi_NoPair) = some (.type "function"))
    (xy_NoPair : PySem.W.findIn K (.ref K_NoPair) "sign" = some none)
    (yl_NoPair : K.lookup fi_NoPair = some ⟨ioc_NoPair, iod_NoPair, .func (PySem.W.fnOf "__init__" "NoPair.__init__" (defArgs st_ini_NoPair) (defBody st_ini_NoPair) (defScope st_ini_NoPair) .none ikV_NoPair idc_NoPair ipm_NoPair ian_NoPair icd_NoPair ict_NoPair), isl_NoPair⟩)
    (ym_NoPair : PySem.W.codeIn K icd_NoPair "NoPair.__init__" = true)
    (yn_NoPair : PySem.W.keepIn K (.ref fi_NoPair) = true)
    (xo_Same : K.lookup K_Same = some (excClassObj xa_Same xb_Same K_Same xc_Same xd_Same xe_Same true xf_Same xg_Same xh_Same xi_Same xj_Same xk_Same xl_Same xm_Same xn_Same xp_Same "ValueError.__new__"))
    (xr_Same : PySem.HandSPX.refsVE xe_Same = true)
    (xs_Same : PySem.W.findIn K (.ref K_Same) "__setattr__" = some (some (.builtin "object.__setattr__")))
    (xt_Same : PySem.W.subIn K (.ref K_Same) (.type "BaseException") = some true)
    (xu_Same : PySem.W.typeIn K (.ref K_Same) = some (.type "type"))
    (xv_Same : PySem.W.keepIn K (.ref K_Same) = true)
    (xw_Same : PySem.W.findIn K (.ref K_Same) "__init__" = some (some (.ref fi_Same)))
    (xx_Same : PySem.W.typeIn K (.ref fi_Same) = some (.type "function"))
    (xy_Same : PySem.W.findIn K (.ref K_Same) "one" = some none)
    (xy1_Same : PySem.W.findIn K (.ref K_Same) "other" = some none)
    (yl_Same : K.lookup fi_Same = some ⟨ioc_Same, iod_Same, .func (PySem.W.fnOf "__init__" "Same.__init__" (defArgs st_ini_Same) (defBody st_ini_Same) (defScope st_ini_Same) .none ikV_Same idc_Same ipm_Same ian_Same icd_Same ict_Same), isl_Same⟩)
    (ym_Same : PySem.W.codeIn K icd_Same "Same.__init__" = true)
    (yn_Same : PySem.W.keepIn K (.ref fi_Same) = true)
    (xo_Ring : K.lookup K_Ring = some (excClassObj xa_Ring xb_Ring K_Ring xc_Ring xd_Ring xe_Ring true xf_Ring xg_Ring xh_Ring xi_Ring xj_Ring xk_Ring xl_Ring xm_Ring xn_Ring xp_Ring "ValueError.__new__"))
    (xr_Ring : PySem.HandSPX.refsVE xe_Ring = true)
    (xs_Ring : PySem.W.findIn K (.ref K_Ring) "__setattr__" = some (some (.builtin "object.__setattr__")))
    (xt_Ring : PySem.W.subIn K (.ref K_Ring) (.type "BaseException") = some true)
    (xu_Ring : PySem.W.typeIn K (.ref K_Ring) = some (.type "type"))
    (xv_Ring : PySem.W.keepIn K (.ref K_Ring) = true)
    (xw_Ring : PySem.W.findIn K (.ref K_Ring) "__init__" = some (some (.ref fi_Ring)))
    (xx_Ring : PySem.W.typeIn K (.ref fi_Ring) = some (.type "function"))
    (xy_Ring : PySem.W.findIn K (.ref K_Ring) "signs" = some none)
    (yl_Ring : K.lookup fi_Ring = some ⟨ioc_Ring, iod_Ring, .func (PySem.W.fnOf "__init__" "Ring.__init__" (defArgs st_ini_Ring) (defBody st_ini_Ring) (defScope st_ini_Ring) .none ikV_Ring idc_Ring ipm_Ring ian_Ring icd_Ring ict_Ring), isl_Ring⟩)
    (ym_Ring : PySem.W.codeIn K icd_Ring "Ring.__init__" = true)
    (yn_Ring : PySem.W.keepIn K (.ref fi_Ring) = true)
    (xo_TooLong : K.lookup K_TooLong = some (excClassObj xa_TooLong xb_TooLong K_TooLong xc_TooLong xd_TooLong xe_TooLong true xf_TooLong xg_TooLong xh_TooLong xi_TooLong xj_TooLong xk_TooLong xl_TooLong xm_TooLong xn_TooLong xp_TooLong "ValueError.__new__"))
    (xr_TooLong : PySem.HandSPX.refsVE xe_TooLong = true)
    (xs_TooLong : PySem.W.findIn K (.ref K_TooLong) "__setattr__" = some (some (.builtin "object.__setattr__")))
    (xt_TooLong : PySem.W.subIn K (.ref K_TooLong) (.type "BaseException") = some true)
    (xu_TooLong : PySem.W.typeIn K (.ref K_TooLong) = some (.type "type"))
    (xv_TooLong : PySem.W.keepIn K (.ref K_TooLong) = true)
    (xw_TooLong : PySem.W.findIn K (.ref K_TooLong) "__init__" = some (some (.ref fi_TooLong)))
    (xx_TooLong : PySem.W.typeIn K (.ref fi_TooLong) = some (.type "function"))
    (xy_TooLong : PySem.W.findIn K (.ref K_TooLong) "sign" = some none)
    (yl_TooLong : K.lookup fi_TooLong = some ⟨ioc_TooLong, iod_TooLong, .func (PySem.W.fnOf "__init__" "TooLong.__init__" (defArgs st_ini_TooLong) (defBody st_ini_TooLong) (defScope st_ini_TooLong) .none ikV_TooLong idc_TooLong ipm_TooLong ian_TooLong icd_TooLong ict_TooLong), isl_TooLong⟩)
    (ym_TooLong : PySem.W.codeIn K icd_TooLong "TooLong.__init__" = true)
    (yn_TooLong : PySem.W.keepIn K (.ref fi_TooLong) = true)
    (xo_Unlike : K.lookup K_Unlike = some (excClassObj xa_Unlike xb_Unlike K_Unlike xc_Unlike xd_Unlike xe_Unlike true xf_Unlike xg_Unlike xh_Unlike xi_Unlike xj_Unlike xk_Unlike xl_Unlike xm_Unlike xn_Unlike xp_Unlike "ValueError.__new__"))
    (xr_Unlike : PySem.HandSPX.refsVE xe_Unlike = true)
    (xs_Unlike : PySem.W.findIn K (.ref K_Unlike) "__setattr__" = some (some (.builtin "object.__setattr__")))
    (xt_Unlike : PySem.W.subIn K (.ref K_Unlike) (.type "BaseException") = some true)
    (xu_Unlike : PySem.W.typeIn K (.ref K_Unlike) = some (.type "type"))
    (xv_Unlike : PySem.W.keepIn K (.ref K_Unlike) = true)
    (xw_Unlike : PySem.W.findIn K (.ref K_Unlike) "__init__" = some (some (.ref fi_Unlike)))
    (xx_Unlike : PySem.W.typeIn K (.ref fi_Unlike) = some (.type "function"))
    (xy_Unlike : PySem.W.findIn K (.ref K_Unlike) "at" = some none)
    (yl_Unlike : K.lookup fi_Unlike = some ⟨ioc_Unlike, iod_Unlike, .func (PySem.W.fnOf "__init__" "Unlike.__init__" (defArgs st_ini_Unlike) (defBody st_ini_Unlike) (defScope st_ini_Unlike) .none ikV_Unlike idc_Unlike ipm_Unlike ian_Unlike icd_Unlike ict_Unlike), isl_Unlike⟩)
    (ym_Unlike : PySem.W.codeIn K icd_Unlike "Unlike.__init__" = true)
    (yn_Unlike : PySem.W.keepIn K (.ref fi_Unlike) = true)
    (xo_NotFormed : K.lookup K_NotFormed = some (excClassObj xa_NotFormed xb_NotFormed K_NotFormed xc_NotFormed xd_NotFormed xe_NotFormed true xf_NotFormed xg_NotFormed xh_NotFormed xi_NotFormed xj_NotFormed xk_NotFormed xl_NotFormed xm_NotFormed xn_NotFormed xp_NotFormed "ValueError.__new__"))
    (xr_NotFormed : PySem.HandSPX.refsVE xe_NotFormed = true)
    (xs_NotFormed : PySem.W.findIn K (.ref K_NotFormed) "__setattr__" = some (some (.builtin "object.__setattr__")))
    (xt_NotFormed : PySem.W.subIn K (.ref K_NotFormed) (.type "BaseException") = some true)
    (xu_NotFormed : PySem.W.typeIn K (.ref K_NotFormed) = some (.type "type"))
    (xv_NotFormed : PySem.W.keepIn K (.ref K_NotFormed) = true)
    (xw_NotFormed : PySem.W.findIn K (.ref K_NotFormed) "__init__" = some (some (.ref fi_NotFormed)))
    (xx_NotFormed : PySem.W.typeIn K (.ref fi_NotFormed) = some (.type "function"))
    (xy_NotFormed : PySem.W.findIn K (.ref K_NotFormed) "which" = some none)
    (yl_NotFormed : K.lookup fi_NotFormed = some ⟨ioc_NotFormed, iod_NotFormed, .func (PySem.W.fnOf "__init__" "NotFormed.__init__" (defArgs st_ini_NotFormed) (defBody st_ini_NotFormed) (defScope st_ini_NotFormed) .none ikV_NotFormed idc_NotFormed ipm_NotFormed ian_NotFormed icd_NotFormed ict_NotFormed), isl_NotFormed⟩)
    (ym_NotFormed : PySem.W.codeIn K icd_NotFormed "NotFormed.__init__" = true)
    (yn_NotFormed : PySem.W.keepIn K (.ref fi_NotFormed) = true)
    (xo_Double : K.lookup K_Double = some (excClassObj xa_Double xb_Double K_Double xc_Double xd_Double xe_Double true xf_Double xg_Double xh_Double xi_Double xj_Double xk_Double xl_Double xm_Double xn_Double xp_Double "ValueError.__new__"))
    (xr_Double : PySem.HandSPX.refsVE xe_Double = true)
    (xs_Double : PySem.W.findIn K (.ref K_Double) "__setattr__" = some (some (.builtin "object.__setattr__")))
    (xt_Double : PySem.W.subIn K (.ref K_Double) (.type "BaseException") = some true)
    (xu_Double : PySem.W.typeIn K (.ref K_Double) = some (.type "type"))
    (xv_Double : PySem.W.keepIn K (.ref K_Double) = true)
    (xw_Double : PySem.W.findIn K (.ref K_Double) "__init__" = some (some (.ref fi_Double)))
    (xx_Double : PySem.W.typeIn K (.ref fi_Double) = some (.type "function"))
    (xy_Double : PySem.W.findIn K (.ref K_Double) "at" = some none)
    (yl_Double : K.lookup fi_Double = some ⟨ioc_Double, iod_Double, .func (PySem.W.fnOf "__init__" "Double.__init__" (defArgs st_ini_Double) (defBody st_ini_Double) (defScope st_ini_Double) .none ikV_Double idc_Double ipm_Double ian_Double icd_Double ict_Double), isl_Double⟩)
    (ym_Double : PySem.W.codeIn K icd_Double "Double.__init__" = true)
    (yn_Double : PySem.W.keepIn K (.ref fi_Double) = true)
    (xo_NoKind : K.lookup K_NoKind = some (excClassObj xa_NoKind xb_NoKind K_NoKind xc_NoKind xd_NoKind xe_NoKind true xf_NoKind xg_NoKind xh_NoKind xi_NoKind xj_NoKind xk_NoKind xl_NoKind xm_NoKind xn_NoKind xp_NoKind "ValueError.__new__"))
    (xr_NoKind : PySem.HandSPX.refsVE xe_NoKind = true)
    (xs_NoKind : PySem.W.findIn K (.ref K_NoKind) "__setattr__" = some (some (.builtin "object.__setattr__")))
    (xt_NoKind : PySem.W.subIn K (.ref K_NoKind) (.type "BaseException") = some true)
    (xu_NoKind : PySem.W.typeIn K (.ref K_NoKind) = some (.type "type"))
    (xv_NoKind : PySem.W.keepIn K (.ref K_NoKind) = true)
    (xw_NoKind : PySem.W.findIn K (.ref K_NoKind) "__init__" = some (some (.ref fi_NoKind)))
    (xx_NoKind : PySem.W.typeIn K (.ref fi_NoKind) = some (.type "function"))
    (xy_NoKind : PySem.W.findIn K (.ref K_NoKind) "at" = some none)
    (yl_NoKind : K.lookup fi_NoKind = some ⟨ioc_NoKind, iod_NoKind, .func (PySem.W.fnOf "__init__" "NoKind.__init__" (defArgs st_ini_NoKind) (defBody st_ini_NoKind) (defScope st_ini_NoKind) .none ikV_NoKind idc_NoKind ipm_NoKind ian_NoKind icd_NoKind ict_NoKind), isl_NoKind⟩)
    (ym_NoKind : PySem.W.codeIn K icd_NoKind "NoKind.__init__" = true)
    (yn_NoKind : PySem.W.keepIn K (.ref fi_NoKind) = true)
    (fe1 : PySem.W.specialIn K (.ref K_FormError) "__getattribute__" = some (some (.builtin "type.__getattribute__")))
    (fe2 : PySem.W.readsIn K K_FormError (.type "type") = true)
    (fe3 : PySem.W.findCls K (.ref K_FormError) (.type "type") "__init__" = some (.val (.builtin "ValueError.__init__")))
    (z_ValueError : PySem.W.nsIn K mainGlobals "ValueError" = some none) :
    ∃ fd : FuncData, (∀ (s : Shared) (v : Value), BindsTo s fd ⟨[v], []⟩ [("_law_script", v)]) ∧ ∀ base : Heap, K.In base → base.Ns mainGlobals mg → FnOk P w K mg base CX0 4 fa fd ["_law_script"] spLaw := by
  have e := hfa.symm.trans (PySem.W.mg_of X G a5)
  cases e
  have T : Blt mg := ⟨PySem.W.mg_none_of X G z_len, PySem.W.mg_none_of X G z_list, PySem.W.mg_none_of X G z_sorted, PySem.W.mg_none_of X G z_isinstance, PySem.W.mg_none_of X G z_range, PySem.W.mg_none_of X G z_dict, PySem.W.mg_none_of X G z_all, PySem.W.mg_none_of X G z_any, PySem.W.mg_none_of X G z_min, PySem.W.mg_none_of X G z_max, PySem.W.mg_none_of X G z_sum, PySem.W.mg_none_of X G z_reversed, PySem.W.mg_none_of X G z_int, PySem.W.mg_none_of X G z_str, PySem.W.mg_none_of X G z_enumerate, PySem.W.mg_none_of X G z_zip, PySem.W.mg_none_of X G z_tuple, PySem.W.mg_none_of X G z_abs, PySem.W.mg_none_of X G z_bool⟩
  have TE : mg = mg := rfl
  have Z_NoStep : Rz K mg "NoStep" := ⟨_, PySem.W.mg_of X G aK_NoStep, kK_NoStep, xK_NoStep, sK_NoStep, tK_NoStep⟩
  have Z_TooMany : Rz K mg "TooMany" := ⟨_, PySem.W.mg_of X G aK_TooMany, kK_TooMany, xK_TooMany, sK_TooMany, tK_TooMany⟩
  have Z_Nothing : Rz K mg "Nothing" := ⟨_, PySem.W.mg_of X G aK_Nothing, kK_Nothing, xK_Nothing, sK_Nothing, tK_Nothing⟩
  have Z_NoPlace : Rz K mg "NoPlace" := ⟨_, PySem.W.mg_of X G aK_NoPlace, kK_NoPlace, xK_NoPlace, sK_NoPlace, tK_NoPlace⟩
  have Z_NoUndo : Rz K mg "NoUndo" := ⟨_, PySem.W.mg_of X G aK_NoUndo, kK_NoUndo, xK_NoUndo, sK_NoUndo, tK_NoUndo⟩
  have IB : IsB K := ⟨ib1, ib2⟩
  have isk_Double : IsK K K_Double := ⟨j0_Double, j1_Double, j2_Double, j3_Double, j4_Double, j5_Double, j6_Double⟩
  have isk_NoKind : IsK K K_NoKind := ⟨j0_NoKind, j1_NoKind, j2_NoKind, j3_NoKind, j4_NoKind, j5_NoKind, j6_NoKind⟩
  have isk_NoPair : IsK K K_NoPair := ⟨j0_NoPair, j1_NoPair, j2_NoPair, j3_NoPair, j4_NoPair, j5_NoPair, j6_NoPair⟩
  have isk_NoPlace : IsK K K_NoPlace := ⟨j0_NoPlace, j1_NoPlace, j2_NoPlace, j3_NoPlace, j4_NoPlace, j5_NoPlace, j6_NoPlace⟩
  have isk_NoRow : IsK K K_NoRow := ⟨j0_NoRow, j1_NoRow, j2_NoRow, j3_NoRow, j4_NoRow, j5_NoRow, j6_NoRow⟩
  have isk_NoStep : IsK K K_NoStep := ⟨j0_NoStep, j1_NoStep, j2_NoStep, j3_NoStep, j4_NoStep, j5_NoStep, j6_NoStep⟩
  have isk_NoUndo : IsK K K_NoUndo := ⟨j0_NoUndo, j1_NoUndo, j2_NoUndo, j3_NoUndo, j4_NoUndo, j5_NoUndo, j6_NoUndo⟩
  have isk_NotFormed : IsK K K_NotFormed := ⟨j0_NotFormed, j1_NotFormed, j2_NotFormed, j3_NotFormed, j4_NotFormed, j5_NotFormed, j6_NotFormed⟩
  have isk_Nothing : IsK K K_Nothing := ⟨j0_Nothing, j1_Nothing, j2_Nothing, j3_Nothing, j4_Nothing, j5_Nothing, j6_Nothing⟩
  have isk_Ring : IsK K K_Ring := ⟨j0_Ring, j1_Ring, j2_Ring, j3_Ring, j4_Ring, j5_Ring, j6_Ring⟩
  have isk_Same : IsK K K_Same := ⟨j0_Same, j1_Same, j2_Same, j3_Same, j4_Same, j5_Same, j6_Same⟩
  have isk_TooLong : IsK K K_TooLong := ⟨j0_TooLong, j1_TooLong, j2_TooLong, j3_TooLong, j4_TooLong, j5_TooLong, j6_TooLong⟩
  have isk_TooMany : IsK K K_TooMany := ⟨j0_TooMany, j1_TooMany, j2_TooMany, j3_TooMany, j4_TooMany, j5_TooMany, j6_TooMany⟩
  have isk_Twice : IsK K K_Twice := ⟨j0_Twice, j1_Twice, j2_Twice, j3_Twice, j4_Twice, j5_Twice, j6_Twice⟩
  have isk_Unlike : IsK K K_Unlike := ⟨j0_Unlike, j1_Unlike, j2_Unlike, j3_Unlike, j4_Unlike, j5_Unlike, j6_Unlike⟩
  have I_NoRow : IsAll K mg (["Double", "NoKind", "NoPair", "NoPlace", "NoRow", "NoStep", "NoUndo", "NotFormed", "Nothing", "Ring", "Same", "TooLong", "TooMany", "Twice", "Unlike"] : List Str) "NoRow" (["NoRow"] : List Str) := all_cons ⟨_, _, PySem.W.mg_of X G aK_Double, PySem.W.mg_of X G aK_NoRow, isk_Double, kit_ref ic_NoRow it_NoRow s_Double_NoRow n_Double_NoRow⟩ (all_cons ⟨_, _, PySem.W.mg_of X G aK_NoKind, PySem.W.mg_of X G aK_NoRow, isk_NoKind, kit_ref ic_NoRow it_NoRow s_NoKind_NoRow n_NoKind_NoRow⟩ (all_cons ⟨_, _, PySem.W.mg_of X G aK_NoPair, PySem.W.mg_of X G aK_NoRow, isk_NoPair, kit_ref ic_NoRow it_NoRow s_NoPair_NoRow n_NoPair_NoRow⟩ (all_cons ⟨_, _, PySem.W.mg_of X G aK_NoPlace, PySem.W.mg_of X G aK_NoRow, isk_NoPlace, kit_ref ic_NoRow it_NoRow s_NoPlace_NoRow n_NoPlace_NoRow⟩ (all_cons ⟨_, _, PySem.W.mg_of X G aK_NoRow, PySem.W.mg_of X G aK_NoRow, isk_NoRow, kit_self⟩ (all_cons ⟨_, _, PySem.W.mg_of X G aK_NoStep, PySem.W.mg_of X G aK_NoRow, isk_NoStep, kit_ref ic_NoRow it_NoRow s_NoStep_NoRow n_NoStep_NoRow⟩ (all_cons ⟨_, _, PySem.W.mg_of X G aK_NoUndo, PySem.W.mg_of X G aK_NoRow, isk_NoUndo, kit_ref ic_NoRow it_NoRow s_NoUndo_NoRow n_NoUndo_NoRow⟩ (all_cons ⟨_, _, PySem.W.mg_of X G aK_NotFormed, PySem.W.mg_of X G aK_NoRow, isk_NotFormed, kit_ref ic_NoRow it_NoRow s_NotFormed_NoRow n_NotFormed_NoRow⟩ (all_cons ⟨_, _, PySem.W.mg_of X G aK_Nothing, PySem.W.mg_of X G aK_NoRow, isk_Nothing, kit_ref ic_NoRow it_NoRow s_Nothing_NoRow n_Nothing_NoRow⟩ (all_cons ⟨_, _, PySem.W.mg_of X G aK_Ring, PySem.W.mg_of X G aK_NoRow, isk_Ring, kit_ref ic_NoRow it_NoRow s_Ring_NoRow n_Ring_NoRow⟩ (all_cons ⟨_, _, PySem.W.mg_of X G aK_Same, PySem.W.mg_of X G aK_NoRow, isk_Same, kit_ref ic_NoRow it_NoRow s_Same_NoRow n_Same_NoRow⟩ (all_cons ⟨_, _, PySem.W.mg_of X G aK_TooLong, PySem.W.mg_of X G aK_NoRow, isk_TooLong, kit_ref ic_NoRow it_NoRow s_TooLong_NoRow n_TooLong_NoRow⟩ (all_cons ⟨_, _, PySem.W.mg_of X G aK_TooMany, PySem.W.mg_of X G aK_NoRow, isk_TooMany, kit_ref ic_NoRow it_NoRow s_TooMany_NoRow n_TooMany_NoRow⟩ (all_cons ⟨_, _, PySem.W.mg_of X G aK_Twice, PySem.W.mg_of X G aK_NoRow, isk_Twice, kit_ref ic_NoRow it_NoRow s_Twice_NoRow n_Twice_NoRow⟩ (all_cons ⟨_, _, PySem.W.mg_of X G aK_Unlike, PySem.W.mg_of X G aK_NoRow, isk_Unlike, kit_ref ic_NoRow it_NoRow s_Unlike_NoRow n_Unlike_NoRow⟩ (all_nil)))))))))))))))
  have I_Twice : IsAll K mg (["Double", "NoKind", "NoPair", "NoPlace", "NoRow", "NoStep", "NoUndo", "NotFormed", "Nothing", "Ring", "Same", "TooLong", "TooMany", "Twice", "Unlike"] : List Str) "Twice" (["Twice"] : List Str) := all_cons ⟨_, _, PySem.W.mg_of X G aK_Double, PySem.W.mg_of X G aK_Twice, isk_Double, kit_ref ic_Twice it_Twice s_Double_Twice n_Double_Twice⟩ (all_cons ⟨_, _, PySem.W.mg_of X G aK_NoKind, PySem.W.mg_of X G aK_Twice, isk_NoKind, kit_ref ic_Twice it_Twice s_NoKind_Twice n_NoKind_Twice⟩ (all_cons ⟨_, _, PySem.W.mg_of X G aK_NoPair, PySem.W.mg_of X G aK_Twice, isk_NoPair, kit_ref ic_Twice it_Twice s_NoPair_Twice n_NoPair_Twice⟩ (all_cons ⟨_, _, PySem.W.mg_of X G aK_NoPlace, PySem.W.mg_of X G aK_Twice, isk_NoPlace, kit_ref ic_Twice it_Twice s_NoPlace_Twice n_NoPlace_Twice⟩ (all_cons ⟨_, _, PySem.W.mg_of X G aK_NoRow, PySem.W.mg_of X G aK_Twice, isk_NoRow, kit_ref ic_Twice it_Twice s_NoRow_Twice n_NoRow_Twice⟩ (all_cons ⟨_, _, PySem.W.mg_of X G aK_NoStep, PySem.W.mg_of X G aK_Twice, isk_NoStep, kit_ref ic_Twice it_Twice s_NoStep_Twice n_NoStep_Twice⟩ (all_cons ⟨_, _, PySem.W.mg_of X G aK_NoUndo, PySem.W.mg_of X G aK_Twice, isk_NoUndo, kit_ref ic_Twice it_Twice s_NoUndo_Twice n_NoUndo_Twice⟩ (all_cons ⟨_, _, PySem.W.mg_of X G aK_NotFormed, PySem.W.mg_of X G aK_Twice, isk_NotFormed, kit_ref ic_Twice it_Twice s_NotFormed_Twice n_NotFormed_Twice⟩ (all_cons ⟨_, _, PySem.W.mg_of X G aK_Nothing, PySem.W.mg_of X G aK_Twice, isk_Nothing, kit_ref ic_Twice it_Twice s_Nothing_Twice n_Nothing_Twice⟩ (all_cons ⟨_, _, PySem.W.mg_of X G aK_Ring, PySem.W.mg_of X G aK_Twice, isk_Ring, kit_ref ic_Twice it_Twice s_Ring_Twice n_Ring_Twice⟩ (all_cons ⟨_, _, PySem.W.mg_of X G aK_Same, PySem.W.mg_of X G aK_Twice, isk_Same, kit_ref ic_Twice it_Twice s_Same_Twice n_Same_Twice⟩ (all_cons ⟨_, _, PySem.W.mg_of X G aK_TooLong, PySem.W.mg_of X G aK_Twice, isk_TooLong, kit_ref ic_Twice it_Twice s_TooLong_Twice n_TooLong_Twice⟩ (all_cons ⟨_, _, PySem.W.mg_of X G aK_TooMany, PySem.W.mg_of X G aK_Twice, isk_TooMany, kit_ref ic_Twice it_Twice s_TooMany_Twice n_TooMany_Twice⟩ (all_cons ⟨_, _, PySem.W.mg_of X G aK_Twice, PySem.W.mg_of X G aK_Twice, isk_Twice, kit_self⟩ (all_cons ⟨_, _, PySem.W.mg_of X G aK_Unlike, PySem.W.mg_of X G aK_Twice, isk_Unlike, kit_ref ic_Twice it_Twice s_Unlike_Twice n_Unlike_Twice⟩ (all_nil)))))))))))))))
  have I_NoPair : IsAll K mg (["Double", "NoKind", "NoPair", "NoPlace", "NoRow", "NoStep", "NoUndo", "NotFormed", "Nothing", "Ring", "Same", "TooLong", "TooMany", "Twice", "Unlike"] : List Str) "NoPair" (["NoPair"] : List Str) := all_cons ⟨_, _, PySem.W.mg_of X G aK_Double, PySem.W.mg_of X G aK_NoPair, isk_Double, kit_ref ic_NoPair it_NoPair s_Double_NoPair n_Double_NoPair⟩ (all_cons ⟨_, _, PySem.W.mg_of X G aK_NoKind, PySem.W.mg_of X G aK_NoPair, isk_NoKind, kit_ref ic_NoPair it_NoPair s_NoKind_NoPair n_NoKind_NoPair⟩ (all_cons ⟨_, _, PySem.W.mg_of X G aK_NoPair, PySem.W.mg_of X G aK_NoPair, isk_NoPair, kit_self⟩ (all_cons ⟨_, _, PySem.W.mg_of X G aK_NoPlace, PySem.W.mg_of X G aK_NoPair, isk_NoPlace, kit_ref ic_NoPair it_NoPair s_NoPlace_NoPair n_NoPlace_NoPair⟩ (all_cons ⟨_, _, PySem.W.mg_of X G aK_NoRow, PySem.W.mg_of X G aK_NoPair, isk_NoRow, kit_ref ic_NoPair it_NoPair s_NoRow_NoPair n_NoRow_NoPair⟩ (all_cons ⟨_, _, PySem.W.mg_of X G aK_NoStep, PySem.W.mg_of X G aK_NoPair, isk_NoStep, kit_ref ic_NoPair it_NoPair s_NoStep_NoPair n_NoStep_NoPair⟩ (all_cons ⟨_, _, PySem.W.mg_of X G aK_NoUndo, PySem.W.mg_of X G aK_NoPair, isk_NoUndo, kit_ref ic_NoPair it_NoPair s_NoUndo_NoPair n_NoUndo_NoPair⟩ (all_cons ⟨_, _, PySem.W.mg_of X G aK_NotFormed, PySem.W.mg_of X G aK_NoPair, isk_NotFormed, kit_ref ic_NoPair it_NoPair s_NotFormed_NoPair n_NotFormed_NoPair⟩ (all_cons ⟨_, _, PySem.W.mg_of X G aK_Nothing, PySem.W.mg_of X G aK_NoPair, isk_Nothing, kit_ref ic_NoPair it_NoPair s_Nothing_NoPair n_Nothing_NoPair⟩ (all_cons ⟨_, _, PySem.W.mg_of X G aK_Ring, PySem.W.mg_of X G aK_NoPair, isk_Ring, kit_ref ic_NoPair it_NoPair s_Ring_NoPair n_Ring_NoPair⟩ (all_cons ⟨_, _, PySem.W.mg_of X G aK_Same, PySem.W.mg_of X G aK_NoPair, isk_Same, kit_ref ic_NoPair it_NoPair s_Same_NoPair n_Same_NoPair⟩ (all_cons ⟨_, _, PySem.W.mg_of X G aK_TooLong, PySem.W.mg_of X G aK_NoPair, isk_TooLong, kit_ref ic_NoPair it_NoPair s_TooLong_NoPair n_TooLong_NoPair⟩ (all_cons ⟨_, _, PySem.W.mg_of X G aK_TooMany, PySem.W.mg_of X G aK_NoPair, isk_TooMany, kit_ref ic_NoPair it_NoPair s_TooMany_NoPair n_TooMany_NoPair⟩ (all_cons ⟨_, _, PySem.W.mg_of X G aK_Twice, PySem.W.mg_of X G aK_NoPair, isk_Twice, kit_ref ic_NoPair it_NoPair s_Twice_NoPair n_Twice_NoPair⟩ (all_cons ⟨_, _, PySem.W.mg_of X G aK_Unlike, PySem.W.mg_of X G aK_NoPair, isk_Unlike, kit_ref ic_NoPair it_NoPair s_Unlike_NoPair n_Unlike_NoPair⟩ (all_nil)))))))))))))))
  have I_Same : IsAll K mg (["Double", "NoKind", "NoPair", "NoPlace", "NoRow", "NoStep", "NoUndo", "NotFormed", "Nothing", "Ring", "Same", "TooLong", "TooMany", "Twice", "Unlike"] : List Str) "Same" (["Same"] : List Str) := all_cons ⟨_, _, PySem.W.mg_of X G aK_Double, PySem.W.mg_of X G aK_Same, isk_Double, kit_ref ic_Same it_Same s_Double_Same n_Double_Same⟩ (all_cons ⟨_, _, PySem.W.mg_of X G aK_NoKind, PySem.W.mg_of X G aK_Same, isk_NoKind, kit_ref ic_Same it_Same s_NoKind_Same n_NoKind_Same⟩ (all_cons ⟨_, _, PySem.W.mg_of X G aK_NoPair, PySem.W.mg_of X G aK_Same, isk_NoPair, kit_ref ic_Same it_Same s_NoPair_Same n_NoPair_Same⟩ (all_cons ⟨_, _, PySem.W.mg_of X G aK_NoPlace, PySem.W.mg_of X G aK_Same, isk_NoPlace, kit_ref ic_Same it_Same s_NoPlace_Same n_NoPlace_Same⟩ (all_cons ⟨_, _, PySem.W.mg_of X G aK_NoRow, PySem.W.mg_of X G aK_Same, isk_NoRow, kit_ref ic_Same it_Same s_NoRow_Same n_NoRow_Same⟩ (all_cons ⟨_, _, PySem.W.mg_of X G aK_NoStep, PySem.W.mg_of X G aK_Same, isk_NoStep, kit_ref ic_Same it_Same s_NoStep_Same n_NoStep_Same⟩ (all_cons ⟨_, _, PySem.W.mg_of X G aK_NoUndo, PySem.W.mg_of X G aK_Same, isk_NoUndo, kit_ref ic_Same it_Same s_NoUndo_Same n_NoUndo_Same⟩ (all_cons ⟨_, _, PySem.W.mg_of X G aK_NotFormed, PySem.W.mg_of X G aK_Same, isk_NotFormed, kit_ref ic_Same it_Same s_NotFormed_Same n_NotFormed_Same⟩ (all_cons ⟨_, _, PySem.W.mg_of X G aK_Nothing, PySem.W.mg_of X G aK_Same, isk_Nothing, kit_ref ic_Same it_Same s_Nothing_Same n_Nothing_Same⟩ (all_cons ⟨_, _, PySem.W.mg_of X G aK_Ring, PySem.W.mg_of X G aK_Same, isk_Ring, kit_ref ic_Same it_Same s_Ring_Same n_Ring_Same⟩ (all_cons ⟨_, _, PySem.W.mg_of X G aK_Same, PySem.W.mg_of X G aK_Same, isk_Same, kit_self⟩ (all_cons ⟨_, _, PySem.W.mg_of X G aK_TooLong, PySem.W.mg_of X G aK_Same, isk_TooLong, kit_ref ic_Same it_Same s_TooLong_Same n_TooLong_Same⟩ (all_cons ⟨_, _, PySem.W.mg_of X G aK_TooMany, PySem.W.mg_of X G aK_Same, isk_TooMany, kit_ref ic_Same it_Same s_TooMany_Same n_TooMany_Same⟩ (all_cons ⟨_, _, PySem.W.mg_of X G aK_Twice, PySem.W.mg_of X G aK_Same, isk_Twice, kit_ref ic_Same it_Same s_Twice_Same n_Twice_Same⟩ (all_cons ⟨_, _, PySem.W.mg_of X G aK_Unlike, PySem.W.mg_of X G aK_Same, isk_Unlike, kit_ref ic_Same it_Same s_Unlike_Same n_Unlike_Same⟩ (all_nil)))))))))))))))
  have I_Ring : IsAll K mg (["Double", "NoKind", "NoPair", "NoPlace", "NoRow", "NoStep", "NoUndo", "NotFormed", "Nothing", "Ring", "Same", "TooLong", "TooMany", "Twice", "Unlike"] : List Str) "Ring" (["Ring"] : List Str) := all_cons ⟨_, _, PySem.W.mg_of X G aK_Double, PySem.W.mg_of X G aK_Ring, isk_Double, kit_ref ic_Ring it_Ring s_Double_Ring n_Double_Ring⟩ (all_cons ⟨_, _, PySem.W.mg_of X G aK_NoKind, PySem.W.mg_of X G aK_Ring, isk_NoKind, kit_ref ic_Ring it_Ring s_NoKind_Ring n_NoKind_Ring⟩ (all_cons ⟨_, _, PySem.W.mg_of X G aK_NoPair, PySem.W.mg_of X G aK_Ring, isk_NoPair, kit_ref ic_Ring it_Ring s_NoPair_Ring n_NoPair_Ring⟩ (all_cons ⟨_, _, PySem.W.mg_of X G aK_NoPlace, PySem.W.mg_of X G aK_Ring, isk_NoPlace, kit_ref ic_Ring it_Ring s_NoPlace_Ring n_NoPlace_Ring⟩ (all_cons ⟨_, _, PySem.W.mg_of X G aK_NoRow, PySem.W.mg_of X G aK_Ring, isk_NoRow, kit_ref ic_Ring it_Ring s_NoRow_Ring n_NoRow_Ring⟩ (all_cons ⟨_, _, PySem.W.mg_of X G aK_NoStep, PySem.W.mg_of X G aK_Ring, isk_NoStep, kit_ref ic_Ring it_Ring s_NoStep_Ring n_NoStep_Ring⟩ (all_cons ⟨_, _, PySem.W.mg_of X G aK_NoUndo, PySem.W.mg_of X G aK_Ring, isk_NoUndo, kit_ref ic_Ring it_Ring s_NoUndo_Ring n_NoUndo_Ring⟩ (all_cons ⟨_, _, PySem.W.mg_of X G aK_NotFormed, PySem.W.mg_of X G aK_Ring, isk_NotFormed, kit_ref ic_Ring it_Ring s_NotFormed_Ring n_NotFormed_Ring⟩ (all_cons ⟨_, _, PySem.W.mg_of X G aK_Nothing, PySem.W.mg_of X G aK_Ring, isk_Nothing, kit_ref ic_Ring it_Ring s_Nothing_Ring n_Nothing_Ring⟩ (all_cons ⟨_, _, PySem.W.mg_of X G aK_Ring, PySem.W.mg_of X G aK_Ring, isk_Ring, kit_self⟩ (all_cons ⟨_, _, PySem.W.mg_of X G aK_Same, PySem.W.mg_of X G aK_Ring, isk_Same, kit_ref ic_Ring it_Ring s_Same_Ring n_Same_Ring⟩ (all_cons ⟨_, _, PySem.W.mg_of X G aK_TooLong, PySem.W.mg_of X G aK_Ring, isk_TooLong, kit_ref ic_Ring it_Ring s_TooLong_Ring n_TooLong_Ring⟩ (all_cons ⟨_, _, PySem.W.mg_of X G aK_TooMany, PySem.W.mg_of X G aK_Ring, isk_TooMany, kit_ref ic_Ring it_Ring s_TooMany_Ring n_TooMany_Ring⟩ (all_cons ⟨_, _, PySem.W.mg_of X G aK_Twice, PySem.W.mg_of X G aK_Ring, isk_Twice, kit_ref ic_Ring it_Ring s_Twice_Ring n_Twice_Ring⟩ (all_cons ⟨_, _, PySem.W.mg_of X G aK_Unlike, PySem.W.mg_of X G aK_Ring, isk_Unlike, kit_ref ic_Ring it_Ring s_Unlike_Ring n_Unlike_Ring⟩ (all_nil)))))))))))))))
  have I_TooLong : IsAll K mg (["Double", "NoKind", "NoPair", "NoPlace", "NoRow", "NoStep", "NoUndo", "NotFormed", "Nothing", "Ring", "Same", "TooLong", "TooMany", "Twice", "Unlike"] : List Str) "TooLong" (["TooLong"] : List Str) := all_cons ⟨_, _, PySem.W.mg_of X G aK_Double, PySem.W.mg_of X G aK_TooLong, isk_Double, kit_ref ic_TooLong it_TooLong s_Double_TooLong n_Double_TooLong⟩ (all_cons ⟨_, _, PySem.W.mg_of X G aK_NoKind, PySem.W.mg_of X G aK_TooLong, isk_NoKind, kit_ref ic_TooLong it_TooLong s_NoKind_TooLong n_NoKind_TooLong⟩ (all_cons ⟨_, _, PySem.W.mg_of X G aK_NoPair, PySem.W.mg_of X G aK_TooLong, isk_NoPair, kit_ref ic_TooLong it_TooLong s_NoPair_TooLong n_NoPair_TooLong⟩ (all_cons ⟨_, _, PySem.W.mg_of X G aK_NoPlace, PySem.W.mg_of X G aK_TooLong, isk_NoPlace, kit_ref ic_TooLong it_TooLong s_NoPlace_TooLong n_NoPlace_TooLong⟩ (all_cons ⟨_, _, PySem.W.mg_of X G aK_NoRow, PySem.W.mg_of X G aK_TooLong, isk_NoRow, kit_ref ic_TooLong it_TooLong s_NoRow_TooLong n_NoRow_TooLong⟩ (all_cons ⟨_, _, PySem.W.mg_of X G aK_NoStep, PySem.W.mg_of X G aK_TooLong, isk_NoStep, kit_ref ic_TooLong it_TooLong s_NoStep_TooLong n_NoStep_TooLong⟩ (all_cons ⟨_, _, PySem.W.mg_of X G aK_NoUndo, PySem.W.mg_of X G aK_TooLong, isk_NoUndo, kit_ref ic_TooLong it_TooLong s_NoUndo_TooLong n_NoUndo_TooLong⟩ (all_cons ⟨_, _, PySem.W.mg_of X G aK_NotFormed, PySem.W.mg_of X G aK_TooLong, isk_NotFormed, kit_ref ic_TooLong it_TooLong s_NotFormed_TooLong n_NotFormed_TooLong⟩ (all_cons ⟨_, _, PySem.W.mg_of X G aK_Nothing, PySem.W.mg_of X G aK_TooLong, isk_Nothing, kit_ref ic_TooLong it_TooLong s_Nothing_TooLong n_Nothing_TooLong⟩ (all_cons ⟨_, _, PySem.W.mg_of X G aK_Ring, PySem.W.mg_of X G aK_TooLong, isk_Ring, kit_ref ic_TooLong it_TooLong s_Ring_TooLong n_Ring_TooLong⟩ (all_cons ⟨_, _, PySem.W.mg_of X G aK_Same, PySem.W.mg_of X G aK_TooLong, isk_Same, kit_ref ic_TooLong it_TooLong s_Same_TooLong n_Same_TooLong⟩ (all_cons ⟨_, _, PySem.W.mg_of X G aK_TooLong, PySem.W.mg_of X G aK_TooLong, isk_TooLong, kit_self⟩ (all_cons ⟨_, _, PySem.W.mg_of X G aK_TooMany, PySem.W.mg_of X G aK_TooLong, isk_TooMany, kit_ref ic_TooLong it_TooLong s_TooMany_TooLong n_TooMany_TooLong⟩ (all_cons ⟨_, _, PySem.W.mg_of X G aK_Twice, PySem.W.mg_of X G aK_TooLong, isk_Twice, kit_ref ic_TooLong it_TooLong s_Twice_TooLong n_Twice_TooLong⟩ (all_cons ⟨_, _, PySem.W.mg_of X G aK_Unlike, PySem.W.mg_of X G aK_TooLong, isk_Unlike, kit_ref ic_TooLong it_TooLong s_Unlike_TooLong n_Unlike_TooLong⟩ (all_nil)))))))))))))))
  have I_NoStep : IsAll K mg (["Double", "NoKind", "NoPair", "NoPlace", "NoRow", "NoStep", "NoUndo", "NotFormed", "Nothing", "Ring", "Same", "TooLong", "TooMany", "Twice", "Unlike"] : List Str) "NoStep" (["NoStep"] : List Str) := all_cons ⟨_, _, PySem.W.mg_of X G aK_Double, PySem.W.mg_of X G aK_NoStep, isk_Double, kit_ref ic_NoStep it_NoStep s_Double_NoStep n_Double_NoStep⟩ (all_cons ⟨_, _, PySem.W.mg_of X G aK_NoKind, PySem.W.mg_of X G aK_NoStep, isk_NoKind, kit_ref ic_NoStep it_NoStep s_NoKind_NoStep n_NoKind_NoStep⟩ (all_cons ⟨_, _, PySem.W.mg_of X G aK_NoPair, PySem.W.mg_of X G aK_NoStep, isk_NoPair, kit_ref ic_NoStep it_NoStep s_NoPair_NoStep n_NoPair_NoStep⟩ (all_cons ⟨_, _, PySem.W.mg_of X G aK_NoPlace, PySem.W.mg_of X G aK_NoStep, isk_NoPlace, kit_ref ic_NoStep it_NoStep s_NoPlace_NoStep n_NoPlace_NoStep⟩ (all_cons ⟨_, _, PySem.W.mg_of X G aK_NoRow, PySem.W.mg_of X G aK_NoStep, isk_NoRow, kit_ref ic_NoStep it_NoStep s_NoRow_NoStep n_NoRow_NoStep⟩ (all_cons ⟨_, _, PySem.W.mg_of X G aK_NoStep, PySem.W.mg_of X G aK_NoStep, isk_NoStep, kit_self⟩ (all_cons ⟨_, _, PySem.W.mg_of X G aK_NoUndo, PySem.W.mg_of X G aK_NoStep, isk_NoUndo, kit_ref ic_NoStep it_NoStep s_NoUndo_NoStep n_NoUndo_NoStep⟩ (all_cons ⟨_, _, PySem.W.mg_of X G aK_NotFormed, PySem.W.mg_of X G aK_NoStep, isk_NotFormed, kit_ref ic_NoStep it_NoStep s_NotFormed_NoStep n_NotFormed_NoStep⟩ (all_cons ⟨_, _, PySem.W.mg_of X G aK_Nothing, PySem.W.mg_of X G aK_NoStep, isk_Nothing, kit_ref ic_NoStep it_NoStep s_Nothing_NoStep n_Nothing_NoStep⟩ (all_cons ⟨_, _, PySem.W.mg_of X G aK_Ring, PySem.W.mg_of X G aK_NoStep, isk_Ring, kit_ref ic_NoStep it_NoStep s_Ring_NoStep n_Ring_NoStep⟩ (all_cons ⟨_, _, PySem.W.mg_of X G aK_Same, PySem.W.mg_of X G aK_NoStep, isk_Same, kit_ref ic_NoStep it_NoStep s_Same_NoStep n_Same_NoStep⟩ (all_cons ⟨_, _, PySem.W.mg_of X G aK_TooLong, PySem.W.mg_of X G aK_NoStep, isk_TooLong, kit_ref ic_NoStep it_NoStep s_TooLong_NoStep n_TooLong_NoStep⟩ (all_cons ⟨_, _, PySem.W.mg_of X G aK_TooMany, PySem.W.mg_of X G aK_NoStep, isk_TooMany, kit_ref ic_NoStep it_NoStep s_TooMany_NoStep n_TooMany_NoStep⟩ (all_cons ⟨_, _, PySem.W.mg_of X G aK_Twice, PySem.W.mg_of X G aK_NoStep, isk_Twice, kit_ref ic_NoStep it_NoStep s_Twice_NoStep n_Twice_NoStep⟩ (all_cons ⟨_, _, PySem.W.mg_of X G aK_Unlike, PySem.W.mg_of X G aK_NoStep, isk_Unlike, kit_ref ic_NoStep it_NoStep s_Unlike_NoStep n_Unlike_NoStep⟩ (all_nil)))))))))))))))
  have I_Unlike : IsAll K mg (["Double", "NoKind", "NoPair", "NoPlace", "NoRow", "NoStep", "NoUndo", "NotFormed", "Nothing", "Ring", "Same", "TooLong", "TooMany", "Twice", "Unlike"] : List Str) "Unlike" (["Unlike"] : List Str) := all_cons ⟨_, _, PySem.W.mg_of X G aK_Double, PySem.W.mg_of X G aK_Unlike, isk_Double, kit_ref ic_Unlike it_Unlike s_Double_Unlike n_Double_Unlike⟩ (all_cons ⟨_, _, PySem.W.mg_of X G aK_NoKind, PySem.W.mg_of X G aK_Unlike, isk_NoKind, kit_ref ic_Unlike it_Unlike s_NoKind_Unlike n_NoKind_Unlike⟩ (all_cons ⟨_, _, PySem.W.mg_of X G aK_NoPair, PySem.W.mg_of X G aK_Unlike, isk_NoPair, kit_ref ic_Unlike it_Unlike s_NoPair_Unlike n_NoPair_Unlike⟩ (all_cons ⟨_, _, PySem.W.mg_of X G aK_NoPlace, PySem.W.mg_of X G aK_Unlike, isk_NoPlace, kit_ref ic_Unlike it_Unlike s_NoPlace_Unlike n_NoPlace_Unlike⟩ (all_cons ⟨_, _, PySem.W.mg_of X G aK_NoRow, PySem.W.mg_of X G aK_Unlike, isk_NoRow, kit_ref ic_Unlike it_Unlike s_NoRow_Unlike n_NoRow_Unlike⟩ (all_cons ⟨_, _, PySem.W.mg_of X G aK_NoStep, PySem.W.mg_of X G aK_Unlike, isk_NoStep, kit_ref ic_Unlike it_Unlike s_NoStep_Unlike n_NoStep_Unlike⟩ (all_cons ⟨_, _, PySem.W.mg_of X G aK_NoUndo, PySem.W.mg_of X G aK_Unlike, isk_NoUndo, kit_ref ic_Unlike it_Unlike s_NoUndo_Unlike n_NoUndo_Unlike⟩ (all_cons ⟨_, _, PySem.W.mg_of X G aK_NotFormed, PySem.W.mg_of X G aK_Unlike, isk_NotFormed, kit_ref ic_Unlike it_Unlike s_NotFormed_Unlike n_NotFormed_Unlike⟩ (all_cons ⟨_, _, PySem.W.mg_of X G aK_Nothing, PySem.W.mg_of X G aK_Unlike, isk_Nothing, kit_ref ic_Unlike it_Unlike s_Nothing_Unlike n_Nothing_Unlike⟩ (all_cons ⟨_, _, PySem.W.mg_of X G aK_Ring, PySem.W.mg_of X G aK_Unlike, isk_Ring, kit_ref ic_Unlike it_Unlike s_Ring_Unlike n_Ring_Unlike⟩ (all_cons ⟨_, _, PySem.W.mg_of X G aK_Same, PySem.W.mg_of X G aK_Unlike, isk_Same, kit_ref ic_Unlike it_Unlike s_Same_Unlike n_Same_Unlike⟩ (all_cons ⟨_, _, PySem.W.mg_of X G aK_TooLong, PySem.W.mg_of X G aK_Unlike, isk_TooLong, kit_ref ic_Unlike it_Unlike s_TooLong_Unlike n_TooLong_Unlike⟩ (all_cons ⟨_, _, PySem.W.mg_of X G aK_TooMany, PySem.W.mg_of X G aK_Unlike, isk_TooMany, kit_ref ic_Unlike it_Unlike s_TooMany_Unlike n_TooMany_Unlike⟩ (all_cons ⟨_, _, PySem.W.mg_of X G aK_Twice, PySem.W.mg_of X G aK_Unlike, isk_Twice, kit_ref ic_Unlike it_Unlike s_Twice_Unlike n_Twice_Unlike⟩ (all_cons ⟨_, _, PySem.W.mg_of X G aK_Unlike, PySem.W.mg_of X G aK_Unlike, isk_Unlike, kit_self⟩ (all_nil)))))))))))))))
  have I_TooMany : IsAll K mg (["Double", "NoKind", "NoPair", "NoPlace", "NoRow", "NoStep", "NoUndo", "NotFormed", "Nothing", "Ring", "Same", "TooLong", "TooMany", "Twice", "Unlike"] : List Str) "TooMany" (["TooMany"] : List Str) := all_cons ⟨_, _, PySem.W.mg_of X G aK_Double, PySem.W.mg_of X G aK_TooMany, isk_Double, kit_ref ic_TooMany it_TooMany s_Double_TooMany n_Double_TooMany⟩ (all_cons ⟨_, _, PySem.W.mg_of X G aK_NoKind, PySem.W.mg_of X G aK_TooMany, isk_NoKind, kit_ref ic_TooMany it_TooMany s_NoKind_TooMany n_NoKind_TooMany⟩ (all_cons ⟨_, _, PySem.W.mg_of X G aK_NoPair, PySem.W.mg_of X G aK_TooMany, isk_NoPair, kit_ref ic_TooMany it_TooMany s_NoPair_TooMany n_NoPair_TooMany⟩ (all_cons ⟨_, _, PySem.W.mg_of X G aK_NoPlace, PySem.W.mg_of X G aK_TooMany, isk_NoPlace, kit_ref ic_TooMany it_TooMany s_NoPlace_TooMany n_NoPlace_TooMany⟩ (all_cons ⟨_, _, PySem.W.mg_of X G aK_NoRow, PySem.W.mg_of X G aK_TooMany, isk_NoRow, kit_ref ic_TooMany it_TooMany s_NoRow_TooMany n_NoRow_TooMany⟩ (all_cons ⟨_, _, PySem.W.mg_of X G aK_NoStep, PySem.W.mg_of X G aK_TooMany, isk_NoStep, kit_ref ic_TooMany it_TooMany s_NoStep_TooMany n_NoStep_TooMany⟩ (all_cons ⟨_, _, PySem.W.mg_of X G aK_NoUndo, PySem.W.mg_of X G aK_TooMany, isk_NoUndo, kit_ref ic_TooMany it_TooMany s_NoUndo_TooMany n_NoUndo_TooMany⟩ (all_cons ⟨_, _, PySem.W.mg_of X G aK_NotFormed, PySem.W.mg_of X G aK_TooMany, isk_NotFormed, kit_ref ic_TooMany it_TooMany s_NotFormed_TooMany n_NotFormed_TooMany⟩ (all_cons ⟨_, _, PySem.W.mg_of X G aK_Nothing, PySem.W.mg_of X G aK_TooMany, isk_Nothing, kit_ref ic_TooMany it_TooMany s_Nothing_TooMany n_Nothing_TooMany⟩ (all_cons ⟨_, _, PySem.W.mg_of X G aK_Ring, PySem.W.mg_of X G aK_TooMany, isk_Ring, kit_ref ic_TooMany it_TooMany s_Ring_TooMany n_Ring_TooMany⟩ (all_cons ⟨_, _, PySem.W.mg_of X G aK_Same, PySem.W.mg_of X G aK_TooMany, isk_Same, kit_ref ic_TooMany it_TooMany s_Same_TooMany n_Same_TooMany⟩ (all_cons ⟨_, _, PySem.W.mg_of X G aK_TooLong, PySem.W.mg_of X G aK_TooMany, isk_TooLong, kit_ref ic_TooMany it_TooMany s_TooLong_TooMany n_TooLong_TooMany⟩ (all_cons ⟨_, _, PySem.W.mg_of X G aK_TooMany, PySem.W.mg_of X G aK_TooMany, isk_TooMany, kit_self⟩ (all_cons ⟨_, _, PySem.W.mg_of X G aK_Twice, PySem.W.mg_of X G aK_TooMany, isk_Twice, kit_ref ic_TooMany it_TooMany s_Twice_TooMany n_Twice_TooMany⟩ (all_cons ⟨_, _, PySem.W.mg_of X G aK_Unlike, PySem.W.mg_of X G aK_TooMany, isk_Unlike, kit_ref ic_TooMany it_TooMany s_Unlike_TooMany n_Unlike_TooMany⟩ (all_nil)))))))))))))))
  have I_NotFormed : IsAll K mg (["Double", "NoKind", "NoPair", "NoPlace", "NoRow", "NoStep", "NoUndo", "NotFormed", "Nothing", "Ring", "Same", "TooLong", "TooMany", "Twice", "Unlike"] : List Str) "NotFormed" (["NotFormed"] : List Str) := all_cons ⟨_, _, PySem.W.mg_of X G aK_Double, PySem.W.mg_of X G aK_NotFormed, isk_Double, kit_ref ic_NotFormed it_NotFormed s_Double_NotFormed n_Double_NotFormed⟩ (all_cons ⟨_, _, PySem.W.mg_of X G aK_NoKind, PySem.W.mg_of X G aK_NotFormed, isk_NoKind, kit_ref ic_NotFormed it_NotFormed s_NoKind_NotFormed n_NoKind_NotFormed⟩ (all_cons ⟨_, _, PySem.W.mg_of X G aK_NoPair, PySem.W.mg_of X G aK_NotFormed, isk_NoPair, kit_ref ic_NotFormed it_NotFormed s_NoPair_NotFormed n_NoPair_NotFormed⟩ (all_cons ⟨_, _, PySem.W.mg_of X G aK_NoPlace, PySem.W.mg_of X G aK_NotFormed, isk_NoPlace, kit_ref ic_NotFormed it_NotFormed s_NoPlace_NotFormed n_NoPlace_NotFormed⟩ (all_cons ⟨_, _, PySem.W.mg_of X G aK_NoRow, PySem.W.mg_of X G aK_NotFormed, isk_NoRow, kit_ref ic_NotFormed it_NotFormed s_NoRow_NotFormed n_NoRow_NotFormed⟩ (all_cons ⟨_, _, PySem.W.mg_of X G aK_NoStep, PySem.W.mg_of X G aK_NotFormed, isk_NoStep, kit_ref ic_NotFormed it_NotFormed s_NoStep_NotFormed n_NoStep_NotFormed⟩ (all_cons ⟨_, _, PySem.W.mg_of X G aK_NoUndo, PySem.W.mg_of X G aK_NotFormed, isk_NoUndo, kit_ref ic_NotFormed it_NotFormed s_NoUndo_NotFormed n_NoUndo_NotFormed⟩ (all_cons ⟨_, _, PySem.W.mg_of X G aK_NotFormed, PySem.W.mg_of X G aK_NotFormed, isk_NotFormed, kit_self⟩ (all_cons ⟨_, _, PySem.W.mg_of X G aK_Nothing, PySem.W.mg_of X G aK_NotFormed, isk_Nothing, kit_ref ic_NotFormed it_NotFormed s_Nothing_NotFormed n_Nothing_NotFormed⟩ (all_cons ⟨_, _, PySem.W.mg_of X G aK_Ring, PySem.W.mg_of X G aK_NotFormed, isk_Ring, kit_ref ic_NotFormed it_NotFormed s_Ring_NotFormed n_Ring_NotFormed⟩ (all_cons ⟨_, _, PySem.W.mg_of X G aK_Same, PySem.W.mg_of X G aK_NotFormed, isk_Same, kit_ref ic_NotFormed it_NotFormed s_Same_NotFormed n_Same_NotFormed⟩ (all_cons ⟨_, _, PySem.W.mg_of X G aK_TooLong, PySem.W.mg_of X G aK_NotFormed, isk_TooLong, kit_ref ic_NotFormed it_NotFormed s_TooLong_NotFormed n_TooLong_NotFormed⟩ (all_cons ⟨_, _, PySem.W.mg_of X G aK_TooMany, PySem.W.mg_of X G aK_NotFormed, isk_TooMany, kit_ref ic_NotFormed it_NotFormed s_TooMany_NotFormed n_TooMany_NotFormed⟩ (all_cons ⟨_, _, PySem.W.mg_of X G aK_Twice, PySem.W.mg_of X G aK_NotFormed, isk_Twice, kit_ref ic_NotFormed it_NotFormed s_Twice_NotFormed n_Twice_NotFormed⟩ (all_cons ⟨_, _, PySem.W.mg_of X G aK_Unlike, PySem.W.mg_of X G aK_NotFormed, isk_Unlike, kit_ref ic_NotFormed it_NotFormed s_Unlike_NotFormed n_Unlike_NotFormed⟩ (all_nil)))))))))))))))
  have I_Double : IsAll K mg (["Double", "NoKind", "NoPair", "NoPlace", "NoRow", "NoStep", "NoUndo", "NotFormed", "Nothing", "Ring", "Same", "TooLong", "TooMany", "Twice", "Unlike"] : List Str) "Double" (["Double"] : List Str) := all_cons ⟨_, _, PySem.W.mg_of X G aK_Double, PySem.W.mg_of X G aK_Double, isk_Double, kit_self⟩ (all_cons ⟨_, _, PySem.W.mg_of X G aK_NoKind, PySem.W.mg_of X G aK_Double, isk_NoKind, kit_ref ic_Double it_Double s_NoKind_Double n_NoKind_Double⟩ (all_cons ⟨_, _, PySem.W.mg_of X G aK_NoPair, PySem.W.mg_of X G aK_Double, isk_NoPair, kit_ref ic_Double it_Double s_NoPair_Double n_NoPair_Double⟩ (all_cons ⟨_, _, PySem.W.mg_of X G aK_NoPlace, PySem.W.mg_of X G aK_Double, isk_NoPlace, kit_ref ic_Double it_Double s_NoPlace_Double n_NoPlace_Double⟩ (all_cons ⟨_, _, PySem.W.mg_of X G aK_NoRow, PySem.W.mg_of X G aK_Double, isk_NoRow, kit_ref ic_Double it_Double s_NoRow_Double n_NoRow_Double⟩ (all_cons ⟨_, _, PySem.W.mg_of X G aK_NoStep, PySem.W.mg_of X G aK_Double, isk_NoStep, kit_ref ic_Double it_Double s_NoStep_Double n_NoStep_Double⟩ (all_cons ⟨_, _, PySem.W.mg_of X G aK_NoUndo, PySem.W.mg_of X G aK_Double, isk_NoUndo, kit_ref ic_Double it_Double s_NoUndo_Double n_NoUndo_Double⟩ (all_cons ⟨_, _, PySem.W.mg_of X G aK_NotFormed, PySem.W.mg_of X G aK_Double, isk_NotFormed, kit_ref ic_Double it_Double s_NotFormed_Double n_NotFormed_Double⟩ (all_cons ⟨_, _, PySem.W.mg_of X G aK_Nothing, PySem.W.mg_of X G aK_Double, isk_Nothing, kit_ref ic_Double it_Double s_Nothing_Double n_Nothing_Double⟩ (all_cons ⟨_, _, PySem.W.mg_of X G aK_Ring, PySem.W.mg_of X G aK_Double, isk_Ring, kit_ref ic_Double it_Double s_Ring_Double n_Ring_Double⟩ (all_cons ⟨_, _, PySem.W.mg_of X G aK_Same, PySem.W.mg_of X G aK_Double, isk_Same, kit_ref ic_Double it_Double s_Same_Double n_Same_Double⟩ (all_cons ⟨_, _, PySem.W.mg_of X G aK_TooLong, PySem.W.mg_of X G aK_Double, isk_TooLong, kit_ref ic_Double it_Double s_TooLong_Double n_TooLong_Double⟩ (all_cons ⟨_, _, PySem.W.mg_of X G aK_TooMany, PySem.W.mg_of X G aK_Double, isk_TooMany, kit_ref ic_Double it_Double s_TooMany_Double n_TooMany_Double⟩ (all_cons ⟨_, _, PySem.W.mg_of X G aK_Twice, PySem.W.mg_of X G aK_Double, isk_Twice, kit_ref ic_Double it_Double s_Twice_Double n_Twice_Double⟩ (all_cons ⟨_, _, PySem.W.mg_of X G aK_Unlike, PySem.W.mg_of X G aK_Double, isk_Unlike, kit_ref ic_Double it_Double s_Unlike_Double n_Unlike_Double⟩ (all_nil)))))))))))))))
  have I_NoKind : IsAll K mg (["Double", "NoKind", "NoPair", "NoPlace", "NoRow", "NoStep", "NoUndo", "NotFormed", "Nothing", "Ring", "Same", "TooLong", "TooMany", "Twice", "Unlike"] : List Str) "NoKind" (["NoKind"] : List Str) := all_cons ⟨_, _, PySem.W.mg_of X G aK_Double, PySem.W.mg_of X G aK_NoKind, isk_Double, kit_ref ic_NoKind it_NoKind s_Double_NoKind n_Double_NoKind⟩ (all_cons ⟨_, _, PySem.W.mg_of X G aK_NoKind, PySem.W.mg_of X G aK_NoKind, isk_NoKind, kit_self⟩ (all_cons ⟨_, _, PySem.W.mg_of X G aK_NoPair, PySem.W.mg_of X G aK_NoKind, isk_NoPair, kit_ref ic_NoKind it_NoKind s_NoPair_NoKind n_NoPair_NoKind⟩ (all_cons ⟨_, _, PySem.W.mg_of X G aK_NoPlace, PySem.W.mg_of X G aK_NoKind, isk_NoPlace, kit_ref ic_NoKind it_NoKind s_NoPlace_NoKind n_NoPlace_NoKind⟩ (all_cons ⟨_, _, PySem.W.mg_of X G aK_NoRow, PySem.W.mg_of X G aK_NoKind, isk_NoRow, kit_ref ic_NoKind it_NoKind s_NoRow_NoKind n_NoRow_NoKind⟩ (all_cons ⟨_, _, PySem.W.mg_of X G aK_NoStep, PySem.W.mg_of X G aK_NoKind, isk_NoStep, kit_ref ic_NoKind it_NoKind s_NoStep_NoKind n_NoStep_NoKind⟩ (all_cons ⟨_, _, PySem.W.mg_of X G aK_NoUndo, PySem.W.mg_of X G aK_NoKind, isk_NoUndo, kit_ref ic_NoKind it_NoKind s_NoUndo_NoKind n_NoUndo_NoKind⟩ (all_cons ⟨_, _, PySem.W.mg_of X G aK_NotFormed, PySem.W.mg_of X G aK_NoKind, isk_NotFormed, kit_ref ic_NoKind it_NoKind s_NotFormed_NoKind n_NotFormed_NoKind⟩ (all_cons ⟨_, _, PySem.W.mg_of X G aK_Nothing, PySem.W.mg_of X G aK_NoKind, isk_Nothing, kit_ref ic_NoKind it_NoKind s_Nothing_NoKind n_Nothing_NoKind⟩ (all_cons ⟨_, _, PySem.W.mg_of X G aK_Ring, PySem.W.mg_of X G aK_NoKind, isk_Ring, kit_ref ic_NoKind it_NoKind s_Ring_NoKind n_Ring_NoKind⟩ (all_cons ⟨_, _, PySem.W.mg_of X G aK_Same, PySem.W.mg_of X G aK_NoKind, isk_Same, kit_ref ic_NoKind it_NoKind s_Same_NoKind n_Same_NoKind⟩ (all_cons ⟨_, _, PySem.W.mg_of X G aK_TooLong, PySem.W.mg_of X G aK_NoKind, isk_TooLong, kit_ref ic_NoKind it_NoKind s_TooLong_NoKind n_TooLong_NoKind⟩ (all_cons ⟨_, _, PySem.W.mg_of X G aK_TooMany, PySem.W.mg_of X G aK_NoKind, isk_TooMany, kit_ref ic_NoKind it_NoKind s_TooMany_NoKind n_TooMany_NoKind⟩ (all_cons ⟨_, _, PySem.W.mg_of X G aK_Twice, PySem.W.mg_of X G aK_NoKind, isk_Twice, kit_ref ic_NoKind it_NoKind s_Twice_NoKind n_Twice_NoKind⟩ (all_cons ⟨_, _, PySem.W.mg_of X G aK_Unlike, PySem.W.mg_of X G aK_NoKind, isk_Unlike, kit_ref ic_NoKind it_NoKind s_Unlike_NoKind n_Unlike_NoKind⟩ (all_nil)))))))))))))))
  have I_Nothing : IsAll K mg (["Double", "NoKind", "NoPair", "NoPlace", "NoRow", "NoStep", "NoUndo", "NotFormed", "Nothing", "Ring", "Same", "TooLong", "TooMany", "Twice", "Unlike"] : List Str) "Nothing" (["Nothing"] : List Str) := all_cons ⟨_, _, PySem.W.mg_of X G aK_Double, PySem.W.mg_of X G aK_Nothing, isk_Double, kit_ref ic_Nothing it_Nothing s_Double_Nothing n_Double_Nothing⟩ (all_cons ⟨_, _, PySem.W.mg_of X G aK_NoKind, PySem.W.mg_of X G aK_Nothing, isk_NoKind, kit_ref ic_Nothing it_Nothing s_NoKind_Nothing n_NoKind_Nothing⟩ (all_cons ⟨_, _, PySem.W.mg_of X G aK_NoPair, PySem.W.mg_of X G aK_Nothing, isk_NoPair, kit_ref ic_Nothing it_Nothing s_NoPair_Nothing n_NoPair_Nothing⟩ (all_cons ⟨_, _, PySem.W.mg_of X G aK_NoPlace, PySem.W.mg_of X G aK_Nothing, isk_NoPlace, kit_ref ic_Nothing it_Nothing s_NoPlace_Nothing n_NoPlace_Nothing⟩ (all_cons ⟨_, _, PySem.W.mg_of X G aK_NoRow, PySem.W.mg_of X G aK_Nothing, isk_NoRow, kit_ref ic_Nothing it_Nothing s_NoRow_Nothing n_NoRow_Nothing⟩ (all_cons ⟨_, _, PySem.W.mg_of X G aK_NoStep, PySem.W.mg_of X G aK_Nothing, isk_NoStep, kit_ref ic_Nothing it_Nothing s_NoStep_Nothing n_NoStep_Nothing⟩ (all_cons ⟨_, _, PySem.W.mg_of X G aK_NoUndo, PySem.W.mg_of X G aK_Nothing, isk_NoUndo, kit_ref ic_Nothing it_Nothing s_NoUndo_Nothing n_NoUndo_Nothing⟩ (all_cons ⟨_, _, PySem.W.mg_of X G aK_NotFormed, PySem.W.mg_of X G aK_Nothing, isk_NotFormed, kit_ref ic_Nothing it_Nothing s_NotFormed_Nothing n_NotFormed_Nothing⟩ (all_cons ⟨_, _, PySem.W.mg_of X G aK_Nothing, PySem.W.mg_of X G aK_Nothing, isk_Nothing, kit_self⟩ (all_cons ⟨_, _, PySem.W.mg_of X G aK_Ring, PySem.W.mg_of X G aK_Nothing, isk_Ring, kit_ref ic_Nothing it_Nothing s_Ring_Nothing n_Ring_Nothing⟩ (all_cons ⟨_, _, PySem.W.mg_of X G aK_Same, PySem.W.mg_of X G aK_Nothing, isk_Same, kit_ref ic_Nothing it_Nothing s_Same_Nothing n_Same_Nothing⟩ (all_cons ⟨_, _, PySem.W.mg_of X G aK_TooLong, PySem.W.mg_of X G aK_Nothing, isk_TooLong, kit_ref ic_Nothing it_Nothing s_TooLong_Nothing n_TooLong_Nothing⟩ (all_cons ⟨_, _, PySem.W.mg_of X G aK_TooMany, PySem.W.mg_of X G aK_Nothing, isk_TooMany, kit_ref ic_Nothing it_Nothing s_TooMany_Nothing n_TooMany_Nothing⟩ (all_cons ⟨_, _, PySem.W.mg_of X G aK_Twice, PySem.W.mg_of X G aK_Nothing, isk_Twice, kit_ref ic_Nothing it_Nothing s_Twice_Nothing n_Twice_Nothing⟩ (all_cons ⟨_, _, PySem.W.mg_of X G aK_Unlike, PySem.W.mg_of X G aK_Nothing, isk_Unlike, kit_ref ic_Nothing it_Nothing s_Unlike_Nothing n_Unlike_Nothing⟩ (all_nil)))))))))))))))
  have I_NoPlace : IsAll K mg (["Double", "NoKind", "NoPair", "NoPlace", "NoRow", "NoStep", "NoUndo", "NotFormed", "Nothing", "Ring", "Same", "TooLong", "TooMany", "Twice", "Unlike"] : List Str) "NoPlace" (["NoPlace"] : List Str) := all_cons ⟨_, _, PySem.W.mg_of X G aK_Double, PySem.W.mg_of X G aK_NoPlace, isk_Double, kit_ref ic_NoPlace it_NoPlace s_Double_NoPlace n_Double_NoPlace⟩ (all_cons ⟨_, _, PySem.W.mg_of X G aK_NoKind, PySem.W.mg_of X G aK_NoPlace, isk_NoKind, kit_ref ic_NoPlace it_NoPlace s_NoKind_NoPlace n_NoKind_NoPlace⟩ (all_cons ⟨_, _, PySem.W.mg_of X G aK_NoPair, PySem.W.mg_of X G aK_NoPlace, isk_NoPair, kit_ref ic_NoPlace it_NoPlace s_NoPair_NoPlace n_NoPair_NoPlace⟩ (all_cons ⟨_, _, PySem.W.mg_of X G aK_NoPlace, PySem.W.mg_of X G aK_NoPlace, isk_NoPlace, kit_self⟩ (all_cons ⟨_, _, PySem.W.mg_of X G aK_NoRow, PySem.W.mg_of X G aK_NoPlace, isk_NoRow, kit_ref ic_NoPlace it_NoPlace s_NoRow_NoPlace n_NoRow_NoPlace⟩ (all_cons ⟨_, _, PySem.W.mg_of X G aK_NoStep, PySem.W.mg_of X G aK_NoPlace, isk_NoStep, kit_ref ic_NoPlace it_NoPlace s_NoStep_NoPlace n_NoStep_NoPlace⟩ (all_cons ⟨_, _, PySem.W.mg_of X G aK_NoUndo, PySem.W.mg_of X G aK_NoPlace, isk_NoUndo, kit_ref ic_NoPlace it_NoPlace s_NoUndo_NoPlace n_NoUndo_NoPlace⟩ (all_cons ⟨_, _, PySem.W.mg_of X G aK_NotFormed, PySem.W.mg_of X G aK_NoPlace, isk_NotFormed, kit_ref ic_NoPlace it_NoPlace s_NotFormed_NoPlace n_NotFormed_NoPlace⟩ (all_cons ⟨_, _, PySem.W.mg_of X G aK_Nothing, PySem.W.mg_of X G aK_NoPlace, isk_Nothing, kit_ref ic_NoPlace it_NoPlace s_Nothing_NoPlace n_Nothing_NoPlace⟩ (all_cons ⟨_, _, PySem.W.mg_of X G aK_Ring, PySem.W.mg_of X G aK_NoPlace, isk_Ring, kit_ref ic_NoPlace it_NoPlace s_Ring_NoPlace n_Ring_NoPlace⟩ (all_cons ⟨_, _, PySem.W.mg_of X G aK_Same, PySem.W.mg_of X G aK_NoPlace, isk_Same, kit_ref ic_NoPlace it_NoPlace s_Same_NoPlace n_Same_NoPlace⟩ (all_cons ⟨_, _, PySem.W.mg_of X G aK_TooLong, PySem.W.mg_of X G aK_NoPlace, isk_TooLong, kit_ref ic_NoPlace it_NoPlace s_TooLong_NoPlace n_TooLong_NoPlace⟩ (all_cons ⟨_, _, PySem.W.mg_of X G aK_TooMany, PySem.W.mg_of X G aK_NoPlace, isk_TooMany, kit_ref ic_NoPlace it_NoPlace s_TooMany_NoPlace n_TooMany_NoPlace⟩ (all_cons ⟨_, _, PySem.W.mg_of X G aK_Twice, PySem.W.mg_of X G aK_NoPlace, isk_Twice, kit_ref ic_NoPlace it_NoPlace s_Twice_NoPlace n_Twice_NoPlace⟩ (all_cons ⟨_, _, PySem.W.mg_of X G aK_Unlike, PySem.W.mg_of X G aK_NoPlace, isk_Unlike, kit_ref ic_NoPlace it_NoPlace s_Unlike_NoPlace n_Unlike_NoPlace⟩ (all_nil)))))))))))))))
  have I_NoUndo : IsAll K mg (["Double", "NoKind", "NoPair", "NoPlace", "NoRow", "NoStep", "NoUndo", "NotFormed", "Nothing", "Ring", "Same", "TooLong", "TooMany", "Twice", "Unlike"] : List Str) "NoUndo" (["NoUndo"] : List Str) := all_cons ⟨_, _, PySem.W.mg_of X G aK_Double, PySem.W.mg_of X G aK_NoUndo, isk_Double, kit_ref ic_NoUndo it_NoUndo s_Double_NoUndo n_Double_NoUndo⟩ (all_cons ⟨_, _, PySem.W.mg_of X G aK_NoKind, PySem.W.mg_of X G aK_NoUndo, isk_NoKind, kit_ref ic_NoUndo it_NoUndo s_NoKind_NoUndo n_NoKind_NoUndo⟩ (all_cons ⟨_, _, PySem.W.mg_of X G aK_NoPair, PySem.W.mg_of X G aK_NoUndo, isk_NoPair, kit_ref ic_NoUndo it_NoUndo s_NoPair_NoUndo n_NoPair_NoUndo⟩ (all_cons ⟨_, _, PySem.W.mg_of X G aK_NoPlace, PySem.W.mg_of X G aK_NoUndo, isk_NoPlace, kit_ref ic_NoUndo it_NoUndo s_NoPlace_NoUndo n_NoPlace_NoUndo⟩ (all_cons ⟨_, _, PySem.W.mg_of X G aK_NoRow, PySem.W.mg_of X G aK_NoUndo, isk_NoRow, kit_ref ic_NoUndo it_NoUndo s_NoRow_NoUndo n_NoRow_NoUndo⟩ (all_cons ⟨_, _, PySem.W.mg_of X G aK_NoStep, PySem.W.mg_of X G aK_NoUndo, isk_NoStep, kit_ref ic_NoUndo it_NoUndo s_NoStep_NoUndo n_NoStep_NoUndo⟩ (all_cons ⟨_, _, PySem.W.mg_of X G aK_NoUndo, PySem.W.mg_of X G aK_NoUndo, isk_NoUndo, kit_self⟩ (all_cons ⟨_, _, PySem.W.mg_of X G aK_NotFormed, PySem.W.mg_of X G aK_NoUndo, isk_NotFormed, kit_ref ic_NoUndo it_NoUndo s_NotFormed_NoUndo n_NotFormed_NoUndo⟩ (all_cons ⟨_, _, PySem.W.mg_of X G aK_Nothing, PySem.W.mg_of X G aK_NoUndo, isk_Nothing, kit_ref ic_NoUndo it_NoUndo s_Nothing_NoUndo n_Nothing_NoUndo⟩ (all_cons ⟨_, _, PySem.W.mg_of X G aK_Ring, PySem.W.mg_of X G aK_NoUndo, isk_Ring, kit_ref ic_NoUndo it_NoUndo s_Ring_NoUndo n_Ring_NoUndo⟩ (all_cons ⟨_, _, PySem.W.mg_of X G aK_Same, PySem.W.mg_of X G aK_NoUndo, isk_Same, kit_ref ic_NoUndo it_NoUndo s_Same_NoUndo n_Same_NoUndo⟩ (all_cons ⟨_, _, PySem.W.mg_of X G aK_TooLong, PySem.W.mg_of X G aK_NoUndo, isk_TooLong, kit_ref ic_NoUndo it_NoUndo s_TooLong_NoUndo n_TooLong_NoUndo⟩ (all_cons ⟨_, _, PySem.W.mg_of X G aK_TooMany, PySem.W.mg_of X G aK_NoUndo, isk_TooMany, kit_ref ic_NoUndo it_NoUndo s_TooMany_NoUndo n_TooMany_NoUndo⟩ (all_cons ⟨_, _, PySem.W.mg_of X G aK_Twice, PySem.W.mg_of X G aK_NoUndo, isk_Twice, kit_ref ic_NoUndo it_NoUndo s_Twice_NoUndo n_Twice_NoUndo⟩ (all_cons ⟨_, _, PySem.W.mg_of X G aK_Unlike, PySem.W.mg_of X G aK_NoUndo, isk_Unlike, kit_ref ic_NoUndo it_NoUndo s_Unlike_NoUndo n_Unlike_NoUndo⟩ (all_nil)))))))))))))))
  have I_FormError : IsAll K mg (["Double", "NoKind", "NoPair", "NoPlace", "NoRow", "NoStep", "NoUndo", "NotFormed", "Nothing", "Ring", "Same", "TooLong", "TooMany", "Twice", "Unlike"] : List Str) "FormError" (["Double", "NoKind", "NoPair", "NoPlace", "NoRow", "NoStep", "NoUndo", "NotFormed", "Nothing", "Ring", "Same", "TooLong", "TooMany", "Twice", "Unlike"] : List Str) := all_cons ⟨_, _, PySem.W.mg_of X G aK_Double, PySem.W.mg_of X G aK_FormError, isk_Double, kit_ref ic_FormError it_FormError s_Double_FormError n_Double_FormError⟩ (all_cons ⟨_, _, PySem.W.mg_of X G aK_NoKind, PySem.W.mg_of X G aK_FormError, isk_NoKind, kit_ref ic_FormError it_FormError s_NoKind_FormError n_NoKind_FormError⟩ (all_cons ⟨_, _, PySem.W.mg_of X G aK_NoPair, PySem.W.mg_of X G aK_FormError, isk_NoPair, kit_ref ic_FormError it_FormError s_NoPair_FormError n_NoPair_FormError⟩ (all_cons ⟨_, _, PySem.W.mg_of X G aK_NoPlace, PySem.W.mg_of X G aK_FormError, isk_NoPlace, kit_ref ic_FormError it_FormError s_NoPlace_FormError n_NoPlace_FormError⟩ (all_cons ⟨_, _, PySem.W.mg_of X G aK_NoRow, PySem.W.mg_of X G aK_FormError, isk_NoRow, kit_ref ic_FormError it_FormError s_NoRow_FormError n_NoRow_FormError⟩ (all_cons ⟨_, _, PySem.W.mg_of X G aK_NoStep, PySem.W.mg_of X G aK_FormError, isk_NoStep, kit_ref ic_FormError it_FormError s_NoStep_FormError n_NoStep_FormError⟩ (all_cons ⟨_, _, PySem.W.mg_of X G aK_NoUndo, PySem.W.mg_of X G aK_FormError, isk_NoUndo, kit_ref ic_FormError it_FormError s_NoUndo_FormError n_NoUndo_FormError⟩ (all_cons ⟨_, _, PySem.W.mg_of X G aK_NotFormed, PySem.W.mg_of X G aK_FormError, isk_NotFormed, kit_ref ic_FormError it_FormError s_NotFormed_FormError n_NotFormed_FormError⟩ (all_cons ⟨_, _, PySem.W.mg_of X G aK_Nothing, PySem.W.mg_of X G aK_FormError, isk_Nothing, kit_ref ic_FormError it_FormError s_Nothing_FormError n_Nothing_FormError⟩ (all_cons ⟨_, _, PySem.W.mg_of X G aK_Ring, PySem.W.mg_of X G aK_FormError, isk_Ring, kit_ref ic_FormError it_FormError s_Ring_FormError n_Ring_FormError⟩ (all_cons ⟨_, _, PySem.W.mg_of X G aK_Same, PySem.W.mg_of X G aK_FormError, isk_Same, kit_ref ic_FormError it_FormError s_Same_FormError n_Same_FormError⟩ (all_cons ⟨_, _, PySem.W.mg_of X G aK_TooLong, PySem.W.mg_of X G aK_FormError, isk_TooLong, kit_ref ic_FormError it_FormError s_TooLong_FormError n_TooLong_FormError⟩ (all_cons ⟨_, _, PySem.W.mg_of X G aK_TooMany, PySem.W.mg_of X G aK_FormError, isk_TooMany, kit_ref ic_FormError it_FormError s_TooMany_FormError n_TooMany_FormError⟩ (all_cons ⟨_, _, PySem.W.mg_of X G aK_Twice, PySem.W.mg_of X G aK_FormError, isk_Twice, kit_ref ic_FormError it_FormError s_Twice_FormError n_Twice_FormError⟩ (all_cons ⟨_, _, PySem.W.mg_of X G aK_Unlike, PySem.W.mg_of X G aK_FormError, isk_Unlike, kit_ref ic_FormError it_FormError s_Unlike_FormError n_Unlike_FormError⟩ (all_nil)))))))))))))))
  have J_ValueError : IsAllB K mg (["Double", "NoKind", "NoPair", "NoPlace", "NoRow", "NoStep", "NoUndo", "NotFormed", "Nothing", "Ring", "Same", "TooLong", "TooMany", "Twice", "Unlike"] : List Str) "ValueError" "ValueError" (["Double", "NoKind", "NoPair", "NoPlace", "NoRow", "NoStep", "NoUndo", "NotFormed", "Nothing", "Ring", "Same", "TooLong", "TooMany", "Twice", "Unlike"] : List Str) := ⟨PySem.W.mg_none_of X G z_ValueError, all_cons ⟨_, PySem.W.mg_of X G aK_Double, isk_Double, kit_typ rfl s_Double_ValueError⟩ (all_cons ⟨_, PySem.W.mg_of X G aK_NoKind, isk_NoKind, kit_typ rfl s_NoKind_ValueError⟩ (all_cons ⟨_, PySem.W.mg_of X G aK_NoPair, isk_NoPair, kit_typ rfl s_NoPair_ValueError⟩ (all_cons ⟨_, PySem.W.mg_of X G aK_NoPlace, isk_NoPlace, kit_typ rfl s_NoPlace_ValueError⟩ (all_cons ⟨_, PySem.W.mg_of X G aK_NoRow, isk_NoRow, kit_typ rfl s_NoRow_ValueError⟩ (all_cons ⟨_, PySem.W.mg_of X G aK_NoStep, isk_NoStep, kit_typ rfl s_NoStep_ValueError⟩ (all_cons ⟨_, PySem.W.mg_of X G aK_NoUndo, isk_NoUndo, kit_typ rfl s_NoUndo_ValueError⟩ (all_cons ⟨_, PySem.W.mg_of X G aK_NotFormed, isk_NotFormed, kit_typ rfl s_NotFormed_ValueError⟩ (all_cons ⟨_, PySem.W.mg_of X G aK_Nothing, isk_Nothing, kit_typ rfl s_Nothing_ValueError⟩ (all_cons ⟨_, PySem.W.mg_of X G aK_Ring, isk_Ring, kit_typ rfl s_Ring_ValueError⟩ (all_cons ⟨_, PySem.W.mg_of X G aK_Same, isk_Same, kit_typ rfl s_Same_ValueError⟩ (all_cons ⟨_, PySem.W.mg_of X G aK_TooLong, isk_TooLong, kit_typ rfl s_TooLong_ValueError⟩ (all_cons ⟨_, PySem.W.mg_of X G aK_TooMany, isk_TooMany, kit_typ rfl s_TooMany_ValueError⟩ (all_cons ⟨_, PySem.W.mg_of X G aK_Twice, isk_Twice, kit_typ rfl s_Twice_ValueError⟩ (all_cons ⟨_, PySem.W.mg_of X G aK_Unlike, isk_Unlike, kit_typ rfl s_Unlike_ValueError⟩ (all_nil)))))))))))))))⟩
  have NF_at : NoFld K mg (["Double", "NoKind", "NoPair", "NoPlace", "NoRow", "NoStep", "NoUndo", "NotFormed", "Nothing", "Ring", "Same", "TooLong", "TooMany", "Twice", "Unlike"] : List Str) "at" := all_cons ⟨_, PySem.W.mg_of X G aK_Double, isk_Double, nf_Double_at⟩ (all_cons ⟨_, PySem.W.mg_of X G aK_NoKind, isk_NoKind, nf_NoKind_at⟩ (all_cons ⟨_, PySem.W.mg_of X G aK_NoPair, isk_NoPair, nf_NoPair_at⟩ (all_cons ⟨_, PySem.W.mg_of X G aK_NoPlace, isk_NoPlace, nf_NoPlace_at⟩ (all_cons ⟨_, PySem.W.mg_of X G aK_NoRow, isk_NoRow, nf_NoRow_at⟩ (all_cons ⟨_, PySem.W.mg_of X G aK_NoStep, isk_NoStep, nf_NoStep_at⟩ (all_cons ⟨_, PySem.W.mg_of X G aK_NoUndo, isk_NoUndo, nf_NoUndo_at⟩ (all_cons ⟨_, PySem.W.mg_of X G aK_NotFormed, isk_NotFormed, nf_NotFormed_at⟩ (all_cons ⟨_, PySem.W.mg_of X G aK_Nothing, isk_Nothing, nf_Nothing_at⟩ (all_cons ⟨_, PySem.W.mg_of X G aK_Ring, isk_Ring, nf_Ring_at⟩ (all_cons ⟨_, PySem.W.mg_of X G aK_Same, isk_Same, nf_Same_at⟩ (all_cons ⟨_, PySem.W.mg_of X G aK_TooLong, isk_TooLong, nf_TooLong_at⟩ (all_cons ⟨_, PySem.W.mg_of X G aK_TooMany, isk_TooMany, nf_TooMany_at⟩ (all_cons ⟨_, PySem.W.mg_of X G aK_Twice, isk_Twice, nf_Twice_at⟩ (all_cons ⟨_, PySem.W.mg_of X G aK_Unlike, isk_Unlike, nf_Unlike_at⟩ (all_nil)))))))))))))))
  have NF_sign : NoFld K mg (["Double", "NoKind", "NoPair", "NoPlace", "NoRow", "NoStep", "NoUndo", "NotFormed", "Nothing", "Ring", "Same", "TooLong", "TooMany", "Twice", "Unlike"] : List Str) "sign" := all_cons ⟨_, PySem.W.mg_of X G aK_Double, isk_Double, nf_Double_sign⟩ (all_cons ⟨_, PySem.W.mg_of X G aK_NoKind, isk_NoKind, nf_NoKind_sign⟩ (all_cons ⟨_, PySem.W.mg_of X G aK_NoPair, isk_NoPair, nf_NoPair_sign⟩ (all_cons ⟨_, PySem.W.mg_of X G aK_NoPlace, isk_NoPlace, nf_NoPlace_sign⟩ (all_cons ⟨_, PySem.W.mg_of X G aK_NoRow, isk_NoRow, nf_NoRow_sign⟩ (all_cons ⟨_, PySem.W.mg_of X G aK_NoStep, isk_NoStep, nf_NoStep_sign⟩ (all_cons ⟨_, PySem.W.mg_of X G aK_NoUndo, isk_NoUndo, nf_NoUndo_sign⟩ (all_cons ⟨_, PySem.W.mg_of X G aK_NotFormed, isk_NotFormed, nf_NotFormed_sign⟩ (all_cons ⟨_, PySem.W.mg_of X G aK_Nothing, isk_Nothing, nf_Nothing_sign⟩ (all_cons ⟨_, PySem.W.mg_of X G aK_Ring, isk_Ring, nf_Ring_sign⟩ (all_cons ⟨_, PySem.W.mg_of X G aK_Same, isk_Same, nf_Same_sign⟩ (all_cons ⟨_, PySem.W.mg_of X G aK_TooLong, isk_TooLong, nf_TooLong_sign⟩ (all_cons ⟨_, PySem.W.mg_of X G aK_TooMany, isk_TooMany, nf_TooMany_sign⟩ (all_cons ⟨_, PySem.W.mg_of X G aK_Twice, isk_Twice, nf_Twice_sign⟩ (all_cons ⟨_, PySem.W.mg_of X G aK_Unlike, isk_Unlike, nf_Unlike_sign⟩ (all_nil)))))))))))))))
  have NF_one : NoFld K mg (["Double", "NoKind", "NoPair", "NoPlace", "NoRow", "NoStep", "NoUndo", "NotFormed", "Nothing", "Ring", "Same", "TooLong", "TooMany", "Twice", "Unlike"] : List Str) "one" := all_cons ⟨_, PySem.W.mg_of X G aK_Double, isk_Double, nf_Double_one⟩ (all_cons ⟨_, PySem.W.mg_of X G aK_NoKind, isk_NoKind, nf_NoKind_one⟩ (all_cons ⟨_, PySem.W.mg_of X G aK_NoPair, isk_NoPair, nf_NoPair_one⟩ (all_cons ⟨_, PySem.W.mg_of X G aK_NoPlace, isk_NoPlace, nf_NoPlace_one⟩ (all_cons ⟨_, PySem.W.mg_of X G aK_NoRow, isk_NoRow, nf_NoRow_one⟩ (all_cons ⟨_, PySem.W.mg_of X G aK_NoStep, isk_NoStep, nf_NoStep_one⟩ (all_cons ⟨_, PySem.W.mg_of X G aK_NoUndo, isk_NoUndo, nf_NoUndo_one⟩ (all_cons ⟨_, PySem.W.mg_of X G aK_NotFormed, isk_NotFormed, nf_NotFormed_one⟩ (all_cons ⟨_, PySem.W.mg_of X G aK_Nothing, isk_Nothing, nf_Nothing_one⟩ (all_cons ⟨_, PySem.W.mg_of X G aK_Ring, isk_Ring, nf_Ring_one⟩ (all_cons ⟨_, PySem.W.mg_of X G aK_Same, isk_Same, nf_Same_one⟩ (all_cons ⟨_, PySem.W.mg_of X G aK_TooLong, isk_TooLong, nf_TooLong_one⟩ (all_cons ⟨_, PySem.W.mg_of X G aK_TooMany, isk_TooMany, nf_TooMany_one⟩ (all_cons ⟨_, PySem.W.mg_of X G aK_Twice, isk_Twice, nf_Twice_one⟩ (all_cons ⟨_, PySem.W.mg_of X G aK_Unlike, isk_Unlike, nf_Unlike_one⟩ (all_nil)))))))))))))))
  have NF_other : NoFld K mg (["Double", "NoKind", "NoPair", "NoPlace", "NoRow", "NoStep", "NoUndo", "NotFormed", "Nothing", "Ring", "Same", "TooLong", "TooMany", "Twice", "Unlike"] : List Str) "other" := all_cons ⟨_, PySem.W.mg_of X G aK_Double, isk_Double, nf_Double_other⟩ (all_cons ⟨_, PySem.W.mg_of X G aK_NoKind, isk_NoKind, nf_NoKind_other⟩ (all_cons ⟨_, PySem.W.mg_of X G aK_NoPair, isk_NoPair, nf_NoPair_other⟩ (all_cons ⟨_, PySem.W.mg_of X G aK_NoPlace, isk_NoPlace, nf_NoPlace_other⟩ (all_cons ⟨_, PySem.W.mg_of X G aK_NoRow, isk_NoRow, nf_NoRow_other⟩ (all_cons ⟨_, PySem.W.mg_of X G aK_NoStep, isk_NoStep, nf_NoStep_other⟩ (all_cons ⟨_, PySem.W.mg_of X G aK_NoUndo, isk_NoUndo, nf_NoUndo_other⟩ (all_cons ⟨_, PySem.W.mg_of X G aK_NotFormed, isk_NotFormed, nf_NotFormed_other⟩ (all_cons ⟨_, PySem.W.mg_of X G aK_Nothing, isk_Nothing, nf_Nothing_other⟩ (all_cons ⟨_, PySem.W.mg_of X G aK_Ring, isk_Ring, nf_Ring_other⟩ (all_cons ⟨_, PySem.W.mg_of X G aK_Same, isk_Same, nf_Same_other⟩ (all_cons ⟨_, PySem.W.mg_of X G aK_TooLong, isk_TooLong, nf_TooLong_other⟩ (all_cons ⟨_, PySem.W.mg_of X G aK_TooMany, isk_TooMany, nf_TooMany_other⟩ (all_cons ⟨_, PySem.W.mg_of X G aK_Twice, isk_Twice, nf_Twice_other⟩ (all_cons ⟨_, PySem.W.mg_of X G aK_Unlike, isk_Unlike, nf_Unlike_other⟩ (all_nil)))))))))))))))
  have NF_which : NoFld K mg (["Double", "NoKind", "NoPair", "NoPlace", "NoRow", "NoStep", "NoUndo", "NotFormed", "Nothing", "Ring", "Same", "TooLong", "TooMany", "Twice", "Unlike"] : List Str) "which" := all_cons ⟨_, PySem.W.mg_of X G aK_Double, isk_Double, nf_Double_which⟩ (all_cons ⟨_, PySem.W.mg_of X G aK_NoKind, isk_NoKind, nf_NoKind_which⟩ (all_cons ⟨_, PySem.W.mg_of X G aK_NoPair, isk_NoPair, nf_NoPair_which⟩ (all_cons ⟨_, PySem.W.mg_of X G aK_NoPlace, isk_NoPlace, nf_NoPlace_which⟩ (all_cons ⟨_, PySem.W.mg_of X G aK_NoRow, isk_NoRow, nf_NoRow_which⟩ (all_cons ⟨_, PySem.W.mg_of X G aK_NoStep, isk_NoStep, nf_NoStep_which⟩ (all_cons ⟨_, PySem.W.mg_of X G aK_NoUndo, isk_NoUndo, nf_NoUndo_which⟩ (all_cons ⟨_, PySem.W.mg_of X G aK_NotFormed, isk_NotFormed, nf_NotFormed_which⟩ (all_cons ⟨_, PySem.W.mg_of X G aK_Nothing, isk_Nothing, nf_Nothing_which⟩ (all_cons ⟨_, PySem.W.mg_of X G aK_Ring, isk_Ring, nf_Ring_which⟩ (all_cons ⟨_, PySem.W.mg_of X G aK_Same, isk_Same, nf_Same_which⟩ (all_cons ⟨_, PySem.W.mg_of X G aK_TooLong, isk_TooLong, nf_TooLong_which⟩ (all_cons ⟨_, PySem.W.mg_of X G aK_TooMany, isk_TooMany, nf_TooMany_which⟩ (all_cons ⟨_, PySem.W.mg_of X G aK_Twice, isk_Twice, nf_Twice_which⟩ (all_cons ⟨_, PySem.W.mg_of X G aK_Unlike, isk_Unlike, nf_Unlike_which⟩ (all_nil)))))))))))))))
  have NF_signs : NoFld K mg (["Double", "NoKind", "NoPair", "NoPlace", "NoRow", "NoStep", "NoUndo", "NotFormed", "Nothing", "Ring", "Same", "TooLong", "TooMany", "Twice", "Unlike"] : List Str) "signs" := all_cons ⟨_, PySem.W.mg_of X G aK_Double, isk_Double, nf_Double_signs⟩ (all_cons ⟨_, PySem.W.mg_of X G aK_NoKind, isk_NoKind, nf_NoKind_signs⟩ (all_cons ⟨_, PySem.W.mg_of X G aK_NoPair, isk_NoPair, nf_NoPair_signs⟩ (all_cons ⟨_, PySem.W.mg_of X G aK_NoPlace, isk_NoPlace, nf_NoPlace_signs⟩ (all_cons ⟨_, PySem.W.mg_of X G aK_NoRow, isk_NoRow, nf_NoRow_signs⟩ (all_cons ⟨_, PySem.W.mg_of X G aK_NoStep, isk_NoStep, nf_NoStep_signs⟩ (all_cons ⟨_, PySem.W.mg_of X G aK_NoUndo, isk_NoUndo, nf_NoUndo_signs⟩ (all_cons ⟨_, PySem.W.mg_of X G aK_NotFormed, isk_NotFormed, nf_NotFormed_signs⟩ (all_cons ⟨_, PySem.W.mg_of X G aK_Nothing, isk_Nothing, nf_Nothing_signs⟩ (all_cons ⟨_, PySem.W.mg_of X G aK_Ring, isk_Ring, nf_Ring_signs⟩ (all_cons ⟨_, PySem.W.mg_of X G aK_Same, isk_Same, nf_Same_signs⟩ (all_cons ⟨_, PySem.W.mg_of X G aK_TooLong, isk_TooLong, nf_TooLong_signs⟩ (all_cons ⟨_, PySem.W.mg_of X G aK_TooMany, isk_TooMany, nf_TooMany_signs⟩ (all_cons ⟨_, PySem.W.mg_of X G aK_Twice, isk_Twice, nf_Twice_signs⟩ (all_cons ⟨_, PySem.W.mg_of X G aK_Unlike, isk_Unlike, nf_Unlike_signs⟩ (all_nil)))))))))))))))
  have FK : FeK K K_FormError := ⟨fe1, fe2, fe3⟩
  have FI_NoRow := fun_mk (st := st_ini_NoRow) yl_NoRow ym_NoRow yn_NoRow
  have BI_NoRow := FI_NoRow.binds (ps := ["self", "at"]) fun _ _ _ _ _ _ us hl => match us, hl with | [_, _], _ => rfl
  have OX_NoRow : OexC K K_NoRow := ⟨⟨_, _, _, _, _, _, _, _, _, _, _, _, _, _, _, xo_NoRow, xr_NoRow⟩, xs_NoRow, xt_NoRow, xu_NoRow, xv_NoRow⟩
  have FI_Twice := fun_mk (st := st_ini_Twice) yl_Twice ym_Twice yn_Twice
  have BI_Twice := FI_Twice.binds (ps := ["self", "sign"]) fun _ _ _ _ _ _ us hl => match us, hl with | [_, _], _ => rfl
  have OX_Twice : OexC K K_Twice := ⟨⟨_, _, _, _, _, _, _, _, _, _, _, _, _, _, _, xo_Twice, xr_Twice⟩, xs_Twice, xt_Twice, xu_Twice, xv_Twice⟩
  have FI_NoPair := fun_mk (st := st_ini_NoPair) yl_NoPair ym_NoPair yn_NoPair
  have BI_NoPair := FI_NoPair.binds (ps := ["self", "sign"]) fun _ _ _ _ _ _ us hl => match us, hl with | [_, _], _ => rfl
  have OX_NoPair : OexC K K_NoPair := ⟨⟨_, _, _, _, _, _, _, _, _, _, _, _, _, _, _, xo_NoPair, xr_NoPair⟩, xs_NoPair, xt_NoPair, xu_NoPair, xv_NoPair⟩
  have FI_Same := fun_mk (st := st_ini_Same) yl_Same ym_Same yn_Same
  have BI_Same := FI_Same.binds (ps := ["self", "one", "other"]) fun _ _ _ _ _ _ us hl => match us, hl with | [_, _, _], _ => rfl
  have OX_Same : OexC K K_Same := ⟨⟨_, _, _, _, _, _, _, _, _, _, _, _, _, _, _, xo_Same, xr_Same⟩, xs_Same, xt_Same, xu_Same, xv_Same⟩
  have FI_Ring := fun_mk (st := st_ini_Ring) yl_Ring ym_Ring yn_Ring
  have BI_Ring := FI_Ring.binds (ps := ["self", "signs"]) fun _ _ _ _ _ _ us hl => match us, hl with | [_, _], _ => rfl
  have OX_Ring : OexC K K_Ring := ⟨⟨_, _, _, _, _, _, _, _, _, _, _, _, _, _, _, xo_Ring, xr_Ring⟩, xs_Ring, xt_Ring, xu_Ring, xv_Ring⟩
  have FI_TooLong := fun_mk (st := st_ini_TooLong) yl_TooLong ym_TooLong yn_TooLong
  have BI_TooLong := FI_TooLong.binds (ps := ["self", "sign"]) fun _ _ _ _ _ _ us hl => match us, hl with | [_, _], _ => rfl
  have OX_TooLong : OexC K K_TooLong := ⟨⟨_, _, _, _, _, _, _, _, _, _, _, _, _, _, _, xo_TooLong, xr_TooLong⟩, xs_TooLong, xt_TooLong, xu_TooLong, xv_TooLong⟩
  have FI_Unlike := fun_mk (st := st_ini_Unlike) yl_Unlike ym_Unlike yn_Unlike
  have BI_Unlike := FI_Unlike.binds (ps := ["self", "at"]) fun _ _ _ _ _ _ us hl => match us, hl with | [_, _], _ => rfl
  have OX_Unlike : OexC K K_Unlike := ⟨⟨_, _, _, _, _, _, _, _, _, _, _, _, _, _, _, xo_Unlike, xr_Unlike⟩, xs_Unlike, xt_Unlike, xu_Unlike, xv_Unlike⟩
  have FI_NotFormed := fun_mk (st := st_ini_NotFormed) yl_NotFormed ym_NotFormed yn_NotFormed
  have BI_NotFormed := FI_NotFormed.binds (ps := ["self", "which"]) fun _ _ _ _ _ _ us hl => match us, hl with | [_, _], _ => rfl
  have OX_NotFormed : OexC K K_NotFormed := ⟨⟨_, _, _, _, _, _, _, _, _, _, _, _, _, _, _, xo_NotFormed, xr_NotFormed⟩, xs_NotFormed, xt_NotFormed, xu_NotFormed, xv_NotFormed⟩
  have FI_Double := fun_mk (st := st_ini_Double) yl_Double ym_Double yn_Double
  have BI_Double := FI_Double.binds (ps := ["self", "at"]) fun _ _ _ _ _ _ us hl => match us, hl with | [_, _], _ => rfl
  have OX_Double : OexC K K_Double := ⟨⟨_, _, _, _, _, _, _, _, _, _, _, _, _, _, _, xo_Double, xr_Double⟩, xs_Double, xt_Double, xu_Double, xv_Double⟩
  have FI_NoKind := fun_mk (st := st_ini_NoKind) yl_NoKind ym_NoKind yn_NoKind
  have BI_NoKind := FI_NoKind.binds (ps := ["self", "at"]) fun _ _ _ _ _ _ us hl => match us, hl with | [_, _], _ => rfl
  have OX_NoKind : OexC K K_NoKind := ⟨⟨_, _, _, _, _, _, _, _, _, _, _, _, _, _, _, xo_NoKind, xr_NoKind⟩, xs_NoKind, xt_NoKind, xu_NoKind, xv_NoKind⟩
  have F0 := fun_mk (st := st_l_cell_at) l0 c0 k0
  have b0 := F0.binds (ps := ["_law_script", "_law_k"]) fun _ _ _ _ _ _ us hl => match us, hl with | [_, _], _ => rfl
  have F1 := fun_mk (st := st_l_made) l1 c1 k1
  have b1 := F1.binds (ps := ["_law_one", "_law_other", "_law_signs", "_law_way"]) fun _ _ _ _ _ _ us hl => match us, hl with | [_, _, _, _], _ => rfl
  have F2 := fun_mk (st := st_l_classes) l2 c2 k2
  have b2 := F2.binds (ps := ["_law_e"]) fun _ _ _ _ _ _ us hl => match us, hl with | [_], _ => rfl
  have F3 := fun_mk (st := st_l_whole) l3 c3 k3
  have b3 := F3.binds (ps := ["_law_found"]) fun _ _ _ _ _ _ us hl => match us, hl with | [_], _ => rfl
  have F4 := fun_mk (st := st_l_right) l4 c4 k4
  have b4 := F4.binds (ps := ["_law_some", "_law_one", "_law_other", "_law_signs"]) fun _ _ _ _ _ _ us hl => match us, hl with | [_, _, _, _], _ => rfl
  have F5 := fun_mk (st := st_law) l5 c5 k5
  refine ⟨PySem.W.fnOf "law" "law" (defArgs st_law) (defBody st_law) (defScope st_law) .none kV5 dc5 pm5 an5 cd5 ct5, fun s v => .of_eq rfl, fun base _ _ => ?_⟩
  have ZI_NoRow : RzI P w K mg base "NoRow" "at" ["self", "at"] := ⟨_, _, _, PySem.W.mg_of X G aK_NoRow, OX_NoRow, xw_NoRow, xx_NoRow, xy_NoRow, ini_ok FI_NoRow sc_ini_NoRow tb_ini_NoRow rfl FK (PySem.W.mg_of X G aK_FormError) (fun env => ⟨_, rfl⟩), BI_NoRow⟩
  have ZM_NoRow := RzI.toM ZI_NoRow
  have ZI_Twice : RzI P w K mg base "Twice" "sign" ["self", "sign"] := ⟨_, _, _, PySem.W.mg_of X G aK_Twice, OX_Twice, xw_Twice, xx_Twice, xy_Twice, ini_ok FI_Twice sc_ini_Twice tb_ini_Twice rfl FK (PySem.W.mg_of X G aK_FormError) (fun env => ⟨_, rfl⟩), BI_Twice⟩
  have ZM_Twice := RzI.toM ZI_Twice
  have ZI_NoPair : RzI P w K mg base "NoPair" "sign" ["self", "sign"] := ⟨_, _, _, PySem.W.mg_of X G aK_NoPair, OX_NoPair, xw_NoPair, xx_NoPair, xy_NoPair, ini_ok FI_NoPair sc_ini_NoPair tb_ini_NoPair rfl FK (PySem.W.mg_of X G aK_FormError) (fun env => ⟨_, rfl⟩), BI_NoPair⟩
  have ZM_NoPair := RzI.toM ZI_NoPair
  have ZM_Same : RzM P w K mg base "Same" (["one", "other"] : List Str) (["self", "one", "other"] : List Str) (SpE2 K "one" "other") := ⟨_, _, _, PySem.W.mg_of X G aK_Same, OX_Same, xw_Same, xx_Same, (in_two xy_Same xy1_Same), ini2_ok FI_Same sc_ini_Same tb_ini_Same rfl FK (PySem.W.mg_of X G aK_FormError) (fun env => ⟨_, rfl⟩), BI_Same⟩
  have ZM_Ring : RzM P w K mg base "Ring" (["signs"] : List Str) (["self", "signs"] : List Str) (SpEL K "signs") := ⟨_, _, _, PySem.W.mg_of X G aK_Ring, OX_Ring, xw_Ring, xx_Ring, (in_one xy_Ring), iniL_ok FI_Ring sc_ini_Ring tb_ini_Ring rfl FK (PySem.W.mg_of X G aK_FormError) T.list (fun env => ⟨_, rfl⟩), BI_Ring⟩
  have ZI_TooLong : RzI P w K mg base "TooLong" "sign" ["self", "sign"] := ⟨_, _, _, PySem.W.mg_of X G aK_TooLong, OX_TooLong, xw_TooLong, xx_TooLong, xy_TooLong, ini_ok FI_TooLong sc_ini_TooLong tb_ini_TooLong rfl FK (PySem.W.mg_of X G aK_FormError) (fun env => ⟨_, rfl⟩), BI_TooLong⟩
  have ZM_TooLong := RzI.toM ZI_TooLong
  have ZI_Unlike : RzI P w K mg base "Unlike" "at" ["self", "at"] := ⟨_, _, _, PySem.W.mg_of X G aK_Unlike, OX_Unlike, xw_Unlike, xx_Unlike, xy_Unlike, ini_ok FI_Unlike sc_ini_Unlike tb_ini_Unlike rfl FK (PySem.W.mg_of X G aK_FormError) (fun env => ⟨_, rfl⟩), BI_Unlike⟩
  have ZM_Unlike := RzI.toM ZI_Unlike
  have ZI_NotFormed : RzI P w K mg base "NotFormed" "which" ["self", "which"] := ⟨_, _, _, PySem.W.mg_of X G aK_NotFormed, OX_NotFormed, xw_NotFormed, xx_NotFormed, xy_NotFormed, ini_ok FI_NotFormed sc_ini_NotFormed tb_ini_NotFormed rfl FK (PySem.W.mg_of X G aK_FormError) (fun env => ⟨_, rfl⟩), BI_NotFormed⟩
  have ZM_NotFormed := RzI.toM ZI_NotFormed
  have ZI_Double : RzI P w K mg base "Double" "at" ["self", "at"] := ⟨_, _, _, PySem.W.mg_of X G aK_Double, OX_Double, xw_Double, xx_Double, xy_Double, ini_ok FI_Double sc_ini_Double tb_ini_Double rfl FK (PySem.W.mg_of X G aK_FormError) (fun env => ⟨_, rfl⟩), BI_Double⟩
  have ZM_Double := RzI.toM ZI_Double
  have ZI_NoKind : RzI P w K mg base "NoKind" "at" ["self", "at"] := ⟨_, _, _, PySem.W.mg_of X G aK_NoKind, OX_NoKind, xw_NoKind, xx_NoKind, xy_NoKind, ini_ok FI_NoKind sc_ini_NoKind tb_ini_NoKind rfl FK (PySem.W.mg_of X G aK_FormError) (fun env => ⟨_, rfl⟩), BI_NoKind⟩
  have ZM_NoKind := RzI.toM ZI_NoKind
  have G_l_cell_at : CalM P w K mg base 1 "_law_cell_at" ["_law_script", "_law_k"] (sp_l_cell_at 0 mg) := ⟨f0, _, ok_l_cell_at F0 T TE , PySem.W.mg_of X G a0, k0, b0⟩
  have G_l_classes : CalM P w K mg base 1 "_law_classes" ["_law_e"] (sp_l_classes 0 mg) := ⟨f2, _, ok_l_classes F2 T TE IB I_NoRow I_Twice I_NoPair I_Same I_Ring I_TooLong I_NoStep I_Unlike I_TooMany I_NotFormed I_Double I_NoKind I_Nothing I_NoPlace I_NoUndo J_ValueError, PySem.W.mg_of X G a2, k2, b2⟩
  have G_l_whole : CalM P w K mg base 1 "_law_whole" ["_law_found"] (sp_l_whole 0 mg) := ⟨f3, _, ok_l_whole F3 T TE , PySem.W.mg_of X G a3, k3, b3⟩
  have G_l_right : CalM P w K mg base 2 "_law_right" ["_law_some", "_law_one", "_law_other", "_law_signs"] (sp_l_right 0 mg) := ⟨f4, _, ok_l_right F4 T TE G_l_classes G_l_whole IB I_FormError NF_at NF_sign NF_one NF_other NF_which NF_signs, PySem.W.mg_of X G a4, k4, b4⟩
  have G_l_made : CalM P w K mg base 3 "_law_made" ["_law_one", "_law_other", "_law_signs", "_law_way"] (sp_l_made 0 mg) := ⟨f1, _, ok_l_made F1 T TE Z_NoStep Z_TooMany Z_Nothing Z_NoPlace Z_NoUndo ZM_NoRow ZM_Twice ZM_NoPair ZM_Same ZM_Ring ZM_TooLong ZM_Unlike ZM_NotFormed ZM_Double ZM_NoKind, PySem.W.mg_of X G a1, k1, b1⟩
  exact fn_law (ok_law (CT := 0) (EM := mg) F5 T TE G_l_cell_at G_l_made G_l_right) law_true
end Sg.W
open PySem PySem.W PyProof.Rows in
set_option maxRecDepth 100000 in
set_option maxHeartbeats 0 in
theorem PySem.Challenge.cw_signforms_k19_refusals_made_holds : PySem.Challenge.rw_signforms_k19_refusals_made.Holds := by
  w_on; o_law; k_head; (case hw => w_witness2)
  k_fill
  refine Sg.walk_law (l := PySem.Challenge.rw_signforms_k19_refusals_made) (k := 4) (p := "_law_script") rfl rfl ⟨rfl, by decide, by decide⟩ (fun w h Y => PySem.W.kIn_of Y) ?hN ?F
  case hN => (intro w; kernel_rfl)
  case F =>
    intro w mg fa h KX G hmg
    refine' Sg.W.all_mk KX G hmg ?a0 ?l0 ?c0 ?k0 ?a1 ?l1 ?c1 ?k1 ?a2 ?l2 ?c2 ?k2 ?a3 ?l3 ?c3 ?k3 ?a4 ?l4 ?c4 ?k4 ?a5 ?l5 ?c5 ?k5 ?z_len ?z_list ?z_sorted ?z_isinstance ?z_range ?z_dict ?z_all ?z_any ?z_min ?z_max ?z_sum ?z_reversed ?z_int ?z_str ?z_enumerate ?z_zip ?z_tuple ?z_abs ?z_bool ?aK_NoStep ?aK_TooMany ?aK_Nothing ?aK_NoPlace ?aK_NoUndo ?aK_NoRow ?aK_Twice ?aK_NoPair ?aK_Same ?aK_Ring ?aK_TooLong ?aK_Unlike ?aK_NotFormed ?aK_Double ?aK_NoKind ?aK_FormError ?kK_NoStep ?xK_NoStep ?sK_NoStep ?tK_NoStep ?kK_TooMany ?xK_TooMany ?sK_TooMany ?tK_TooMany ?kK_Nothing ?xK_Nothing ?sK_Nothing ?tK_Nothing ?kK_NoPlace ?xK_NoPlace ?sK_NoPlace ?tK_NoPlace ?kK_NoUndo ?xK_NoUndo ?sK_NoUndo ?tK_NoUndo ?ib1 ?ib2 ?j0_Double ?j1_Double ?j2_Double ?j3_Double ?j4_Double ?j5_Double ?j6_Double ?nf_Double_at ?nf_Double_sign ?nf_Double_one ?nf_Double_other ?nf_Double_which ?nf_Double_signs ?s_Double_NoRow ?n_Double_NoRow ?s_Double_Twice ?n_Double_Twice ?s_Double_NoPair ?n_Double_NoPair ?s_Double_Same ?n_Double_Same ?s_Double_Ring ?n_Double_Ring ?s_Double_TooLong ?n_Double_TooLong ?s_Double_NoStep ?n_Double_NoStep ?s_Double_Unlike ?n_Double_Unlike ?s_Double_TooMany ?n_Double_TooMany ?s_Double_NotFormed ?n_Double_NotFormed ?s_Double_NoKind ?n_Double_NoKind ?s_Double_Nothing ?n_Double_Nothing ?s_Double_NoPlace ?n_Double_NoPlace ?s_Double_NoUndo ?n_Double_NoUndo ?s_Double_FormError ?n_Double_FormError ?s_Double_ValueError ?j0_NoKind ?j1_NoKind ?j2_NoKind ?j3_NoKind ?j4_NoKind ?j5_NoKind ?j6_NoKind ?nf_NoKind_at ?nf_NoKind_sign ?nf_NoKind_one ?nf_NoKind_other ?nf_NoKind_which ?nf_NoKind_signs ?s_NoKind_NoRow ?n_NoKind_NoRow ?s_NoKind_Twice ?n_NoKind_Twice ?s_NoKind_NoPair ?n_NoKind_NoPair ?s_NoKind_Same ?n_NoKind_Same ?s_NoKind_Ring ?n_NoKind_Ring ?s_NoKind_TooLong ?n_NoKind_TooLong ?s_NoKind_NoStep ?n_NoKind_NoStep ?s_NoKind_Unlike ?n_NoKind_Unlike ?s_NoKind_TooMany ?n_NoKind_TooMany ?s_NoKind_NotFormed ?n_NoKind_NotFormed ?s_NoKind_Double ?n_NoKind_Double ?s_NoKind_Nothing ?n_NoKind_Nothing ?s_NoKind_NoPlace ?n_NoKind_NoPlace ?s_NoKind_NoUndo ?n_NoKind_NoUndo ?s_NoKind_FormError ?n_NoKind_FormError ?s_NoKind_ValueError ?j0_NoPair ?j1_NoPair ?j2_NoPair ?j3_NoPair ?j4_NoPair ?j5_NoPair ?j6_NoPair ?nf_NoPair_at ?nf_NoPair_sign ?nf_NoPair_one ?nf_NoPair_other ?nf_NoPair_which ?nf_NoPair_signs ?s_NoPair_NoRow ?n_NoPair_NoRow ?s_NoPair_Twice ?n_NoPair_Twice ?s_NoPair_Same ?n_NoPair_Same ?s_NoPair_Ring ?n_NoPair_Ring ?s_NoPair_TooLong ?n_NoPair_TooLong ?s_NoPair_NoStep ?n_NoPair_NoStep ?s_NoPair_Unlike ?n_NoPair_Unlike ?s_NoPair_TooMany ?n_NoPair_TooMany ?s_NoPair_NotFormed ?n_NoPair_NotFormed ?s_NoPair_Double ?n_NoPair_Double ?s_NoPair_NoKind ?n_NoPair_NoKind ?s_NoPair_Nothing ?n_NoPair_Nothing ?s_NoPair_NoPlace ?n_NoPair_NoPlace ?s_NoPair_NoUndo ?n_NoPair_NoUndo ?s_NoPair_FormError ?n_NoPair_FormError ?s_NoPair_ValueError ?j0_NoPlace ?j1_NoPlace ?j2_NoPlace ?j3_NoPlace ?j4_NoPlace ?j5_NoPlace ?j6_NoPlace ?nf_NoPlace_at ?nf_NoPlace_sign ?nf_NoPlace_one ?nf_NoPlace_other ?nf_NoPlace_which ?nf_NoPlace_signs ?s_NoPlace_NoRow ?n_NoPlace_NoRow ?s_NoPlace_Twice ?n_NoPlace_Twice ?s_NoPlace_NoPair ?n_NoPlace_NoPair ?s_NoPlace_Same ?n_NoPlace_Same ?s_NoPlace_Ring ?n_NoPlace_Ring ?s_NoPlace_TooLong ?n_NoPlace_TooLong ?s_NoPlace_NoStep ?n_NoPlace_NoStep ?s_NoPlace_Unlike ?n_NoPlace_Unlike ?s_NoPlace_TooMany ?n_NoPlace_TooMany ?s_NoPlace_NotFormed ?n_NoPlace_NotFormed ?s_NoPlace_Double ?n_NoPlace_Double ?s_NoPlace_NoKind ?n_NoPlace_NoKind ?s_NoPlace_Nothing ?n_NoPlace_Nothing ?s_NoPlace_NoUndo ?n_NoPlace_NoUndo ?s_NoPlace_FormError ?n_NoPlace_FormError ?s_NoPlace_ValueError ?j0_NoRow ?j1_NoRow ?j2_NoRow ?j3_NoRow ?j4_NoRow ?j5_NoRow ?j6_NoRow ?nf_NoRow_at ?nf_NoRow_sign ?nf_NoRow_one ?nf_NoRow_other ?nf_NoRow_which ?nf_NoRow_signs ?s_NoRow_Twice ?n_NoRow_Twice ?s_NoRow_NoPair ?n_NoRow_NoPair ?s_NoRow_Same ?n_NoRow_Same ?s_NoRow_Ring ?n_NoRow_Ring ?s_NoRow_TooLong ?n_NoRow_TooLong ?s_NoRow_NoStep ?n_NoRow_NoStep ?s_NoRow_Unlike ?n_NoRow_Unlike ?s_NoRow_TooMany ?n_NoRow_TooMany ?s_NoRow_NotFormed ?n_NoRow_NotFormed ?s_NoRow_Double ?n_NoRow_Double ?s_NoRow_NoKind ?n_NoRow_NoKind ?s_NoRow_Nothing ?n_NoRow_Nothing ?s_NoRow_NoPlace ?n_NoRow_NoPlace ?s_NoRow_NoUndo ?n_NoRow_NoUndo ?s_NoRow_FormError ?n_NoRow_FormError ?s_NoRow_ValueError ?j0_NoStep ?j1_NoStep ?j2_NoStep ?j3_NoStep ?j4_NoStep ?j5_NoStep ?j6_NoStep ?nf_NoStep_at ?nf_NoStep_sign ?nf_NoStep_one ?nf_NoStep_other ?nf_NoStep_which ?nf_NoStep_signs ?s_NoStep_NoRow ?n_NoStep_NoRow ?s_NoStep_Twice ?n_NoStep_Twice ?s_NoStep_NoPair ?n_NoStep_NoPair ?s_NoStep_Same ?n_NoStep_Same ?s_NoStep_Ring ?n_NoStep_Ring ?s_NoStep_TooLong ?n_NoStep_TooLong ?s_NoStep_Unlike ?n_NoStep_Unlike ?s_NoStep_TooMany ?n_NoStep_TooMany ?s_NoStep_NotFormed ?n_NoStep_NotFormed ?s_NoStep_Double ?n_NoStep_Double ?s_NoStep_NoKind ?n_NoStep_NoKind ?s_NoStep_Nothing ?n_NoStep_Nothing ?s_NoStep_NoPlace ?n_NoStep_NoPlace ?s_NoStep_NoUndo ?n_NoStep_NoUndo ?s_NoStep_FormError ?n_NoStep_FormError ?s_NoStep_ValueError ?j0_NoUndo ?j1_NoUndo ?j2_NoUndo ?j3_NoUndo ?j4_NoUndo ?j5_NoUndo ?j6_NoUndo ?nf_NoUndo_at ?nf_NoUndo_sign ?nf_NoUndo_one ?nf_NoUndo_other ?nf_NoUndo_which ?nf_NoUndo_signs ?s_NoUndo_NoRow ?n_NoUndo_NoRow ?s_NoUndo_Twice ?n_NoUndo_Twice ?s_NoUndo_NoPair ?n_NoUndo_NoPair ?s_NoUndo_Same ?n_NoUndo_Same ?s_NoUndo_Ring ?n_NoUndo_Ring ?s_NoUndo_TooLong ?n_NoUndo_TooLong ?s_NoUndo_NoStep ?n_NoUndo_NoStep ?s_NoUndo_Unlike ?n_NoUndo_Unlike ?s_NoUndo_TooMany ?n_NoUndo_TooMany ?s_NoUndo_NotFormed ?n_NoUndo_NotFormed ?s_NoUndo_Double ?n_NoUndo_Double ?s_NoUndo_NoKind ?n_NoUndo_NoKind ?s_NoUndo_Nothing ?n_NoUndo_Nothing ?s_NoUndo_NoPlace ?n_NoUndo_NoPlace ?s_NoUndo_FormError ?n_NoUndo_FormError ?s_NoUndo_ValueError ?j0_NotFormed ?j1_NotFormed ?j2_NotFormed ?j3_NotFormed ?j4_NotFormed ?j5_NotFormed ?j6_NotFormed ?nf_NotFormed_at ?nf_NotFormed_sign ?nf_NotFormed_one ?nf_NotFormed_other ?nf_NotFormed_which ?nf_NotFormed_signs ?s_NotFormed_NoRow ?n_NotFormed_NoRow ?s_NotFormed_Twice ?n_NotFormed_Twice ?s_NotFormed_NoPair ?n_NotFormed_NoPair ?s_NotFormed_Same ?n_NotFormed_Same ?s_NotFormed_Ring ?n_NotFormed_Ring ?s_NotFormed_TooLong ?n_NotFormed_TooLong ?s_NotFormed_NoStep ?n_NotFormed_NoStep ?s_NotFormed_Unlike ?n_NotFormed_Unlike ?s_NotFormed_TooMany ?n_NotFormed_TooMany ?s_NotFormed_Double ?n_NotFormed_Double ?s_NotFormed_NoKind ?n_NotFormed_NoKind ?s_NotFormed_Nothing ?n_NotFormed_Nothing ?s_NotFormed_NoPlace ?n_NotFormed_NoPlace ?s_NotFormed_NoUndo ?n_NotFormed_NoUndo ?s_NotFormed_FormError ?n_NotFormed_FormError ?s_NotFormed_ValueError ?j0_Nothing ?j1_Nothing ?j2_Nothing ?j3_Nothing ?j4_Nothing ?j5_Nothing ?j6_Nothing ?nf_Nothing_at ?nf_Nothing_sign ?nf_Nothing_one ?nf_Nothing_other ?nf_Nothing_which ?nf_Nothing_signs ?s_Nothing_NoRow ?n_Nothing_NoRow ?s_Nothing_Twice ?n_Nothing_Twice ?s_Nothing_NoPair ?n_Nothing_NoPair ?s_Nothing_Same ?n_Nothing_Same ?s_Nothing_Ring ?n_Nothing_Ring ?s_Nothing_TooLong ?n_Nothing_TooLong ?s_Nothing_NoStep ?n_Nothing_NoStep ?s_Nothing_Unlike ?n_Nothing_Unlike ?s_Nothing_TooMany ?n_Nothing_TooMany ?s_Nothing_NotFormed ?n_Nothing_NotFormed ?s_Nothing_Double ?n_Nothing_Double ?s_Nothing_NoKind ?n_Nothing_NoKind ?s_Nothing_NoPlace ?n_Nothing_NoPlace ?s_Nothing_NoUndo ?n_Nothing_NoUndo ?s_Nothing_FormError ?n_Nothing_FormError ?s_Nothing_ValueError ?j0_Ring ?j1_Ring ?j2_Ring ?j3_Ring ?j4_Ring ?j5_Ring ?j6_Ring ?nf_Ring_at ?nf_Ring_sign ?nf_Ring_one ?nf_Ring_other ?nf_Ring_which ?nf_Ring_signs ?s_Ring_NoRow ?n_Ring_NoRow ?s_Ring_Twice ?n_Ring_Twice ?s_Ring_NoPair ?n_Ring_NoPair ?s_Ring_Same ?n_Ring_Same ?s_Ring_TooLong ?n_Ring_TooLong ?s_Ring_NoStep ?n_Ring_NoStep ?s_Ring_Unlike ?n_Ring_Unlike ?s_Ring_TooMany ?n_Ring_TooMany ?s_Ring_NotFormed ?n_Ring_NotFormed ?s_Ring_Double ?n_Ring_Double ?s_Ring_NoKind ?n_Ring_NoKind ?s_Ring_Nothing ?n_Ring_Nothing ?s_Ring_NoPlace ?n_Ring_NoPlace ?s_Ring_NoUndo ?n_Ring_NoUndo ?s_Ring_FormError ?n_Ring_FormError ?s_Ring_ValueError ?j0_Same ?j1_Same ?j2_Same ?j3_Same ?j4_Same ?j5_Same ?j6_Same ?nf_Same_at ?nf_Same_sign ?nf_Same_one ?nf_Same_other ?nf_Same_which ?nf_Same_signs ?s_Same_NoRow ?n_Same_NoRow ?s_Same_Twice ?n_Same_Twice ?s_Same_NoPair ?n_Same_NoPair ?s_Same_Ring ?n_Same_Ring ?s_Same_TooLong ?n_Same_TooLong ?s_Same_NoStep ?n_Same_NoStep ?s_Same_Unlike ?n_Same_Unlike ?s_Same_TooMany ?n_Same_TooMany ?s_Same_NotFormed ?n_Same_NotFormed ?s_Same_Double ?n_Same_Double ?s_Same_NoKind ?n_Same_NoKind ?s_Same_Nothing ?n_Same_Nothing ?s_Same_NoPlace ?n_Same_NoPlace ?s_Same_NoUndo ?n_Same_NoUndo ?s_Same_FormError ?n_Same_FormError ?s_Same_ValueError ?j0_TooLong ?j1_TooLong ?j2_TooLong ?j3_TooLong ?j4_TooLong ?j5_TooLong ?j6_TooLong ?nf_TooLong_at ?nf_TooLong_sign ?nf_TooLong_one ?nf_TooLong_other ?nf_TooLong_which ?nf_TooLong_signs ?s_TooLong_NoRow ?n_TooLong_NoRow ?s_TooLong_Twice ?n_TooLong_Twice ?s_TooLong_NoPair ?n_TooLong_NoPair ?s_TooLong_Same ?n_TooLong_Same ?s_TooLong_Ring ?n_TooLong_Ring ?s_TooLong_NoStep ?n_TooLong_NoStep ?s_TooLong_Unlike ?n_TooLong_Unlike ?s_TooLong_TooMany ?n_TooLong_TooMany ?s_TooLong_NotFormed ?n_TooLong_NotFormed ?s_TooLong_Double ?n_TooLong_Double ?s_TooLong_NoKind ?n_TooLong_NoKind ?s_TooLong_Nothing ?n_TooLong_Nothing ?s_TooLong_NoPlace ?n_TooLong_NoPlace ?s_TooLong_NoUndo ?n_TooLong_NoUndo ?s_TooLong_FormError ?n_TooLong_FormError ?s_TooLong_ValueError ?j0_TooMany ?j1_TooMany ?j2_TooMany ?j3_TooMany ?j4_TooMany ?j5_TooMany ?j6_TooMany ?nf_TooMany_at ?nf_TooMany_sign ?nf_TooMany_one ?nf_TooMany_other ?nf_TooMany_which ?nf_TooMany_signs ?s_TooMany_NoRow ?n_TooMany_NoRow ?s_TooMany_Twice ?n_TooMany_Twice ?s_TooMany_NoPair ?n_TooMany_NoPair ?s_TooMany_Same ?n_TooMany_Same ?s_TooMany_Ring ?n_TooMany_Ring ?s_TooMany_TooLong ?n_TooMany_TooLong ?s_TooMany_NoStep ?n_TooMany_NoStep ?s_TooMany_Unlike ?n_TooMany_Unlike ?s_TooMany_NotFormed ?n_TooMany_NotFormed ?s_TooMany_Double ?n_TooMany_Double ?s_TooMany_NoKind ?n_TooMany_NoKind ?s_TooMany_Nothing ?n_TooMany_Nothing ?s_TooMany_NoPlace ?n_TooMany_NoPlace ?s_TooMany_NoUndo ?n_TooMany_NoUndo ?s_TooMany_FormError ?n_TooMany_FormError ?s_TooMany_ValueError ?j0_Twice ?j1_Twice ?j2_Twice ?j3_Twice ?j4_Twice ?j5_Twice ?j6_Twice ?nf_Twice_at ?nf_Twice_sign ?nf_Twice_one ?nf_Twice_other ?nf_Twice_which ?nf_Twice_signs ?s_Twice_NoRow ?n_Twice_NoRow ?s_Twice_NoPair ?n_Twice_NoPair ?s_Twice_Same ?n_Twice_Same ?s_Twice_Ring ?n_Twice_Ring ?s_Twice_TooLong ?n_Twice_TooLong ?s_Twice_NoStep ?n_Twice_NoStep ?s_Twice_Unlike ?n_Twice_Unlike ?s_Twice_TooMany ?n_Twice_TooMany ?s_Twice_NotFormed ?n_Twice_NotFormed ?s_Twice_Double ?n_Twice_Double ?s_Twice_NoKind ?n_Twice_NoKind ?s_Twice_Nothing ?n_Twice_Nothing ?s_Twice_NoPlace ?n_Twice_NoPlace ?s_Twice_NoUndo ?n_Twice_NoUndo ?s_Twice_FormError ?n_Twice_FormError ?s_Twice_ValueError ?j0_Unlike ?j1_Unlike ?j2_Unlike ?j3_Unlike ?j4_Unlike ?j5_Unlike ?j6_Unlike ?nf_Unlike_at ?nf_Unlike_sign ?nf_Unlike_one ?nf_Unlike_other ?nf_Unlike_which ?nf_Unlike_signs ?s_Unlike_NoRow ?n_Unlike_NoRow ?s_Unlike_Twice ?n_Unlike_Twice ?s_Unlike_NoPair ?n_Unlike_NoPair ?s_Unlike_Same ?n_Unlike_Same ?s_Unlike_Ring ?n_Unlike_Ring ?s_Unlike_TooLong ?n_Unlike_TooLong ?s_Unlike_NoStep ?n_Unlike_NoStep ?s_Unlike_TooMany ?n_Unlike_TooMany ?s_Unlike_NotFormed ?n_Unlike_NotFormed ?s_Unlike_Double ?n_Unlike_Double ?s_Unlike_NoKind ?n_Unlike_NoKind ?s_Unlike_Nothing ?n_Unlike_Nothing ?s_Unlike_NoPlace ?n_Unlike_NoPlace ?s_Unlike_NoUndo ?n_Unlike_NoUndo ?s_Unlike_FormError ?n_Unlike_FormError ?s_Unlike_ValueError ?ic_NoRow ?it_NoRow ?ic_Twice ?it_Twice ?ic_NoPair ?it_NoPair ?ic_Same ?it_Same ?ic_Ring ?it_Ring ?ic_TooLong ?it_TooLong ?ic_NoStep ?it_NoStep ?ic_Unlike ?it_Unlike ?ic_TooMany ?it_TooMany ?ic_NotFormed ?it_NotFormed ?ic_Double ?it_Double ?ic_NoKind ?it_NoKind ?ic_Nothing ?it_Nothing ?ic_NoPlace ?it_NoPlace ?ic_NoUndo ?it_NoUndo ?ic_FormError ?it_FormError ?xo_NoRow ?xr_NoRow ?xs_NoRow ?xt_NoRow ?xu_NoRow ?xv_NoRow ?xw_NoRow ?xx_NoRow ?xy_NoRow ?yl_NoRow ?ym_NoRow ?yn_NoRow ?xo_Twice ?xr_Twice ?xs_Twice ?xt_Twice ?xu_Twice ?xv_Twice ?xw_Twice ?xx_Twice ?xy_Twice ?yl_Twice ?ym_Twice ?yn_Twice ?xo_NoPair ?xr_NoPair ?xs_NoPair ?xt_NoPair ?xu_NoPair ?xv_NoPair ?xw_NoPair ?xx_NoPair ?xy_NoPair ?yl_NoPair ?ym_NoPair ?yn_NoPair ?xo_Same ?xr_Same ?xs_Same ?xt_Same ?xu_Same ?xv_Same ?xw_Same ?xx_Same ?xy_Same ?xy1_Same ?yl_Same ?ym_Same ?yn_Same ?xo_Ring ?xr_Ring ?xs_Ring ?xt_Ring ?xu_Ring ?xv_Ring ?xw_Ring ?xx_Ring ?xy_Ring ?yl_Ring ?ym_Ring ?yn_Ring ?xo_TooLong ?xr_TooLong ?xs_TooLong ?xt_TooLong ?xu_TooLong ?xv_TooLong ?xw_TooLong ?xx_TooLong ?xy_TooLong ?yl_TooLong ?ym_TooLong ?yn_TooLong ?xo_Unlike ?xr_Unlike ?xs_Unlike ?xt_Unlike ?xu_Unlike ?xv_Unlike ?xw_Unlike ?xx_Unlike ?xy_Unlike ?yl_Unlike ?ym_Unlike ?yn_Unlike ?xo_NotFormed ?xr_NotFormed ?xs_NotFormed ?xt_NotFormed ?xu_NotFormed ?xv_NotFormed ?xw_NotFormed ?xx_NotFormed ?xy_NotFormed ?yl_NotFormed ?ym_NotFormed ?yn_NotFormed ?xo_Double ?xr_Double ?xs_Double ?xt_Double ?xu_Double ?xv_Double ?xw_Double ?xx_Double ?xy_Double ?yl_Double ?ym_Double ?yn_Double ?xo_NoKind ?xr_NoKind ?xs_NoKind ?xt_NoKind ?xu_NoKind ?xv_NoKind ?xw_NoKind ?xx_NoKind ?xy_NoKind ?yl_NoKind ?ym_NoKind ?yn_NoKind ?fe1 ?fe2 ?fe3 ?z_ValueError
    (case a0 => k_is)
    (case l0 => k_is)
    (case c0 => k_is)
    (case k0 => k_is)
    (case a1 => k_is)
    (case l1 => k_is)
    (case c1 => k_is)
    (case k1 => k_is)
    (case a2 => k_is)
    (case l2 => k_is)
    (case c2 => k_is)
    (case k2 => k_is)
    (case a3 => k_is)
    (case l3 => k_is)
    (case c3 => k_is)
    (case k3 => k_is)
    (case a4 => k_is)
    (case l4 => k_is)
    (case c4 => k_is)
    (case k4 => k_is)
    (case a5 => k_is)
    (case l5 => k_is)
    (case c5 => k_is)
    (case k5 => k_is)
    (case z_len => k_is)
    (case z_list => k_is)
    (case z_sorted => k_is)
    (case z_isinstance => k_is)
    (case z_range => k_is)
    (case z_dict => k_is)
    (case z_all => k_is)
    (case z_any => k_is)
    (case z_min => k_is)
    (case z_max => k_is)
    (case z_sum => k_is)
    (case z_reversed => k_is)
    (case z_int => k_is)
    (case z_str => k_is)
    (case z_enumerate => k_is)
    (case z_zip => k_is)
    (case z_tuple => k_is)
    (case z_abs => k_is)
    (case z_bool => k_is)
    (case aK_NoStep => k_is)
    (case aK_TooMany => k_is)
    (case aK_Nothing => k_is)
    (case aK_NoPlace => k_is)
    (case aK_NoUndo => k_is)
    (case aK_NoRow => k_is)
    (case aK_Twice => k_is)
    (case aK_NoPair => k_is)
    (case aK_Same => k_is)
    (case aK_Ring => k_is)
    (case aK_TooLong => k_is)
    (case aK_Unlike => k_is)
    (case aK_NotFormed => k_is)
    (case aK_Double => k_is)
    (case aK_NoKind => k_is)
    (case aK_FormError => k_is)
    (case kK_NoStep => k_is)
    (case xK_NoStep => k_exc)
    (case sK_NoStep => k_is)
    (case tK_NoStep => k_is)
    (case kK_TooMany => k_is)
    (case xK_TooMany => k_exc)
    (case sK_TooMany => k_is)
    (case tK_TooMany => k_is)
    (case kK_Nothing => k_is)
    (case xK_Nothing => k_exc)
    (case sK_Nothing => k_is)
    (case tK_Nothing => k_is)
    (case kK_NoPlace => k_is)
    (case xK_NoPlace => k_exc)
    (case sK_NoPlace => k_is)
    (case tK_NoPlace => k_is)
    (case kK_NoUndo => k_is)
    (case xK_NoUndo => k_exc)
    (case sK_NoUndo => k_is)
    (case tK_NoUndo => k_is)
    (case ib1 => k_is)
    (case ib2 => k_is)
    (case j0_Double => k_is)
    (case j1_Double => k_is)
    (case j2_Double => k_is)
    (case j3_Double => k_is)
    (case j4_Double => k_is)
    (case j5_Double => k_is)
    (case j6_Double => k_is)
    (case nf_Double_at => k_is)
    (case nf_Double_sign => k_is)
    (case nf_Double_one => k_is)
    (case nf_Double_other => k_is)
    (case nf_Double_which => k_is)
    (case nf_Double_signs => k_is)
    (case s_Double_NoRow => k_is)
    (case n_Double_NoRow => first | rfl | decide)
    (case s_Double_Twice => k_is)
    (case n_Double_Twice => first | rfl | decide)
    (case s_Double_NoPair => k_is)
    (case n_Double_NoPair => first | rfl | decide)
    (case s_Double_Same => k_is)
    (case n_Double_Same => first | rfl | decide)
    (case s_Double_Ring => k_is)
    (case n_Double_Ring => first | rfl | decide)
    (case s_Double_TooLong => k_is)
    (case n_Double_TooLong => first | rfl | decide)
    (case s_Double_NoStep => k_is)
    (case n_Double_NoStep => first | rfl | decide)
    (case s_Double_Unlike => k_is)
    (case n_Double_Unlike => first | rfl | decide)
    (case s_Double_TooMany => k_is)
    (case n_Double_TooMany => first | rfl | decide)
    (case s_Double_NotFormed => k_is)
    (case n_Double_NotFormed => first | rfl | decide)
    (case s_Double_NoKind => k_is)
    (case n_Double_NoKind => first | rfl | decide)
    (case s_Double_Nothing => k_is)
    (case n_Double_Nothing => first | rfl | decide)
    (case s_Double_NoPlace => k_is)
    (case n_Double_NoPlace => first | rfl | decide)
    (case s_Double_NoUndo => k_is)
    (case n_Double_NoUndo => first | rfl | decide)
    (case s_Double_FormError => k_is)
    (case n_Double_FormError => first | rfl | decide)
    (case s_Double_ValueError => k_is)
    (case j0_NoKind => k_is)
    (case j1_NoKind => k_is)
    (case j2_NoKind => k_is)
    (case j3_NoKind => k_is)
    (case j4_NoKind => k_is)
    (case j5_NoKind => k_is)
    (case j6_NoKind => k_is)
    (case nf_NoKind_at => k_is)
    (case nf_NoKind_sign => k_is)
    (case nf_NoKind_one => k_is)
    (case nf_NoKind_other => k_is)
    (case nf_NoKind_which => k_is)
    (case nf_NoKind_signs => k_is)
    (case s_NoKind_NoRow => k_is)
    (case n_NoKind_NoRow => first | rfl | decide)
    (case s_NoKind_Twice => k_is)
    (case n_NoKind_Twice => first | rfl | decide)
    (case s_NoKind_NoPair => k_is)
    (case n_NoKind_NoPair => first | rfl | decide)
    (case s_NoKind_Same => k_is)
    (case n_NoKind_Same => first | rfl | decide)
    (case s_NoKind_Ring => k_is)
    (case n_NoKind_Ring => first | rfl | decide)
    (case s_NoKind_TooLong => k_is)
    (case n_NoKind_TooLong => first | rfl | decide)
    (case s_NoKind_NoStep => k_is)
    (case n_NoKind_NoStep => first | rfl | decide)
    (case s_NoKind_Unlike => k_is)
    (case n_NoKind_Unlike => first | rfl | decide)
    (case s_NoKind_TooMany => k_is)
    (case n_NoKind_TooMany => first | rfl | decide)
    (case s_NoKind_NotFormed => k_is)
    (case n_NoKind_NotFormed => first | rfl | decide)
    (case s_NoKind_Double => k_is)
    (case n_NoKind_Double => first | rfl | decide)
    (case s_NoKind_Nothing => k_is)
    (case n_NoKind_Nothing => first | rfl | decide)
    (case s_NoKind_NoPlace => k_is)
    (case n_NoKind_NoPlace => first | rfl | decide)
    (case s_NoKind_NoUndo => k_is)
    (case n_NoKind_NoUndo => first | rfl | decide)
    (case s_NoKind_FormError => k_is)
    (case n_NoKind_FormError => first | rfl | decide)
    (case s_NoKind_ValueError => k_is)
    (case j0_NoPair => k_is)
    (case j1_NoPair => k_is)
    (case j2_NoPair => k_is)
    (case j3_NoPair => k_is)
    (case j4_NoPair => k_is)
    (case j5_NoPair => k_is)
    (case j6_NoPair => k_is)
    (case nf_NoPair_at => k_is)
    (case nf_NoPair_sign => k_is)
    (case nf_NoPair_one => k_is)
    (case nf_NoPair_other => k_is)
    (case nf_NoPair_which => k_is)
    (case nf_NoPair_signs => k_is)
    (case s_NoPair_NoRow => k_is)
    (case n_NoPair_NoRow => first | rfl | decide)
    (case s_NoPair_Twice => k_is)
    (case n_NoPair_Twice => first | rfl | decide)
    (case s_NoPair_Same => k_is)
    (case n_NoPair_Same => first | rfl | decide)
    (case s_NoPair_Ring => k_is)
    (case n_NoPair_Ring => first | rfl | decide)
    (case s_NoPair_TooLong => k_is)
    (case n_NoPair_TooLong => first | rfl | decide)
    (case s_NoPair_NoStep => k_is)
    (case n_NoPair_NoStep => first | rfl | decide)
    (case s_NoPair_Unlike => k_is)
    (case n_NoPair_Unlike => first | rfl | decide)
    (case s_NoPair_TooMany => k_is)
    (case n_NoPair_TooMany => first | rfl | decide)
    (case s_NoPair_NotFormed => k_is)
    (case n_NoPair_NotFormed => first | rfl | decide)
    (case s_NoPair_Double => k_is)
    (case n_NoPair_Double => first | rfl | decide)
    (case s_NoPair_NoKind => k_is)
    (case n_NoPair_NoKind => first | rfl | decide)
    (case s_NoPair_Nothing => k_is)
    (case n_NoPair_Nothing => first | rfl | decide)
    (case s_NoPair_NoPlace => k_is)
    (case n_NoPair_NoPlace => first | rfl | decide)
    (case s_NoPair_NoUndo => k_is)
    (case n_NoPair_NoUndo => first | rfl | decide)
    (case s_NoPair_FormError => k_is)
    (case n_NoPair_FormError => first | rfl | decide)
    (case s_NoPair_ValueError => k_is)
    (case j0_NoPlace => k_is)
    (case j1_NoPlace => k_is)
    (case j2_NoPlace => k_is)
    (case j3_NoPlace => k_is)
    (case j4_NoPlace => k_is)
    (case j5_NoPlace => k_is)
    (case j6_NoPlace => k_is)
    (case nf_NoPlace_at => k_is)
    (case nf_NoPlace_sign => k_is)
    (case nf_NoPlace_one => k_is)
    (case nf_NoPlace_other => k_is)
    (case nf_NoPlace_which => k_is)
    (case nf_NoPlace_signs => k_is)
    (case s_NoPlace_NoRow => k_is)
    (case n_NoPlace_NoRow => first | rfl | decide)
    (case s_NoPlace_Twice => k_is)
    (case n_NoPlace_Twice => first | rfl | decide)
    (case s_NoPlace_NoPair => k_is)
    (case n_NoPlace_NoPair => first | rfl | decide)
    (case s_NoPlace_Same => k_is)
    (case n_NoPlace_Same => first | rfl | decide)
    (case s_NoPlace_Ring => k_is)
    (case n_NoPlace_Ring => first | rfl | decide)
    (case s_NoPlace_TooLong => k_is)
    (case n_NoPlace_TooLong => first | rfl | decide)
    (case s_NoPlace_NoStep => k_is)
    (case n_NoPlace_NoStep => first | rfl | decide)
    (case s_NoPlace_Unlike => k_is)
    (case n_NoPlace_Unlike => first | rfl | decide)
    (case s_NoPlace_TooMany => k_is)
    (case n_NoPlace_TooMany => first | rfl | decide)
    (case s_NoPlace_NotFormed => k_is)
    (case n_NoPlace_NotFormed => first | rfl | decide)
    (case s_NoPlace_Double => k_is)
    (case n_NoPlace_Double => first | rfl | decide)
    (case s_NoPlace_NoKind => k_is)
    (case n_NoPlace_NoKind => first | rfl | decide)
    (case s_NoPlace_Nothing => k_is)
    (case n_NoPlace_Nothing => first | rfl | decide)
    (case s_NoPlace_NoUndo => k_is)
    (case n_NoPlace_NoUndo => first | rfl | decide)
    (case s_NoPlace_FormError => k_is)
    (case n_NoPlace_FormError => first | rfl | decide)
    (case s_NoPlace_ValueError => k_is)
    (case j0_NoRow => k_is)
    (case j1_NoRow => k_is)
    (case j2_NoRow => k_is)
    (case j3_NoRow => k_is)
    (case j4_NoRow => k_is)
    (case j5_NoRow => k_is)
    (case j6_NoRow => k_is)
    (case nf_NoRow_at => k_is)
    (case nf_NoRow_sign => k_is)
    (case nf_NoRow_one => k_is)
    (case nf_NoRow_other => k_is)
    (case nf_NoRow_which => k_is)
    (case nf_NoRow_signs => k_is)
    (case s_NoRow_Twice => k_is)
    (case n_NoRow_Twice => first | rfl | decide)
    (case s_NoRow_NoPair => k_is)
    (case n_NoRow_NoPair => first | rfl | decide)
    (case s_NoRow_Same => k_is)
    (case n_NoRow_Same => first | rfl | decide)
    (case s_NoRow_Ring => k_is)
    (case n_NoRow_Ring => first | rfl | decide)
    (case s_NoRow_TooLong => k_is)
    (case n_NoRow_TooLong => first | rfl | decide)
    (case s_NoRow_NoStep => k_is)
    (case n_NoRow_NoStep => first | rfl | decide)
    (case s_NoRow_Unlike => k_is)
    (case n_NoRow_Unlike => first | rfl | decide)
    (case s_NoRow_TooMany => k_is)
    (case n_NoRow_TooMany => first | rfl | decide)
    (case s_NoRow_NotFormed => k_is)
    (case n_NoRow_NotFormed => first | rfl | decide)
    (case s_NoRow_Double => k_is)
    (case n_NoRow_Double => first | rfl | decide)
    (case s_NoRow_NoKind => k_is)
    (case n_NoRow_NoKind => first | rfl | decide)
    (case s_NoRow_Nothing => k_is)
    (case n_NoRow_Nothing => first | rfl | decide)
    (case s_NoRow_NoPlace => k_is)
    (case n_NoRow_NoPlace => first | rfl | decide)
    (case s_NoRow_NoUndo => k_is)
    (case n_NoRow_NoUndo => first | rfl | decide)
    (case s_NoRow_FormError => k_is)
    (case n_NoRow_FormError => first | rfl | decide)
    (case s_NoRow_ValueError => k_is)
    (case j0_NoStep => k_is)
    (case j1_NoStep => k_is)
    (case j2_NoStep => k_is)
    (case j3_NoStep => k_is)
    (case j4_NoStep => k_is)
    (case j5_NoStep => k_is)
    (case j6_NoStep => k_is)
    (case nf_NoStep_at => k_is)
    (case nf_NoStep_sign => k_is)
    (case nf_NoStep_one => k_is)
    (case nf_NoStep_other => k_is)
    (case nf_NoStep_which => k_is)
    (case nf_NoStep_signs => k_is)
    (case s_NoStep_NoRow => k_is)
    (case n_NoStep_NoRow => first | rfl | decide)
    (case s_NoStep_Twice => k_is)
    (case n_NoStep_Twice => first | rfl | decide)
    (case s_NoStep_NoPair => k_is)
    (case n_NoStep_NoPair => first | rfl | decide)
    (case s_NoStep_Same => k_is)
    (case n_NoStep_Same => first | rfl | decide)
    (case s_NoStep_Ring => k_is)
    (case n_NoStep_Ring => first | rfl | decide)
    (case s_NoStep_TooLong => k_is)
    (case n_NoStep_TooLong => first | rfl | decide)
    (case s_NoStep_Unlike => k_is)
    (case n_NoStep_Unlike => first | rfl | decide)
    (case s_NoStep_TooMany => k_is)
    (case n_NoStep_TooMany => first | rfl | decide)
    (case s_NoStep_NotFormed => k_is)
    (case n_NoStep_NotFormed => first | rfl | decide)
    (case s_NoStep_Double => k_is)
    (case n_NoStep_Double => first | rfl | decide)
    (case s_NoStep_NoKind => k_is)
    (case n_NoStep_NoKind => first | rfl | decide)
    (case s_NoStep_Nothing => k_is)
    (case n_NoStep_Nothing => first | rfl | decide)
    (case s_NoStep_NoPlace => k_is)
    (case n_NoStep_NoPlace => first | rfl | decide)
    (case s_NoStep_NoUndo => k_is)
    (case n_NoStep_NoUndo => first | rfl | decide)
    (case s_NoStep_FormError => k_is)
    (case n_NoStep_FormError => first | rfl | decide)
    (case s_NoStep_ValueError => k_is)
    (case j0_NoUndo => k_is)
    (case j1_NoUndo => k_is)
    (case j2_NoUndo => k_is)
    (case j3_NoUndo => k_is)
    (case j4_NoUndo => k_is)
    (case j5_NoUndo => k_is)
    (case j6_NoUndo => k_is)
    (case nf_NoUndo_at => k_is)
    (case nf_NoUndo_sign => k_is)
    (case nf_NoUndo_one => k_is)
    (case nf_NoUndo_other => k_is)
    (case nf_NoUndo_which => k_is)
    (case nf_NoUndo_signs => k_is)
    (case s_NoUndo_NoRow => k_is)
    (case n_NoUndo_NoRow => first | rfl | decide)
    (case s_NoUndo_Twice => k_is)
    (case n_NoUndo_Twice => first | rfl | decide)
    (case s_NoUndo_NoPair => k_is)
    (case n_NoUndo_NoPair => first | rfl | decide)
    (case s_NoUndo_Same => k_is)
    (case n_NoUndo_Same => first | rfl | decide)
    (case s_NoUndo_Ring => k_is)
    (case n_NoUndo_Ring => first | rfl | decide)
    (case s_NoUndo_TooLong => k_is)
    (case n_NoUndo_TooLong => first | rfl | decide)
    (case s_NoUndo_NoStep => k_is)
    (case n_NoUndo_NoStep => first | rfl | decide)
    (case s_NoUndo_Unlike => k_is)
    (case n_NoUndo_Unlike => first | rfl | decide)
    (case s_NoUndo_TooMany => k_is)
    (case n_NoUndo_TooMany => first | rfl | decide)
    (case s_NoUndo_NotFormed => k_is)
    (case n_NoUndo_NotFormed => first | rfl | decide)
    (case s_NoUndo_Double => k_is)
    (case n_NoUndo_Double => first | rfl | decide)
    (case s_NoUndo_NoKind => k_is)
    (case n_NoUndo_NoKind => first | rfl | decide)
    (case s_NoUndo_Nothing => k_is)
    (case n_NoUndo_Nothing => first | rfl | decide)
    (case s_NoUndo_NoPlace => k_is)
    (case n_NoUndo_NoPlace => first | rfl | decide)
    (case s_NoUndo_FormError => k_is)
    (case n_NoUndo_FormError => first | rfl | decide)
    (case s_NoUndo_ValueError => k_is)
    (case j0_NotFormed => k_is)
    (case j1_NotFormed => k_is)
    (case j2_NotFormed => k_is)
    (case j3_NotFormed => k_is)
    (case j4_NotFormed => k_is)
    (case j5_NotFormed => k_is)
    (case j6_NotFormed => k_is)
    (case nf_NotFormed_at => k_is)
    (case nf_NotFormed_sign => k_is)
    (case nf_NotFormed_one => k_is)
    (case nf_NotFormed_other => k_is)
    (case nf_NotFormed_which => k_is)
    (case nf_NotFormed_signs => k_is)
    (case s_NotFormed_NoRow => k_is)
    (case n_NotFormed_NoRow => first | rfl | decide)
    (case s_NotFormed_Twice => k_is)
    (case n_NotFormed_Twice => first | rfl | decide)
    (case s_NotFormed_NoPair => k_is)
    (case n_NotFormed_NoPair => first | rfl | decide)
    (case s_NotFormed_Same => k_is)
    (case n_NotFormed_Same => first | rfl | decide)
    (case s_NotFormed_Ring => k_is)
    (case n_NotFormed_Ring => first | rfl | decide)
    (case s_NotFormed_TooLong => k_is)
    (case n_NotFormed_TooLong => first | rfl | decide)
    (case s_NotFormed_NoStep => k_is)
    (case n_NotFormed_NoStep => first | rfl | decide)
    (case s_NotFormed_Unlike => k_is)
    (case n_NotFormed_Unlike => first | rfl | decide)
    (case s_NotFormed_TooMany => k_is)
    (case n_NotFormed_TooMany => first | rfl | decide)
    (case s_NotFormed_Double => k_is)
    (case n_NotFormed_Double => first | rfl | decide)
    (case s_NotFormed_NoKind => k_is)
    (case n_NotFormed_NoKind => first | rfl | decide)
    (case s_NotFormed_Nothing => k_is)
    (case n_NotFormed_Nothing => first | rfl | decide)
    (case s_NotFormed_NoPlace => k_is)
    (case n_NotFormed_NoPlace => first | rfl | decide)
    (case s_NotFormed_NoUndo => k_is)
    (case n_NotFormed_NoUndo => first | rfl | decide)
    (case s_NotFormed_FormError => k_is)
    (case n_NotFormed_FormError => first | rfl | decide)
    (case s_NotFormed_ValueError => k_is)
    (case j0_Nothing => k_is)
    (case j1_Nothing => k_is)
    (case j2_Nothing => k_is)
    (case j3_Nothing => k_is)
    (case j4_Nothing => k_is)
    (case j5_Nothing => k_is)
    (case j6_Nothing => k_is)
    (case nf_Nothing_at => k_is)
    (case nf_Nothing_sign => k_is)
    (case nf_Nothing_one => k_is)
    (case nf_Nothing_other => k_is)
    (case nf_Nothing_which => k_is)
    (case nf_Nothing_signs => k_is)
    (case s_Nothing_NoRow => k_is)
    (case n_Nothing_NoRow => first | rfl | decide)
    (case s_Nothing_Twice => k_is)
    (case n_Nothing_Twice => first | rfl | decide)
    (case s_Nothing_NoPair => k_is)
    (case n_Nothing_NoPair => first | rfl | decide)
    (case s_Nothing_Same => k_is)
    (case n_Nothing_Same => first | rfl | decide)
    (case s_Nothing_Ring => k_is)
    (case n_Nothing_Ring => first | rfl | decide)
    (case s_Nothing_TooLong => k_is)
    (case n_Nothing_TooLong => first | rfl | decide)
    (case s_Nothing_NoStep => k_is)
    (case n_Nothing_NoStep => first | rfl | decide)
    (case s_Nothing_Unlike => k_is)
    (case n_Nothing_Unlike => first | rfl | decide)
    (case s_Nothing_TooMany => k_is)
    (case n_Nothing_TooMany => first | rfl | decide)
    (case s_Nothing_NotFormed => k_is)
    (case n_Nothing_NotFormed => first | rfl | decide)
    (case s_Nothing_Double => k_is)
    (case n_Nothing_Double => first | rfl | decide)
    (case s_Nothing_NoKind => k_is)
    (case n_Nothing_NoKind => first | rfl | decide)
    (case s_Nothing_NoPlace => k_is)
    (case n_Nothing_NoPlace => first | rfl | decide)
    (case s_Nothing_NoUndo => k_is)
    (case n_Nothing_NoUndo => first | rfl | decide)
    (case s_Nothing_FormError => k_is)
    (case n_Nothing_FormError => first | rfl | decide)
    (case s_Nothing_ValueError => k_is)
    (case j0_Ring => k_is)
    (case j1_Ring => k_is)
    (case j2_Ring => k_is)
    (case j3_Ring => k_is)
    (case j4_Ring => k_is)
    (case j5_Ring => k_is)
    (case j6_Ring => k_is)
    (case nf_Ring_at => k_is)
    (case nf_Ring_sign => k_is)
    (case nf_Ring_one => k_is)
    (case nf_Ring_other => k_is)
    (case nf_Ring_which => k_is)
    (case nf_Ring_signs => k_is)
    (case s_Ring_NoRow => k_is)
    (case n_Ring_NoRow => first | rfl | decide)
    (case s_Ring_Twice => k_is)
    (case n_Ring_Twice => first | rfl | decide)
    (case s_Ring_NoPair => k_is)
    (case n_Ring_NoPair => first | rfl | decide)
    (case s_Ring_Same => k_is)
    (case n_Ring_Same => first | rfl | decide)
    (case s_Ring_TooLong => k_is)
    (case n_Ring_TooLong => first | rfl | decide)
    (case s_Ring_NoStep => k_is)
    (case n_Ring_NoStep => first | rfl | decide)
    (case s_Ring_Unlike => k_is)
    (case n_Ring_Unlike => first | rfl | decide)
    (case s_Ring_TooMany => k_is)
    (case n_Ring_TooMany => first | rfl | decide)
    (case s_Ring_NotFormed => k_is)
    (case n_Ring_NotFormed => first | rfl | decide)
    (case s_Ring_Double => k_is)
    (case n_Ring_Double => first | rfl | decide)
    (case s_Ring_NoKind => k_is)
    (case n_Ring_NoKind => first | rfl | decide)
    (case s_Ring_Nothing => k_is)
    (case n_Ring_Nothing => first | rfl | decide)
    (case s_Ring_NoPlace => k_is)
    (case n_Ring_NoPlace => first | rfl | decide)
    (case s_Ring_NoUndo => k_is)
    (case n_Ring_NoUndo => first | rfl | decide)
    (case s_Ring_FormError => k_is)
    (case n_Ring_FormError => first | rfl | decide)
    (case s_Ring_ValueError => k_is)
    (case j0_Same => k_is)
    (case j1_Same => k_is)
    (case j2_Same => k_is)
    (case j3_Same => k_is)
    (case j4_Same => k_is)
    (case j5_Same => k_is)
    (case j6_Same => k_is)
    (case nf_Same_at => k_is)
    (case nf_Same_sign => k_is)
    (case nf_Same_one => k_is)
    (case nf_Same_other => k_is)
    (case nf_Same_which => k_is)
    (case nf_Same_signs => k_is)
    (case s_Same_NoRow => k_is)
    (case n_Same_NoRow => first | rfl | decide)
    (case s_Same_Twice => k_is)
    (case n_Same_Twice => first | rfl | decide)
    (case s_Same_NoPair => k_is)
    (case n_Same_NoPair => first | rfl | decide)
    (case s_Same_Ring => k_is)
    (case n_Same_Ring => first | rfl | decide)
    (case s_Same_TooLong => k_is)
    (case n_Same_TooLong => first | rfl | decide)
    (case s_Same_NoStep => k_is)
    (case n_Same_NoStep => first | rfl | decide)
    (case s_Same_Unlike => k_is)
    (case n_Same_Unlike => first | rfl | decide)
    (case s_Same_TooMany => k_is)
    (case n_Same_TooMany => first | rfl | decide)
    (case s_Same_NotFormed => k_is)
    (case n_Same_NotFormed => first | rfl | decide)
    (case s_Same_Double => k_is)
    (case n_Same_Double => first | rfl | decide)
    (case s_Same_NoKind => k_is)
    (case n_Same_NoKind => first | rfl | decide)
    (case s_Same_Nothing => k_is)
    (case n_Same_Nothing => first | rfl | decide)
    (case s_Same_NoPlace => k_is)
    (case n_Same_NoPlace => first | rfl | decide)
    (case s_Same_NoUndo => k_is)
    (case n_Same_NoUndo => first | rfl | decide)
    (case s_Same_FormError => k_is)
    (case n_Same_FormError => first | rfl | decide)
    (case s_Same_ValueError => k_is)
    (case j0_TooLong => k_is)
    (case j1_TooLong => k_is)
    (case j2_TooLong => k_is)
    (case j3_TooLong => k_is)
    (case j4_TooLong => k_is)
    (case j5_TooLong => k_is)
    (case j6_TooLong => k_is)
    (case nf_TooLong_at => k_is)
    (case nf_TooLong_sign => k_is)
    (case nf_TooLong_one => k_is)
    (case nf_TooLong_other => k_is)
    (case nf_TooLong_which => k_is)
    (case nf_TooLong_signs => k_is)
    (case s_TooLong_NoRow => k_is)
    (case n_TooLong_NoRow => first | rfl | decide)
    (case s_TooLong_Twice => k_is)
    (case n_TooLong_Twice => first | rfl | decide)
    (case s_TooLong_NoPair => k_is)
    (case n_TooLong_NoPair => first | rfl | decide)
    (case s_TooLong_Same => k_is)
    (case n_TooLong_Same => first | rfl | decide)
    (case s_TooLong_Ring => k_is)
    (case n_TooLong_Ring => first | rfl | decide)
    (case s_TooLong_NoStep => k_is)
    (case n_TooLong_NoStep => first | rfl | decide)
    (case s_TooLong_Unlike => k_is)
    (case n_TooLong_Unlike => first | rfl | decide)
    (case s_TooLong_TooMany => k_is)
    (case n_TooLong_TooMany => first | rfl | decide)
    (case s_TooLong_NotFormed => k_is)
    (case n_TooLong_NotFormed => first | rfl | decide)
    (case s_TooLong_Double => k_is)
    (case n_TooLong_Double => first | rfl | decide)
    (case s_TooLong_NoKind => k_is)
    (case n_TooLong_NoKind => first | rfl | decide)
    (case s_TooLong_Nothing => k_is)
    (case n_TooLong_Nothing => first | rfl | decide)
    (case s_TooLong_NoPlace => k_is)
    (case n_TooLong_NoPlace => first | rfl | decide)
    (case s_TooLong_NoUndo => k_is)
    (case n_TooLong_NoUndo => first | rfl | decide)
    (case s_TooLong_FormError => k_is)
    (case n_TooLong_FormError => first | rfl | decide)
    (case s_TooLong_ValueError => k_is)
    (case j0_TooMany => k_is)
    (case j1_TooMany => k_is)
    (case j2_TooMany => k_is)
    (case j3_TooMany => k_is)
    (case j4_TooMany => k_is)
    (case j5_TooMany => k_is)
    (case j6_TooMany => k_is)
    (case nf_TooMany_at => k_is)
    (case nf_TooMany_sign => k_is)
    (case nf_TooMany_one => k_is)
    (case nf_TooMany_other => k_is)
    (case nf_TooMany_which => k_is)
    (case nf_TooMany_signs => k_is)
    (case s_TooMany_NoRow => k_is)
    (case n_TooMany_NoRow => first | rfl | decide)
    (case s_TooMany_Twice => k_is)
    (case n_TooMany_Twice => first | rfl | decide)
    (case s_TooMany_NoPair => k_is)
    (case n_TooMany_NoPair => first | rfl | decide)
    (case s_TooMany_Same => k_is)
    (case n_TooMany_Same => first | rfl | decide)
    (case s_TooMany_Ring => k_is)
    (case n_TooMany_Ring => first | rfl | decide)
    (case s_TooMany_TooLong => k_is)
    (case n_TooMany_TooLong => first | rfl | decide)
    (case s_TooMany_NoStep => k_is)
    (case n_TooMany_NoStep => first | rfl | decide)
    (case s_TooMany_Unlike => k_is)
    (case n_TooMany_Unlike => first | rfl | decide)
    (case s_TooMany_NotFormed => k_is)
    (case n_TooMany_NotFormed => first | rfl | decide)
    (case s_TooMany_Double => k_is)
    (case n_TooMany_Double => first | rfl | decide)
    (case s_TooMany_NoKind => k_is)
    (case n_TooMany_NoKind => first | rfl | decide)
    (case s_TooMany_Nothing => k_is)
    (case n_TooMany_Nothing => first | rfl | decide)
    (case s_TooMany_NoPlace => k_is)
    (case n_TooMany_NoPlace => first | rfl | decide)
    (case s_TooMany_NoUndo => k_is)
    (case n_TooMany_NoUndo => first | rfl | decide)
    (case s_TooMany_FormError => k_is)
    (case n_TooMany_FormError => first | rfl | decide)
    (case s_TooMany_ValueError => k_is)
    (case j0_Twice => k_is)
    (case j1_Twice => k_is)
    (case j2_Twice => k_is)
    (case j3_Twice => k_is)
    (case j4_Twice => k_is)
    (case j5_Twice => k_is)
    (case j6_Twice => k_is)
    (case nf_Twice_at => k_is)
    (case nf_Twice_sign => k_is)
    (case nf_Twice_one => k_is)
    (case nf_Twice_other => k_is)
    (case nf_Twice_which => k_is)
    (case nf_Twice_signs => k_is)
    (case s_Twice_NoRow => k_is)
    (case n_Twice_NoRow => first | rfl | decide)
    (case s_Twice_NoPair => k_is)
    (case n_Twice_NoPair => first | rfl | decide)
    (case s_Twice_Same => k_is)
    (case n_Twice_Same => first | rfl | decide)
    (case s_Twice_Ring => k_is)
    (case n_Twice_Ring => first | rfl | decide)
    (case s_Twice_TooLong => k_is)
    (case n_Twice_TooLong => first | rfl | decide)
    (case s_Twice_NoStep => k_is)
    (case n_Twice_NoStep => first | rfl | decide)
    (case s_Twice_Unlike => k_is)
    (case n_Twice_Unlike => first | rfl | decide)
    (case s_Twice_TooMany => k_is)
    (case n_Twice_TooMany => first | rfl | decide)
    (case s_Twice_NotFormed => k_is)
    (case n_Twice_NotFormed => first | rfl | decide)
    (case s_Twice_Double => k_is)
    (case n_Twice_Double => first | rfl | decide)
    (case s_Twice_NoKind => k_is)
    (case n_Twice_NoKind => first | rfl | decide)
    (case s_Twice_Nothing => k_is)
    (case n_Twice_Nothing => first | rfl | decide)
    (case s_Twice_NoPlace => k_is)
    (case n_Twice_NoPlace => first | rfl | decide)
    (case s_Twice_NoUndo => k_is)
    (case n_Twice_NoUndo => first | rfl | decide)
    (case s_Twice_FormError => k_is)
    (case n_Twice_FormError => first | rfl | decide)
    (case s_Twice_ValueError => k_is)
    (case j0_Unlike => k_is)
    (case j1_Unlike => k_is)
    (case j2_Unlike => k_is)
    (case j3_Unlike => k_is)
    (case j4_Unlike => k_is)
    (case j5_Unlike => k_is)
    (case j6_Unlike => k_is)
    (case nf_Unlike_at => k_is)
    (case nf_Unlike_sign => k_is)
    (case nf_Unlike_one => k_is)
    (case nf_Unlike_other => k_is)
    (case nf_Unlike_which => k_is)
    (case nf_Unlike_signs => k_is)
    (case s_Unlike_NoRow => k_is)
    (case n_Unlike_NoRow => first | rfl | decide)
    (case s_Unlike_Twice => k_is)
    (case n_Unlike_Twice => first | rfl | decide)
    (case s_Unlike_NoPair => k_is)
    (case n_Unlike_NoPair => first | rfl | decide)
    (case s_Unlike_Same => k_is)
    (case n_Unlike_Same => first | rfl | decide)
    (case s_Unlike_Ring => k_is)
    (case n_Unlike_Ring => first | rfl | decide)
    (case s_Unlike_TooLong => k_is)
    (case n_Unlike_TooLong => first | rfl | decide)
    (case s_Unlike_NoStep => k_is)
    (case n_Unlike_NoStep => first | rfl | decide)
    (case s_Unlike_TooMany => k_is)
    (case n_Unlike_TooMany => first | rfl | decide)
    (case s_Unlike_NotFormed => k_is)
    (case n_Unlike_NotFormed => first | rfl | decide)
    (case s_Unlike_Double => k_is)
    (case n_Unlike_Double => first | rfl | decide)
    (case s_Unlike_NoKind => k_is)
    (case n_Unlike_NoKind => first | rfl | decide)
    (case s_Unlike_Nothing => k_is)
    (case n_Unlike_Nothing => first | rfl | decide)
    (case s_Unlike_NoPlace => k_is)
    (case n_Unlike_NoPlace => first | rfl | decide)
    (case s_Unlike_NoUndo => k_is)
    (case n_Unlike_NoUndo => first | rfl | decide)
    (case s_Unlike_FormError => k_is)
    (case n_Unlike_FormError => first | rfl | decide)
    (case s_Unlike_ValueError => k_is)
    (case ic_NoRow => k_is)
    (case it_NoRow => k_is)
    (case ic_Twice => k_is)
    (case it_Twice => k_is)
    (case ic_NoPair => k_is)
    (case it_NoPair => k_is)
    (case ic_Same => k_is)
    (case it_Same => k_is)
    (case ic_Ring => k_is)
    (case it_Ring => k_is)
    (case ic_TooLong => k_is)
    (case it_TooLong => k_is)
    (case ic_NoStep => k_is)
    (case it_NoStep => k_is)
    (case ic_Unlike => k_is)
    (case it_Unlike => k_is)
    (case ic_TooMany => k_is)
    (case it_TooMany => k_is)
    (case ic_NotFormed => k_is)
    (case it_NotFormed => k_is)
    (case ic_Double => k_is)
    (case it_Double => k_is)
    (case ic_NoKind => k_is)
    (case it_NoKind => k_is)
    (case ic_Nothing => k_is)
    (case it_Nothing => k_is)
    (case ic_NoPlace => k_is)
    (case it_NoPlace => k_is)
    (case ic_NoUndo => k_is)
    (case it_NoUndo => k_is)
    (case ic_FormError => k_is)
    (case it_FormError => k_is)
    (case xo_NoRow => k_is)
    (case xr_NoRow => first | rfl | decide)
    (case xs_NoRow => k_is)
    (case xt_NoRow => k_is)
    (case xu_NoRow => k_is)
    (case xv_NoRow => k_is)
    (case xw_NoRow => k_is)
    (case xx_NoRow => k_is)
    (case xy_NoRow => k_is)
    (case yl_NoRow => k_is)
    (case ym_NoRow => k_is)
    (case yn_NoRow => k_is)
    (case xo_Twice => k_is)
    (case xr_Twice => first | rfl | decide)
    (case xs_Twice => k_is)
    (case xt_Twice => k_is)
    (case xu_Twice => k_is)
    (case xv_Twice => k_is)
    (case xw_Twice => k_is)
    (case xx_Twice => k_is)
    (case xy_Twice => k_is)
    (case yl_Twice => k_is)
    (case ym_Twice => k_is)
    (case yn_Twice => k_is)
    (case xo_NoPair => k_is)
    (case xr_NoPair => first | rfl | decide)
    (case xs_NoPair => k_is)
    (case xt_NoPair => k_is)
    (case xu_NoPair => k_is)
    (case xv_NoPair => k_is)
    (case xw_NoPair => k_is)
    (case xx_NoPair => k_is)
    (case xy_NoPair => k_is)
    (case yl_NoPair => k_is)
    (case ym_NoPair => k_is)
    (case yn_NoPair => k_is)
    (case xo_Same => k_is)
    (case xr_Same => first | rfl | decide)
    (case xs_Same => k_is)
    (case xt_Same => k_is)
    (case xu_Same => k_is)
    (case xv_Same => k_is)
    (case xw_Same => k_is)
    (case xx_Same => k_is)
    (case xy_Same => k_is)
    (case xy1_Same => k_is)
    (case yl_Same => k_is)
    (case ym_Same => k_is)
    (case yn_Same => k_is)
    (case xo_Ring => k_is)
    (case xr_Ring => first | rfl | decide)
    (case xs_Ring => k_is)
    (case xt_Ring => k_is)
    (case xu_Ring => k_is)
    (case xv_Ring => k_is)
    (case xw_Ring => k_is)
    (case xx_Ring => k_is)
    (case xy_Ring => k_is)
    (case yl_Ring => k_is)
    (case ym_Ring => k_is)
    (case yn_Ring => k_is)
    (case xo_TooLong => k_is)
    (case xr_TooLong => first | rfl | decide)
    (case xs_TooLong => k_is)
    (case xt_TooLong => k_is)
    (case xu_TooLong => k_is)
    (case xv_TooLong => k_is)
    (case xw_TooLong => k_is)
    (case xx_TooLong => k_is)
    (case xy_TooLong => k_is)
    (case yl_TooLong => k_is)
    (case ym_TooLong => k_is)
    (case yn_TooLong => k_is)
    (case xo_Unlike => k_is)
    (case xr_Unlike => first | rfl | decide)
    (case xs_Unlike => k_is)
    (case xt_Unlike => k_is)
    (case xu_Unlike => k_is)
    (case xv_Unlike => k_is)
    (case xw_Unlike => k_is)
    (case xx_Unlike => k_is)
    (case xy_Unlike => k_is)
    (case yl_Unlike => k_is)
    (case ym_Unlike => k_is)
    (case yn_Unlike => k_is)
    (case xo_NotFormed => k_is)
    (case xr_NotFormed => first | rfl | decide)
    (case xs_NotFormed => k_is)
    (case xt_NotFormed => k_is)
    (case xu_NotFormed => k_is)
    (case xv_NotFormed => k_is)
    (case xw_NotFormed => k_is)
    (case xx_NotFormed => k_is)
    (case xy_NotFormed => k_is)
    (case yl_NotFormed => k_is)
    (case ym_NotFormed => k_is)
    (case yn_NotFormed => k_is)
    (case xo_Double => k_is)
    (case xr_Double => first | rfl | decide)
    (case xs_Double => k_is)
    (case xt_Double => k_is)
    (case xu_Double => k_is)
    (case xv_Double => k_is)
    (case xw_Double => k_is)
    (case xx_Double => k_is)
    (case xy_Double => k_is)
    (case yl_Double => k_is)
    (case ym_Double => k_is)
    (case yn_Double => k_is)
    (case xo_NoKind => k_is)
    (case xr_NoKind => first | rfl | decide)
    (case xs_NoKind => k_is)
    (case xt_NoKind => k_is)
    (case xu_NoKind => k_is)
    (case xv_NoKind => k_is)
    (case xw_NoKind => k_is)
    (case xx_NoKind => k_is)
    (case xy_NoKind => k_is)
    (case yl_NoKind => k_is)
    (case ym_NoKind => k_is)
    (case yn_NoKind => k_is)
    (case fe1 => k_is)
    (case fe2 => k_is)
    (case fe3 => k_is)
    (case z_ValueError => k_is)
