import PyProof.Rows.All
import Wide.All
import OpenK.AllK
import Wide.FinOn
import HandS.ForMost
import HandS.ForExc
import HandS.SortInts
import HandS.More
import HandS.Style
import HandS.IsInst
import HandS.Rev
import HandS.Deep
import HandS.FromBytesMap
import HandS.SortKw
import KE.SortKeyHeap
import HandS.TryOnly
import HandS.DeepEq
import HandS.ListItems
import HandS.Keys
import PyProof.Rows.SortShell
import KE.SortData
import HandS.Flow
import KE.DataMinMax
import HandS.ExcCtx
import HandS.ExcOwn
import HandS.HotCalls
import HandS.ExcField
import KE.KExcIs
import HandS.ExcInit
import HandS.Text
import HandS.Iter
import KE.GoesEnumKw
import HandS.SetFor
import KE.KDictList
import KE.DataEq
import HandS.EndBits
import HandS.WideBits
import KE.IntBitsLaws
import PyProof.StrOps2
import HandS.TupAny
import PySem.Challenge.RW_signforms_k13_lists_told
set_option Elab.async false
set_option linter.all false
set_option maxRecDepth 100000
set_option maxHeartbeats 4000000
set_option synthInstance.maxSize 2000
namespace Sg
open PySem PySem.Spec PyProof.Rows L2

/-! ### results -/
inductive ED where
  | int (i : Int)
  | ints (l : List Int)
  deriving DecidableEq
structure Err where
  cls : Str
  fs : List (Str × ED)
inductive Res (α : Type) where
  | ok (a : α) | err (e : Err) | stuck
def Res.bind {α β : Type} (m : Res α) (f : α → Res β) : Res β := match m with
  | .ok a => f a
  | .err e => .err e
  | .stuck => .stuck
def Fin {α : Type} (P : α → Prop) (Er : Err → Prop) : Res α → Prop
  | .ok a => P a
  | .err e => Er e
  | .stuck => False
theorem Fin.bind {α β : Type} {P : β → Prop} {Er : Err → Prop} {m : Res α} {f : α → Res β} (h : Fin P Er (m.bind f)) : Fin (fun a => Fin P Er (f a)) Er m := by
  cases m with
  | ok a => exact h
  | err e => exact h
  | stuck => exact h
theorem Fin.unbind {α β : Type} {P : β → Prop} {Er : Err → Prop} {m : Res α} {f : α → Res β} (h : Fin (fun a => Fin P Er (f a)) Er m) : Fin P Er (m.bind f) := by
  cases m with
  | ok a => exact h
  | err e => exact h
  | stuck => exact h
theorem Fin.mono {α : Type} {P P' : α → Prop} {Er Er' : Err → Prop} {m : Res α} (h : Fin P Er m) (k : ∀ a, m = .ok a → P a → P' a) (ke : ∀ e, Er e → Er' e) : Fin P' Er' m := by
  cases m with
  | ok a => exact k a rfl h
  | err e => exact ke e h
  | stuck => exact h
/-- a partial thing -/
def Res.of {α : Type} : Option α → Res α
  | some a => .ok a
  | none => .stuck
/-- a test that must hold -/
@[irreducible] def Res.need {α : Type} (c : Prop) [Decidable c] (m : Res α) : Res α := if c then m else .stuck
theorem Fin.need {α : Type} {c : Prop} [Decidable c] {P : α → Prop} {Er : Err → Prop} {m : Res α} (h : Fin P Er (Res.need c m)) : c ∧ Fin P Er m := by
  unfold Res.need at h
  by_cases hc : c
  · rw [if_pos hc] at h
    exact ⟨hc, h⟩
  · rw [if_neg hc] at h
    exact h.elim

/-! ### heaps -/
def nf : HO → HO
  | .frz _ (.dK k) => .dK k
  | .frz _ (.dT k) => .dT k
  | o => o
/-- what is read in the one is read in the other -/
def Ex (H H' : Hp) : Prop := ∀ a o, H a = some o → ∃ o', H' a = some o' ∧ nf o' = nf o
/-- .. is the same in the other -/
def Sx (H H' : Hp) : Prop := ∀ a o, H a = some o → H' a = some o
theorem Ex.refl (H : Hp) : Ex H H := fun _ o h => ⟨o, h, rfl⟩
theorem Ex.trans {H H1 H2 : Hp} (a : Ex H H1) (b : Ex H1 H2) : Ex H H2 := fun x o h => by
  obtain ⟨o1, h1, e1⟩ := a x o h
  obtain ⟨o2, h2, e2⟩ := b x o1 h1
  exact ⟨o2, h2, e2.trans e1⟩
theorem Sx.refl (H : Hp) : Sx H H := fun _ _ h => h
theorem Sx.trans {H H1 H2 : Hp} (a : Sx H H1) (b : Sx H1 H2) : Sx H H2 := fun x o h => b x o (a x o h)
theorem Sx.ex {H H' : Hp} (a : Sx H H') : Ex H H' := fun x o h => ⟨o, a x o h, rfl⟩
theorem Sx.new {H : Hp} {p : Addr} {o : HO} (h : H p = none) : Sx H (upd H p o) := fun a u e => by
  rw [upd_ne (ne_of_none e h)]
  exact e
theorem Sx.free {H H' : Hp} (e : Sx H H') {l : Addr} (h : H' l = none) : H l = none := by
  cases q : H l with
  | none => rfl
  | some o =>
    rw [e l o q] at h
    cases h
/-- tuples kept -/
def Tx (H H' : Hp) : Prop := ∀ a ys, H a = some (.tup ys) → H' a = some (.tup ys)
theorem nf_lst {o : HO} {xs : List V} (h : nf o = .lst xs) : o = .lst xs := by
  cases o with
  | frz ob u => cases u <;> cases h
  | lst ys => exact h
  | _ => cases h
theorem nf_tup {o : HO} {xs : List V} (h : nf o = .tup xs) : o = .tup xs := by
  cases o with
  | frz ob u => cases u <;> cases h
  | tup ys => exact h
  | _ => cases h
theorem nf_ins {o : HO} {C dx : Addr} {fs : List (Str × V)} (h : nf o = .ins C dx fs) : o = .ins C dx fs := by
  cases o with
  | frz ob u => cases u <;> cases h
  | ins _ _ _ => exact h
  | _ => cases h
theorem nf_dK {o : HO} {k : List (Key × V)} (h : nf o = .dK k) : o = .dK k ∨ ∃ ob, o = .frz ob (.dK k) := by
  cases o with
  | frz ob u => cases u <;> first | (cases h; exact .inr ⟨_, rfl⟩) | cases h
  | dK _ => exact .inl h
  | _ => cases h
theorem nf_dT {o : HO} {k : List (List Key × V)} (h : nf o = .dT k) : o = .dT k ∨ ∃ ob, o = .frz ob (.dT k) := by
  cases o with
  | frz ob u => cases u <;> first | (cases h; exact .inr ⟨_, rfl⟩) | cases h
  | dT _ => exact .inl h
  | _ => cases h
theorem nf_frzL {o : HO} {ob : Obj} {xs : List V} (h : nf o = nf (.frz ob (.lst xs))) : o = .frz ob (.lst xs) := by
  cases o with
  | frz ob' u => cases u <;> first | exact h | cases h
  | _ => cases h
theorem nf_frzT {o : HO} {ob : Obj} {xs : List V} (h : nf o = nf (.frz ob (.tup xs))) : o = .frz ob (.tup xs) := by
  cases o with
  | frz ob' u => cases u <;> first | exact h | cases h
  | _ => cases h
theorem Ex.lst {H H' : Hp} {a : Addr} {xs : List V} (e : Ex H H') (h : H a = some (.lst xs)) : H' a = some (.lst xs) := by
  obtain ⟨o, h1, h2⟩ := e _ _ h
  rw [h1, nf_lst h2]
theorem Ex.tup {H H' : Hp} {a : Addr} {xs : List V} (e : Ex H H') (h : H a = some (.tup xs)) : H' a = some (.tup xs) := by
  obtain ⟨o, h1, h2⟩ := e _ _ h
  rw [h1, nf_tup h2]
theorem Ex.ins {H H' : Hp} {a C dx : Addr} {fs : List (Str × V)} (e : Ex H H') (h : H a = some (.ins C dx fs)) : H' a = some (.ins C dx fs) := by
  obtain ⟨o, h1, h2⟩ := e _ _ h
  rw [h1, nf_ins h2]
theorem Ex.dK {H H' : Hp} {a : Addr} {k : List (Key × V)} (e : Ex H H') (h : Rd H a (.dK k)) : Rd H' a (.dK k) := by
  have key : ∀ o, H a = some o → nf o = .dK k → Rd H' a (.dK k) := fun o h1 h2 => by
    obtain ⟨o', h3, h4⟩ := e _ _ h1
    rcases nf_dK (h4.trans h2) with q | ⟨ob, q⟩
    · exact .inl (by rw [h3, q])
    · exact .inr ⟨ob, by rw [h3, q]⟩
  rcases h with h | ⟨ob, h⟩
  · exact key _ h rfl
  · exact key _ h rfl
theorem Ex.dT {H H' : Hp} {a : Addr} {k : List (List Key × V)} (e : Ex H H') (h : Rd H a (.dT k)) : Rd H' a (.dT k) := by
  have key : ∀ o, H a = some o → nf o = .dT k → Rd H' a (.dT k) := fun o h1 h2 => by
    obtain ⟨o', h3, h4⟩ := e _ _ h1
    rcases nf_dT (h4.trans h2) with q | ⟨ob, q⟩
    · exact .inl (by rw [h3, q])
    · exact .inr ⟨ob, by rw [h3, q]⟩
  rcases h with h | ⟨ob, h⟩
  · exact key _ h rfl
  · exact key _ h rfl
theorem Ex.sqL {K : PySem.W.Frag} {H H' : Hp} {a : Addr} {xs : List V} (e : Ex H H') (h : SqL K H a xs) : SqL K H' a xs := by
  rcases h with (h | ⟨ob, h⟩) | h
  · exact .inl (.inl (e.lst h))
  · obtain ⟨o, h1, h2⟩ := e _ _ h
    exact .inl (.inr ⟨ob, by rw [h1, nf_frzL h2]⟩)
  · exact .inr h
theorem Ex.sqT {K : PySem.W.Frag} {H H' : Hp} {a : Addr} {xs : List V} (e : Ex H H') (h : SqT K H a xs) : SqT K H' a xs := by
  rcases h with (h | ⟨ob, h⟩) | h
  · exact .inl (.inl (e.tup h))
  · obtain ⟨o, h1, h2⟩ := e _ _ h
    exact .inl (.inr ⟨ob, by rw [h1, nf_frzT h2]⟩)
  · exact .inr h

/-! ### what stands for data -/
theorem Ex.rdL {H H' : Hp} {a : Addr} {xs : List V} (e : Ex H H') (h : Rd H a (.lst xs)) : Rd H' a (.lst xs) := by
  rcases h with h | ⟨ob, h⟩
  · exact .inl (e.lst h)
  · obtain ⟨o, h1, h2⟩ := e _ _ h
    exact .inr ⟨ob, by rw [h1, nf_frzL h2]⟩

structure Rel (α : Type) where
  r : Hp → V → α → Prop
  mono : ∀ {H H' : Hp} {v : V} {x : α}, Ex H H' → r H v x → r H' v x
class Imm {α : Type} (R : Rel α) : Prop where
  imm : ∀ {H H' : Hp} {v : V} {x : α}, Tx H H' → R.r H v x → R.r H' v x
/-- never None -/
class NN {α : Type} (R : Rel α) : Prop where
  nn : ∀ {H : Hp} {v : V} {x : α}, R.r H v x → v ≠ .non

theorem pimp {α β : Type} {F G : α → β → Prop} {l₁ : List α} {l₂ : List β} (h : Paired F l₁ l₂) (f : ∀ a b, F a b → G a b) : Paired G l₁ l₂ := Paired.mapP h f

def rInt : Rel Int := ⟨fun _ v x => v = .int x, fun _ h => h⟩
def rBool : Rel Bool := ⟨fun _ v x => v = .bl x, fun _ h => h⟩
def rStr : Rel Str := ⟨fun _ v x => v = .str x, fun _ h => h⟩
def rNon : Rel Unit := ⟨fun _ v _ => v = .non, fun _ h => h⟩
section
variable {α β γ : Type}
def rLst (R : Rel α) : Rel (List α) := ⟨fun H v xs => ∃ p vs, v = .ref p ∧ Rd H p (.lst vs) ∧ Paired (R.r H) vs xs, fun e h => by
  obtain ⟨p, vs, h1, h2, h3⟩ := h
  exact ⟨p, vs, h1, e.rdL h2, pimp h3 fun _ _ q => R.mono e q⟩⟩
def rTup (R : Rel α) : Rel (List α) := ⟨fun H v xs => ∃ p vs, v = .ref p ∧ H p = some (.tup vs) ∧ Paired (R.r H) vs xs, fun e h => by
  obtain ⟨p, vs, h1, h2, h3⟩ := h
  exact ⟨p, vs, h1, e.tup h2, pimp h3 fun _ _ q => R.mono e q⟩⟩
def rPr (R : Rel α) (S : Rel β) : Rel (α × β) := ⟨fun H v x => ∃ p a b, v = .ref p ∧ H p = some (.tup [a, b]) ∧ R.r H a x.1 ∧ S.r H b x.2, fun e h => by
  obtain ⟨p, a, b, h1, h2, h3, h4⟩ := h
  exact ⟨p, a, b, h1, e.tup h2, R.mono e h3, S.mono e h4⟩⟩
def rOpt (R : Rel α) : Rel (Option α) := ⟨fun H v x => match x with
  | none => v = .non
  | some y => v ≠ .non ∧ R.r H v y, fun {H H' v x} e h => by
  cases x with
  | none => exact h
  | some y => exact ⟨h.1, R.mono e h.2⟩⟩
instance : Imm rInt := ⟨fun _ h => h⟩
instance : Imm rBool := ⟨fun _ h => h⟩
instance : Imm rStr := ⟨fun _ h => h⟩
instance : Imm rNon := ⟨fun _ h => h⟩
instance {R : Rel α} [Imm R] : Imm (rTup R) := ⟨fun e h => by
  obtain ⟨p, vs, h1, h2, h3⟩ := h
  exact ⟨p, vs, h1, e _ _ h2, pimp h3 fun _ _ q => Imm.imm e q⟩⟩
instance {R : Rel α} {S : Rel β} [Imm R] [Imm S] : Imm (rPr R S) := ⟨fun e h => by
  obtain ⟨p, a, b, h1, h2, h3, h4⟩ := h
  exact ⟨p, a, b, h1, e _ _ h2, Imm.imm e h3, Imm.imm e h4⟩⟩
instance {R : Rel α} [Imm R] : Imm (rOpt R) := ⟨fun {H H' v x} e h => by
  cases x with
  | none => exact h
  | some y => exact ⟨h.1, Imm.imm e h.2⟩⟩
instance : NN rInt := ⟨fun h => by rw [h]; exact fun q => by cases q⟩
instance : NN rBool := ⟨fun h => by rw [h]; exact fun q => by cases q⟩
instance : NN rStr := ⟨fun h => by rw [h]; exact fun q => by cases q⟩
instance {R : Rel α} : NN (rLst R) := ⟨fun h => by obtain ⟨p, vs, h1, _⟩ := h; rw [h1]; exact fun q => by cases q⟩
instance {R : Rel α} : NN (rTup R) := ⟨fun h => by obtain ⟨p, vs, h1, _⟩ := h; rw [h1]; exact fun q => by cases q⟩
instance {R : Rel α} {S : Rel β} : NN (rPr R S) := ⟨fun h => by obtain ⟨p, a, b, h1, _⟩ := h; rw [h1]; exact fun q => by cases q⟩
end

/-! ### the state within a def -/
/-- the entry: what stays known (B0), all that is known (H0) -/
structure Ent where
  B0 : Hp
  H0 : Hp
abbrev Own := List (Addr × HO)
structure Stt (E : Ent) (own : Own) (B H : Hp) : Prop where
  b0 : Sx E.B0 B
  h0 : Sx E.H0 H
  bh : Sx B H
  tu : Tx H B
  fr : ∀ a o, B a = some o → E.B0 a = some o ∨ E.H0 a = none
  ow : ∀ q ∈ own, E.H0 q.1 = none ∧ B q.1 = none ∧ H q.1 = some q.2
  nd : (own.map (·.1)).Nodup
theorem upd_nd {own : Own} {p : Addr} (h : ∀ q ∈ own, q.1 ≠ p) : p ∉ own.map (·.1) := fun z => by
  obtain ⟨q, hq, e⟩ := List.mem_map.mp z
  exact h q hq e
section
variable {E : Ent} {own new : Own} {B H B' H' : Hp} {p : Addr} {o o' : HO}
theorem Stt.fresh (S : Stt E own B H) (h : H p = none) : E.H0 p = none ∧ B p = none := ⟨S.h0.free h, S.bh.free h⟩
/-- a new object, owned -/
theorem Stt.alloc (S : Stt E own B H) (h : H p = none) (nt : ∀ ys, o ≠ .tup ys) : Stt E ((p, o) :: own) B (upd H p o) where
  b0 := S.b0
  h0 := S.h0.trans (Sx.new h)
  bh := S.bh.trans (Sx.new h)
  tu := fun a ys e => by
    by_cases ha : a = p
    · subst ha
      rw [upd_same] at e
      exact absurd (Option.some.inj e) (nt ys)
    · rw [upd_ne ha] at e
      exact S.tu a ys e
  fr := S.fr
  ow := fun q hq => by
    rcases List.mem_cons.mp hq with rfl | hq
    · exact ⟨S.h0.free h, S.bh.free h, upd_same⟩
    · obtain ⟨h1, h2, h3⟩ := S.ow q hq
      refine ⟨h1, h2, ?_⟩
      rw [upd_ne (ne_of_none h3 h)]
      exact h3
  nd := List.nodup_cons.mpr ⟨upd_nd fun q hq => ne_of_none (S.ow q hq).2.2 h, S.nd⟩
/-- a new object that stays as it is -/
theorem Stt.lay (S : Stt E own B H) (h : H p = none) : Stt E own (upd B p o) (upd H p o) where
  b0 := S.b0.trans (Sx.new (S.bh.free h))
  h0 := S.h0.trans (Sx.new h)
  bh := fun a u e => by
    by_cases ha : a = p
    · subst ha
      rw [upd_same] at e ⊢
      exact e
    · rw [upd_ne ha] at e ⊢
      exact S.bh a u e
  tu := fun a ys e => by
    by_cases ha : a = p
    · subst ha
      rw [upd_same] at e ⊢
      exact e
    · rw [upd_ne ha] at e ⊢
      exact S.tu a ys e
  fr := fun a u e => by
    by_cases ha : a = p
    · subst ha
      exact .inr (S.h0.free h)
    · rw [upd_ne ha] at e
      exact S.fr a u e
  ow := fun q hq => by
    obtain ⟨h1, h2, h3⟩ := S.ow q hq
    have ne : q.1 ≠ p := ne_of_none h3 h
    rw [upd_ne ne, upd_ne ne]
    exact ⟨h1, h2, h3⟩
  nd := S.nd
theorem Stt.layB (S : Stt E own B H) (h : H p = none) : Sx B (upd B p o) := Sx.new (S.bh.free h)
/-- an owned object stays as it is from now on -/
theorem Stt.keep (S : Stt E ((p, o) :: own) B H) : Stt E own (upd B p o) H where
  b0 := S.b0.trans (Sx.new (S.ow _ (List.mem_cons_self ..)).2.1)
  h0 := S.h0
  bh := fun a u e => by
    by_cases ha : a = p
    · subst ha
      rw [upd_same] at e
      rw [← e]
      exact (S.ow _ (List.mem_cons_self ..)).2.2
    · rw [upd_ne ha] at e
      exact S.bh a u e
  tu := fun a ys e => by
    by_cases ha : a = p
    · subst ha
      rw [upd_same]
      rw [← e]
      exact (S.ow _ (List.mem_cons_self ..)).2.2.symm
    · rw [upd_ne ha]
      exact S.tu a ys e
  fr := fun a u e => by
    by_cases ha : a = p
    · subst ha
      exact .inr (S.ow _ (List.mem_cons_self ..)).1
    · rw [upd_ne ha] at e
      exact S.fr a u e
  ow := fun q hq => by
    obtain ⟨h1, h2, h3⟩ := S.ow q (List.mem_cons_of_mem _ hq)
    have ne : q.1 ≠ p := fun z => (List.nodup_cons.mp S.nd).1 (List.mem_map.mpr ⟨q, hq, z⟩)
    rw [upd_ne ne]
    exact ⟨h1, h2, h3⟩
  nd := (List.nodup_cons.mp S.nd).2
/-- fewer, or in another turn -/
theorem Stt.sub (S : Stt E own B H) (h : ∀ q ∈ new, q ∈ own) (hn : (new.map (·.1)).Nodup) : Stt E new B H := ⟨S.b0, S.h0, S.bh, S.tu, S.fr, fun q hq => S.ow q (h q hq), hn⟩
theorem Stt.drop (S : Stt E ((p, o) :: own) B H) : Stt E own B H := S.sub (fun _ h => List.mem_cons_of_mem _ h) (List.nodup_cons.mp S.nd).2
theorem Stt.drops (S : Stt E (new ++ own) B H) : Stt E own B H := by
  refine S.sub (fun _ h => List.mem_append_right _ h) ?_
  have := S.nd
  rw [List.map_append] at this
  exact (List.nodup_append.mp this).2.1
theorem Stt.none (S : Stt E own B H) : Stt E [] B H := S.sub (fun _ h => nomatch h) List.nodup_nil
theorem Stt.swap {q : Addr × HO} {r : Addr × HO} (S : Stt E (q :: r :: own) B H) : Stt E (r :: q :: own) B H := by
  refine S.sub (fun z h => ?_) ?_
  · rcases List.mem_cons.mp h with rfl | h
    · exact List.mem_cons_of_mem _ (List.mem_cons_self ..)
    · rcases List.mem_cons.mp h with rfl | h
      · exact List.mem_cons_self ..
      · exact List.mem_cons_of_mem _ (List.mem_cons_of_mem _ h)
  · have n := S.nd
    rw [List.map_cons, List.map_cons, List.nodup_cons, List.nodup_cons] at n
    rw [List.map_cons, List.map_cons, List.nodup_cons, List.nodup_cons]
    refine ⟨fun z => ?_, fun z => n.1 (List.mem_cons_of_mem _ z), n.2.2⟩
    rcases List.mem_cons.mp z with z | z
    · exact n.1 (by rw [z]; exact List.mem_cons_self ..)
    · exact n.2.1 z
/-- an owned object is written -/
theorem Stt.write (S : Stt E ((p, o) :: own) B H) (nt : ∀ ys, o' ≠ .tup ys) : Stt E ((p, o') :: own) B (upd H p o') where
  b0 := S.b0
  h0 := fun a u e => by
    rw [upd_ne fun z => by
      have := (S.ow _ (List.mem_cons_self ..)).1
      rw [← z, e] at this
      cases this]
    exact S.h0 a u e
  bh := fun a u e => by
    rw [upd_ne fun z => by
      have := (S.ow _ (List.mem_cons_self ..)).2.1
      rw [← z, e] at this
      cases this]
    exact S.bh a u e
  tu := fun a ys e => by
    by_cases ha : a = p
    · subst ha
      rw [upd_same] at e
      exact absurd (Option.some.inj e) (nt ys)
    · rw [upd_ne ha] at e
      exact S.tu a ys e
  fr := S.fr
  ow := fun q hq => by
    rcases List.mem_cons.mp hq with rfl | hq
    · have := S.ow _ (List.mem_cons_self ..)
      exact ⟨this.1, this.2.1, upd_same⟩
    · obtain ⟨h1, h2, h3⟩ := S.ow q (List.mem_cons_of_mem _ hq)
      have ne : q.1 ≠ p := fun z => (List.nodup_cons.mp S.nd).1 (List.mem_map.mpr ⟨q, hq, z⟩)
      rw [upd_ne ne]
      exact ⟨h1, h2, h3⟩
  nd := S.nd
/-- behind a call -/
theorem Stt.call (S : Stt E own B H) (T : Stt ⟨B, H⟩ new B' H') : Stt E (new ++ own) B' H' where
  b0 := S.b0.trans T.b0
  h0 := S.h0.trans T.h0
  bh := T.bh
  tu := T.tu
  fr := fun a u e => by
    rcases T.fr a u e with h | h
    · exact S.fr a u h
    · exact .inr (S.h0.free h)
  ow := fun q hq => by
    rcases List.mem_append.mp hq with hq | hq
    · obtain ⟨h1, h2, h3⟩ := T.ow q hq
      exact ⟨S.h0.free h1, h2, h3⟩
    · obtain ⟨h1, h2, h3⟩ := S.ow q hq
      refine ⟨h1, ?_, T.h0 _ _ h3⟩
      cases e : B' q.1 with
      | none => rfl
      | some u =>
        rcases T.fr _ _ e with z | z
        · have z' : B q.1 = some u := z
          rw [h2] at z'
          cases z'
        · have z' : H q.1 = Option.none := z
          rw [h3] at z'
          cases z'
  nd := by
    rw [List.map_append]
    refine List.nodup_append.mpr ⟨T.nd, S.nd, fun a ha b hb e => ?_⟩
    subst e
    obtain ⟨q, hq, e1⟩ := List.mem_map.mp ha
    obtain ⟨r, hr, e2⟩ := List.mem_map.mp hb
    have h1 := (T.ow q hq).1
    have h2 := (S.ow r hr).2.2
    have h1' : H q.1 = Option.none := h1
    rw [e1, ← e2, h2] at h1'
    cases h1'
theorem Stt.enter (b : Sx B H) (t : Tx H B) : Stt ⟨B, H⟩ [] B H := ⟨Sx.refl _, Sx.refl _, b, t, fun _ _ e => .inl e, (fun _ h => nomatch h), List.nodup_nil⟩
theorem Stt.own1 (S : Stt E ((p, o) :: own) B H) : H p = some o := (S.ow _ (List.mem_cons_self ..)).2.2
end
end Sg

namespace Sg
open PySem PySem.Spec PyProof.Rows L2

/-! ### the weakest readings -/
def WE (X : Cx) (e : Expr) : TE := fun σ H Q => ∀ (pins : List (Addr × Obj)) (s : Shared), Inv X pins σ H s → wpAny (model X.prog X.w) X.A (eval e X.env) (EP X pins σ Q) X.xe s
def WT (X : Cx) (e : Expr) : TT := fun σ H Q => ∀ (pins : List (Addr × Obj)) (s : Shared), Inv X pins σ H s → wpAny (model X.prog X.w) X.A (isTrue e X.env (eval e X.env)) (TP X pins σ Q) X.xe s
def WA (X : Cx) (es : List Expr) : TA := fun σ H Q => ∀ (pos : Pos) (pins : List (Addr × Obj)) (s : Shared), Inv X pins σ H s → wpAny (model X.prog X.w) X.A (spliced (backTo pos (starEach es X.env))) (AP X pins σ Q) X.xe s
def WSs (X : Cx) (st : List Stmt) : TS := fun D σ H => ∀ (pins : List (Addr × Obj)) (s : Shared), Inv X pins σ H s → wpAny (model X.prog X.w) X.A (execs st X.env) (SP X pins D) X.xe s
section
variable {X : Cx} {e : Expr} {es : List Expr} {st : List Stmt} {σ : L2.St} {H : Hp} {D : Ends}
theorem peW : PE X e (WE X e) := ⟨fun pins s _ _ _ I h => h pins s I⟩
theorem ptW : PT X e (WT X e) := ⟨fun pins s _ _ _ I h => h pins s I⟩
theorem paW : PA X es (WA X es) := ⟨fun pos pins s _ _ _ I h => h pos pins s I⟩
theorem pssW : PSs X st (WSs X st) := ⟨fun pins s _ _ _ I h => h pins s I⟩
/-- what a list's length may be -/
def Szd (H : Hp) : Prop := (∀ p vs, Rd H p (.lst vs) → vs.length ≤ sizeLine) ∧ (∀ p vs, Rd H p (.tup vs) → vs.length ≤ sizeLine) ∧ (∀ p ws, Rd H p (.dK ws) → ws.length ≤ sizeLine) ∧ ∀ p ws, Rd H p (.dT ws) → ws.length ≤ sizeLine
theorem Szd.of {pins : List (Addr × Obj)} {s : Shared} (I : Inv X pins σ H s) : Szd H := ⟨fun p vs hp => (hp.ok I.hok).1, fun p vs hp => (hp.ok I.hok).1, fun p vs hp => (hp.ok I.hok).1, fun p vs hp => (hp.ok I.hok).1⟩
theorem WE.sz {Q : VK} (h : WE X e σ H (fun v H' => Szd H' → Q v H')) : WE X e σ H Q := fun pins s I => wpAny_mono (h pins s I) (fun u s' ⟨v, H', I', r, q⟩ => ⟨v, H', I', r, q (Szd.of I')⟩) fun _ _ q => q
theorem WE.of {t : TE} {Q : VK} (h : PE X e t) (q : t σ H Q) : WE X e σ H Q := fun pins s I => h.run pins s σ H Q I q
theorem WT.of {t : TT} {Q : Bool → Hp → Prop} (h : PT X e t) (q : t σ H Q) : WT X e σ H Q := fun pins s I => h.run pins s σ H Q I q
theorem WA.of {t : TA} {Q : List V → Hp → Prop} (h : PA X es t) (q : t σ H Q) : WA X es σ H Q := fun pos pins s I => h.run pos pins s σ H Q I q
theorem WSs.of {t : TS} (h : PSs X st t) (q : t D σ H) : WSs X st D σ H := fun pins s I => h.run pins s σ H D I q
theorem WSs.cons {s1 : Stmt} {t : TS} (h : PS X s1 t) (q : t { D with nx := WSs X st D } σ H) : WSs X (s1 :: st) D σ H := WSs.of (pss_cons h pssW) q
end

/-! ### what an expression comes to -/
section
variable (X : Cx) (E : Ent) (own : Own) (B H : Hp) (σ : L2.St)
/-- .. looked at | kept for good | a new list of one's own | the truth of a test -/
def EvB {α : Type} (e : Expr) (R : Rel α) (x : α) : Prop := ∀ B1 H1, Stt E own B1 H1 → Ex B B1 → Ex H H1 → ∀ Q : VK,
  (∀ v B2 H2, Stt E own B2 H2 → Ex B1 B2 → Ex H1 H2 → R.r H2 v x → Q v H2) → WE X e σ H1 Q
def EvE {α : Type} (e : Expr) (R : Rel α) (x : α) : Prop := ∀ B1 H1, Stt E own B1 H1 → Ex B B1 → Ex H H1 → ∀ Q : VK,
  (∀ v B2 H2, Stt E own B2 H2 → Ex B1 B2 → Ex H1 H2 → R.r B2 v x → Q v H2) → WE X e σ H1 Q
def EvL {α : Type} (e : Expr) (R : Rel α) (xs : List α) : Prop := ∀ B1 H1, Stt E own B1 H1 → Ex B B1 → Ex H H1 → ∀ Q : VK,
  (∀ p vs B2 H2, Stt E ((p, .lst vs) :: own) B2 H2 → Ex B1 B2 → Ex H1 H2 → Paired (R.r B2) vs xs → Q (.ref p) H2) → WE X e σ H1 Q
def EvT (e : Expr) (b : Bool) : Prop := ∀ B1 H1, Stt E own B1 H1 → Ex B B1 → Ex H H1 → ∀ Q : Bool → Hp → Prop,
  (∀ B2 H2, Stt E own B2 H2 → Ex B1 B2 → Ex H1 H2 → Q b H2) → WT X e σ H1 Q
end
section
variable {X : Cx} {E : Ent} {own new : Own} {B H B' H' : Hp} {σ : L2.St} {α β γ : Type} {R : Rel α} {S : Rel β} {T : Rel γ} {e a b c : Expr} {x : α} {y : β} {p pos : Pos}
theorem EvB.up (h : EvB X E own B H σ e R x) (e1 : Ex B B') (e2 : Ex H H') : EvB X E own B' H' σ e R x := fun B1 H1 S a b => h B1 H1 S (e1.trans a) (e2.trans b)
theorem EvE.up (h : EvE X E own B H σ e R x) (e1 : Ex B B') (e2 : Ex H H') : EvE X E own B' H' σ e R x := fun B1 H1 S a b => h B1 H1 S (e1.trans a) (e2.trans b)
theorem EvL.up {xs : List α} (h : EvL X E own B H σ e R xs) (e1 : Ex B B') (e2 : Ex H H') : EvL X E own B' H' σ e R xs := fun B1 H1 S a b => h B1 H1 S (e1.trans a) (e2.trans b)
theorem EvT.up {b : Bool} (h : EvT X E own B H σ e b) (e1 : Ex B B') (e2 : Ex H H') : EvT X E own B' H' σ e b := fun B1 H1 S a b => h B1 H1 S (e1.trans a) (e2.trans b)
theorem EvE.toB (h : EvE X E own B H σ e R x) : EvB X E own B H σ e R x := fun B1 H1 S e1 e2 Q k => h B1 H1 S e1 e2 Q fun v B2 H2 S2 e3 e4 r => k v B2 H2 S2 e3 e4 (R.mono S2.bh.ex r)
theorem EvB.toE [Imm R] (h : EvB X E own B H σ e R x) : EvE X E own B H σ e R x := fun B1 H1 S e1 e2 Q k => h B1 H1 S e1 e2 Q fun v B2 H2 S2 e3 e4 r => k v B2 H2 S2 e3 e4 (Imm.imm S2.tu r)
theorem EvB.is {x' : α} (h : EvB X E own B H σ e R x) (q : x = x') : EvB X E own B H σ e R x' := q ▸ h
theorem EvT.is {b b' : Bool} (h : EvT X E own B H σ e b) (q : b = b') : EvT X E own B H σ e b' := q ▸ h
theorem EvL.is {xs xs' : List α} (h : EvL X E own B H σ e R xs) (q : xs = xs') : EvL X E own B H σ e R xs' := q ▸ h
/-- a new list kept as it is -/
theorem EvL.toE {xs : List α} (h : EvL X E own B H σ e R xs) : EvE X E own B H σ e (rLst R) xs := fun B1 H1 S e1 e2 Q k => h B1 H1 S e1 e2 Q fun p vs B2 H2 S2 e3 e4 r => by
  have n := (S2.ow _ (List.mem_cons_self ..)).2.1
  exact k (.ref p) _ H2 S2.keep (e3.trans (Sx.new n).ex) e4 ⟨p, vs, rfl, Rd.of upd_same, pimp r fun _ _ q => R.mono (Sx.new n).ex q⟩
theorem EvL.toB {xs : List α} (h : EvL X E own B H σ e R xs) : EvB X E own B H σ e (rLst R) xs := h.toE.toB
/-! names, constants -/
theorem ev_v {i : Nat} {v : V} (hp : PE X e (tVar i)) (h : σ[i]? = some (some v)) (r : R.r H v x) : EvB X E own B H σ e R x := fun B1 H1 S e1 e2 Q k => WE.of hp ⟨v, h, k v B1 H1 S (Ex.refl _) (Ex.refl _) (R.mono e2 r)⟩
theorem ee_v {i : Nat} {v : V} (hp : PE X e (tVar i)) (h : σ[i]? = some (some v)) (r : R.r B v x) : EvE X E own B H σ e R x := fun B1 H1 S e1 e2 Q k => WE.of hp ⟨v, h, k v B1 H1 S (Ex.refl _) (Ex.refl _) (R.mono e1 r)⟩
/-- an owned list looked at -/
theorem ev_own {i : Nat} {q : Addr} {vs : List V} {xs : List α} (hp : PE X e (tVar i)) (h : σ[i]? = some (some (.ref q))) (ho : (q, HO.lst vs) ∈ own) (r : Paired (R.r B) vs xs) : EvB X E own B H σ e (rLst R) xs :=
  fun B1 H1 S e1 e2 Q k => WE.of hp ⟨.ref q, h, k _ B1 H1 S (Ex.refl _) (Ex.refl _) ⟨q, vs, rfl, Rd.of (S.ow _ ho).2.2, pimp r fun _ _ z => R.mono (e1.trans S.bh.ex) z⟩⟩
theorem ev_c {v : V} (hp : PE X e (tC v)) (r : ∀ H, R.r H v x) : EvB X E own B H σ e R x := fun B1 H1 S e1 e2 Q k => WE.of hp (k v B1 H1 S (Ex.refl _) (Ex.refl _) (r _))
theorem ev_i {i : Int} {j} : EvB X E own B H σ (.Constant (.int i) j pos) rInt i := ev_c pe_int fun _ => rfl
theorem ev_bl {i : Bool} {j} : EvB X E own B H σ (.Constant (.bool i) j pos) rBool i := ev_c pe_bl fun _ => rfl
theorem ev_s {i : Str} {j} : EvB X E own B H σ (.Constant (.str i) j pos) rStr i := ev_c pe_str fun _ => rfl
theorem ev_n {j} : EvB X E own B H σ (.Constant .none j pos) rNon () := ev_c pe_non fun _ => rfl
/-- None where something or nothing is wanted -/
theorem ev_none {j} : EvB X E own B H σ (.Constant .none j pos) (rOpt R) none := ev_c pe_non fun _ => rfl
theorem ev_some [NN R] (h : EvB X E own B H σ e R x) : EvB X E own B H σ e (rOpt R) (some x) := fun B1 H1 S e1 e2 Q k => h B1 H1 S e1 e2 Q fun v B2 H2 S2 e3 e4 r => k v B2 H2 S2 e3 e4 ⟨NN.nn r, r⟩
theorem ee_some [NN R] (h : EvE X E own B H σ e R x) : EvE X E own B H σ e (rOpt R) (some x) := fun B1 H1 S e1 e2 Q k => h B1 H1 S e1 e2 Q fun v B2 H2 S2 e3 e4 r => k v B2 H2 S2 e3 e4 ⟨NN.nn r, r⟩
/-! operators -/
theorem ev_op {op : Operator} {r2 : R2} {z : γ} (ho : OpR X (binaryOp op) r2) (ha : EvB X E own B H σ a R x) (hb : EvB X E own B H σ b S y)
    (hr : ∀ H1 v w (Q : VK), R.r H1 v x → S.r H1 w y → (∀ u, T.r H1 u z → Q u H1) → r2 v w H1 Q) : EvB X E own B H σ (.BinOp a op b pos) T z := fun B1 H1 S1 e1 e2 Q k =>
  WE.of (pe_op ho peW peW) (ha B1 H1 S1 e1 e2 _ fun v B2 H2 S2 e3 e4 r => hb B2 H2 S2 (e1.trans e3) (e2.trans e4) _ fun w B3 H3 S3 e5 e6 s =>
    hr H3 v w Q (R.mono e6 r) s fun u t => k u B3 H3 S3 (e3.trans e5) (e4.trans e6) t)
theorem rI0_ok {g : Int → Int → Int} {i j : Int} (H1 : Hp) (v w : V) (Q : VK) (h1 : rInt.r H1 v i) (h2 : rInt.r H1 w j) (k : ∀ u, rInt.r H1 u (g i j) → Q u H1) : rI0 (fun i j => .int (g i j)) v w H1 Q := ⟨i, j, h1, h2, k _ rfl⟩
theorem rI_ok {C : Int → Int → Prop} {g : Int → Int → Int} {i j : Int} (hc : C i j) (H1 : Hp) (v w : V) (Q : VK) (h1 : rInt.r H1 v i) (h2 : rInt.r H1 w j) (k : ∀ u, rInt.r H1 u (g i j) → Q u H1) : rI C (fun i j => .int (g i j)) v w H1 Q := ⟨i, j, h1, h2, hc, k _ rfl⟩
variable {i j : Int}
theorem ev_add (ha : EvB X E own B H σ a rInt i) (hb : EvB X E own B H σ b rInt j) : EvB X E own B H σ (.BinOp a .Add b pos) rInt (i + j) := ev_op op_add ha hb rI0_ok
theorem ev_sub (ha : EvB X E own B H σ a rInt i) (hb : EvB X E own B H σ b rInt j) : EvB X E own B H σ (.BinOp a .Sub b pos) rInt (i - j) := ev_op op_sub ha hb rI0_ok
/-- one factor is small -/
theorem ev_mul (ha : EvB X E own B H σ a rInt i) (hb : EvB X E own B H σ b rInt j) (hc : CMul i j) : EvB X E own B H σ (.BinOp a .Mult b pos) rInt (i * j) := ev_op op_mul ha hb (rI_ok hc)
theorem ev_mulL (ha : EvB X E own B H σ a rInt i) (hb : EvB X E own B H σ b rInt j) (hc : (decide (-(2 ^ 64) < i) && decide (i < 2 ^ 64)) = true := by rfl) : EvB X E own B H σ (.BinOp a .Mult b pos) rInt (i * j) :=
  ev_mul ha hb (.inl (by rw [Bool.and_eq_true] at hc; exact ⟨of_decide_eq_true hc.1, of_decide_eq_true hc.2⟩))
theorem ev_mulR (ha : EvB X E own B H σ a rInt i) (hb : EvB X E own B H σ b rInt j) (hc : (decide (-(2 ^ 64) < j) && decide (j < 2 ^ 64)) = true := by rfl) : EvB X E own B H σ (.BinOp a .Mult b pos) rInt (i * j) :=
  ev_mul ha hb (.inr (by rw [Bool.and_eq_true] at hc; exact ⟨of_decide_eq_true hc.1, of_decide_eq_true hc.2⟩))
theorem ev_pow (ha : EvB X E own B H σ a rInt i) (hb : EvB X E own B H σ b rInt j) (hc : (decide (0 ≤ j) && decide (j ≤ 1000000) && decide (i.natAbs < 2 ^ 64)) = true := by rfl) : EvB X E own B H σ (.BinOp a .Pow b pos) rInt (i ^ j.toNat) :=
  ev_op op_pow ha hb (rI_ok (C := CPow) (g := fun i j => i ^ j.toNat) (by
    rw [Bool.and_eq_true, Bool.and_eq_true] at hc
    exact ⟨of_decide_eq_true hc.1.1, of_decide_eq_true hc.1.2, of_decide_eq_true hc.2⟩))
theorem ev_mod (ha : EvB X E own B H σ a rInt i) (hb : EvB X E own B H σ b rInt j) (hc : 0 < j) : EvB X E own B H σ (.BinOp a .Mod b pos) rInt (i % j) := ev_op op_mod ha hb (rI_ok hc)
theorem ev_div (ha : EvB X E own B H σ a rInt i) (hb : EvB X E own B H σ b rInt j) (hc : CDiv i j) : EvB X E own B H σ (.BinOp a .FloorDiv b pos) rInt (i / j) := ev_op op_fdiv ha hb (rI_ok hc)
theorem ev_neg (ha : EvB X E own B H σ a rInt i) : EvB X E own B H σ (.UnaryOp .USub a pos) rInt (-i) := fun B1 H1 S1 e1 e2 Q k =>
  WE.of (pe_un un_neg peW) (ha B1 H1 S1 e1 e2 _ fun v B2 H2 S2 e3 e4 r => ⟨i, r, k _ B2 H2 S2 e3 e4 rfl⟩)
/-! comparisons -/
theorem ev_cmp {op : CmpOp} {r2 : R2} {z : Bool} (ho : OpR X (compareOp op) r2) (ha : EvB X E own B H σ a R x) (hb : EvB X E own B H σ b S y) (hm : behindInMarks op b = false)
    (hr : ∀ H1 v w (Q : VK), R.r H1 v x → S.r H1 w y → Q (.bl z) H1 → r2 v w H1 Q) : EvB X E own B H σ (.Compare a [op] [b] pos) rBool z := fun B1 H1 S1 e1 e2 Q k =>
  WE.of (pe_cmpR ho peW peW hm) (ha B1 H1 S1 e1 e2 _ fun v B2 H2 S2 e3 e4 r => hb B2 H2 S2 (e1.trans e3) (e2.trans e4) _ fun w B3 H3 S3 e5 e6 s =>
    hr H3 v w Q (R.mono e6 r) s (k _ B3 H3 S3 (e3.trans e5) (e4.trans e6) rfl))
theorem et_cmp {op : CmpOp} {r2 : R2} {z : Bool} (ho : OpR X (compareOp op) r2) (ha : EvB X E own B H σ a R x) (hb : EvB X E own B H σ b S y) (hm : behindInMarks op b = false)
    (hr : ∀ H1 v w (Q : VK), R.r H1 v x → S.r H1 w y → Q (.bl z) H1 → r2 v w H1 Q) : EvT X E own B H σ (.Compare a [op] [b] pos) z := fun B1 H1 S1 e1 e2 Q k =>
  WT.of (pt_cmpR ho peW peW hm) (ha B1 H1 S1 e1 e2 _ fun v B2 H2 S2 e3 e4 r => hb B2 H2 S2 (e1.trans e3) (e2.trans e4) _ fun w B3 H3 S3 e5 e6 s =>
    hr H3 v w _ (R.mono e6 r) s ⟨z, rfl, k B3 H3 S3 (e3.trans e5) (e4.trans e6)⟩)
/-- a rule for a comparison of what R and S stand for -/
structure CmpR (X : Cx) (op : CmpOp) (R : Rel α) (S : Rel β) (f : α → β → Bool) : Prop where
  ok : ∃ r2 : R2, OpR X (compareOp op) r2 ∧ ∀ x y H1 v w (Q : VK), R.r H1 v x → S.r H1 w y → Q (.bl (f x y)) H1 → r2 v w H1 Q
  hm : ∀ b, behindInMarks op b = false
theorem CmpR.ev {op : CmpOp} {f : α → β → Bool} (c : CmpR X op R S f) (ha : EvB X E own B H σ a R x) (hb : EvB X E own B H σ b S y) : EvB X E own B H σ (.Compare a [op] [b] pos) rBool (f x y) := by
  obtain ⟨r2, ho, hr⟩ := c.ok
  exact ev_cmp ho ha hb (c.hm b) (hr x y)
theorem CmpR.et {op : CmpOp} {f : α → β → Bool} (c : CmpR X op R S f) (ha : EvB X E own B H σ a R x) (hb : EvB X E own B H σ b S y) : EvT X E own B H σ (.Compare a [op] [b] pos) (f x y) := by
  obtain ⟨r2, ho, hr⟩ := c.ok
  exact et_cmp ho ha hb (c.hm b) (hr x y)
theorem c_lt : CmpR X .Lt rInt rInt (fun i j => decide (i < j)) := ⟨⟨_, op_lt, fun x y _ _ _ _ h1 h2 k => ⟨x, y, h1, h2, k⟩⟩, fun b => nomark b⟩
theorem c_le : CmpR X .LtE rInt rInt (fun i j => decide (i ≤ j)) := ⟨⟨_, op_le, fun x y _ _ _ _ h1 h2 k => ⟨x, y, h1, h2, k⟩⟩, fun b => nomark b⟩
theorem c_gt : CmpR X .Gt rInt rInt (fun i j => decide (j < i)) := ⟨⟨_, op_gt, fun x y _ _ _ _ h1 h2 k => ⟨x, y, h1, h2, k⟩⟩, fun b => nomark b⟩
theorem c_ge : CmpR X .GtE rInt rInt (fun i j => decide (j ≤ i)) := ⟨⟨_, op_ge, fun x y _ _ _ _ h1 h2 k => ⟨x, y, h1, h2, k⟩⟩, fun b => nomark b⟩
theorem deci (i j : Int) : decide (V.int i = V.int j) = decide (i = j) := by simp
theorem decb (i j : Bool) : decide (V.bl i = V.bl j) = decide (i = j) := by simp
theorem decs (i j : Str) : decide (V.str i = V.str j) = decide (i = j) := by simp
theorem c_eqI : CmpR X .Eq rInt rInt (fun i j => decide (i = j)) := ⟨⟨_, op_eq, fun x y _ v w _ h1 h2 k => by rw [show v = .int x from h1, show w = .int y from h2]; exact ⟨rfl, by rw [deci]; exact k⟩⟩, fun b => nomark b⟩
theorem c_neI : CmpR X .NotEq rInt rInt (fun i j => !decide (i = j)) := ⟨⟨_, op_ne, fun x y _ v w _ h1 h2 k => by rw [show v = .int x from h1, show w = .int y from h2]; exact ⟨rfl, by rw [deci]; exact k⟩⟩, fun b => nomark b⟩
theorem c_eqB : CmpR X .Eq rBool rBool (fun i j => decide (i = j)) := ⟨⟨_, op_eq, fun x y _ v w _ h1 h2 k => by rw [show v = .bl x from h1, show w = .bl y from h2]; exact ⟨rfl, by rw [decb]; exact k⟩⟩, fun b => nomark b⟩
theorem c_neB : CmpR X .NotEq rBool rBool (fun i j => !decide (i = j)) := ⟨⟨_, op_ne, fun x y _ v w _ h1 h2 k => by rw [show v = .bl x from h1, show w = .bl y from h2]; exact ⟨rfl, by rw [decb]; exact k⟩⟩, fun b => nomark b⟩
theorem c_eqS : CmpR X .Eq rStr rStr (fun i j => decide (i = j)) := ⟨⟨_, op_eq, fun x y _ v w _ h1 h2 k => by rw [show v = .str x from h1, show w = .str y from h2]; exact ⟨rfl, by rw [decs]; exact k⟩⟩, fun b => nomark b⟩
theorem c_neS : CmpR X .NotEq rStr rStr (fun i j => !decide (i = j)) := ⟨⟨_, op_ne, fun x y _ v w _ h1 h2 k => by rw [show v = .str x from h1, show w = .str y from h2]; exact ⟨rfl, by rw [decs]; exact k⟩⟩, fun b => nomark b⟩
/-- is None of something or nothing -/
theorem opt_non {H1 : Hp} {v : V} {x : Option α} (h : (rOpt R).r H1 v x) : decide (v = .non) = x.isNone := by
  cases x with
  | none =>
    have h' : v = .non := h
    rw [h']
    rfl
  | some y => exact decide_eq_false h.1
theorem c_isN : CmpR X .Is (rOpt R) rNon (fun x _ => x.isNone) := ⟨⟨_, op_isN, fun x y _ v w _ h1 h2 k => ⟨h2, by rw [opt_non h1]; exact k⟩⟩, fun b => nomark b⟩
theorem c_notN : CmpR X .IsNot (rOpt R) rNon (fun x _ => !x.isNone) := ⟨⟨_, op_notN, fun x y _ v w _ h1 h2 k => ⟨h2, by rw [opt_non h1]; exact k⟩⟩, fun b => nomark b⟩
/-! data compared at any depth -/
class Dat (R : Rel α) where
  d : α → PyData
  K : PySem.W.Frag
  rd : ∀ {H : Hp} {v : V} {x : α}, R.r H v x → Dp K H v (d x)
  lay : ∀ x, (d x).canLay0 = true
  n : Nat
  dep : ∀ x, (d x).depth ≤ n
  eq : ∀ x y, PyData.eqv (d x) (d y) = true ↔ x = y
end
end Sg

namespace Sg
open PySem PySem.Spec PyProof.Rows L2

/-! data compared at any depth -/
class DatK (K : PySem.W.Frag) {α : Type} (R : Rel α) where
  d : α → PyData
  rd : ∀ {H : Hp} {v : V} {x : α}, R.r H v x → Dp K H v (d x)
  lay : ∀ x, (d x).canLay0 = true
  n : Nat
  dep : ∀ x, (d x).depth ≤ n
  eq : ∀ x y, PyData.eqv (d x) (d y) = true ↔ x = y
section
variable {K : PySem.W.Frag} {α β : Type} {R : Rel α} {S : Rel β}
instance : DatK K rInt := ⟨PyData.int, fun h => by rw [h]; exact .int _, fun _ => rfl, 0, fun _ => Nat.le_refl _, fun x y => by simp [PyData.eqv]⟩
instance : DatK K rBool := ⟨PyData.bool, fun h => by rw [h]; exact .bl _, fun _ => rfl, 0, fun _ => Nat.le_refl _, fun x y => by simp [PyData.eqv]⟩
theorem dpAll [D : DatK K R] {H : Hp} : ∀ {vs : List V} {xs : List α}, Paired (R.r H) vs xs → DpAll K H vs (xs.map D.d)
  | _, _, .nil => .nil
  | _, _, .cons h t => .cons (D.rd h) (dpAll t)
theorem layAll [D : DatK K R] : ∀ xs : List α, PyData.canLayAll0 (xs.map D.d) = true
  | [] => rfl
  | x :: r => by
    show (PyData.canLay0 (D.d x) && PyData.canLayAll0 (r.map D.d)) = true
    rw [D.lay, layAll r] <;> rfl
theorem depAll [D : DatK K R] : ∀ xs : List α, PyData.depthAll (xs.map D.d) ≤ D.n
  | [] => Nat.zero_le _
  | x :: r => by
    show max (PyData.depth (D.d x)) (PyData.depthAll (r.map D.d)) ≤ D.n
    exact Nat.max_le.mpr ⟨D.dep x, depAll r⟩
theorem eqAll [D : DatK K R] : ∀ xs ys : List α, PyData.eqvAll (xs.map D.d) (ys.map D.d) = true ↔ xs = ys
  | [], [] => by simp [PyData.eqvAll]
  | [], y :: r => by simp [PyData.eqvAll]
  | x :: r, [] => by simp [PyData.eqvAll]
  | x :: r, y :: q => by
    show (PyData.eqv (D.d x) (D.d y) && PyData.eqvAll (r.map D.d) (q.map D.d)) = true ↔ _
    rw [Bool.and_eq_true, D.eq, eqAll r q, List.cons.injEq]
instance [D : DatK K R] : DatK K (rLst R) := ⟨fun xs => .list (xs.map D.d), fun h => by
  obtain ⟨p, vs, h1, h2, h3⟩ := h
  rw [h1]
  exact .lst (.inl h2) (dpAll h3), fun xs => layAll xs, D.n + 1, fun xs => Nat.succ_le_succ (depAll xs), fun x y => eqAll x y⟩
instance [D : DatK K R] : DatK K (rTup R) := ⟨fun xs => .tuple (xs.map D.d), fun h => by
  obtain ⟨p, vs, h1, h2, h3⟩ := h
  rw [h1]
  exact .tup (SqT.of h2) (dpAll h3), fun xs => layAll xs, D.n + 1, fun xs => Nat.succ_le_succ (depAll xs), fun x y => eqAll x y⟩
instance [D : DatK K R] [F : DatK K S] : DatK K (rPr R S) := ⟨fun x => .tuple [D.d x.1, F.d x.2], fun h => by
  obtain ⟨p, a, b, h1, h2, h3, h4⟩ := h
  rw [h1]
  exact .tup (SqT.of h2) (.cons (D.rd h3) (.cons (F.rd h4) .nil)), fun x => by
    show (PyData.canLay0 (D.d x.1) && (PyData.canLay0 (F.d x.2) && true)) = true
    rw [D.lay, F.lay] <;> rfl, max D.n F.n + 1, fun x => by
    show max (PyData.depth (D.d x.1)) (max (PyData.depth (F.d x.2)) 0) + 1 ≤ max D.n F.n + 1
    have := D.dep x.1
    have := F.dep x.2
    omega, fun x y => by
    show (PyData.eqv (D.d x.1) (D.d y.1) && (PyData.eqv (F.d x.2) (F.d y.2) && true)) = true ↔ _
    rw [Bool.and_eq_true, Bool.and_true, D.eq, F.eq]
    exact ⟨fun h => Prod.ext h.1 h.2, fun h => by rw [h]; exact ⟨rfl, rfl⟩⟩⟩
end
/-- data that is never None -/
class NonD (K : PySem.W.Frag) {α : Type} (R : Rel α) [D : DatK K R] : Prop where
  nn : ∀ x, D.d x ≠ .none
section
variable {K : PySem.W.Frag} {α β : Type} {R : Rel α} {S : Rel β}
instance : NonD K rInt := ⟨fun _ h => by cases h⟩
instance [DatK K R] : NonD K (rLst R) := ⟨fun _ h => by cases h⟩
instance [DatK K R] : NonD K (rTup R) := ⟨fun _ h => by cases h⟩
instance [DatK K R] [DatK K S] : NonD K (rPr R S) := ⟨fun _ h => by cases h⟩
theorem eqv_none {d : PyData} (h : d ≠ .none) : PyData.eqv .none d = false ∧ PyData.eqv d .none = false := by
  cases d <;> first | exact absurd rfl h | exact ⟨rfl, rfl⟩
def optD (f : α → PyData) : Option α → PyData
  | none => .none
  | some x => f x
instance [D : DatK K R] [N : NonD K R] : DatK K (rOpt R) := ⟨optD D.d, fun {H v x} h => by
  cases x with
  | none =>
    have h' : v = .non := h
    rw [h']
    exact .non
  | some y => exact D.rd h.2, fun x => by
    cases x with
    | none => rfl
    | some y => exact D.lay y, D.n, fun x => by
    cases x with
    | none => exact Nat.zero_le _
    | some y => exact D.dep y, fun x y => by
    cases x with
    | none =>
      cases y with
      | none => exact ⟨fun _ => rfl, fun _ => rfl⟩
      | some y => exact ⟨fun h => (by rw [show PyData.eqv (optD D.d none) (optD D.d (some y)) = false from (eqv_none (N.nn y)).1] at h; cases h), fun h => (by cases h)⟩
    | some x =>
      cases y with
      | none => exact ⟨fun h => (by rw [show PyData.eqv (optD D.d (some x)) (optD D.d none) = false from (eqv_none (N.nn x)).2] at h; cases h), fun h => (by cases h)⟩
      | some y => exact ⟨fun h => congrArg some ((D.eq x y).mp h), fun h => (D.eq x y).mpr (Option.some.inj h)⟩⟩
end
section
variable {X : Cx} {E : Ent} {own new : Own} {B H B' H' : Hp} {σ : L2.St} {α β γ : Type} {R : Rel α} {S : Rel β} {T : Rel γ} {e a b c : Expr} {x : α} {y : β} {p pos : Pos} {i j : Int} {z w : Bool} {xs : List α}
theorem eqv_dec [DecidableEq α] [D : DatK X.K R] (x y : α) : PyData.eqv (D.d x) (D.d y) = decide (x = y) := by
  rw [Bool.eq_iff_iff, D.eq, decide_eq_true_iff]
theorem dat_sh [D : DatK X.K R] (h : D.n ≤ 64) (x : α) : SeqAt.shaped (D.d x) = true := by
  show (PyData.canLay0 (D.d x) && decide (PyData.depth (D.d x) ≤ 64)) = true
  rw [D.lay, decide_eq_true (Nat.le_trans (D.dep x) h)] <;> rfl
theorem c_eqD [DecidableEq α] [D : DatK X.K R] (hu : X.A.units + 64 < cLine) (h : D.n ≤ 64 := by exact Nat.le_of_ble_eq_true rfl) : CmpR X .Eq R R (fun x y => decide (x = y)) :=
  ⟨⟨_, op_eqD hu, fun x y _ v w _ h1 h2 k => ⟨_, _, D.rd h1, D.rd h2, dat_sh h x, dat_sh h y, by rw [eqv_dec]; exact k⟩⟩, fun b => nomark b⟩
theorem c_neD [DecidableEq α] [D : DatK X.K R] (hu : X.A.units + 64 < cLine) (h : D.n ≤ 64 := by exact Nat.le_of_ble_eq_true rfl) : CmpR X .NotEq R R (fun x y => !decide (x = y)) :=
  ⟨⟨_, op_neD hu, fun x y _ v w _ h1 h2 k => ⟨_, _, D.rd h1, D.rd h2, dat_sh h x, dat_sh h y, by rw [eqv_dec]; exact k⟩⟩, fun b => nomark b⟩

/-! ### tests -/
theorem et_val (ha : EvB X E own B H σ a rBool z) (he : ∀ whole, isTrue a X.env whole = (do let v ← whole; standAt a.pos; holding [v] (truthy v)) := by intro _; rfl) : EvT X E own B H σ a z := fun B1 H1 S1 e1 e2 Q k =>
  WT.of (pt_val peW he) (ha B1 H1 S1 e1 e2 _ fun v B2 H2 S2 e3 e4 r => ⟨z, r, k B2 H2 S2 e3 e4⟩)
theorem et_not (ha : EvT X E own B H σ a z) : EvT X E own B H σ (.UnaryOp .Not a pos) (!z) := fun B1 H1 S1 e1 e2 Q k =>
  WT.of (pt_not ptW) (ha B1 H1 S1 e1 e2 _ fun B2 H2 S2 e3 e4 => k B2 H2 S2 e3 e4)
def WW (X : Cx) (e : Expr) : TT := fun σ H Q => ∀ (whole : Sem Value) (pins : List (Addr × Obj)) (s : Shared), Inv X pins σ H s → wpAny (model X.prog X.w) X.A (isTrue e X.env whole) (TP X pins σ Q) X.xe s
theorem pwW : PW X e (WW X e) := ⟨fun wh pins s _ _ _ I h => h wh pins s I⟩
theorem WW.of {t : TT} {Q : Bool → Hp → Prop} (h : PW X e t) (q : t σ H Q) : WW X e σ H Q := fun wh pins s I => h.run wh pins s σ H Q I q
/-- a chain of and, or -/
def EvW (X : Cx) (E : Ent) (own : Own) (B H : Hp) (σ : L2.St) (e : Expr) (b : Bool) : Prop := ∀ B1 H1, Stt E own B1 H1 → Ex B B1 → Ex H H1 → ∀ Q : Bool → Hp → Prop,
  (∀ B2 H2, Stt E own B2 H2 → Ex B1 B2 → Ex H1 H2 → Q b H2) → WW X e σ H1 Q
theorem EvW.t (h : EvW X E own B H σ e z) : EvT X E own B H σ e z := fun B1 H1 S1 e1 e2 Q k => WT.of pwW.pt (h B1 H1 S1 e1 e2 Q k)
theorem ew_and1 (ha : EvT X E own B H σ a z) : EvW X E own B H σ (.BoolOp .And [a] pos) z := fun B1 H1 S1 e1 e2 Q k => WW.of (pw_and1 ptW) (ha B1 H1 S1 e1 e2 Q k)
theorem ew_or1 (ha : EvT X E own B H σ a z) : EvW X E own B H σ (.BoolOp .Or [a] pos) z := fun B1 H1 S1 e1 e2 Q k => WW.of (pw_or1 ptW) (ha B1 H1 S1 e1 e2 Q k)
variable {es : List Expr}
/-- the right part is asked only where the left one is true: w is the whole's truth -/
theorem ew_and (ha : EvT X E own B H σ a z) (hb : z = true → EvW X E own B H σ (.BoolOp .And (b :: es) pos) w) (hn : z = false → w = false) : EvW X E own B H σ (.BoolOp .And (a :: b :: es) pos) w := fun B1 H1 S1 e1 e2 Q k =>
  WW.of (pw_and ptW pwW) (ha B1 H1 S1 e1 e2 _ fun B2 H2 S2 e3 e4 => by
    cases z with
    | true => exact hb rfl B2 H2 S2 (e1.trans e3) (e2.trans e4) Q fun B3 H3 S3 e5 e6 => k B3 H3 S3 (e3.trans e5) (e4.trans e6)
    | false =>
      have hw := hn rfl
      subst hw
      exact k B2 H2 S2 e3 e4)
theorem ew_or (ha : EvT X E own B H σ a z) (hb : z = false → EvW X E own B H σ (.BoolOp .Or (b :: es) pos) w) (hn : z = true → w = true) : EvW X E own B H σ (.BoolOp .Or (a :: b :: es) pos) w := fun B1 H1 S1 e1 e2 Q k =>
  WW.of (pw_or ptW pwW) (ha B1 H1 S1 e1 e2 _ fun B2 H2 S2 e3 e4 => by
    cases z with
    | false => exact hb rfl B2 H2 S2 (e1.trans e3) (e2.trans e4) Q fun B3 H3 S3 e5 e6 => k B3 H3 S3 (e3.trans e5) (e4.trans e6)
    | true =>
      have hw := hn rfl
      subst hw
      exact k B2 H2 S2 e3 e4)
/-- total parts -/
theorem ew_and' (ha : EvT X E own B H σ a z) (hb : z = true → EvW X E own B H σ (.BoolOp .And (b :: es) pos) w) : EvW X E own B H σ (.BoolOp .And (a :: b :: es) pos) (z && w) :=
  ew_and ha (fun h => by rw [h]; exact hb h) fun h => by rw [h]; rfl
theorem ew_or' (ha : EvT X E own B H σ a z) (hb : z = false → EvW X E own B H σ (.BoolOp .Or (b :: es) pos) w) : EvW X E own B H σ (.BoolOp .Or (a :: b :: es) pos) (z || w) :=
  ew_or ha (fun h => by rw [h]; exact hb h) fun h => by rw [h]; rfl
/-! .. as values -/
theorem ev_one {op} (ha : EvB X E own B H σ a R x) : EvB X E own B H σ (.BoolOp op [a] pos) R x := fun B1 H1 S1 e1 e2 Q k => WE.of (pe_one peW) (ha B1 H1 S1 e1 e2 Q k)
theorem ev_and (ha : EvB X E own B H σ a rBool z) (hb : z = true → EvB X E own B H σ (.BoolOp .And (b :: es) pos) rBool w) (hn : z = false → w = false) : EvB X E own B H σ (.BoolOp .And (a :: b :: es) pos) rBool w := fun B1 H1 S1 e1 e2 Q k =>
  WE.of (pe_and peW peW) (ha B1 H1 S1 e1 e2 _ fun v B2 H2 S2 e3 e4 r => ⟨z, r, by
    cases z with
    | true => exact hb rfl B2 H2 S2 (e1.trans e3) (e2.trans e4) Q fun v B3 H3 S3 e5 e6 => k v B3 H3 S3 (e3.trans e5) (e4.trans e6)
    | false => exact k _ B2 H2 S2 e3 e4 (by rw [hn rfl]; rfl)⟩)
theorem ev_or (ha : EvB X E own B H σ a rBool z) (hb : z = false → EvB X E own B H σ (.BoolOp .Or (b :: es) pos) rBool w) (hn : z = true → w = true) : EvB X E own B H σ (.BoolOp .Or (a :: b :: es) pos) rBool w := fun B1 H1 S1 e1 e2 Q k =>
  WE.of (pe_or peW peW) (ha B1 H1 S1 e1 e2 _ fun v B2 H2 S2 e3 e4 r => ⟨z, r, by
    cases z with
    | false => exact hb rfl B2 H2 S2 (e1.trans e3) (e2.trans e4) Q fun v B3 H3 S3 e5 e6 => k v B3 H3 S3 (e3.trans e5) (e4.trans e6)
    | true => exact k _ B2 H2 S2 e3 e4 (by rw [hn rfl]; rfl)⟩)
theorem ev_and' (ha : EvB X E own B H σ a rBool z) (hb : z = true → EvB X E own B H σ (.BoolOp .And (b :: es) pos) rBool w) : EvB X E own B H σ (.BoolOp .And (a :: b :: es) pos) rBool (z && w) :=
  ev_and ha (fun h => by rw [h]; exact hb h) fun h => by rw [h]; rfl
theorem ev_or' (ha : EvB X E own B H σ a rBool z) (hb : z = false → EvB X E own B H σ (.BoolOp .Or (b :: es) pos) rBool w) : EvB X E own B H σ (.BoolOp .Or (a :: b :: es) pos) rBool (z || w) :=
  ev_or ha (fun h => by rw [h]; exact hb h) fun h => by rw [h]; rfl
theorem ev_not (ha : EvB X E own B H σ a rBool z) : EvB X E own B H σ (.UnaryOp .Not a pos) rBool (!z) := fun B1 H1 S1 e1 e2 Q k =>
  WE.of (pe_not peW) (ha B1 H1 S1 e1 e2 _ fun v B2 H2 S2 e3 e4 r => ⟨z, r, k _ B2 H2 S2 e3 e4 rfl⟩)
/-! ### calls of built-ins -/
/-- f(a), f told by its rule -/
theorem ev_b1 {f : α → γ} {r : List V → Hp → VK → Prop} (hp : PE X e (tCB r (tCons (WE X a) tNil))) (ha : EvB X E own B H σ a R x)
    (hr : ∀ H1 v (Q : VK), R.r H1 v x → (∀ u, T.r H1 u (f x) → Q u H1) → r [v] H1 Q) : EvB X E own B H σ e T (f x) := fun B1 H1 S1 e1 e2 Q k =>
  WE.of hp (ha B1 H1 S1 e1 e2 _ fun v B2 H2 S2 e3 e4 r => hr H2 v Q r fun u t => k u B2 H2 S2 e3 e4 t)
/-- f(a) that lays a new list -/
theorem el_b1 {ys : List γ} {r : List V → Hp → VK → Prop} (hp : PE X e (tCB r (tCons (WE X a) tNil))) (ha : EvB X E own B H σ a R x)
    (hr : ∀ H1 v (Q : VK), R.r H1 v x → (∀ p us, H1 p = none → Paired (T.r H1) us ys → Q (.ref p) (upd H1 p (.lst us))) → r [v] H1 Q) [Imm T] : EvL X E own B H σ e T ys := fun B1 H1 S1 e1 e2 Q k =>
  WE.of hp (ha B1 H1 S1 e1 e2 _ fun v B2 H2 S2 e3 e4 r => hr H2 v Q r fun p us np t => k p us B2 _ (S2.alloc np (fun ys z => by cases z)) e3 (e4.trans (Sx.new np).ex) (pimp t fun _ _ q => Imm.imm S2.tu q))
theorem ints_rel {H1 : Hp} : ∀ {vs : List V} {ns : List Int}, Paired (rInt.r H1) vs ns → vs = ns.map V.int
  | _, _, .nil => rfl
  | _, _, .cons h t => by rw [List.map_cons, ← ints_rel t, show _ = _ from h]
theorem ints_rel' {H1 : Hp} : ∀ ns : List Int, Paired (rInt.r H1) (ns.map V.int) ns
  | [] => .nil
  | n :: r => .cons rfl (ints_rel' r)
theorem bls_rel {H1 : Hp} : ∀ {vs : List V} {ns : List Bool}, Paired (rBool.r H1) vs ns → vs = ns.map V.bl
  | _, _, .nil => rfl
  | _, _, .cons h t => by rw [List.map_cons, ← bls_rel t, show _ = _ from h]
theorem plen {β' : Type} {F : α → β' → Prop} {l₁ : List α} {l₂ : List β'} (h : Paired F l₁ l₂) : l₁.length = l₂.length := Paired.length h
section
variable {k1 : X.mg "len" = none} {he : starEach (a :: []) X.env = (false, eval a X.env) :: starEach [] X.env}
abbrev St1 (X : Cx) (a : Expr) : Prop := starEach (a :: []) X.env = (false, eval a X.env) :: starEach [] X.env
theorem pa1 (hs : St1 X a) : PA X [a] (tCons (WE X a) tNil) := pa_cons peW pa_nil hs
theorem ev_lenL (hg : Gl X "len") (hm : X.mg "len" = none) (ha : EvB X E own B H σ a (rLst R) xs) (hs : St1 X a := by rfl) : EvB X E own B H σ (.Call (.Name "len" p) [a] [] pos) rInt (xs.length : Int) :=
  ev_b1 (f := fun l : List α => (l.length : Int)) (pe_callB call_len_seq hg hm PySem.boot_len (pa1 hs) (he := hs)) ha fun H1 v Q h k => by
    obtain ⟨p, vs, h1, h2, h3⟩ := h
    exact ⟨p, vs, by rw [h1], .inl (.inl h2), k _ (by rw [plen h3]; rfl)⟩
theorem ev_lenT (hg : Gl X "len") (hm : X.mg "len" = none) (ha : EvB X E own B H σ a (rTup R) xs) (hs : St1 X a := by rfl) : EvB X E own B H σ (.Call (.Name "len" p) [a] [] pos) rInt (xs.length : Int) :=
  ev_b1 (f := fun l : List α => (l.length : Int)) (pe_callB call_len_seq hg hm PySem.boot_len (pa1 hs) (he := hs)) ha fun H1 v Q h k => by
    obtain ⟨p, vs, h1, h2, h3⟩ := h
    exact ⟨p, vs, by rw [h1], .inr (SqT.of h2), k _ (by rw [plen h3]; rfl)⟩
/-- list(xs) -/
theorem el_listL [Imm R] (hg : Gl X "list") (hm : X.mg "list" = none) (ha : EvB X E own B H σ a (rLst R) xs) (hs : St1 X a := by rfl) : EvL X E own B H σ (.Call (.Name "list" p) [a] [] pos) R xs :=
  el_b1 (pe_callTy call_list_of hg hm (by decide +kernel) (pa1 hs) (he := hs)) ha fun H1 v Q h k => by
    obtain ⟨p, vs, h1, h2, h3⟩ := h
    exact ⟨p, vs, by rw [h1], .inl (.inl h2), fun l hl => k l vs hl h3⟩
theorem el_listT [Imm R] (hg : Gl X "list") (hm : X.mg "list" = none) (ha : EvB X E own B H σ a (rTup R) xs) (hs : St1 X a := by rfl) : EvL X E own B H σ (.Call (.Name "list" p) [a] [] pos) R xs :=
  el_b1 (pe_callTy call_list_of hg hm (by decide +kernel) (pa1 hs) (he := hs)) ha fun H1 v Q h k => by
    obtain ⟨p, vs, h1, h2, h3⟩ := h
    exact ⟨p, vs, by rw [h1], .inr (SqT.of h2), fun l hl => k l vs hl h3⟩
/-- tuple(xs) -/
theorem ee_tuple [Imm R] (hg : Gl X "tuple") (hm : X.mg "tuple" = none) (ha : EvB X E own B H σ a (rLst R) xs) (hs : St1 X a := by rfl) : EvE X E own B H σ (.Call (.Name "tuple" p) [a] [] pos) (rTup R) xs := fun B1 H1 S1 e1 e2 Q k =>
  WE.of (pe_callTy call_tuple_of hg hm (by decide +kernel) (pa1 hs) (he := hs)) (ha B1 H1 S1 e1 e2 _ fun v B2 H2 S2 e3 e4 r => by
    obtain ⟨p, vs, h1, h2, h3⟩ := r
    refine ⟨p, vs, by rw [h1], .inl ⟨.inl h2, fun l hl => ?_⟩⟩
    exact k (.ref l) _ _ (S2.lay hl) (e3.trans (S2.layB hl).ex) (e4.trans (Sx.new hl).ex) ⟨l, vs, rfl, upd_same, pimp h3 fun _ _ q => R.mono (S2.layB hl).ex (Imm.imm S2.tu q)⟩)
theorem ev_sum {ns : List Int} (hc : X.calm = true) (hg : Gl X "sum") (hm : X.mg "sum" = none) (ha : EvB X E own B H σ a (rLst rInt) ns) (hs : St1 X a := by rfl) : EvB X E own B H σ (.Call (.Name "sum" p) [a] [] pos) rInt ns.sum :=
  ev_b1 (f := List.sum) (pe_callB (cr_sum hc) hg hm (by decide +kernel) (pa1 hs) (he := hs)) ha fun H1 v Q h k => by
    obtain ⟨p, vs, h1, h2, h3⟩ := h
    rw [ints_rel h3] at h2
    exact ⟨p, _, by rw [h1], .inl h2, k _ rfl⟩
theorem ev_all {bs : List Bool} (hc : X.calm = true) (hg : Gl X "all") (hm : X.mg "all" = none) (ha : EvB X E own B H σ a (rLst rBool) bs) (hs : St1 X a := by rfl) : EvB X E own B H σ (.Call (.Name "all" p) [a] [] pos) rBool (bs.all id) :=
  ev_b1 (f := fun l => List.all l id) (pe_callB (cr_all hc) hg hm (by decide +kernel) (pa1 hs) (he := hs)) ha fun H1 v Q h k => by
    obtain ⟨p, vs, h1, h2, h3⟩ := h
    rw [bls_rel h3] at h2
    exact ⟨p, _, by rw [h1], .inl h2, k _ rfl⟩
theorem ev_any {bs : List Bool} (hc : X.calm = true) (hg : Gl X "any") (hm : X.mg "any" = none) (ha : EvB X E own B H σ a (rLst rBool) bs) (hs : St1 X a := by rfl) : EvB X E own B H σ (.Call (.Name "any" p) [a] [] pos) rBool (bs.any id) :=
  ev_b1 (f := fun l => List.any l id) (pe_callB (cr_any hc) hg hm (by decide +kernel) (pa1 hs) (he := hs)) ha fun H1 v Q h k => by
    obtain ⟨p, vs, h1, h2, h3⟩ := h
    rw [bls_rel h3] at h2
    exact ⟨p, _, by rw [h1], .inl h2, k _ rfl⟩
/-- in order -/
def sortI (ns : List Int) : List Int := ns.mergeSort (fun a b => decide (a ≤ b))
theorem sortI_perm (ns : List Int) : (sortI ns).Perm ns := List.mergeSort_perm ns _
theorem sortI_sorted (ns : List Int) : (sortI ns).Pairwise (· ≤ ·) := by
  have h := List.pairwise_mergeSort (le := fun a b : Int => decide (a ≤ b)) (fun a b c h1 h2 => by simp at *; omega) (fun a b => by simp; omega) ns
  exact h.imp fun h => of_decide_eq_true h
theorem sortI_unique {ns ms : List Int} (h : ms.Perm ns) (hs : ms.Pairwise (· ≤ ·)) : ms = sortI ns :=
  List.Perm.eq_of_pairwise (le := (· ≤ ·)) (fun a b _ _ h1 h2 => Int.le_antisymm h1 h2) hs (sortI_sorted ns) (h.trans (sortI_perm ns).symm)
theorem el_sortI {ns : List Int} (hg : Gl X "sorted") (hm : X.mg "sorted" = none) (ha : EvB X E own B H σ a (rLst rInt) ns) (hs : St1 X a := by rfl) : EvL X E own B H σ (.Call (.Name "sorted" p) [a] [] pos) rInt (sortI ns) :=
  el_b1 (pe_callB cr_sortedI hg hm (by decide +kernel) (pa1 hs) (he := hs)) ha fun H1 v Q h k => by
    obtain ⟨p, vs, h1, h2, h3⟩ := h
    rw [ints_rel h3] at h2
    refine ⟨p, _, by rw [h1], .inl h2, fun ns' l hp ho hl => ?_⟩
    rw [sortI_unique hp ho]
    exact k l _ hl (ints_rel' _)
end
end
end Sg

namespace Sg
open PySem PySem.Spec PyProof.Rows L2

/-! ### folds that may stop -/
def sel {α β : Type} {γ : Sort _} (f : α → γ) (g : β → γ) : α ⊕ β → γ
  | .inl u => f u
  | .inr a => g a
def forR {α τ ρ : Type} (step : τ → α → Res (ρ ⊕ τ)) : List α → τ → Res (ρ ⊕ τ)
  | [], a => .ok (.inr a)
  | x :: r, a => (step a x).bind (sel (fun y => .ok (.inl y)) (fun a' => forR step r a'))
def forM {α τ : Type} (step : τ → α → Res τ) : List α → τ → Res τ
  | [], a => .ok a
  | x :: r, a => (step a x).bind fun a' => forM step r a'
def whileR {τ ρ : Type} (step : τ → Res (ρ ⊕ τ)) : Nat → τ → Res ρ
  | 0, _ => .stuck
  | n + 1, a => (step a).bind (sel (fun y => .ok y) (fun a' => whileR step n a'))
/-- what a partial thing gives -/
theorem Fin.of {α β : Type} {P : β → Prop} {Er : Err → Prop} {o : Option α} {f : α → Res β} (h : Fin P Er ((Res.of o).bind f)) : ∃ x, o = some x ∧ Fin P Er (f x) := by
  cases o with
  | none => exact h.elim
  | some x => exact ⟨x, rfl, h⟩
abbrev NoErr : Err → Prop := fun _ => False
/-- what a call gives where nothing is raised -/
theorem Fin.get {α β : Type} {P : β → Prop} {m : Res α} {f : α → Res β} (h : Fin P NoErr (m.bind f)) : ∃ x, m = .ok x ∧ Fin P NoErr (f x) := by
  cases m with
  | ok x => exact ⟨x, rfl, h⟩
  | err e => exact h.elim
  | stuck => exact h.elim
theorem Fin.get0 {β : Type} {P : β → Prop} {m : Res β} (h : Fin P NoErr m) : ∃ x, m = .ok x ∧ P x := by
  cases m with
  | ok x => exact ⟨x, rfl, h⟩
  | err e => exact h.elim
  | stuck => exact h.elim
theorem Fin.tt {β : Type} {P : β → Prop} {Er : Err → Prop} {b : Bool} {m1 m2 : Res β} (h : Fin P Er (if b = true then m1 else m2)) (hb : b = true) : Fin P Er m1 := by
  rw [if_pos hb] at h
  exact h
theorem Fin.ff {β : Type} {P : β → Prop} {Er : Err → Prop} {b : Bool} {m1 m2 : Res β} (h : Fin P Er (if b = true then m1 else m2)) (hb : b = false) : Fin P Er m2 := by
  rw [if_neg (by rw [hb]; exact Bool.false_ne_true)] at h
  exact h
theorem Fin.eq {α : Type} {P : α → Prop} {Er : Err → Prop} {m : Res α} {x : α} (e : m = .ok x) (h : P x) : Fin P Er m := by
  rw [e]
  exact h
theorem Res.bind_ok {α β : Type} {m : Res α} {f : α → Res β} {y : β} (h : m.bind f = .ok y) : ∃ x, m = .ok x ∧ f x = .ok y := by
  cases m with
  | ok x => exact ⟨x, rfl, h⟩
  | err e => cases h
  | stuck => cases h
theorem Res.of_ok {α β : Type} {o : Option α} {f : α → Res β} {y : β} (h : (Res.of o).bind f = .ok y) : ∃ x, o = some x ∧ f x = .ok y := by
  cases o with
  | none => cases h
  | some x => exact ⟨x, rfl, h⟩
theorem Res.need_ok {α : Type} {c : Prop} [Decidable c] {m : Res α} {y : α} (h : Res.need c m = .ok y) : c ∧ m = .ok y := by
  unfold Res.need at h
  by_cases hc : c
  · rw [if_pos hc] at h
    exact ⟨hc, h⟩
  · rw [if_neg hc] at h
    cases h
theorem Res.ok_inj {α : Type} {x y : α} (h : Res.ok x = Res.ok y) : x = y := by
  cases h
  rfl
theorem Res.tt_ok {β : Type} {b : Bool} {m1 m2 : Res β} {y : β} (h : (if b = true then m1 else m2) = .ok y) (hb : b = true) : m1 = .ok y := by
  rw [if_pos hb] at h
  exact h
theorem Res.ff_ok {β : Type} {b : Bool} {m1 m2 : Res β} {y : β} (h : (if b = true then m1 else m2) = .ok y) (hb : b = false) : m2 = .ok y := by
  rw [if_neg (by rw [hb]; exact Bool.false_ne_true)] at h
  exact h

/-! ### what a def hands back -/
abbrev Kind (ρ : Type) := Ent → VK → ρ → Prop
def kE {ρ : Type} (R : Rel ρ) : Kind ρ := fun E Q x => ∀ v B H, Stt E [] B H → R.r B v x → Q v H
def kL {ρ : Type} (R : Rel ρ) : Kind (List ρ) := fun E Q xs => ∀ p vs B H, Stt E [(p, .lst vs)] B H → Paired (R.r B) vs xs → Q (.ref p) H

structure Slot (X : Cx) (i : Nat) (n : Str) : Prop where
  ix : X.N[i]? = some n
  loc : Loc X.env.scope n
  hf : X.fn n = true ∨ X.env.scope.names.lookup n = some .local
/-- the context of a body -/
structure Cok (X : Cx) (k : Nat) : Prop where
  calm : X.calm = true
  nd : X.N.Nodup
  room : Room k X.A
  own : PassesOwn (model X.prog X.w) X.A X.env X.xe
section
variable {X : Cx} {E : Ent} {own new own' : Own} {B H B' H' : Hp} {σ : L2.St} {α β γ τ ρ ρ' : Type} {R : Rel α} {S : Rel β} {T : Rel γ} {e a b c it : Expr} {x : α} {y : β} {p pos pos' : Pos} {i j k : Nat} {z w : Bool} {xs : List α}
variable {n m : Str} {rest body other : List Stmt} {D : Ends} {P : ρ → Prop} {Er : Err → Prop}
theorem WSs.nil (h : D.nx σ H) : WSs X [] D σ H := WSs.of pss_nil h
/-! assignments -/
theorem s_asg (C : Cok X k) (L : Slot X i n) (S0 : Stt E own B H) (he : EvE X E own B H σ e R x)
    (q : ∀ v B' H', Stt E own B' H' → Ex B B' → R.r B' v x → WSs X rest D (σ.set i (some v)) H') (hs : swapsWith e (some (.Name n pos')) pos.line X.env = pure false := by rfl) :
    WSs X (.Assign [.Name n pos'] e pos :: rest) D σ H :=
  WSs.cons (ps_set C.nd L.ix L.loc peW hs L.hf) (he B H S0 (Ex.refl _) (Ex.refl _) _ fun v B2 H2 S2 e1 _ r => q v B2 H2 S2 e1 r)
theorem s_asgI {x : Int} (C : Cok X k) (L : Slot X i n) (S0 : Stt E own B H) (he : EvB X E own B H σ e rInt x)
    (q : ∀ B' H', Stt E own B' H' → Ex B B' → WSs X rest D (σ.set i (some (.int x))) H') (hs : swapsWith e (some (.Name n pos')) pos.line X.env = pure false := by rfl) :
    WSs X (.Assign [.Name n pos'] e pos :: rest) D σ H :=
  s_asg C L S0 he.toE (fun v B' H' S' e1 r => by rw [show v = .int x from r]; exact q B' H' S' e1) hs
theorem s_asgB {x : Bool} (C : Cok X k) (L : Slot X i n) (S0 : Stt E own B H) (he : EvB X E own B H σ e rBool x)
    (q : ∀ B' H', Stt E own B' H' → Ex B B' → WSs X rest D (σ.set i (some (.bl x))) H') (hs : swapsWith e (some (.Name n pos')) pos.line X.env = pure false := by rfl) :
    WSs X (.Assign [.Name n pos'] e pos :: rest) D σ H :=
  s_asg C L S0 he.toE (fun v B' H' S' e1 r => by rw [show v = .bl x from r]; exact q B' H' S' e1) hs
theorem s_asgS {x : Str} (C : Cok X k) (L : Slot X i n) (S0 : Stt E own B H) (he : EvB X E own B H σ e rStr x)
    (q : ∀ B' H', Stt E own B' H' → Ex B B' → WSs X rest D (σ.set i (some (.str x))) H') (hs : swapsWith e (some (.Name n pos')) pos.line X.env = pure false := by rfl) :
    WSs X (.Assign [.Name n pos'] e pos :: rest) D σ H :=
  s_asg C L S0 he.toE (fun v B' H' S' e1 r => by rw [show v = .str x from r]; exact q B' H' S' e1) hs
/-- a name holds a new list of one's own -/
theorem s_asgL (C : Cok X k) (L : Slot X i n) (S0 : Stt E own B H) (he : EvL X E own B H σ e R xs)
    (q : ∀ p vs B' H', Stt E ((p, .lst vs) :: own) B' H' → Ex B B' → Paired (R.r B') vs xs → WSs X rest D (σ.set i (some (.ref p))) H') (hs : swapsWith e (some (.Name n pos')) pos.line X.env = pure false := by rfl) :
    WSs X (.Assign [.Name n pos'] e pos :: rest) D σ H :=
  WSs.cons (ps_set C.nd L.ix L.loc peW hs L.hf) (he B H S0 (Ex.refl _) (Ex.refl _) _ fun p vs B2 H2 S2 e1 _ r => q p vs B2 H2 S2 e1 r)
/-- x = [], x = [a, b] -/
theorem el_nil : EvL X E own B H σ (.List [] pos) R [] := fun B1 H1 S1 e1 e2 Q k =>
  WE.of (pe_lst pa_nil) ⟨Nat.zero_le _, fun p hp => k p [] B1 _ (S1.alloc hp fun ys q => by cases q) (Ex.refl _) (Sx.new hp).ex .nil⟩
/-! written lists and tuples -/
def EvA (X : Cx) (E : Ent) (own : Own) (B H : Hp) (σ : L2.St) (es : List Expr) (R : Rel α) (xs : List α) : Prop := ∀ B1 H1, Stt E own B1 H1 → Ex B B1 → Ex H H1 → ∀ Q : List V → Hp → Prop,
  (∀ vs B2 H2, Stt E own B2 H2 → Ex B1 B2 → Ex H1 H2 → Paired (R.r B2) vs xs → Q vs H2) → WA X es σ H1 Q
theorem ea_nil : EvA X E own B H σ [] R [] := fun B1 H1 S1 e1 e2 Q k => WA.of pa_nil (k [] B1 H1 S1 (Ex.refl _) (Ex.refl _) .nil)
theorem ea_cons {es : List Expr} (he : EvE X E own B H σ e R x) (hr : EvA X E own B H σ es R xs) (hs : starEach (e :: es) X.env = (false, eval e X.env) :: starEach es X.env := by rfl) : EvA X E own B H σ (e :: es) R (x :: xs) := fun B1 H1 S1 e1 e2 Q k =>
  WA.of (pa_cons peW paW hs) (he B1 H1 S1 e1 e2 _ fun v B2 H2 S2 e3 e4 r => hr B2 H2 S2 (e1.trans e3) (e2.trans e4) _ fun vs B3 H3 S3 e5 e6 q => k (v :: vs) B3 H3 S3 (e3.trans e5) (e4.trans e6) (.cons (R.mono e5 r) q))
theorem el_lst {es : List Expr} (ha : EvA X E own B H σ es R xs) (hz : xs.length ≤ sizeLine := by exact Nat.le_of_ble_eq_true rfl) : EvL X E own B H σ (.List es pos) R xs := fun B1 H1 S1 e1 e2 Q k =>
  WE.of (pe_lst paW) (ha B1 H1 S1 e1 e2 _ fun vs B2 H2 S2 e3 e4 r => ⟨by rw [plen r]; exact hz, fun p hp => k p vs B2 _ (S2.alloc hp fun ys q => by cases q) e3 (e4.trans (Sx.new hp).ex) r⟩)
theorem ee_tup {es : List Expr} {x1} (ha : EvA X E own B H σ es R xs) (hz : xs.length ≤ sizeLine := by exact Nat.le_of_ble_eq_true rfl) : EvE X E own B H σ (.Tuple es x1 pos) (rTup R) xs := fun B1 H1 S1 e1 e2 Q k =>
  WE.of (pe_tup paW) (ha B1 H1 S1 e1 e2 _ fun vs B2 H2 S2 e3 e4 r => ⟨by rw [plen r]; exact hz, fun p hp => k (.ref p) _ _ (S2.lay hp) (e3.trans (S2.layB hp).ex) (e4.trans (Sx.new hp).ex) ⟨p, vs, rfl, upd_same, pimp r fun _ _ q => R.mono (S2.layB hp).ex q⟩⟩)
theorem ee_pr {x1} (ha : EvE X E own B H σ a R x) (hb : EvE X E own B H σ b S y) (hs1 : starEach (a :: [b]) X.env = (false, eval a X.env) :: starEach [b] X.env := by rfl) (hs2 : St1 X b := by rfl) : EvE X E own B H σ (.Tuple [a, b] x1 pos) (rPr R S) (x, y) := fun B1 H1 S1 e1 e2 Q k =>
  WE.of (pe_tup (pa_cons peW (pa_cons peW pa_nil hs2) hs1)) (ha B1 H1 S1 e1 e2 _ fun v B2 H2 S2 e3 e4 r => hb B2 H2 S2 (e1.trans e3) (e2.trans e4) _ fun w B3 H3 S3 e5 e6 s =>
    ⟨by show 2 ≤ sizeLine; decide, fun p hp => k (.ref p) _ _ (S3.lay hp) ((e3.trans e5).trans (S3.layB hp).ex) ((e4.trans e6).trans (Sx.new hp).ex) ⟨p, v, w, rfl, upd_same, R.mono (e5.trans (S3.layB hp).ex) r, S.mono (S3.layB hp).ex s⟩⟩)
/-! expressions as statements -/
theorem s_drop (S0 : Stt E own B H) (he : EvB X E own B H σ e R x) (q : ∀ B' H', Stt E own B' H' → Ex B B' → WSs X rest D σ H') (hs : swapsWith e none pos.line X.env = pure false := by rfl) : WSs X (.Expr e pos :: rest) D σ H :=
  WSs.cons (ps_expr peW hs) (he B H S0 (Ex.refl _) (Ex.refl _) _ fun v B2 H2 S2 e1 _ _ => q B2 H2 S2 e1)
/-! owned things at their places -/
theorem set_mem {own : Own} {p : Addr} {o o' : HO} : ∀ {k : Nat} {q : Addr × HO}, own[k]? = some (p, o) → q ∈ own.set k (p, o') → q = (p, o') ∨ (q ∈ own) := by
  intro k q h hq
  rcases List.mem_or_eq_of_mem_set hq with h | h
  · exact .inr h
  · exact .inl h
theorem set_fst {own : Own} {p : Addr} {o o' : HO} {k : Nat} (h : own[k]? = some (p, o)) : (own.set k (p, o')).map (·.1) = own.map (·.1) := by
  rw [List.map_set]
  apply List.ext_getElem?
  intro j
  rw [List.getElem?_set]
  by_cases hj : k = j
  · subst hj
    rw [if_pos rfl, List.getElem?_map, h]
    have : k < (own.map (·.1)).length := by
      rw [List.length_map]
      exact (List.getElem?_eq_some_iff.mp h).1
    rw [if_pos this] <;> rfl
  · rw [if_neg hj]
theorem Stt.put {p : Addr} {o o' : HO} (S : Stt E own B H) (hk : own[k]? = some (p, o)) (nt : ∀ ys, o' ≠ .tup ys) : Stt E (own.set k (p, o')) B (upd H p o') := by
  have hm : (p, o) ∈ own := List.mem_of_getElem? hk
  obtain ⟨o1, o2, o3⟩ := S.ow _ hm
  refine ⟨S.b0, fun a u e => ?_, fun a u e => ?_, fun a ys e => ?_, S.fr, fun q hq => ?_, by rw [set_fst hk]; exact S.nd⟩
  · rw [upd_ne fun z => by
      subst z
      have o1' : E.H0 a = Option.none := o1
      rw [o1'] at e
      cases e]
    exact S.h0 a u e
  · rw [upd_ne fun z => by
      subst z
      have o2' : B a = Option.none := o2
      rw [o2'] at e
      cases e]
    exact S.bh a u e
  · by_cases ha : a = p
    · subst ha
      rw [upd_same] at e
      exact absurd (Option.some.inj e) (nt ys)
    · rw [upd_ne ha] at e
      exact S.tu a ys e
  · by_cases hq1 : q.1 = p
    · -- it is the one that was written
      obtain ⟨j, hj, ej⟩ := List.getElem_of_mem hq
      rw [List.getElem_set] at ej
      by_cases hkj : k = j
      · rw [if_pos hkj] at ej
        subst ej
        exact ⟨o1, o2, upd_same⟩
      · rw [if_neg hkj] at ej
        exfalso
        have hlen : j < own.length := by rwa [List.length_set] at hj
        have hk' := List.getElem?_eq_some_iff.mp hk
        obtain ⟨hk1, hk2⟩ := hk'
        have nd := S.nd
        have e1 : (own.map (·.1))[k]'(by rw [List.length_map]; exact hk1) = (own.map (·.1))[j]'(by rw [List.length_map]; exact hlen) := by
          rw [List.getElem_map, List.getElem_map, hk2, ej, hq1]
        exact hkj ((List.getElem_inj nd).mp e1)
    · have hq' : q ∈ own := by
        rcases List.mem_or_eq_of_mem_set hq with h | h
        · exact h
        · rw [h] at hq1
          exact absurd rfl hq1
      obtain ⟨h1, h2, h3⟩ := S.ow q hq'
      refine ⟨h1, h2, ?_⟩
      rw [upd_ne hq1]
      exact h3
theorem psnoc {α β : Type} {F : α → β → Prop} {l₁ : List α} {l₂ : List β} {u : α} {w : β} (h : Paired F l₁ l₂) (q : F u w) : Paired F (l₁ ++ [u]) (l₂ ++ [w]) := Paired.snoc h q
theorem pappend {α β : Type} {F : α → β → Prop} : ∀ {l₁ m₁ : List α} {l₂ m₂ : List β}, Paired F l₁ l₂ → Paired F m₁ m₂ → Paired F (l₁ ++ m₁) (l₂ ++ m₂)
  | _, _, _, _, .nil, s => s
  | _, _, _, _, .cons h t, s => .cons h (pappend t s)
/-- xs.append(e) of an owned list -/
abbrev BmT (X : Cx) (a : Expr) (m : Str) (apos : Pos) (es : List Expr) (e : Expr) (cpos : Pos) : Prop := (attributeBase a m X.env (eval a X.env) = eval a X.env) ∧ (((backTo cpos (starEach (e :: es) X.env)).all (fun x => !x.1) && (backToKw cpos (keywordEach [] X.env)).all (fun x => x.1.isSome)
      && decide ((e :: es).length + ([] : List Keyword).length + (if ([] : List Keyword).isEmpty then 0 else 1) < 30)) = true) ∧ ((apos.endLine == cpos.line) = true) ∧ (starEach (e :: es) X.env = (false, eval e X.env) :: starEach es X.env) ∧ ((backTo cpos (starEach es X.env)).any (·.1) = false)
abbrev BmT0 (X : Cx) (a : Expr) (m : Str) (apos cpos : Pos) : Prop := (attributeBase a m X.env (eval a X.env) = eval a X.env) ∧ ((apos.endLine == cpos.line) = true)
theorem pe_append {apos : Pos} (ha : PE X a (tVar i)) (t : BmT X a "append" apos [] e p) (hs : St1 X e) : PE X (.Call (.Attribute a "append" apos) [e] [] p) (tBM X.K "list" rAppend (tVar i) (tCons (WE X e) tNil)) :=
  pe_bm PySem.F.plainAttrs_list PySem.F.slot_list_append PySem.F.type_list_append mt_append ha (pa1 hs) t.1 t.2.1 t.2.2.1 t.2.2.2.1 t.2.2.2.2
theorem s_append {apos : Pos} {q : Addr} {vs : List V} (S0 : Stt E own B H) (ha : PE X a (tVar i)) (h : σ[i]? = some (some (.ref q))) (hk : own[k]? = some (q, .lst vs)) (r : Paired (R.r B) vs xs) (he : EvE X E own B H σ e R x) (hz : xs.length < sizeLine)
    (kt : ∀ v B' H', Stt E (own.set k (q, .lst (vs ++ [v]))) B' H' → Ex B B' → Paired (R.r B') (vs ++ [v]) (xs ++ [x]) → WSs X rest D σ H')
    (t : BmT X a "append" apos [] e p := by exact ⟨rfl, rfl, rfl, rfl, rfl⟩) (hs : St1 X e := by rfl) (hw : swapsWith (.Call (.Attribute a "append" apos) [e] [] p) none pos.line X.env = pure false := by rfl) :
    WSs X (.Expr (.Call (.Attribute a "append" apos) [e] [] p) pos :: rest) D σ H :=
  WSs.cons (ps_expr (pe_append ha t hs) hw) ⟨.ref q, h, .inl ⟨rfl, _, SqL.of (S0.ow _ (List.mem_of_getElem? hk)).2.2⟩, he B H S0 (Ex.refl _) (Ex.refl _) _ fun v B2 H2 S2 e1 e2 rv => by
    have hq := (S2.ow _ (List.mem_of_getElem? hk)).2.2
    refine ⟨q, vs, v, rfl, rfl, hq, by rw [plen r]; exact hz, ?_⟩
    exact kt v B2 _ (S2.put hk fun ys z => by cases z) e1 (psnoc (pimp r fun _ _ z => R.mono e1 z) rv)⟩
/-- here = xs.pop() -/
theorem s_pop {apos : Pos} {q : Addr} {vs : List V} (C : Cok X k) (L : Slot X j n) {k' : Nat} (S0 : Stt E own B H) (ha : PE X a (tVar i)) (h : σ[i]? = some (some (.ref q))) (hk : own[k']? = some (q, .lst vs)) (r : Paired (R.r B) vs xs) (hx : xs.getLast? = some x)
    (kt : ∀ v H', Stt E (own.set k' (q, .lst vs.dropLast)) B H' → R.r B v x → Paired (R.r B) vs.dropLast xs.dropLast → WSs X rest D (σ.set j (some v)) H')
    (t : BmT0 X a "pop" apos p := by exact ⟨rfl, rfl⟩) (hw : swapsWith (.Call (.Attribute a "pop" apos) [] [] p) (some (.Name n pos')) pos.line X.env = pure false := by rfl) :
    WSs X (.Assign [.Name n pos'] (.Call (.Attribute a "pop" apos) [] [] p) pos :: rest) D σ H :=
  WSs.cons (ps_set C.nd L.ix L.loc (pe_bm0 PySem.F.plainAttrs_list PySem.F.slot_list_pop PySem.F.type_list_pop mt_pop ha t.1 t.2) hw L.hf) (by
    have hq := (S0.ow _ (List.mem_of_getElem? hk)).2.2
    have key : ∃ v, vs[vs.length - 1]? = some v ∧ R.r B v x ∧ Paired (R.r B) vs.dropLast xs.dropLast := by
      clear kt h hk hq
      induction r generalizing x with
      | nil => cases hx
      | @cons u w us ws h1 t1 ih =>
        cases us with
        | nil =>
          cases t1
          cases hx
          exact ⟨u, rfl, h1, .nil⟩
        | cons u2 us =>
          cases t1 with
          | @cons _ w2 _ ws h2 t2 =>
            rw [List.getLast?_cons_cons] at hx
            obtain ⟨v, e1, e2, e3⟩ := ih hx
            exact ⟨v, e1, e2, .cons h1 e3⟩
    obtain ⟨v, e1, e2, e3⟩ := key
    refine ⟨.ref q, h, .inl ⟨rfl, _, SqL.of hq⟩, q, vs, v, rfl, rfl, hq, e1, ?_⟩
    exact kt v _ (S0.put hk fun ys z => by cases z) e2 e3)
/-! if, return -/
theorem s_if (S0 : Stt E own B H) (hc : EvT X E own B H σ c z)
    (h1 : z = true → ∀ B' H', Stt E own B' H' → Ex B B' → WSs X body { D with nx := WSs X rest D } σ H')
    (h2 : z = false → ∀ B' H', Stt E own B' H' → Ex B B' → WSs X other { D with nx := WSs X rest D } σ H') : WSs X (.If c body other pos :: rest) D σ H :=
  WSs.cons (ps_if ptW pssW pssW) (hc B H S0 (Ex.refl _) (Ex.refl _) _ fun B2 H2 S2 e1 _ => by
    cases z with
    | true => exact h1 rfl B2 H2 S2 e1
    | false => exact h2 rfl B2 H2 S2 e1)
theorem s_retE (S0 : Stt E own B H) (he : EvE X E own B H σ e R x) (F : kE R E D.rt x) : WSs X (.Return (some e) pos :: rest) D σ H :=
  WSs.cons (ps_ret peW) (he B H S0 (Ex.refl _) (Ex.refl _) _ fun v B2 H2 S2 _ _ r => F v B2 H2 S2.none r)
theorem s_retL (S0 : Stt E own B H) (he : EvL X E own B H σ e R xs) (F : kL R E D.rt xs) : WSs X (.Return (some e) pos :: rest) D σ H :=
  WSs.cons (ps_ret peW) (he B H S0 (Ex.refl _) (Ex.refl _) _ fun p vs B2 H2 S2 _ _ r => F p vs B2 H2 (S2.sub (fun q hq => by
    rcases List.mem_singleton.mp hq with rfl
    exact List.mem_cons_self ..) (by simp)) r)
/-- an owned list is handed back -/
theorem s_retO {q : Addr} {vs : List V} (S0 : Stt E own B H) (ha : PE X e (tVar i)) (h : σ[i]? = some (some (.ref q))) (hk : own[k]? = some (q, .lst vs)) (r : Paired (R.r B) vs xs) (F : kL R E D.rt xs) : WSs X (.Return (some e) pos :: rest) D σ H :=
  WSs.cons (ps_ret ha) ⟨.ref q, h, F q vs B H (S0.sub (fun z hz => by
    rcases List.mem_singleton.mp hz with rfl
    exact List.mem_of_getElem? hk) (by simp)) r⟩
theorem s_retN (S0 : Stt E own B H) (F : kE rNon E D.rt ()) : WSs X (.Return none pos :: rest) D σ H := WSs.cons ps_retN (F .non B H S0.none rfl)
theorem s_never {st : Stmt} (h : False) : WSs X (st :: rest) D σ H := h.elim
theorem s_cont (h : D.ct σ H) : WSs X (.Continue pos :: rest) D σ H := WSs.cons ps_continue h
theorem s_brk (h : D.bk σ H) : WSs X (.Break pos :: rest) D σ H := WSs.cons ps_break h
theorem s_pass (h : WSs X rest D σ H) : WSs X (.Pass pos :: rest) D σ H := WSs.cons ps_pass h
end
end Sg

namespace Sg
open PySem PySem.Spec PyProof.Rows L2

/-- an iterator J over xs: what it yields from a state of ours, while Ko holds of what is owned -/
structure Walk (E : Ent) (Ko : Own → Prop) (B2 : Hp) (J : It) {α : Type} (R : Rel α) (xs : List α) : Prop where
  go : ∀ i own' B' H', Stt E own' B' H' → Ex B2 B' → Ko own' → i < xs.length → J.go i H'
  stop : ∀ i own' B' H', Stt E own' B' H' → Ex B2 B' → Ko own' → xs.length ≤ i → J.stop i H'
  yld : ∀ i own' B' H' v H'' x, Stt E own' B' H' → Ex B2 B' → Ko own' → xs[i]? = some x → J.yld i H' v H'' → ∃ B'', Stt E own' B'' H'' ∧ Ex B' B'' ∧ Ex H' H'' ∧ R.r B'' v x
/-- what is walked by a for -/
def EvI (X : Cx) (E : Ent) (own : Own) (B H : Hp) (σ : L2.St) {α : Type} (tg it : Expr) (R : Rel α) (Ko : Own → Prop) (xs : List α) : Prop := ∃ wi : TI, PI X tg it wi ∧ ∀ B1 H1, Stt E own B1 H1 → Ex B B1 → Ex H H1 → ∀ Q : It → Hp → Prop,
  (∀ J B2 H2, Stt E own B2 H2 → Ex B1 B2 → Ex H1 H2 → Walk E Ko B2 J R xs → xs.length ≤ sizeLine → Q J H2) → wi σ H1 Q
/-- a target takes an item -/
def TgOk (X : Cx) (E : Ent) {α : Type} (tg : Expr) (R : Rel α) (T : α → Hp → L2.St → L2.St → Prop) : Prop := ∃ g : TG, PG X tg g ∧ ∀ own B H v x σ, Stt E own B H → R.r B v x → ∀ Q : L2.St → Hp → Prop, (∀ σ', T x B σ σ' → Q σ' H) → g v σ H Q
abbrev KoT : Own → Prop := fun _ => True
def noU {ρ : Type} (u : Empty) : Res ρ := nomatch u
section
variable {X : Cx} {E : Ent} {own new own' : Own} {B H B' H' : Hp} {σ : L2.St} {α β γ τ ρ ρ' : Type} {R : Rel α} {S : Rel β} {T : Rel γ} {e a b c it : Expr} {x : α} {y : β} {p pos pos' : Pos} {i j k : Nat} {z w : Bool} {xs : List α}
variable {n m : Str} {rest body other : List Stmt} {D : Ends} {P : ρ → Prop} {Er : Err → Prop}
/-! what is walked -/
theorem walk_list {q : Addr} {vs : List V} {Ko : Own → Prop} {K : PySem.W.Frag} (hl : ∀ own' B' H', Stt E own' B' H' → Ex B B' → Ko own' → Rd H' q (.lst vs)) (r : Paired (R.r B) vs xs) : Walk E Ko B (Itl K q) R xs := by
  refine ⟨fun i own' B' H' S' e k hi => ?_, fun i own' B' H' S' e k hi => ⟨vs, .inl (hl own' B' H' S' e k), by rw [plen r]; exact hi⟩, fun i own' B' H' v H'' x S' e k hx hy => ?_⟩
  · have h2 : i < vs.length := by rw [plen r]; exact hi
    exact ⟨vs, vs[i], .inl (hl own' B' H' S' e k), List.getElem?_eq_getElem h2⟩
  · obtain ⟨e1, h1⟩ := hy
    subst e1
    have hv := h1 vs (.inl (hl own' B' H'' S' e k))
    obtain ⟨x', hx', rx⟩ := L2.paired_get r hv
    rw [hx] at hx'
    cases hx'
    exact ⟨B', S', Ex.refl _, Ex.refl _, R.mono e rx⟩
theorem walk_tup {q : Addr} {vs : List V} {K : PySem.W.Frag} (hl : B q = some (.tup vs)) (r : Paired (R.r B) vs xs) : Walk E KoT B (Itt K q) R xs := by
  have key : ∀ own' B' H', Stt E own' B' H' → Ex B B' → SqT K H' q vs := fun own' B' H' S' e => SqT.of (S'.bh _ _ (e.tup hl))
  refine ⟨fun i own' B' H' S' e k hi => ?_, fun i own' B' H' S' e k hi => ⟨vs, key own' B' H' S' e, by rw [plen r]; exact hi⟩, fun i own' B' H' v H'' x S' e k hx hy => ?_⟩
  · have h2 : i < vs.length := by rw [plen r]; exact hi
    exact ⟨vs, vs[i], key own' B' H' S' e, List.getElem?_eq_getElem h2⟩
  · obtain ⟨e1, h1⟩ := hy
    subst e1
    have hv := h1 vs (key own' B' H'' S' e)
    obtain ⟨x', hx', rx⟩ := L2.paired_get r hv
    rw [hx] at hx'
    cases hx'
    exact ⟨B', S', Ex.refl _, Ex.refl _, R.mono e rx⟩
/-- a list that was handed in -/
theorem ei_0 [Imm R] {v : V} {tg : Expr} (hp : PE X e (tVar i)) (h : σ[i]? = some (some v)) (r : (rLst R).r E.H0 v xs) : EvI X E own B H σ tg e R KoT xs := ⟨_, pi_list (tl := WE X e) peW, fun B1 H1 S e1 e2 Q k => by
  obtain ⟨q, vs, h1, h2, h3⟩ := r
  subst h1
  exact WE.sz (WE.of hp ⟨_, h, fun sz => ⟨q, rfl, ⟨vs, .inl (S.h0.ex.rdL h2)⟩, k _ B1 H1 S (Ex.refl _) (Ex.refl _) (walk_list (fun own' B' H' S' _ _ => S'.h0.ex.rdL h2) (pimp h3 fun _ _ z => Imm.imm (fun a ys ha => S.tu a ys (S.h0 _ _ ha)) z)) (by rw [← plen h3]; exact sz.1 _ _ (S.h0.ex.rdL h2))⟩⟩)⟩
/-- a list kept for good -/
theorem ei_E {tg : Expr} (he : EvE X E own B H σ e (rLst R) xs) : EvI X E own B H σ tg e R KoT xs := ⟨_, pi_list (tl := WE X e) peW, fun B1 H1 S e1 e2 Q k => WE.sz (he B1 H1 S e1 e2 _ fun v B2 H2 S2 e3 e4 r sz => by
  obtain ⟨q, vs, h1, h2, h3⟩ := r
  subst h1
  exact ⟨q, rfl, ⟨vs, .inl (S2.bh.ex.rdL h2)⟩, k _ B2 H2 S2 e3 e4 (walk_list (fun own' B' H' S' e' _ => S'.bh.ex.rdL (e'.rdL h2)) h3) (by rw [← plen h3]; exact sz.1 _ _ (S2.bh.ex.rdL h2))⟩)⟩
theorem ei_L {tg : Expr} (he : EvL X E own B H σ e R xs) : EvI X E own B H σ tg e R KoT xs := ei_E he.toE
/-- an owned list that stays -/
theorem ei_own {q : Addr} {vs : List V} {k' : Nat} {tg : Expr} (hp : PE X e (tVar i)) (h : σ[i]? = some (some (.ref q))) (hk : own[k']? = some (q, .lst vs)) (r : Paired (R.r B) vs xs) : EvI X E own B H σ tg e R (fun o => (q, .lst vs) ∈ o) xs := ⟨_, pi_list (tl := WE X e) peW, fun B1 H1 S e1 e2 Q k =>
  WE.sz (WE.of hp ⟨_, h, fun sz => ⟨q, rfl, ⟨vs, .inl (.inl (S.ow _ (List.mem_of_getElem? hk)).2.2)⟩, k _ B1 H1 S (Ex.refl _) (Ex.refl _) (walk_list (fun own' B' H' S' _ hk' => .inl (S'.ow _ hk').2.2) (pimp r fun _ _ z => R.mono e1 z)) (by rw [← plen r]; exact sz.1 _ _ (.inl (S.ow _ (List.mem_of_getElem? hk)).2.2))⟩⟩)⟩
/-- a tuple -/
theorem ei_T {tg : Expr} (he : EvE X E own B H σ e (rTup R) xs) : EvI X E own B H σ tg e R KoT xs := ⟨_, pi_tup (tl := WE X e) peW, fun B1 H1 S e1 e2 Q k => WE.sz (he B1 H1 S e1 e2 _ fun v B2 H2 S2 e3 e4 r sz => by
  obtain ⟨q, vs, h1, h2, h3⟩ := r
  subst h1
  exact ⟨q, rfl, ⟨vs, SqT.of (S2.bh _ _ h2)⟩, k _ B2 H2 S2 e3 e4 (walk_tup h2 h3) (by rw [← plen h3]; exact sz.2.1 _ _ (.inl (S2.bh _ _ h2)))⟩)⟩
/-- range(n), range(a, b) -/
def rangeI (a b : Int) : List Int := (List.range (b - a).toNat).map fun i : Nat => a + (i : Int)
theorem rangeI_at {a b : Int} {i : Nat} (h : i < (b - a).toNat) : (rangeI a b)[i]? = some (a + (i : Int)) := by
  unfold rangeI
  rw [List.getElem?_map, List.getElem?_range h]
  rfl
theorem rangeI_len (a b : Int) : (rangeI a b).length = (b - a).toNat := by
  unfold rangeI
  rw [List.length_map, List.length_range]
theorem walk_range {lo hi : Int} : Walk E KoT B (Itr lo (hi - lo).toNat) rInt (rangeI lo hi) := by
  refine ⟨fun i own' B' H' S' e k h => by rw [rangeI_len] at h; exact h, fun i own' B' H' S' e k h => by rw [rangeI_len] at h; exact h, fun i own' B' H' v H'' x S' e k hx hy => ?_⟩
  obtain ⟨e1, h1⟩ := hy
  subst e1
  have hl : i < (hi - lo).toNat := by
    have := (List.getElem?_eq_some_iff.mp hx).1
    rwa [rangeI_len] at this
  rw [rangeI_at hl] at hx
  cases hx
  exact ⟨B', S', Ex.refl _, Ex.refl _, h1⟩
theorem ei_r1 {tg : Expr} {hi : Int} (hg : Gl X "range") (hm : X.mg "range" = none) (ha : EvB X E own B H σ a rInt hi) (hz : -8000000 ≤ hi ∧ hi ≤ 8000000) (hs : St1 X a := by rfl) (hs' : starEach [a] X.env = [(false, eval a X.env)] := by rfl) : EvI X E own B H σ tg (.Call (.Name "range" p) [a] [] pos) rInt KoT (rangeI 0 hi) :=
  ⟨_, pi_range1 hg hm (pa1 hs) hs', fun B1 H1 S e1 e2 Q k => ha B1 H1 S e1 e2 _ fun v B2 H2 S2 e3 e4 r => ⟨hi, by rw [show v = .int hi from r], by omega, by omega, k _ B2 H2 S2 e3 e4 (by
    have q := walk_range (E := E) (B := B2) (lo := 0) (hi := hi)
    rw [Int.sub_zero] at q
    exact q) (by rw [rangeI_len, sizeLine_eq]; omega)⟩⟩
theorem ei_r2 {tg : Expr} {lo hi : Int} (hg : Gl X "range") (hm : X.mg "range" = none) (ha : EvB X E own B H σ a rInt lo) (hb : EvB X E own B H σ b rInt hi) (hz : -8000000 ≤ lo ∧ lo ≤ 8000000 ∧ -8000000 ≤ hi ∧ hi ≤ 8000000)
    (hs : starEach (a :: [b]) X.env = (false, eval a X.env) :: starEach [b] X.env := by rfl) (hs1 : St1 X b := by rfl) (hs' : starEach [a, b] X.env = [(false, eval a X.env), (false, eval b X.env)] := by rfl) (hs2 : starEach [b] X.env = [(false, eval b X.env)] := by rfl) : EvI X E own B H σ tg (.Call (.Name "range" p) [a, b] [] pos) rInt KoT (rangeI lo hi) :=
  ⟨_, pi_range2 hg hm (pa_cons peW (pa1 hs1) hs) hs' hs2, fun B1 H1 S e1 e2 Q k => ha B1 H1 S e1 e2 _ fun v B2 H2 S2 e3 e4 r => hb B2 H2 S2 (e1.trans e3) (e2.trans e4) _ fun w B3 H3 S3 e5 e6 r' =>
    ⟨lo, hi, by rw [show v = .int lo from r, show w = .int hi from r'], by omega, k _ B3 H3 S3 (e3.trans e5) (e4.trans e6) walk_range (by rw [rangeI_len, sizeLine_eq]; omega)⟩⟩
/-- enumerate(list) -/
def enumI (a : Int) (xs : List α) : List (Int × α) := (rangeI a (a + xs.length)).zip xs
theorem enumI_at {a : Int} {xs : List α} {i : Nat} {x : α} (h : xs[i]? = some x) : (enumI a xs)[i]? = some (a + (i : Int), x) := by
  have hl : i < xs.length := (List.getElem?_eq_some_iff.mp h).1
  unfold enumI
  exact (List.getElem?_zip_eq_some (z := (a + (i : Int), x))).mpr ⟨rangeI_at (by omega), h⟩
theorem enumI_len (a : Int) (xs : List α) : (enumI a xs).length = xs.length := by
  unfold enumI
  rw [List.length_zip, rangeI_len]
  omega
theorem walk_enum {q : Addr} {vs : List V} {Ko : Own → Prop} {K : PySem.W.Frag} (hl : ∀ own' B' H', Stt E own' B' H' → Ex B B' → Ko own' → Rd H' q (.lst vs)) (r : Paired (R.r B) vs xs) : Walk E Ko B (Ite K q) (rPr rInt R) (enumI 0 xs) := by
  refine ⟨fun i own' B' H' S' e k hi => ?_, fun i own' B' H' S' e k hi => ⟨vs, .inl (hl own' B' H' S' e k), by rw [enumI_len] at hi; rw [plen r]; exact hi⟩, fun i own' B' H' v H'' x S' e k hx hy => ?_⟩
  · have h2 : i < vs.length := by rw [plen r, ← enumI_len 0 xs]; exact hi
    exact ⟨vs, vs[i], .inl (hl own' B' H' S' e k), List.getElem?_eq_getElem h2⟩
  · obtain ⟨T, u, h1, h2, h3, h4⟩ := hy
    subst h3
    have hv := h4 vs (.inl (hl own' B' H' S' e k))
    obtain ⟨x', hx', rx⟩ := L2.paired_get r hv
    rw [enumI_at hx'] at hx
    cases hx
    refine ⟨_, S'.lay h2, (S'.layB h2).ex, (Sx.new h2).ex, T, .int (i : Nat), u, h1, upd_same, ?_, R.mono (e.trans (S'.layB h2).ex) rx⟩
    show V.int _ = V.int _
    rw [Int.zero_add]
theorem ei_enum0 [Imm R] {v : V} {tgs : List Expr} {kk : Nat} {tpos : Pos} (hg : Gl X "enumerate") (hm : X.mg "enumerate" = none) (hp : PE X a (tVar i)) (h : σ[i]? = some (some v)) (r : (rLst R).r E.H0 v xs) (hs : St1 X a := by rfl) (hs' : starEach [a] X.env = [(false, eval a X.env)] := by rfl) :
    EvI X E own B H σ (.Tuple tgs kk tpos) (.Call (.Name "enumerate" p) [a] [] pos) (rPr rInt R) KoT (enumI 0 xs) := ⟨_, pi_enum hg hm (pa1 hs) hs', fun B1 H1 S e1 e2 Q k => by
  obtain ⟨q, vs, h1, h2, h3⟩ := r
  subst h1
  exact WE.sz (WE.of hp ⟨_, h, fun sz => ⟨q, vs, rfl, .inl (S.h0.ex.rdL h2), k _ B1 H1 S (Ex.refl _) (Ex.refl _) (walk_enum (fun own' B' H' S' _ _ => S'.h0.ex.rdL h2) (pimp h3 fun _ _ z => Imm.imm (fun a ys ha => S.tu a ys (S.h0 _ _ ha)) z)) (by rw [enumI_len, ← plen h3]; exact sz.1 _ _ (S.h0.ex.rdL h2))⟩⟩)⟩
theorem ei_enumE {tgs : List Expr} {kk : Nat} {tpos : Pos} (hg : Gl X "enumerate") (hm : X.mg "enumerate" = none) (he : EvE X E own B H σ a (rLst R) xs) (hs : St1 X a := by rfl) (hs' : starEach [a] X.env = [(false, eval a X.env)] := by rfl) :
    EvI X E own B H σ (.Tuple tgs kk tpos) (.Call (.Name "enumerate" p) [a] [] pos) (rPr rInt R) KoT (enumI 0 xs) := ⟨_, pi_enum hg hm (pa1 hs) hs', fun B1 H1 S e1 e2 Q k => WE.sz (he B1 H1 S e1 e2 _ fun v B2 H2 S2 e3 e4 r sz => by
  obtain ⟨q, vs, h1, h2, h3⟩ := r
  subst h1
  exact ⟨q, vs, rfl, .inl (S2.bh.ex.rdL h2), k _ B2 H2 S2 e3 e4 (walk_enum (fun own' B' H' S' e' _ => S'.bh.ex.rdL (e'.rdL h2)) h3) (by rw [enumI_len, ← plen h3]; exact sz.1 _ _ (S2.bh.ex.rdL h2))⟩)⟩
theorem ei_enumO {q : Addr} {vs : List V} {k' : Nat} {tgs : List Expr} {kk : Nat} {tpos : Pos} (hg : Gl X "enumerate") (hm : X.mg "enumerate" = none) (hp : PE X a (tVar i)) (h : σ[i]? = some (some (.ref q))) (hk : own[k']? = some (q, .lst vs)) (r : Paired (R.r B) vs xs) (hs : St1 X a := by rfl) (hs' : starEach [a] X.env = [(false, eval a X.env)] := by rfl) :
    EvI X E own B H σ (.Tuple tgs kk tpos) (.Call (.Name "enumerate" p) [a] [] pos) (rPr rInt R) (fun o => (q, .lst vs) ∈ o) (enumI 0 xs) := ⟨_, pi_enum hg hm (pa1 hs) hs', fun B1 H1 S e1 e2 Q k =>
  WE.sz (WE.of hp ⟨_, h, fun sz => ⟨q, vs, rfl, .inl (.inl (S.ow _ (List.mem_of_getElem? hk)).2.2), k _ B1 H1 S (Ex.refl _) (Ex.refl _) (walk_enum (fun own' B' H' S' _ hk' => .inl (S'.ow _ hk').2.2) (pimp r fun _ _ z => R.mono e1 z)) (by rw [enumI_len, ← plen r]; exact sz.1 _ _ (.inl (S.ow _ (List.mem_of_getElem? hk)).2.2))⟩⟩)⟩
/-- zip(list, list) -/
theorem walk_zip {q q2 : Addr} {vs us : List V} {ys : List β} {Ko : Own → Prop} {K : PySem.W.Frag} (hl : ∀ own' B' H', Stt E own' B' H' → Ex B B' → Ko own' → Rd H' q (.lst vs)) (hl2 : ∀ own' B' H', Stt E own' B' H' → Ex B B' → Ko own' → Rd H' q2 (.lst us)) (r : Paired (R.r B) vs xs) (r2 : Paired (S.r B) us ys) : Walk E Ko B (Itz K q q2) (rPr R S) (xs.zip ys) := by
  refine ⟨fun i own' B' H' S' e k hi => ?_, fun i own' B' H' S' e k hi => ⟨vs, us, .inl (hl own' B' H' S' e k), .inl (hl2 own' B' H' S' e k), ?_⟩, fun i own' B' H' v H'' x S' e k hx hy => ?_⟩
  · rw [List.length_zip] at hi
    have h2 : i < vs.length := by rw [plen r]; omega
    have h3 : i < us.length := by rw [plen r2]; omega
    exact ⟨vs, us, vs[i], us[i], .inl (hl own' B' H' S' e k), .inl (hl2 own' B' H' S' e k), List.getElem?_eq_getElem h2, List.getElem?_eq_getElem h3⟩
  · rw [List.length_zip] at hi
    rw [plen r, plen r2]
    omega
  · obtain ⟨T, u, w, h1, h2, h3, h4, h5⟩ := hy
    subst h3
    obtain ⟨x', hx', rx⟩ := L2.paired_get r (h4 vs (.inl (hl own' B' H' S' e k)))
    obtain ⟨y', hy', ry⟩ := L2.paired_get r2 (h5 us (.inl (hl2 own' B' H' S' e k)))
    rw [(List.getElem?_zip_eq_some (z := (x', y'))).mpr ⟨hx', hy'⟩] at hx
    cases hx
    exact ⟨_, S'.lay h2, (S'.layB h2).ex, (Sx.new h2).ex, T, u, w, h1, upd_same, R.mono (e.trans (S'.layB h2).ex) rx, S.mono (e.trans (S'.layB h2).ex) ry⟩
theorem ei_zip {ys : List β} {tgs : List Expr} {kk : Nat} {tpos : Pos} (hg : Gl X "zip") (hm : X.mg "zip" = none) (he : EvE X E own B H σ a (rLst R) xs) (he2 : EvE X E own B H σ b (rLst S) ys)
    (hs0 : starEach (a :: [b]) X.env = (false, eval a X.env) :: starEach [b] X.env := by rfl) (hs1 : St1 X b := by rfl) (hpl : (backTo pos (starEach [b] X.env)).any (·.1) = false := by rfl) :
    EvI X E own B H σ (.Tuple tgs kk tpos) (.Call (.Name "zip" p) [a, b] [] pos) (rPr R S) KoT (xs.zip ys) := ⟨_, pi_zip hg hm (pa_cons peW (pa1 hs1) hs0) hs0 hpl, fun B1 H1 S e1 e2 Q k => he B1 H1 S e1 e2 _ fun v B2 H2 S2 e3 e4 r => WE.sz (he2 B2 H2 S2 (e1.trans e3) (e2.trans e4) _ fun w B3 H3 S3 e5 e6 r' sz => by
  obtain ⟨q, vs, h1, h2, h3⟩ := Rel.mono _ e5 r
  obtain ⟨q2, us, h1', h2', h3'⟩ := r'
  subst h1
  subst h1'
  exact ⟨q, q2, vs, us, rfl, .inl (S3.bh.ex.rdL h2), .inl (S3.bh.ex.rdL h2'), k _ B3 H3 S3 (e3.trans e5) (e4.trans e6) (walk_zip (fun own' B' H' S' e' _ => S'.bh.ex.rdL (e'.rdL h2)) (fun own' B' H' S' e' _ => S'.bh.ex.rdL (e'.rdL h2')) h3 h3') (by rw [List.length_zip, ← plen h3]; exact Nat.le_trans (Nat.min_le_left _ _) (sz.1 _ _ (S3.bh.ex.rdL h2)))⟩)⟩
/-! targets -/
def tN (j : Nat) (R : Rel α) : α → Hp → L2.St → L2.St → Prop := fun x B σ σ' => ∃ v, R.r B v x ∧ σ' = σ.set j (some v)
def tP (i j : Nat) (R : Rel α) (S : Rel β) : α × β → Hp → L2.St → L2.St → Prop := fun x B σ σ' => ∃ v w, R.r B v x.1 ∧ S.r B w x.2 ∧ σ' = (σ.set i (some v)).set j (some w)
theorem tg_name {k0 : Nat} (C : Cok X k0) (L : Slot X j n) : TgOk X E (.Name n pos) R (tN j R) := ⟨_, pg_name (i := j) C.nd L.ix L.loc L.hf, fun own B H v x σ S r Q k => k _ ⟨v, r, rfl⟩⟩
theorem tg_pair {k0 : Nat} {m : Str} {k1 : Nat} {q : Pos} (C : Cok X k0) (L : Slot X i n) (L2 : Slot X j m) : TgOk X E (.Tuple [.Name n pos, .Name m pos'] k1 q) (rPr R S) (tP i j R S) :=
  ⟨_, pg_tup (n := 2) C.calm (pgs_cons (pg_name (i := i) C.nd L.ix L.loc L.hf) (pgs_cons (pg_name (i := j) C.nd L2.ix L2.loc L2.hf) pgs_nil)), fun own B H v x σ St r Q k => by
    obtain ⟨q, a, b, h1, h2, h3, h4⟩ := r
    exact ⟨q, [a, b], h1, SqT.of (St.bh _ _ h2), rfl, a, [b], rfl, b, [], rfl, rfl, k _ ⟨a, b, h3, h4, rfl⟩⟩⟩
/-- a turn's end -/
def TurnE (E : Ent) (B : Hp) (Q : τ → Prop) (Inv : τ → L2.St → Own → Hp → Prop) : L2.St → Hp → Prop := fun σ2 H2 => ∃ a' own2 B2, Q a' ∧ Stt E own2 B2 H2 ∧ Ex B B2 ∧ Inv a' σ2 own2 B2
theorem forR_cons {step : τ → α → Res (ρ' ⊕ τ)} {kr : ρ' → Res ρ} {kn : τ → Res ρ} {r : List α} {acc : τ} (F : Fin P Er ((forR step (x :: r) acc).bind (sel kr kn))) : Fin (sel (fun u => Fin P Er (kr u)) (fun a' => Fin P Er ((forR step r a').bind (sel kr kn)))) Er (step acc x) := by
  unfold forR at F
  cases hm : step acc x with
  | ok o =>
    rw [hm] at F
    cases o with
    | inl u => exact F
    | inr a' => exact F
  | err e =>
    rw [hm] at F
    exact F
  | stuck =>
    rw [hm] at F
    exact F
/-- for x in xs: with what may be handed back within -/
theorem s_forR {k0 : Nat} {tg : Expr} {Tg : α → Hp → L2.St → L2.St → Prop} {Ko : Own → Prop} {step : τ → α → Res (ρ' ⊕ τ)} {kr : ρ' → Res ρ} {kn : τ → Res ρ} {a0 : τ} (C : Cok X k0) (ht : TgOk X E tg R Tg) (S0 : Stt E own B H) (hit : EvI X E own B H σ tg it R Ko xs)
    (F : Fin P Er ((forR step xs a0).bind (sel kr kn)))
    (Inv : τ → L2.St → Own → Hp → Prop) (h0 : ∀ B1, Ex B B1 → Inv a0 σ own B1) (hK : ∀ a σ' own' B', Inv a σ' own' B' → Ko own')
    (hup : ∀ a σ' own' B' B'', Inv a σ' own' B' → Ex B' B'' → Inv a σ' own' B'')
    (hs : ∀ a x σ' σ2 own' B' H' (Q : τ → Prop), Inv a σ' own' B' → Stt E own' B' H' → Ex B B' → Tg x B' σ' σ2 → Fin (sel (fun u => Fin P Er (kr u)) Q) Er (step a x) →
      WSs X body { nx := TurnE E B' Q Inv, rt := D.rt, bk := fun σ2 H2 => ∃ a' own2 B2, Fin P Er (kn a') ∧ Stt E own2 B2 H2 ∧ Ex B' B2 ∧ Inv a' σ2 own2 B2, ct := TurnE E B' Q Inv } σ2 H')
    (hd : ∀ a σ' own' B' H', Inv a σ' own' B' → Stt E own' B' H' → Ex B B' → Fin P Er (kn a) → WSs X rest D σ' H')
    (hf : ∀ x, foldedSetIterable it X.env x = pure x := by intro _; rfl) : WSs X (.For tg it body [] pos :: rest) D σ H := by
  obtain ⟨g, pg, hg⟩ := ht
  obtain ⟨wi, pi, hw⟩ := hit
  refine WSs.cons (ps_for C.own C.calm pi pg pssW hf) (hw B H S0 (Ex.refl _) (Ex.refl _) _ fun J B2 H2 S2 e1 e2 W _ => ?_)
  refine ⟨fun i' mm σ' H' => mm = xs.length - i' ∧ i' ≤ xs.length ∧ ∃ a own' B', Fin P Er ((forR step (xs.drop i') a).bind (sel kr kn)) ∧ Stt E own' B' H' ∧ Ex B2 B' ∧ Inv a σ' own' B', ⟨xs.length, by simp, Nat.zero_le _, a0, own, B2, by rw [List.drop_zero]; exact F, S2, Ex.refl _, h0 B2 e1⟩, ?_⟩
  rintro i' mm σ' H' ⟨rfl, hi, a, own', B', F', S', e', iv⟩
  by_cases hlt : i' < xs.length
  · refine .inr ⟨W.go i' own' B' H' S' e' (hK _ _ _ _ iv) hlt, fun σ2 H2 => ∃ a own' B', Fin P Er ((forR step (xs.drop (i' + 1)) a).bind (sel kr kn)) ∧ Stt E own' B' H2 ∧ Ex B2 B' ∧ Inv a σ2 own' B', fun σ2 H2 q => ⟨xs.length - (i' + 1), by omega, rfl, hlt, q⟩, fun v H'' hy => ?_⟩
    have hx : xs[i']? = some xs[i'] := List.getElem?_eq_getElem hlt
    obtain ⟨B'', S'', e3, e4, rx⟩ := W.yld i' own' B' H' v H'' _ S' e' (hK _ _ _ _ iv) hx hy
    refine hg own' B'' H'' v _ σ' S'' rx _ fun σ2 tgx => ?_
    have hdrop : xs.drop i' = xs[i'] :: xs.drop (i' + 1) := List.drop_eq_getElem_cons hlt
    rw [hdrop] at F'
    have F2 := forR_cons F'
    have done := hs a _ σ' σ2 own' B'' H'' _ (hup _ _ _ _ _ iv e3) S'' ((e1.trans e').trans e3) tgx F2
    intro pins s I
    refine wpAny_mono (done pins s I) (fun f s' q => ?_) fun _ _ q => q
    cases f with
    | next =>
      obtain ⟨σ2, H2', I2, a', own2, B3, q1, q2, q3, q4⟩ := q
      exact ⟨σ2, H2', I2, a', own2, B3, q1, q2, (e'.trans e3).trans q3, q4⟩
    | cont =>
      obtain ⟨σ2, H2', I2, a', own2, B3, q1, q2, q3, q4⟩ := q
      exact ⟨σ2, H2', I2, a', own2, B3, q1, q2, (e'.trans e3).trans q3, q4⟩
    | brk =>
      obtain ⟨σ2, H2', I2, a', own2, B3, q1, q2, q3, q4⟩ := q
      exact ⟨σ2, H2', I2, hd a' σ2 own2 B3 H2' q4 q2 (((e1.trans e').trans e3).trans q3) q1⟩
    | ret u => exact q
  · have e : i' = xs.length := by omega
    subst e
    rw [List.drop_length] at F'
    exact .inl ⟨W.stop _ own' B' H' S' e' (hK _ _ _ _ iv) (Nat.le_refl _), hd a σ' own' B' H' iv S' (e1.trans e') F'⟩
/-- for x in xs: nothing is handed back within -/
theorem forM_R {step : τ → α → Res τ} : ∀ (xs : List α) (a : τ) (kn : τ → Res ρ), Fin P Er ((forM step xs a).bind kn) → Fin P Er ((forR (ρ := Empty) (fun a x => (step a x).bind fun a' => .ok (.inr a')) xs a).bind (sel noU kn))
  | [], a, kn, F => F
  | x :: r, a, kn, F => by
    unfold forM at F
    unfold forR
    cases hm : step a x with
    | ok a' =>
      rw [hm] at F
      exact forM_R r a' kn F
    | err e =>
      rw [hm] at F
      exact F
    | stuck =>
      rw [hm] at F
      exact F
theorem s_forM {k0 : Nat} {tg : Expr} {Tg : α → Hp → L2.St → L2.St → Prop} {Ko : Own → Prop} {step : τ → α → Res τ} {kn : τ → Res ρ} {a0 : τ} (C : Cok X k0) (ht : TgOk X E tg R Tg) (S0 : Stt E own B H) (hit : EvI X E own B H σ tg it R Ko xs)
    (F : Fin P Er ((forM step xs a0).bind kn))
    (Inv : τ → L2.St → Own → Hp → Prop) (h0 : ∀ B1, Ex B B1 → Inv a0 σ own B1) (hK : ∀ a σ' own' B', Inv a σ' own' B' → Ko own')
    (hup : ∀ a σ' own' B' B'', Inv a σ' own' B' → Ex B' B'' → Inv a σ' own' B'')
    (hs : ∀ a x σ' σ2 own' B' H' (Q : τ → Prop), Inv a σ' own' B' → Stt E own' B' H' → Ex B B' → Tg x B' σ' σ2 → Fin Q Er (step a x) →
      WSs X body { nx := TurnE E B' Q Inv, rt := D.rt, bk := fun _ _ => False, ct := TurnE E B' Q Inv } σ2 H')
    (hd : ∀ a σ' own' B' H', Inv a σ' own' B' → Stt E own' B' H' → Ex B B' → Fin P Er (kn a) → WSs X rest D σ' H')
    (hf : ∀ x, foldedSetIterable it X.env x = pure x := by intro _; rfl) : WSs X (.For tg it body [] pos :: rest) D σ H :=
  s_forR (ρ' := Empty) (step := fun a x => (step a x).bind fun a' => .ok (.inr a')) (kr := noU) (kn := kn) C ht S0 hit (forM_R xs a0 kn F) Inv h0 hK hup (fun a x σ' σ2 own' B' H' Q iv S' e' rx F' => by
    have F2 : Fin Q Er (step a x) := by
      cases hm : step a x with
      | ok a' =>
        rw [hm] at F'
        exact F'
      | err e =>
        rw [hm] at F'
        exact F'
      | stuck =>
        rw [hm] at F'
        exact F'
    have done := hs a x σ' σ2 own' B' H' Q iv S' e' rx F2
    intro pins s I
    refine wpAny_mono (done pins s I) (fun f s' q => ?_) fun _ _ q => q
    cases f with
    | next => exact q
    | cont => exact q
    | brk =>
      obtain ⟨_, _, _, q⟩ := q
      exact q.elim
    | ret u => exact q) hd hf
/-- while: the mirror's fuel falls -/
theorem s_while {k0 : Nat} {step : τ → Res (ρ' ⊕ τ)} {kn : ρ' → Res ρ} {a0 : τ} {fuel : Nat} (C : Cok X k0) (S0 : Stt E own B H)
    (F : Fin P Er ((whileR step fuel a0).bind kn))
    (Inv : τ → L2.St → Own → Hp → Prop) (h0 : Inv a0 σ own B)
    (hs : ∀ a σ' own' B' H' (Q : τ → Prop), Inv a σ' own' B' → Stt E own' B' H' → Ex B B' → Fin (sel (fun u => Fin P Er (kn u)) Q) Er (step a) →
      ∃ z, EvT X E own' B' H' σ' c z ∧ (z = true → ∀ B2 H2, Stt E own' B2 H2 → Ex B' B2 → WSs X body { nx := TurnE E B' Q Inv, rt := D.rt, bk := WSs X rest D, ct := TurnE E B' Q Inv } σ' H2) ∧
        (z = false → ∀ B2 H2, Stt E own' B2 H2 → Ex B' B2 → WSs X rest D σ' H2)) : WSs X (.While c body [] pos :: rest) D σ H :=
  WSs.cons (ps_while C.own ptW pssW) ⟨fun mm σ' H' => ∃ a own' B', Fin P Er ((whileR step mm a).bind kn) ∧ Stt E own' B' H' ∧ Ex B B' ∧ Inv a σ' own' B', ⟨fuel, a0, own, B, F, S0, Ex.refl _, h0⟩, fun mm σ' H' ⟨a, own', B', F', S', e', iv⟩ => by
    cases mm with
    | zero => exact F'.elim
    | succ mm =>
      have F2 : Fin (sel (fun u => Fin P Er (kn u)) (fun a' => Fin P Er ((whileR step mm a').bind kn))) Er (step a) := by
        unfold whileR at F'
        cases hm : step a with
        | ok o =>
          rw [hm] at F'
          cases o with
          | inl u => exact F'
          | inr a' => exact F'
        | err e =>
          rw [hm] at F'
          exact F'
        | stuck =>
          rw [hm] at F'
          exact F'
      obtain ⟨z, hz, h1, h2⟩ := hs a σ' own' B' H' _ iv S' e' F2
      refine hz B' H' S' (Ex.refl _) (Ex.refl _) _ fun B2 H2 S2 e3 _ => ?_
      cases z with
      | false => exact h2 rfl B2 H2 S2 e3
      | true =>
        refine ⟨fun σ2 H2 => ∃ a' own2 B2, Fin P Er ((whileR step mm a').bind kn) ∧ Stt E own2 B2 H2 ∧ Ex B B2 ∧ Inv a' σ2 own2 B2, fun σ2 H2 q => ⟨mm, Nat.lt_succ_self _, q⟩, ?_⟩
        have done := h1 rfl B2 H2 S2 e3
        intro pins s I
        refine wpAny_mono (done pins s I) (fun f s' q => ?_) fun _ _ q => q
        cases f with
        | next =>
          obtain ⟨σ2, H2', I2, a', own2, B3, q1, q2, q3, q4⟩ := q
          exact ⟨σ2, H2', I2, a', own2, B3, q1, q2, e'.trans q3, q4⟩
        | cont =>
          obtain ⟨σ2, H2', I2, a', own2, B3, q1, q2, q3, q4⟩ := q
          exact ⟨σ2, H2', I2, a', own2, B3, q1, q2, e'.trans q3, q4⟩
        | brk => exact q
        | ret u => exact q⟩
end
end Sg

namespace Sg
open PySem PySem.Spec PyProof.Rows L2

/-! ### names -/
structure Scp (X : Cx) (N : List Str) (sc : Scope) : Prop where
  n : X.N = N
  sc : X.env.scope = sc
def nmOk (sc : Scope) (t : List (Str × NameKind)) : Bool := t.all fun p => decide (sc.names.lookup p.1 = some p.2) && !(p.1 == ("__debug__" : Str)) && !(p.1 == ("__classdict__" : Str))
section
variable {X : Cx} {N : List Str} {sc : Scope} {t : List (Str × NameKind)} {x : Str} {pos : Pos} {kd : NameKind}
theorem nmOk.at (h : nmOk sc t = true) {j : Nat} (hj : t[j]? = some (x, kd)) : sc.names.lookup x = some kd ∧ (x == ("__debug__" : Str)) = false ∧ (x == ("__classdict__" : Str)) = false := by
  have q := List.all_eq_true.mp h _ (List.mem_of_getElem? hj)
  rw [Bool.and_eq_true, Bool.and_eq_true] at q
  obtain ⟨⟨q1, q2⟩, q3⟩ := q
  exact ⟨of_decide_eq_true q1, by simpa using q2, by simpa using q3⟩
theorem Scp.var (V : Scp X N sc) (h : nmOk sc t = true) (i j : Nat) (hi : N[i]? = some x := by rfl) (hj : t[j]? = some (x, kd) := by rfl) (hk : kd = .local ∨ kd = .cell ∨ kd = .free := by first | exact .inl rfl | exact .inr (.inl rfl) | exact .inr (.inr rfl)) : PE X (.Name x pos) (tVar i) := by
  obtain ⟨q1, q2, q3⟩ := nmOk.at h hj
  refine pe_var (by rw [V.n]; exact hi) ?_ q2 q3
  unfold Vis
  rw [V.sc, q1]
  rcases hk with rfl | rfl | rfl
  · exact .inl rfl
  · exact .inr (.inl rfl)
  · exact .inr (.inr rfl)
theorem Scp.gl (V : Scp X N sc) (h : nmOk sc t = true) (j : Nat) (hj : t[j]? = some (x, .globalImplicit) := by rfl) : Gl X x := by
  obtain ⟨q1, _⟩ := nmOk.at h hj
  show X.env.scope.names.lookup x = _
  rw [V.sc, q1]
theorem Scp.slot (V : Scp X N sc) (h : nmOk sc t = true) (fn : ∀ x, X.fn x = true) (i j : Nat) (hi : N[i]? = some x := by rfl) (hj : t[j]? = some (x, kd) := by rfl) (hk : kd = .local ∨ kd = .cell := by first | exact .inl rfl | exact .inr rfl) : Slot X i x := by
  obtain ⟨q1, _⟩ := nmOk.at h hj
  refine ⟨by rw [V.n]; exact hi, ?_, .inl (fn x)⟩
  unfold L2.Loc
  rw [V.sc, q1]
  rcases hk with rfl | rfl
  · exact .inl rfl
  · exact .inr rfl
end

/-! ### arguments -/
structure AR where
  r : List V → Hp → Hp → Prop
  mono : ∀ {B B' H H' : Hp} {vs : List V}, Ex B B' → Ex H H' → r vs B H → r vs B' H'
def aN : AR := ⟨fun vs _ _ => vs = [], fun _ _ h => h⟩
def aC {α : Type} (R : Rel α) (x : α) (A : AR) : AR := ⟨fun vs B H => ∃ v r, vs = v :: r ∧ R.r H v x ∧ A.r r B H, fun b e ⟨v, r, h1, h2, h3⟩ => ⟨v, r, h1, R.mono e h2, A.mono b e h3⟩⟩
/-- .. kept for good -/
def aK {α : Type} (R : Rel α) (x : α) (A : AR) : AR := ⟨fun vs B H => ∃ v r, vs = v :: r ∧ R.r B v x ∧ A.r r B H, fun b e ⟨v, r, h1, h2, h3⟩ => ⟨v, r, h1, R.mono b h2, A.mono b e h3⟩⟩
def EvAs (X : Cx) (E : Ent) (own : Own) (B H : Hp) (σ : L2.St) (es : List Expr) (A : AR) : Prop := ∀ B1 H1, Stt E own B1 H1 → Ex B B1 → Ex H H1 → ∀ Q : List V → Hp → Prop,
  (∀ vs B2 H2, Stt E own B2 H2 → Ex B1 B2 → Ex H1 H2 → A.r vs B2 H2 → Q vs H2) → WA X es σ H1 Q
/-- a def's promise -/
def SpA {δ ρ : Type} (args : δ → AR) (Kd : Kind ρ) (f : δ → Res ρ) : Sp := fun vs H Q _ => ∃ B d, Sx B H ∧ Tx H B ∧ (args d).r vs B H ∧ Fin (Kd ⟨B, H⟩ Q) NoErr (f d)
/-- a def of the module that may be called -/
def Cal (X : Cx) (k : Nat) (n : Str) (ps : List Str) (sp : Sp) : Prop := ∃ (f : Addr) (fd : FuncData), FnOk X.prog X.w X.K X.mg X.base CX0 k f fd ps sp ∧ X.mg n = some (.ref f) ∧ PySem.W.keepIn X.K (.ref f) = true ∧ Binds X.K fd ps []
/-- a method -/
def MCal (X : Cx) (k : Nat) (C : Addr) (n : Str) (ps : List Str) (sp : Sp) : Prop := ∃ (f : Addr) (fd : FuncData), FnOk X.prog X.w X.K X.mg X.base CX0 k f fd ps sp ∧ Meth X.K C n f ∧ Binds X.K fd ps []
section
variable {X : Cx} {E : Ent} {own new own' : Own} {B H B' H' : Hp} {σ : L2.St} {α β γ τ ρ δ : Type} {R : Rel α} {S : Rel β} {T : Rel γ} {e a b c o it : Expr} {x : α} {y : β} {p pos pos' apos : Pos} {i j k k0 : Nat} {z w : Bool} {xs : List α} {es : List Expr}
variable {n m : Str} {rest body other : List Stmt} {D : Ends} {P : ρ → Prop} {Er : Err → Prop} {ps : List Str} {A : AR}
theorem as_nil : EvAs X E own B H σ [] aN := fun B1 H1 S1 e1 e2 Q k => WA.of pa_nil (k [] B1 H1 S1 (Ex.refl _) (Ex.refl _) rfl)
theorem as_cons (he : EvB X E own B H σ e R x) (hr : EvAs X E own B H σ es A) (hs : starEach (e :: es) X.env = (false, eval e X.env) :: starEach es X.env := by rfl) : EvAs X E own B H σ (e :: es) (aC R x A) := fun B1 H1 S1 e1 e2 Q k =>
  WA.of (pa_cons peW paW hs) (he B1 H1 S1 e1 e2 _ fun v B2 H2 S2 e3 e4 r => hr B2 H2 S2 (e1.trans e3) (e2.trans e4) _ fun vs B3 H3 S3 e5 e6 q => k (v :: vs) B3 H3 S3 (e3.trans e5) (e4.trans e6) ⟨v, vs, rfl, R.mono e6 r, q⟩)
theorem ak_cons (he : EvE X E own B H σ e R x) (hr : EvAs X E own B H σ es A) (hs : starEach (e :: es) X.env = (false, eval e X.env) :: starEach es X.env := by rfl) : EvAs X E own B H σ (e :: es) (aK R x A) := fun B1 H1 S1 e1 e2 Q k =>
  WA.of (pa_cons peW paW hs) (he B1 H1 S1 e1 e2 _ fun v B2 H2 S2 e3 e4 r => hr B2 H2 S2 (e1.trans e3) (e2.trans e4) _ fun vs B3 H3 S3 e5 e6 q => k (v :: vs) B3 H3 S3 (e3.trans e5) (e4.trans e6) ⟨v, vs, rfl, R.mono e5 r, q⟩)
/-- how a call's end is told to the caller -/
theorem kE_call {f : δ → Res ρ} {RR : Rel ρ} {d : δ} {r : ρ} {Q : VK} (S2 : Stt E own B H) (hm : f d = .ok r) (k : ∀ v B2 H2, Stt E own B2 H2 → Ex B B2 → Ex H H2 → RR.r B2 v r → Q v H2) : Fin (kE RR ⟨B, H⟩ Q) NoErr (f d) :=
  Fin.eq hm fun v B3 H3 T q => k v B3 H3 (S2.call T) T.b0.ex T.h0.ex q
theorem kL_call {f : δ → Res (List ρ)} {RR : Rel ρ} {d : δ} {r : List ρ} {Q : VK} (S2 : Stt E own B H) (hm : f d = .ok r) (k : ∀ p vs B2 H2, Stt E ((p, .lst vs) :: own) B2 H2 → Ex B B2 → Ex H H2 → Paired (RR.r B2) vs r → Q (.ref p) H2) : Fin (kL RR ⟨B, H⟩ Q) NoErr (f d) :=
  Fin.eq hm fun p vs B3 H3 T q => k p vs B3 H3 (S2.call T) T.b0.ex T.h0.ex q
theorem pe_cal {sp : Sp} (C : Cok X k0) (G : Cal X k n ps sp) (hk : k ≤ k0) (hg : Gl X n) (hdb : (n == ("__debug__" : Str)) = false) (he : starEach (e :: es) X.env = (false, eval e X.env) :: starEach es X.env) (hpl : (backTo pos (starEach es X.env)).any (·.1) = false) :
    PE X (.Call (.Name n p) (e :: es) [] pos) (tCall sp [] E0 (WA X (e :: es))) := by
  obtain ⟨f, fd, F, hm, hkp, hb⟩ := G
  exact pe_call F (C.room.mono hk) hg hm hkp hb .nil pass0 paW hdb he hpl
/-- f(a, ..): something kept for good | a new list -/
theorem ee_call {args : δ → AR} {f : δ → Res ρ} {RR : Rel ρ} {d : δ} {r : ρ} (C : Cok X k0) (G : Cal X k n ps (SpA args (kE RR) f)) (hk : k ≤ k0) (hg : Gl X n) (ha : EvAs X E own B H σ (e :: es) (args d)) (hm : f d = .ok r)
    (hdb : (n == ("__debug__" : Str)) = false := by rfl) (he : starEach (e :: es) X.env = (false, eval e X.env) :: starEach es X.env := by rfl) (hpl : (backTo pos (starEach es X.env)).any (·.1) = false := by rfl) : EvE X E own B H σ (.Call (.Name n p) (e :: es) [] pos) RR r := fun B1 H1 S1 e1 e2 Q q =>
  WE.of (pe_cal C G hk hg hdb he hpl) (ha B1 H1 S1 e1 e2 _ fun vs B2 H2 S2 e3 e4 r => by
    rw [List.append_nil]
    exact ⟨B2, d, S2.bh, S2.tu, r, kE_call S2 hm fun v B3 H3 S3 e5 e6 r => q v B3 H3 S3 (e3.trans e5) (e4.trans e6) r⟩)
theorem el_call {args : δ → AR} {f : δ → Res (List ρ)} {RR : Rel ρ} {d : δ} {r : List ρ} (C : Cok X k0) (G : Cal X k n ps (SpA args (kL RR) f)) (hk : k ≤ k0) (hg : Gl X n) (ha : EvAs X E own B H σ (e :: es) (args d)) (hm : f d = .ok r)
    (hdb : (n == ("__debug__" : Str)) = false := by rfl) (he : starEach (e :: es) X.env = (false, eval e X.env) :: starEach es X.env := by rfl) (hpl : (backTo pos (starEach es X.env)).any (·.1) = false := by rfl) : EvL X E own B H σ (.Call (.Name n p) (e :: es) [] pos) RR r := fun B1 H1 S1 e1 e2 Q q =>
  WE.of (pe_cal C G hk hg hdb he hpl) (ha B1 H1 S1 e1 e2 _ fun vs B2 H2 S2 e3 e4 r => by
    rw [List.append_nil]
    exact ⟨B2, d, S2.bh, S2.tu, r, kL_call S2 hm fun p vs B3 H3 S3 e5 e6 r => q p vs B3 H3 S3 (e3.trans e5) (e4.trans e6) r⟩)
/-- an instance of the class at C, without a field of the method's name -/
def InsOf (C : Addr) (m : Str) (R : Rel α) : Prop := ∀ {H : Hp} {v : V} {x : α}, R.r H v x → ∃ a dx fs, v = .ref a ∧ H a = some (.ins C dx fs) ∧ fs.lookup m = none
theorem ee_meth {args : δ → AR} {f : δ → Res ρ} {RR : Rel ρ} {d : δ} {r : ρ} {CA : Addr} {pl : Sem Bool} (C : Cok X k0) (cls : Cls X.K CA) (G : MCal X k CA m ps (SpA args (kE RR) f)) (hk : k ≤ k0) (ho : EvB X E own B H σ o R x) (hi : InsOf CA m R) (ha : EvAs X E own B H σ (e :: es) A) (hA : args d = aC R x A) (hm : f d = .ok r)
    (hst : starEach (e :: es) X.env = (false, eval e X.env) :: starEach es X.env := by rfl) (hpl : (backTo pos (starEach es X.env)).any (·.1) = false := by rfl)
    (ht : eval (.Call (.Attribute o m apos) (e :: es) [] pos) X.env = (do
      let ov ← eval o X.env
      standAt apos.atName
      let (f, first) ← holding [ov] (getMethod ov m pl)
      callWith pos f first (backTo pos (starEach (e :: es) X.env)) (backToKw pos (keywordEach [] X.env))) := by rfl) : EvE X E own B H σ (.Call (.Attribute o m apos) (e :: es) [] pos) RR r := fun B1 H1 S1 e1 e2 Q q => by
  obtain ⟨f, fd, F, hM, hb⟩ := G
  refine WE.of (pe_meth (pl := pl) peW cls hM F (C.room.mono hk) hb .nil pass0 paW hst hpl ht) (ho B1 H1 S1 e1 e2 _ fun v B2 H2 S2 e3 e4 r => ?_)
  obtain ⟨a, dx, fs, h1, h2, h3⟩ := hi r
  refine ⟨a, dx, fs, h1, h2, h3, ha B2 H2 S2 (e1.trans e3) (e2.trans e4) _ fun vs B3 H3 S3 e5 e6 q2 => ?_⟩
  rw [List.append_nil]
  exact ⟨B3, d, S3.bh, S3.tu, by rw [hA]; exact ⟨v, vs, rfl, R.mono e6 r, q2⟩, kE_call S3 hm fun v B4 H4 S4 e7 e8 r => q v B4 H4 S4 ((e3.trans e5).trans e7) ((e4.trans e6).trans e8) r⟩
theorem el_meth0 {args : δ → AR} {f : δ → Res (List ρ)} {RR : Rel ρ} {d : δ} {r : List ρ} {CA : Addr} {pl : Sem Bool} (C : Cok X k0) (cls : Cls X.K CA) (G : MCal X k CA m ps (SpA args (kL RR) f)) (hk : k ≤ k0) (ho : EvB X E own B H σ o R x) (hi : InsOf CA m R) (hA : args d = aC R x aN) (hm : f d = .ok r)
    (ht : eval (.Call (.Attribute o m apos) [] [] pos) X.env = (do
      let ov ← eval o X.env
      standAt apos.atName
      let (f, first) ← holding [ov] (getMethod ov m pl)
      callWith pos f first (backTo pos (starEach [] X.env)) (backToKw pos (keywordEach [] X.env))) := by rfl) : EvL X E own B H σ (.Call (.Attribute o m apos) [] [] pos) RR r := fun B1 H1 S1 e1 e2 Q q => by
  obtain ⟨f, fd, F, hM, hb⟩ := G
  refine WE.of (pe_meth0 (pl := pl) peW cls hM F (C.room.mono hk) hb .nil pass0 ht) (ho B1 H1 S1 e1 e2 _ fun v B2 H2 S2 e3 e4 r => ?_)
  obtain ⟨a, dx, fs, h1, h2, h3⟩ := hi r
  exact ⟨a, dx, fs, h1, h2, h3, B2, d, S2.bh, S2.tu, by rw [hA]; exact ⟨v, [], rfl, r, rfl⟩, kL_call S2 hm fun p vs B4 H4 S4 e7 e8 r => q p vs B4 H4 S4 (e3.trans e7) (e4.trans e8) r⟩
end

/-! ### a def's promise from its body -/
section
variable {P : Program} {w : World} {K : PySem.W.Frag} {mg : Str → Option Value} {base : Heap}
theorem fun_ok {x qual : Str} {st : Stmt} {f : Addr} {fd : FuncData} {N ps : List Str} {k : Nat} {δ ρ : Type} {args : δ → AR} {Kd : Kind ρ} {g : δ → Res ρ} (F : Fun K x qual st f fd) (S : FnScope N ps (defScope st)) (hl : ∀ d vs B H, (args d).r vs B H → vs.length = ps.length)
    (body : ∀ X : Cx, X.prog = P → X.w = w → X.K = K → X.mg = mg → X.base = base → Cok X k → Scp X N (defScope st) → (∀ x, X.fn x = true) → ∀ B H vs d (Q : VK), Sx B H → Tx H B → (args d).r vs B H → Fin (Kd ⟨B, H⟩ Q) NoErr (g d) →
      WSs X (defBody st) { nx := fun _ H' => Q .non H', rt := Q } (start N vs) H) : FnOk P w K mg base CX0 (k + 1) f fd ps (SpA args Kd g) := by
  refine F.ok S (fun vs H Q E h => ?_) (fun cdv A outer s H vs Q E hr h => ?_)
  · obtain ⟨B, d, _, _, h3, _⟩ := h
    exact hl d vs B H h3
  · obtain ⟨B, d, h1, h2, h3, h4⟩ := h
    exact ⟨_, pssW, body ((cxOf CX0 P w K mg base N qual (defScope st) f cdv A outer s H E).nox) rfl rfl rfl rfl rfl ⟨rfl, S.nd, hr, PassesOwn.never⟩ ⟨rfl, rfl⟩ (fun _ => rfl) B H vs d Q h1 h2 h3 h4⟩
end
end Sg

namespace Sg
open PySem PySem.Spec PyProof.Rows L2

/-! ### dicts as lists of pairs -/
section
variable {κ κ' α β : Type} [DecidableEq κ] [DecidableEq κ']
def dget (kvs : List (κ × α)) (k : κ) : Option α := (kvs.find? fun kv => decide (kv.1 = k)).map (·.2)
def dput (kvs : List (κ × α)) (k : κ) (v : α) : List (κ × α) :=
  if (kvs.any fun kv => decide (kv.1 = k)) = true then kvs.map (fun kv => if kv.1 = k then (kv.1, v) else kv) else kvs ++ [(k, v)]
def dmerge (more : List (κ × α)) : List (κ × α) := more.foldl (fun acc kv => dput acc kv.1 kv.2) []
/-- the keys of w are those of k, told otherwise -/
theorem rel_any {f : κ' → κ} (hf : ∀ a b, f a = f b → a = b) {F : V → α → Prop} {k : κ'} : ∀ {ws : List (κ × V)} {kvs : List (κ' × α)}, Paired (fun w kv => w.1 = f kv.1 ∧ F w.2 kv.2) ws kvs → (ws.any fun w => decide (w.1 = f k)) = (kvs.any fun kv => decide (kv.1 = k))
  | _, _, .nil => rfl
  | _, _, .cons (a := w) (b := kv) h t => by
    rw [List.any_cons, List.any_cons, rel_any hf t, h.1]
    congr 1
    rw [Bool.eq_iff_iff, decide_eq_true_iff, decide_eq_true_iff]
    exact ⟨hf _ _, fun e => by rw [e]⟩
theorem rel_get {f : κ' → κ} (hf : ∀ a b, f a = f b → a = b) {F : V → α → Prop} {k : κ'} : ∀ {ws : List (κ × V)} {kvs : List (κ' × α)}, Paired (fun w kv => w.1 = f kv.1 ∧ F w.2 kv.2) ws kvs →
    match dget kvs k with
    | none => valV ws (f k) = none
    | some x => ∃ v, valV ws (f k) = some v ∧ F v x
  | _, _, .nil => rfl
  | _, _, .cons (a := w) (b := kv) h t => by
    have ih := rel_get hf (k := k) t
    by_cases e : kv.1 = k
    · have e2 : w.1 = f k := by rw [h.1, e]
      unfold dget
      rw [List.find?_cons_of_pos (by simp [e])]
      rw [valV_pos e2]
      exact ⟨w.2, rfl, h.2⟩
    · have e2 : ¬ w.1 = f k := fun q => e (hf _ _ (h.1.symm.trans q))
      unfold dget at ih ⊢
      rw [List.find?_cons_of_neg (by simp [e]), valV_neg e2]
      exact ih
theorem rel_map {f : κ' → κ} (hf : ∀ a b, f a = f b → a = b) {F : V → α → Prop} {k : κ'} {u : V} {x : α} (hx : F u x) : ∀ {ws : List (κ × V)} {kvs : List (κ' × α)}, Paired (fun w kv => w.1 = f kv.1 ∧ F w.2 kv.2) ws kvs →
    Paired (fun w kv => w.1 = f kv.1 ∧ F w.2 kv.2) (ws.map fun kv => if kv.1 = f k then (kv.1, u) else kv) (kvs.map fun kv => if kv.1 = k then (kv.1, x) else kv)
  | _, _, .nil => .nil
  | _, _, .cons (a := w) (b := kv) h t => by
    rw [List.map_cons, List.map_cons]
    refine .cons ?_ (rel_map hf hx t)
    by_cases e : kv.1 = k
    · have e2 : w.1 = f k := by rw [h.1, e]
      rw [if_pos e, if_pos e2]
      exact ⟨h.1, hx⟩
    · have e2 : ¬ w.1 = f k := fun q => e (hf _ _ (h.1.symm.trans q))
      rw [if_neg e, if_neg e2]
      exact h
theorem rel_put {f : κ' → κ} (hf : ∀ a b, f a = f b → a = b) {F : V → α → Prop} {k : κ'} {u : V} {x : α} (hx : F u x) {ws : List (κ × V)} {kvs : List (κ' × α)} (h : Paired (fun w kv => w.1 = f kv.1 ∧ F w.2 kv.2) ws kvs) :
    Paired (fun w kv => w.1 = f kv.1 ∧ F w.2 kv.2) (putK ws (f k) u) (dput kvs k x) := by
  unfold putK dput
  rw [rel_any hf h]
  by_cases e : (kvs.any fun kv => decide (kv.1 = k)) = true
  · rw [if_pos e, if_pos e]
    exact rel_map hf hx h
  · rw [if_neg e, if_neg e]
    exact psnoc h ⟨rfl, hx⟩
end
theorem inl_inj (a b : Int) (h : (Sum.inl a : Key) = Sum.inl b) : a = b := Sum.inl.inj h
theorem inr_inj (a b : Str) (h : (Sum.inr a : Key) = Sum.inr b) : a = b := Sum.inr.inj h
theorem inls_inj : ∀ (a b : List Int), a.map (Sum.inl (β := Str)) = b.map Sum.inl → a = b
  | [], [], _ => rfl
  | [], _ :: _, h => by cases h
  | _ :: _, [], h => by cases h
  | x :: r, y :: q, h => by
    rw [List.map_cons, List.map_cons] at h
    injection h with h1 h2
    rw [Sum.inl.inj h1, inls_inj r q h2]
/-- what a dict holds: ints | texts | tuples of ints as keys -/
def pI {α : Type} (R : Rel α) (H : Hp) (ws : List (Key × V)) (kvs : List (Int × α)) : Prop := Paired (fun w kv => w.1 = Sum.inl kv.1 ∧ R.r H w.2 kv.2) ws kvs
def pS {α : Type} (R : Rel α) (H : Hp) (ws : List (Key × V)) (kvs : List (Str × α)) : Prop := Paired (fun w kv => w.1 = Sum.inr kv.1 ∧ R.r H w.2 kv.2) ws kvs
def pT {α : Type} (R : Rel α) (H : Hp) (ws : List (List Key × V)) (kvs : List (List Int × α)) : Prop := Paired (fun w kv => w.1 = kv.1.map Sum.inl ∧ R.r H w.2 kv.2) ws kvs
section
variable {α : Type} {R : Rel α} {H H' : Hp}
theorem pI.up {ws : List (Key × V)} {kvs : List (Int × α)} (e : Ex H H') (h : pI R H ws kvs) : pI R H' ws kvs := pimp h fun _ _ q => ⟨q.1, R.mono e q.2⟩
theorem pS.up {ws : List (Key × V)} {kvs : List (Str × α)} (e : Ex H H') (h : pS R H ws kvs) : pS R H' ws kvs := pimp h fun _ _ q => ⟨q.1, R.mono e q.2⟩
theorem pT.up {ws : List (List Key × V)} {kvs : List (List Int × α)} (e : Ex H H') (h : pT R H ws kvs) : pT R H' ws kvs := pimp h fun _ _ q => ⟨q.1, R.mono e q.2⟩
end
section
variable {α : Type}
def rDI (R : Rel α) : Rel (List (Int × α)) := ⟨fun H v kvs => ∃ p ws, v = .ref p ∧ Rd H p (.dK ws) ∧ pI R H ws kvs, fun e ⟨p, ws, h1, h2, h3⟩ => ⟨p, ws, h1, e.dK h2, h3.up e⟩⟩
def rDS (R : Rel α) : Rel (List (Str × α)) := ⟨fun H v kvs => ∃ p ws, v = .ref p ∧ Rd H p (.dK ws) ∧ pS R H ws kvs, fun e ⟨p, ws, h1, h2, h3⟩ => ⟨p, ws, h1, e.dK h2, h3.up e⟩⟩
def rDT (R : Rel α) : Rel (List (List Int × α)) := ⟨fun H v kvs => ∃ p ws, v = .ref p ∧ Rd H p (.dT ws) ∧ pT R H ws kvs, fun e ⟨p, ws, h1, h2, h3⟩ => ⟨p, ws, h1, e.dT h2, h3.up e⟩⟩
instance {R : Rel α} : NN (rDI R) := ⟨fun h => by obtain ⟨p, vs, h1, _⟩ := h; rw [h1]; exact fun q => by cases q⟩
end
/-- a tuple of ints as a key -/
theorem tup_ints {H : Hp} {v : V} {ns : List Int} (h : (rTup rInt).r H v ns) : ∃ b, v = .ref b ∧ H b = some (.tup ((ns.map (Sum.inl (β := Str))).map kV)) := by
  obtain ⟨p, vs, h1, h2, h3⟩ := h
  refine ⟨p, h1, ?_⟩
  rw [h2, ints_rel h3, List.map_map]
  rfl
section
variable {X : Cx} {E : Ent} {own new own' : Own} {B H B' H' : Hp} {σ : L2.St} {α β γ τ ρ δ : Type} {R : Rel α} {S : Rel β} {T : Rel γ} {e a b c o it d : Expr} {x : α} {y : β} {p pos pos' apos : Pos} {i j k k0 : Nat} {z w : Bool} {xs : List α} {es : List Expr}
variable {n m : Str} {rest body other : List Stmt} {D : Ends} {P : ρ → Prop} {Er : Err → Prop} {ps : List Str} {A : AR}
/-- what is at a key -/
theorem dg_I {kvs : List (Int × α)} {u : Int} {v w : V} (h : (rDI R).r H v kvs) (hw : w = .int u) : ∃ a, v = .ref a ∧ IsD H a ∧ ∃ r, DGet H a w r ∧ (match dget kvs u with
    | none => r = none
    | some x => ∃ q, r = some q ∧ R.r H q x) := by
  obtain ⟨p, ws, h1, h2, h3⟩ := h
  refine ⟨p, h1, .inl ⟨ws, h2⟩, _, .inl ⟨ws, Sum.inl u, h2, hw, rfl⟩, ?_⟩
  exact rel_get (κ := Key) inl_inj h3
theorem dg_S {kvs : List (Str × α)} {u : Str} {v w : V} (h : (rDS R).r H v kvs) (hw : w = .str u) : ∃ a, v = .ref a ∧ IsD H a ∧ ∃ r, DGet H a w r ∧ (match dget kvs u with
    | none => r = none
    | some x => ∃ q, r = some q ∧ R.r H q x) := by
  obtain ⟨p, ws, h1, h2, h3⟩ := h
  refine ⟨p, h1, .inl ⟨ws, h2⟩, _, .inl ⟨ws, Sum.inr u, h2, hw, rfl⟩, ?_⟩
  exact rel_get (κ := Key) inr_inj h3
theorem dg_T {kvs : List (List Int × α)} {u : List Int} {v w : V} (h : (rDT R).r H v kvs) (hw : (rTup rInt).r H w u) : ∃ a, v = .ref a ∧ IsD H a ∧ ∃ r, DGet H a w r ∧ (match dget kvs u with
    | none => r = none
    | some x => ∃ q, r = some q ∧ R.r H q x) := by
  obtain ⟨p, ws, h1, h2, h3⟩ := h
  obtain ⟨b, hb1, hb2⟩ := tup_ints hw
  refine ⟨p, h1, .inr ⟨ws, h2⟩, _, .inr ⟨ws, u.map Sum.inl, b, h2, hb1, hb2, rfl⟩, ?_⟩
  exact rel_get (κ := List Key) (f := fun l : List Int => l.map (Sum.inl (β := Str))) inls_inj h3
/-- a kind of dicts: how it is read -/
structure DK (R : Rel α) (κ : Type) [DecidableEq κ] (RK : Rel κ) (RD : Rel (List (κ × α))) : Prop where
  d : ∀ {H : Hp} {kvs : List (κ × α)} {v : V}, RD.r H v kvs → ∃ a, v = .ref a ∧ IsD H a
  g : ∀ {H : Hp} {kvs : List (κ × α)} {u : κ} {a : Addr} {w : V}, RD.r H (.ref a) kvs → RK.r H w u → ∃ r, DGet H a w r ∧ (match dget kvs u with
    | none => r = none
    | some x => ∃ q, r = some q ∧ R.r H q x)
theorem dkI : DK R Int rInt (rDI R) := ⟨fun h => by
  obtain ⟨p, ws, h1, h2, h3⟩ := h
  exact ⟨p, h1, .inl ⟨ws, h2⟩⟩, fun h hw => by
  obtain ⟨b, e, _, q⟩ := dg_I h hw
  cases e
  exact q⟩
theorem dkS : DK R Str rStr (rDS R) := ⟨fun h => by
  obtain ⟨p, ws, h1, h2, h3⟩ := h
  exact ⟨p, h1, .inl ⟨ws, h2⟩⟩, fun h hw => by
  obtain ⟨b, e, _, q⟩ := dg_S h hw
  cases e
  exact q⟩
theorem dkT : DK R (List Int) (rTup rInt) (rDT R) := ⟨fun h => by
  obtain ⟨p, ws, h1, h2, h3⟩ := h
  exact ⟨p, h1, .inr ⟨ws, h2⟩⟩, fun h hw => by
  obtain ⟨b, e, _, q⟩ := dg_T h hw
  cases e
  exact q⟩
variable {κ : Type} [DecidableEq κ] {RK : Rel κ} {RD : Rel (List (κ × α))} {kvs : List (κ × α)} {u : κ}
theorem Cok.hu (C : Cok X k) : X.A.units + 1 < cLine := hu_of C.room
theorem Cok.hu64 (C : Cok X k) : X.A.units + 64 < cLine := C.room.units
/-- d.get(k) -/
theorem ev_dget1 (C : Cok X k0) (dk : DK R κ RK RD) [NN R] (ho : EvB X E own B H σ o RD kvs) (ha : EvB X E own B H σ a RK u) (m : M1 X o "get" apos a p := by exact ⟨rfl, rfl, rfl, rfl⟩) : EvB X E own B H σ (.Call (.Attribute o "get" apos) [a] [] p) (rOpt R) (dget kvs u) := fun B1 H1 S1 e1 e2 Q q =>
  WE.of (pe_dget1 C.hu peW peW m) (ho B1 H1 S1 e1 e2 _ fun v B2 H2 S2 e3 e4 r => by
    obtain ⟨da, hv, hd⟩ := dk.d r
    subst hv
    refine ⟨da, rfl, hd, ha B2 H2 S2 (e1.trans e3) (e2.trans e4) _ fun w B3 H3 S3 e5 e6 rw' => ?_⟩
    obtain ⟨r3, g1, g2⟩ := dk.g (RD.mono e6 r) rw'
    refine ⟨r3, g1, q _ B3 H3 S3 (e3.trans e5) (e4.trans e6) ?_⟩
    cases hq : dget kvs u with
    | none =>
      rw [hq] at g2
      have g2' : r3 = Option.none := g2
      subst g2'
      exact (show V.non = V.non from rfl)
    | some x =>
      rw [hq] at g2
      obtain ⟨z, g3, g4⟩ := g2
      subst g3
      exact ⟨NN.nn g4, g4⟩)
/-- d.get(k, y) -/
theorem ev_dget2 {x0 : α} (C : Cok X k0) (dk : DK R κ RK RD) (ho : EvB X E own B H σ o RD kvs) (ha : EvB X E own B H σ a RK u) (hb : EvB X E own B H σ b R x0) (m : M2 X o "get" apos a b p := by exact ⟨rfl, rfl, rfl, rfl⟩) : EvB X E own B H σ (.Call (.Attribute o "get" apos) [a, b] [] p) R ((dget kvs u).getD x0) := fun B1 H1 S1 e1 e2 Q q =>
  WE.of (pe_dget2 C.hu peW peW peW m) (ho B1 H1 S1 e1 e2 _ fun v B2 H2 S2 e3 e4 r => by
    obtain ⟨da, hv, hd⟩ := dk.d r
    subst hv
    refine ⟨da, rfl, hd, ha B2 H2 S2 (e1.trans e3) (e2.trans e4) _ fun w B3 H3 S3 e5 e6 rw' => hb B3 H3 S3 ((e1.trans e3).trans e5) ((e2.trans e4).trans e6) _ fun w2 B4 H4 S4 e7 e8 r0 => ?_⟩
    obtain ⟨r3, g1, g2⟩ := dk.g (RD.mono (e6.trans e8) r) (RK.mono e8 rw')
    refine ⟨r3, g1, q _ B4 H4 S4 ((e3.trans e5).trans e7) ((e4.trans e6).trans e8) ?_⟩
    cases hq : dget kvs u with
    | none =>
      rw [hq] at g2
      have g2' : r3 = Option.none := g2
      subst g2'
      exact r0
    | some x =>
      rw [hq] at g2
      obtain ⟨z, g3, g4⟩ := g2
      subst g3
      exact g4)
/-- d[k] -/
theorem ev_dix (C : Cok X k0) (dk : DK R κ RK RD) (ho : EvB X E own B H σ o RD kvs) (ha : EvB X E own B H σ a RK u) (hx : dget kvs u = some x) (hs : NoSl a := by exact fun _ _ => rfl) : EvB X E own B H σ (.Subscript o a p) R x := fun B1 H1 S1 e1 e2 Q q =>
  WE.of (pe_dget C.hu peW peW hs) (ho B1 H1 S1 e1 e2 _ fun v B2 H2 S2 e3 e4 r => ha B2 H2 S2 (e1.trans e3) (e2.trans e4) _ fun w B3 H3 S3 e5 e6 rw' => by
    obtain ⟨da, hv, hd⟩ := dk.d r
    subst hv
    obtain ⟨r3, g1, g2⟩ := dk.g (RD.mono e6 r) rw'
    rw [hx] at g2
    obtain ⟨z, g3, g4⟩ := g2
    subst g3
    exact ⟨da, z, rfl, g1, q z B3 H3 S3 (e3.trans e5) (e4.trans e6) g4⟩)
/-- k in d -/
theorem dg_some {r : Option V} (h : match dget kvs u with
    | none => r = none
    | some x => ∃ q, r = some q ∧ R.r H q x) : r.isSome = (dget kvs u).isSome := by
  cases hq : dget kvs u with
  | none =>
    rw [hq] at h
    have h' : r = Option.none := h
    rw [h'] <;> rfl
  | some x =>
    rw [hq] at h
    obtain ⟨z, g3, g4⟩ := h
    rw [g3] <;> rfl
theorem et_din (C : Cok X k0) (dk : DK R κ RK RD) (ha : EvB X E own B H σ a RK u) (ho : EvB X E own B H σ o RD kvs) (hm : behindInMarks .In o = false := by rfl) : EvT X E own B H σ (.Compare a [.In] [o] p) (dget kvs u).isSome := fun B1 H1 S1 e1 e2 Q q =>
  WT.of (pt_cmp (pc_din C.hu peW peW) hm) (ha B1 H1 S1 e1 e2 _ fun w B2 H2 S2 e3 e4 rw' => ho B2 H2 S2 (e1.trans e3) (e2.trans e4) _ fun v B3 H3 S3 e5 e6 r => by
    obtain ⟨da, hv, hd⟩ := dk.d r
    subst hv
    obtain ⟨r3, g1, g2⟩ := dk.g r (RK.mono e6 rw')
    exact ⟨da, r3, rfl, g1, _, rfl, by rw [dg_some g2]; exact q B3 H3 S3 (e3.trans e5) (e4.trans e6)⟩)
theorem et_dnin (C : Cok X k0) (dk : DK R κ RK RD) (ha : EvB X E own B H σ a RK u) (ho : EvB X E own B H σ o RD kvs) (hm : behindInMarks .NotIn o = false := by rfl) : EvT X E own B H σ (.Compare a [.NotIn] [o] p) (!(dget kvs u).isSome) := fun B1 H1 S1 e1 e2 Q q =>
  WT.of (pt_cmp (pc_dnotin C.hu peW peW) hm) (ha B1 H1 S1 e1 e2 _ fun w B2 H2 S2 e3 e4 rw' => ho B2 H2 S2 (e1.trans e3) (e2.trans e4) _ fun v B3 H3 S3 e5 e6 r => by
    obtain ⟨da, hv, hd⟩ := dk.d r
    subst hv
    obtain ⟨r3, g1, g2⟩ := dk.g r (RK.mono e6 rw')
    exact ⟨da, r3, rfl, g1, _, rfl, by rw [dg_some g2]; exact q B3 H3 S3 (e3.trans e5) (e4.trans e6)⟩)
theorem ev_din (C : Cok X k0) (dk : DK R κ RK RD) (ha : EvB X E own B H σ a RK u) (ho : EvB X E own B H σ o RD kvs) (hm : behindInMarks .In o = false := by rfl) : EvB X E own B H σ (.Compare a [.In] [o] p) rBool (dget kvs u).isSome := fun B1 H1 S1 e1 e2 Q q =>
  WE.of (pe_cmp (pc_din C.hu peW peW) hm) (ha B1 H1 S1 e1 e2 _ fun w B2 H2 S2 e3 e4 rw' => ho B2 H2 S2 (e1.trans e3) (e2.trans e4) _ fun v B3 H3 S3 e5 e6 r => by
    obtain ⟨da, hv, hd⟩ := dk.d r
    subst hv
    obtain ⟨r3, g1, g2⟩ := dk.g r (RK.mono e6 rw')
    exact ⟨da, r3, rfl, g1, q _ B3 H3 S3 (e3.trans e5) (e4.trans e6) (by rw [dg_some g2]; rfl)⟩)
theorem ev_dnin (C : Cok X k0) (dk : DK R κ RK RD) (ha : EvB X E own B H σ a RK u) (ho : EvB X E own B H σ o RD kvs) (hm : behindInMarks .NotIn o = false := by rfl) : EvB X E own B H σ (.Compare a [.NotIn] [o] p) rBool (!(dget kvs u).isSome) := fun B1 H1 S1 e1 e2 Q q =>
  WE.of (pe_cmp (pc_dnotin C.hu peW peW) hm) (ha B1 H1 S1 e1 e2 _ fun w B2 H2 S2 e3 e4 rw' => ho B2 H2 S2 (e1.trans e3) (e2.trans e4) _ fun v B3 H3 S3 e5 e6 r => by
    obtain ⟨da, hv, hd⟩ := dk.d r
    subst hv
    obtain ⟨r3, g1, g2⟩ := dk.g r (RK.mono e6 rw')
    exact ⟨da, r3, rfl, g1, q _ B3 H3 S3 (e3.trans e5) (e4.trans e6) (by rw [dg_some g2]; rfl)⟩)
/-! owned dicts -/
theorem ev_ownDI {q : Addr} {ws : List (Key × V)} {kvs : List (Int × α)} (hp : PE X e (tVar i)) (h : σ[i]? = some (some (.ref q))) (ho : (q, HO.dK ws) ∈ own) (r : pI R B ws kvs) : EvB X E own B H σ e (rDI R) kvs :=
  fun B1 H1 S e1 e2 Q k => WE.of hp ⟨.ref q, h, k _ B1 H1 S (Ex.refl _) (Ex.refl _) ⟨q, ws, rfl, Rd.of (S.ow _ ho).2.2, r.up (e1.trans S.bh.ex)⟩⟩
theorem ev_ownDT {q : Addr} {ws : List (List Key × V)} {kvs : List (List Int × α)} (hp : PE X e (tVar i)) (h : σ[i]? = some (some (.ref q))) (ho : (q, HO.dT ws) ∈ own) (r : pT R B ws kvs) : EvB X E own B H σ e (rDT R) kvs :=
  fun B1 H1 S e1 e2 Q k => WE.of hp ⟨.ref q, h, k _ B1 H1 S (Ex.refl _) (Ex.refl _) ⟨q, ws, rfl, Rd.of (S.ow _ ho).2.2, r.up (e1.trans S.bh.ex)⟩⟩
theorem ev_ownDS {q : Addr} {ws : List (Key × V)} {kvs : List (Str × α)} (hp : PE X e (tVar i)) (h : σ[i]? = some (some (.ref q))) (ho : (q, HO.dK ws) ∈ own) (r : pS R B ws kvs) : EvB X E own B H σ e (rDS R) kvs :=
  fun B1 H1 S e1 e2 Q k => WE.of hp ⟨.ref q, h, k _ B1 H1 S (Ex.refl _) (Ex.refl _) ⟨q, ws, rfl, Rd.of (S.ow _ ho).2.2, r.up (e1.trans S.bh.ex)⟩⟩
/-- x = {} -/
theorem s_asgDK (C : Cok X k) (L : Slot X i n) (S0 : Stt E own B H)
    (q : ∀ p H', Stt E ((p, .dK []) :: own) B H' → WSs X rest D (σ.set i (some (.ref p))) H') (hs : swapsWith (.Dict [] [] p) (some (.Name n pos')) pos.line X.env = pure false := by rfl) :
    WSs X (.Assign [.Name n pos'] (.Dict [] [] p) pos :: rest) D σ H :=
  WSs.cons (ps_set C.nd L.ix L.loc pe_dnewK hs L.hf) fun p np => q p _ (S0.alloc np fun ys z => by cases z)
theorem s_asgDT (C : Cok X k) (L : Slot X i n) (S0 : Stt E own B H)
    (q : ∀ p H', Stt E ((p, .dT []) :: own) B H' → WSs X rest D (σ.set i (some (.ref p))) H') (hs : swapsWith (.Dict [] [] p) (some (.Name n pos')) pos.line X.env = pure false := by rfl) :
    WSs X (.Assign [.Name n pos'] (.Dict [] [] p) pos :: rest) D σ H :=
  WSs.cons (ps_set C.nd L.ix L.loc pe_dnewT hs L.hf) fun p np => q p _ (S0.alloc np fun ys z => by cases z)
/-- d[k] = v -/
theorem s_dputI {q : Addr} {ws : List (Key × V)} {kvs : List (Int × α)} {u : Int} (C : Cok X k0) (S0 : Stt E own B H) (ho : PE X o (tVar i)) (h : σ[i]? = some (some (.ref q))) (hk : own[k]? = some (q, .dK ws)) (r : pI R B ws kvs)
    (hv : EvE X E own B H σ e R x) (ha : EvB X E own B H σ a rInt u) (hz : kvs.length < sizeLine)
    (kt : ∀ ws' B' H', Stt E (own.set k (q, .dK ws')) B' H' → Ex B B' → pI R B' ws' (dput kvs u x) → WSs X rest D σ H')
    (hs : NoSl a := by exact fun _ _ => rfl) (hw : swapsWith e (some (.Subscript o a pos')) pos.line X.env = pure false := by rfl) : WSs X (.Assign [.Subscript o a pos'] e pos :: rest) D σ H :=
  WSs.cons (ps_dput C.hu ho peW peW hw) (hv B H S0 (Ex.refl _) (Ex.refl _) _ fun v B2 H2 S2 e1 e2 rv => ⟨.ref q, h, ha B2 H2 S2 e1 e2 _ fun w B3 H3 S3 e3 e4 rw' => by
    have hq := (S3.ow _ (List.mem_of_getElem? hk)).2.2
    have rw'' : w = .int u := rw'
    refine ⟨q, _, rfl, .inl ⟨ws, Sum.inl u, hq, rw'', by rw [plen r]; exact hz, rfl⟩, ?_⟩
    exact kt _ B3 _ (S3.put hk fun ys z => by cases z) (e1.trans e3) (rel_put (κ := Key) inl_inj (R.mono e3 rv) (r.up (e1.trans e3)))⟩)
theorem s_dputT {q : Addr} {ws : List (List Key × V)} {kvs : List (List Int × α)} {u : List Int} (C : Cok X k0) (S0 : Stt E own B H) (ho : PE X o (tVar i)) (h : σ[i]? = some (some (.ref q))) (hk : own[k]? = some (q, .dT ws)) (r : pT R B ws kvs)
    (hv : EvE X E own B H σ e R x) (ha : EvB X E own B H σ a (rTup rInt) u) (hz : kvs.length < sizeLine)
    (kt : ∀ ws' B' H', Stt E (own.set k (q, .dT ws')) B' H' → Ex B B' → pT R B' ws' (dput kvs u x) → WSs X rest D σ H')
    (hs : NoSl a := by exact fun _ _ => rfl) (hw : swapsWith e (some (.Subscript o a pos')) pos.line X.env = pure false := by rfl) : WSs X (.Assign [.Subscript o a pos'] e pos :: rest) D σ H :=
  WSs.cons (ps_dput C.hu ho peW peW hw) (hv B H S0 (Ex.refl _) (Ex.refl _) _ fun v B2 H2 S2 e1 e2 rv => ⟨.ref q, h, ha B2 H2 S2 e1 e2 _ fun w B3 H3 S3 e3 e4 rw' => by
    have hq := (S3.ow _ (List.mem_of_getElem? hk)).2.2
    obtain ⟨b, hb1, hb2⟩ := tup_ints rw'
    refine ⟨q, _, rfl, .inr ⟨ws, u.map Sum.inl, b, hq, hb1, hb2, by rw [plen r]; exact hz, rfl⟩, ?_⟩
    exact kt _ B3 _ (S3.put hk fun ys z => by cases z) (e1.trans e3) (rel_put (κ := List Key) (f := fun l : List Int => l.map (Sum.inl (β := Str))) inls_inj (R.mono e3 rv) (r.up (e1.trans e3)))⟩)
end
end Sg

namespace Sg
open PySem PySem.Spec PyProof.Rows L2
/-- a field of an instance -/
structure FldOf (C : Addr) (f : Str) {α β : Type} (R : Rel α) (S : Rel β) (pr : α → β) : Prop where
  g : ∀ {H : Hp} {v : V} {x : α}, R.r H v x → ∃ a dx fs u, v = .ref a ∧ H a = some (.ins C dx fs) ∧ fs.lookup f = some u ∧ S.r H u (pr x)
section
variable {X : Cx} {E : Ent} {own new own' : Own} {B H B' H' : Hp} {σ : L2.St} {α β γ τ ρ δ : Type} {R : Rel α} {S : Rel β} {T : Rel γ} {e a b c o it d : Expr} {x : α} {y : β} {p pos pos' apos : Pos} {i j k k0 : Nat} {z w : Bool} {xs : List α} {es : List Expr}
variable {n m f : Str} {rest body other : List Stmt} {D : Ends} {P : ρ → Prop} {Er : Err → Prop} {ps : List Str} {A : AR} {CA : Addr} {pr : α → β}
theorem ev_fld (cls : Cls X.K CA) (na : NoAttr X.K CA f) (F : FldOf CA f R S pr) (ho : EvB X E own B H σ o R x) (hb : attributeBase o f X.env (eval o X.env) = eval o X.env := by rfl) : EvB X E own B H σ (.Attribute o f pos) S (pr x) := fun B1 H1 S1 e1 e2 Q q =>
  WE.of (pe_fld peW hb) (ho B1 H1 S1 e1 e2 _ fun v B2 H2 S2 e3 e4 r => by
    obtain ⟨a, dx, fs, u, h1, h2, h3, h4⟩ := F.g r
    exact ⟨a, CA, dx, fs, u, h1, h2, cls, na, h3, q u B2 H2 S2 e3 e4 h4⟩)
end
/-! ### a table -/
structure Tab where
  ranks : List (Int × Int)
  parts : List (Int × List Int)
  closed : List Int
  wholes : List (List Int × Int)
  deriving DecidableEq
def tabF (d1 d2 d3 d4 : V) : List (Str × V) := [("ranks", d1), ("parts", d2), ("closed", d3), ("wholes", d4)]
def rTab (C : Addr) : Rel Tab := ⟨fun H v t => ∃ a dx d1 d2 d3 d4, v = .ref a ∧ H a = some (.ins C dx (tabF d1 d2 d3 d4)) ∧ (rDI rInt).r H d1 t.ranks ∧ (rDI (rTup rInt)).r H d2 t.parts ∧ (rLst rInt).r H d3 t.closed ∧ (rDT rInt).r H d4 t.wholes,
  fun e ⟨a, dx, d1, d2, d3, d4, h1, h2, h3, h4, h5, h6⟩ => ⟨a, dx, d1, d2, d3, d4, h1, e.ins h2, Rel.mono _ e h3, Rel.mono _ e h4, Rel.mono _ e h5, Rel.mono _ e h6⟩⟩
theorem tabF_no {m : Str} (h : [("ranks" : Str), "parts", "closed", "wholes"].all (fun x => !(m == x)) = true) (d1 d2 d3 d4 : V) : (tabF d1 d2 d3 d4).lookup m = none := by
  simp only [List.all_cons, List.all_nil, Bool.and_eq_true, Bool.not_eq_true', Bool.and_true] at h
  obtain ⟨h1, h2, h3, h4⟩ := h
  unfold tabF
  rw [List.lookup_cons, h1, List.lookup_cons, h2, List.lookup_cons, h3, List.lookup_cons, h4]
  rfl
theorem insTab {C : Addr} {m : Str} (h : [("ranks" : Str), "parts", "closed", "wholes"].all (fun x => !(m == x)) = true) : InsOf C m (rTab C) := fun r => by
  obtain ⟨a, dx, d1, d2, d3, d4, h1, h2, _⟩ := r
  exact ⟨a, dx, _, h1, h2, tabF_no h _ _ _ _⟩
theorem fldRanks {C : Addr} : FldOf C "ranks" (rTab C) (rDI rInt) Tab.ranks := ⟨fun r => by
  obtain ⟨a, dx, d1, d2, d3, d4, h1, h2, h3, h4, h5, h6⟩ := r
  exact ⟨a, dx, _, d1, h1, h2, rfl, h3⟩⟩
theorem fldParts {C : Addr} : FldOf C "parts" (rTab C) (rDI (rTup rInt)) Tab.parts := ⟨fun r => by
  obtain ⟨a, dx, d1, d2, d3, d4, h1, h2, h3, h4, h5, h6⟩ := r
  exact ⟨a, dx, _, d2, h1, h2, rfl, h4⟩⟩
theorem fldClosed {C : Addr} : FldOf C "closed" (rTab C) (rLst rInt) Tab.closed := ⟨fun r => by
  obtain ⟨a, dx, d1, d2, d3, d4, h1, h2, h3, h4, h5, h6⟩ := r
  exact ⟨a, dx, _, d3, h1, h2, rfl, h5⟩⟩
theorem fldWholes {C : Addr} : FldOf C "wholes" (rTab C) (rDT rInt) Tab.wholes := ⟨fun r => by
  obtain ⟨a, dx, d1, d2, d3, d4, h1, h2, h3, h4, h5, h6⟩ := r
  exact ⟨a, dx, _, d4, h1, h2, rfl, h6⟩⟩
end Sg

namespace Sg
open PySem PySem.Spec PyProof.Rows L2

/-- a comprehension's block -/
def Blk (X : Cx) (scope : Scope) (Xb : Cx) : Prop := ∃ s H C cl fp, Xb = X.blk s H scope (compEnvC scope cl C X.env) fp
/-- kept: condition, element, one by one -/
def mfM {α β : Type} (c : α → Res Bool) (f : α → Res β) : List α → Res (List β)
  | [] => .ok []
  | x :: r => (c x).bind fun b => if b = true then (f x).bind fun y => (mfM c f r).bind fun ys => .ok (y :: ys) else mfM c f r
theorem mfM_cons {α β : Type} {c : α → Res Bool} {f : α → Res β} {x : α} {r : List α} {ys : List β} (h : mfM c f (x :: r) = .ok ys) : ∃ b, c x = .ok b ∧ (b = true → ∃ y zs, f x = .ok y ∧ mfM c f r = .ok zs ∧ ys = y :: zs) ∧ (b = false → mfM c f r = .ok ys) := by
  unfold mfM at h
  obtain ⟨b, hb, h⟩ := Res.bind_ok h
  refine ⟨b, hb, fun e => ?_, fun e => ?_⟩
  · rw [if_pos e] at h
    obtain ⟨y, hy, h⟩ := Res.bind_ok h
    obtain ⟨zs, hz, h⟩ := Res.bind_ok h
    exact ⟨y, zs, hy, hz, (Res.ok_inj h).symm⟩
  · rw [if_neg (by rw [e]; exact Bool.false_ne_true)] at h
    exact h
section
variable {X Xb : Cx} {E : Ent} {own new own' : Own} {B H B' H' : Hp} {σ : L2.St} {α β γ τ ρ δ : Type} {R : Rel α} {S : Rel β} {T : Rel γ} {e a b c o it d elt tg : Expr} {x : α} {y : β} {p pos pos' apos : Pos} {i j k k0 : Nat} {z w : Bool} {xs : List α} {ys : List β} {es : List Expr}
variable {n m f : Str} {rest body other : List Stmt} {D : Ends} {P : ρ → Prop} {Er : Err → Prop} {ps : List Str} {A : AR} {CA : Addr} {scope sc : Scope} {N : List Str}
theorem Blk.cok (h : Blk X scope Xb) (C : Cok X k) : Cok Xb k := by
  obtain ⟨s, H, Cc, cl, fp, rfl⟩ := h
  exact ⟨C.calm, C.nd, C.room, PassesOwn.never⟩
theorem Blk.scp (h : Blk X scope Xb) (V : Scp X N sc) : Scp Xb N (relS scope sc) := by
  obtain ⟨s, H, Cc, cl, fp, rfl⟩ := h
  refine ⟨V.n, ?_⟩
  show relS scope X.env.scope = _
  rw [V.sc]
theorem Blk.cal {sp : Sp} (h : Blk X scope Xb) (G : Cal X k n ps sp) : Cal Xb k n ps sp := by
  obtain ⟨s, H, Cc, cl, fp, rfl⟩ := h
  exact G
theorem Blk.mcal {sp : Sp} (h : Blk X scope Xb) (G : MCal X k CA n ps sp) : MCal Xb k CA n ps sp := by
  obtain ⟨s, H, Cc, cl, fp, rfl⟩ := h
  exact G
theorem Blk.mg (h : Blk X scope Xb) : Xb.mg = X.mg := by
  obtain ⟨s, H, Cc, cl, fp, rfl⟩ := h
  rfl
theorem Blk.K (h : Blk X scope Xb) : Xb.K = X.K := by
  obtain ⟨s, H, Cc, cl, fp, rfl⟩ := h
  rfl
/-- a slot of the block's own name -/
theorem Blk.slot {t : List (Str × NameKind)} (h : Blk X scope Xb) (V : Scp X N sc) (ht : nmOk (relS scope sc) t = true) (i j : Nat) (hi : N[i]? = some n := by rfl) (hj : t[j]? = some (n, .local) := by rfl) : Slot Xb i n := by
  have V2 := h.scp V
  obtain ⟨q1, _⟩ := nmOk.at ht hj
  have e : Xb.env.scope.names.lookup n = some .local := by rw [V2.sc, q1]
  exact ⟨by rw [V2.n]; exact hi, .inl e, .inr e⟩
/-- a block's truth of its test -/
def EvTs (X : Cx) (E : Ent) (own : Own) (B H : Hp) (σ : L2.St) (ifs : List Expr) (b : Bool) : Prop := ∃ tt : TT, PTs X ifs tt ∧ ∀ B1 H1, Stt E own B1 H1 → Ex B B1 → Ex H H1 → ∀ Q : Bool → Hp → Prop,
  (∀ B2 H2, Stt E own B2 H2 → Ex B1 B2 → Ex H1 H2 → Q b H2) → tt σ H1 Q
theorem ets_nil : EvTs X E own B H σ [] true := ⟨tYes, pts_nil, fun B1 H1 S1 e1 e2 Q k => k B1 H1 S1 (Ex.refl _) (Ex.refl _)⟩
theorem ets_one (h : EvT X E own B H σ c z) : EvTs X E own B H σ [c] z := ⟨WT X c, pts_one ptW, h⟩
def WG (X : Cx) (tg : Expr) : TG := fun v σ H Q => ∀ (pins : List (Addr × Obj)) (s : Shared) (u : Value), Inv X pins σ H s → RelV v u → wpAny (model X.prog X.w) X.A (assign tg X.env u) (fun _ s' => ∃ σ' H', Inv X pins σ' H' s' ∧ Q σ' H') X.xe s
def WTs (X : Cx) (ifs : List Expr) : TT := fun σ H Q => ∀ (pins : List (Addr × Obj)) (s : Shared), Inv X pins σ H s →
    wpAny (model X.prog X.w) X.A (forIn ifs true fun c r => if r = true then do let ok ← isTrue c X.env (eval c X.env); pure (ForInStep.yield ok) else pure (ForInStep.yield r)) (TP X pins σ Q) X.xe s
/-- the readings of a block's parts, whatever block it is -/
def gB (X : Cx) (scope : Scope) (tg : Expr) : TG := fun v σ H Q => ∀ Xb, Blk X scope Xb → WG Xb tg v σ H Q
def ttB (X : Cx) (scope : Scope) (ifs : List Expr) : TT := fun σ H Q => ∀ Xb, Blk X scope Xb → WTs Xb ifs σ H Q
def teB (X : Cx) (scope : Scope) (e : Expr) : TE := fun σ H Q => ∀ Xb, Blk X scope Xb → WE Xb e σ H Q
/-- [elt for tg in it if ..] -/
theorem lc_read {Tg : α → Hp → L2.St → L2.St → Prop} {Ko : Own → Prop} {cm : α → Res Bool} {fm : α → Res β} {ifs : List Expr} {vs : List Nat} {Q : VK} {J : It} {B2 H2 : Hp} (S2 : Stt E own B2 H2) (W : Walk E Ko B2 J R xs) (hz : xs.length ≤ sizeLine)
    (hK : ∀ D acc, Ko ((D, .lst acc) :: own)) (ht : ∀ Xb, Blk X scope Xb → TgOk Xb E tg R Tg) (hm : mfM cm fm xs = .ok ys)
    (hc : ∀ Xb x σ2 acc Dd B3 H3 b, Blk X scope Xb → Stt E ((Dd, .lst acc) :: own) B3 H3 → Ex B2 B3 → Tg x B3 (wipe σ vs) σ2 → cm x = .ok b → EvTs Xb E ((Dd, .lst acc) :: own) B3 H3 σ2 ifs b)
    (he : ∀ Xb x y σ2 acc Dd B3 H3, Blk X scope Xb → Stt E ((Dd, .lst acc) :: own) B3 H3 → Ex B2 B3 → Tg x B3 (wipe σ vs) σ2 → cm x = .ok true → fm x = .ok y → EvE Xb E ((Dd, .lst acc) :: own) B3 H3 σ2 elt S y)
    (hwp : ∀ x B3 σ2, Tg x B3 (wipe σ vs) σ2 → wipe σ2 vs = wipe σ vs)
    (hup : ∀ x B3 B4 σ2, Tg x B3 (wipe σ vs) σ2 → Ex B3 B4 → Tg x B4 (wipe σ vs) σ2)
    (kq : ∀ p us B3 H3, Stt E ((p, .lst us) :: own) B3 H3 → Ex B2 B3 → Ex H2 H3 → Paired (S.r B3) us ys → Q (.ref p) H3) :
    ∀ D, H2 D = none → ∃ W : Nat → Nat → Hp → Prop, (∃ m, W 0 m (upd H2 D (.lst []))) ∧ ∀ i m H, W i m H →
      (J.stop i H ∧ Q (.ref D) H) ∨ (J.go i H ∧ ∃ Nx : Hp → Prop, (∀ H', Nx H' → ∃ m', m' < m ∧ W (i + 1) m' H') ∧ ∀ x H', J.yld i H x H' → gB X scope tg x (wipe σ vs) H' fun σ2 H2 => wipe σ2 vs = wipe σ vs ∧ ttB X scope ifs σ2 H2 fun b H3 =>
        if b = true then teB X scope elt σ2 H3 fun y H4 => ∃ acc, H4 D = some (.lst acc) ∧ acc.length < sizeLine ∧ Nx (upd H4 D (.lst (acc ++ [y]))) else Nx H3) := by
  intro Dd hD
  refine ⟨fun i mm H' => mm = xs.length - i ∧ i ≤ xs.length ∧ ∃ acc B' done left, Stt E ((Dd, .lst acc) :: own) B' H' ∧ Ex B2 B' ∧ Ex H2 H' ∧ Paired (S.r B') acc done ∧ mfM cm fm (xs.drop i) = .ok left ∧ done ++ left = ys ∧ acc.length ≤ i,
    ⟨xs.length, by simp, Nat.zero_le _, [], B2, [], ys, S2.alloc hD (fun ys z => by cases z), Ex.refl _, (Sx.new hD).ex, .nil, by rw [List.drop_zero]; exact hm, rfl, Nat.le_refl _⟩, ?_⟩
  rintro i mm H' ⟨rfl, hi, acc, B', done, left, S', e', eh, rp, hmf, hdl, hal⟩
  by_cases hlt : i < xs.length
  · refine .inr ⟨W.go i _ B' H' S' e' (hK _ _) hlt, fun H' => ∃ acc B' done left, Stt E ((Dd, .lst acc) :: own) B' H' ∧ Ex B2 B' ∧ Ex H2 H' ∧ Paired (S.r B') acc done ∧ mfM cm fm (xs.drop (i + 1)) = .ok left ∧ done ++ left = ys ∧ acc.length ≤ i + 1, fun H' q => ⟨xs.length - (i + 1), by omega, rfl, hlt, q⟩, fun v H'' hy => ?_⟩
    have hx : xs[i]? = some xs[i] := List.getElem?_eq_getElem hlt
    obtain ⟨B'', S'', e3, e4, rx⟩ := W.yld i _ B' H' v H'' _ S' e' (hK _ _) hx hy
    rw [List.drop_eq_getElem_cons hlt] at hmf
    obtain ⟨b, hb, h1, h2⟩ := mfM_cons hmf
    intro Xb hX
    obtain ⟨g, pg, hg⟩ := ht Xb hX
    intro pins s u I ru
    refine pg.run pins s _ H'' v u _ I ru (hg _ B'' H'' v _ _ S'' rx _ fun σ2 tgx => ⟨hwp _ _ _ tgx, fun Xc hXc => ?_⟩)
    obtain ⟨tt, pt, htt⟩ := hc Xc _ σ2 acc Dd B'' H'' b hXc S'' (e'.trans e3) tgx hb
    intro pins s I
    refine pt.run pins s σ2 H'' _ I (htt B'' H'' S'' (Ex.refl _) (Ex.refl _) _ fun B4 H4 S4 e5 e6 => ?_)
    cases b with
    | false => exact ⟨acc, B4, done, left, S4, (e'.trans e3).trans e5, (eh.trans e4).trans e6, pimp rp fun _ _ z => S.mono (e3.trans e5) z, h2 rfl, hdl, Nat.le_succ_of_le hal⟩
    | true =>
      obtain ⟨y, zs, hy1, hy2, hy3⟩ := h1 rfl
      intro Xd hXd
      refine he Xd _ y σ2 acc Dd B4 H4 hXd S4 ((e'.trans e3).trans e5) (hup _ _ _ _ tgx e5) hb hy1 B4 H4 S4 (Ex.refl _) (Ex.refl _) _ fun w B5 H5 S5 e7 e8 rw' => ?_
      have hq := (S5.ow _ (List.mem_cons_self ..)).2.2
      refine ⟨acc, hq, Nat.lt_of_le_of_lt hal (Nat.lt_of_lt_of_le hlt hz), acc ++ [w], B5, done ++ [y], zs, S5.write (fun ys z => by cases z), ((e'.trans e3).trans e5).trans e7, ?_, psnoc (pimp rp fun _ _ z => S.mono ((e3.trans e5).trans e7) z) rw', hy2, by rw [List.append_assoc]; rw [← hdl, hy3]; rfl, by rw [List.length_append, List.length_singleton]; omega⟩
      intro a o ha
      have ne : a ≠ Dd := fun z => by
        rw [z, hD] at ha
        cases ha
      rw [upd_ne ne]
      exact ((eh.trans e4).trans (e6.trans e8)) a o ha
  · have e : i = xs.length := by omega
    subst e
    rw [List.drop_length] at hmf
    have hn : left = [] := (Res.ok_inj hmf).symm
    subst hn
    rw [List.append_nil] at hdl
    subst hdl
    exact .inl ⟨W.stop _ _ B' H' S' e' (hK _ _) (Nat.le_refl _), kq Dd acc B' H' S' e' eh rp⟩
theorem pe_lcB {wi : TI} {ifs : List Expr} {ownN : List (Str × Nat)} (C : Cok X k0) (hi : PI X tg it wi) (ok : BlkOk X.N X.env.scope scope ownN) (hs : ∀ x, foldedSetIterable it X.env x = pure x := by intro _; rfl) :
    PE X (.ListComp elt [⟨tg, it, ifs, 0⟩] scope pos) (tLc wi (gB X scope tg) (ttB X scope ifs) (teB X scope elt) (ownN.map (·.2))) :=
  pe_lc C.calm C.nd hi ok (fun s H Cc cl fp => ⟨fun pins s' σ H' v u Q I r h => h _ ⟨s, H, Cc, cl, fp, rfl⟩ pins s' u I r⟩) (fun s H Cc cl fp => ⟨fun pins s' σ H' Q I h => h _ ⟨s, H, Cc, cl, fp, rfl⟩ pins s' I⟩) (fun s H Cc cl fp => ⟨fun pins s' σ H' Q I h => h _ ⟨s, H, Cc, cl, fp, rfl⟩ pins s' I⟩) hs
theorem ps_lcB {wi : TI} {ifs : List Expr} {ownN : List (Str × Nat)} (C : Cok X k0) (hy : X.N[i]? = some n) (hyl : X.env.scope.names.lookup n = some .local) (hsw : swapsWith (.ListComp elt [⟨tg, it, ifs, 0⟩] scope pos) (some (.Name n pos')) p.line X.env = pure true)
    (hi : PI X tg it wi) (ok : BlkOk X.N X.env.scope scope ownN) (hs : ∀ x, foldedSetIterable it X.env x = pure x := by intro _; rfl) :
    PS X (.Assign [.Name n pos'] (.ListComp elt [⟨tg, it, ifs, 0⟩] scope pos) p) (tAsg (tLc wi (gB X scope tg) (ttB X scope ifs) (teB X scope elt) (ownN.map (·.2))) (gName i)) :=
  ps_setLc C.calm C.nd hy hyl hsw hi ok (fun s H Cc cl fp => ⟨fun pins s' σ H' v u Q I r h => h _ ⟨s, H, Cc, cl, fp, rfl⟩ pins s' u I r⟩) (fun s H Cc cl fp => ⟨fun pins s' σ H' Q I h => h _ ⟨s, H, Cc, cl, fp, rfl⟩ pins s' I⟩) (fun s H Cc cl fp => ⟨fun pins s' σ H' Q I h => h _ ⟨s, H, Cc, cl, fp, rfl⟩ pins s' I⟩) hs
/-- a comprehension as a value -/
theorem el_lc {Tg : α → Hp → L2.St → L2.St → Prop} {Ko : Own → Prop} {cm : α → Res Bool} {fm : α → Res β} {ifs : List Expr} {ownN : List (Str × Nat)} (C : Cok X k0) (ok : BlkOk X.N X.env.scope scope ownN) (hit : EvI X E own B H σ tg it R Ko xs)
    (hK : ∀ D acc, Ko ((D, .lst acc) :: own)) (ht : ∀ Xb, Blk X scope Xb → TgOk Xb E tg R Tg) (hm : mfM cm fm xs = .ok ys)
    (hc : ∀ Xb x σ2 acc Dd B3 H3 b, Blk X scope Xb → Stt E ((Dd, .lst acc) :: own) B3 H3 → Ex B B3 → Tg x B3 (wipe σ (ownN.map (·.2))) σ2 → cm x = .ok b → EvTs Xb E ((Dd, .lst acc) :: own) B3 H3 σ2 ifs b)
    (he : ∀ Xb x y σ2 acc Dd B3 H3, Blk X scope Xb → Stt E ((Dd, .lst acc) :: own) B3 H3 → Ex B B3 → Tg x B3 (wipe σ (ownN.map (·.2))) σ2 → cm x = .ok true → fm x = .ok y → EvE Xb E ((Dd, .lst acc) :: own) B3 H3 σ2 elt S y)
    (hwp : ∀ x B3 σ2, Tg x B3 (wipe σ (ownN.map (·.2))) σ2 → wipe σ2 (ownN.map (·.2)) = wipe σ (ownN.map (·.2)))
    (hup : ∀ x B3 B4 σ2, Tg x B3 (wipe σ (ownN.map (·.2))) σ2 → Ex B3 B4 → Tg x B4 (wipe σ (ownN.map (·.2))) σ2)
    (hs : ∀ x, foldedSetIterable it X.env x = pure x := by intro _; rfl) : EvL X E own B H σ (.ListComp elt [⟨tg, it, ifs, 0⟩] scope pos) S ys := fun B1 H1 S1 e1 e2 Q k => by
  obtain ⟨wi, pi, hw⟩ := hit
  exact WE.of (pe_lcB C pi ok hs) (hw B1 H1 S1 e1 e2 _ fun J B2 H2 S2 e3 e4 W hz => lc_read S2 W hz hK ht hm (fun Xb x σ2 acc Dd B3 H3 b hX S3 e5 => hc Xb x σ2 acc Dd B3 H3 b hX S3 ((e1.trans e3).trans e5)) (fun Xb x y σ2 acc Dd B3 H3 hX S3 e5 => he Xb x y σ2 acc Dd B3 H3 hX S3 ((e1.trans e3).trans e5)) hwp hup
    fun p us B3 H3 S3 e5 e6 r => k p us B3 H3 S3 (e3.trans e5) (e4.trans e6) r)
/-- y = [..] on one line -/
theorem s_asgLc {Tg : α → Hp → L2.St → L2.St → Prop} {Ko : Own → Prop} {cm : α → Res Bool} {fm : α → Res β} {ifs : List Expr} {ownN : List (Str × Nat)} (C : Cok X k0) (hy : X.N[i]? = some n) (hyl : X.env.scope.names.lookup n = some .local) (hsw : swapsWith (.ListComp elt [⟨tg, it, ifs, 0⟩] scope pos) (some (.Name n pos')) p.line X.env = pure true) (S0 : Stt E own B H)
    (ok : BlkOk X.N X.env.scope scope ownN) (hit : EvI X E own B H σ tg it R Ko xs)
    (hK : ∀ D acc, Ko ((D, .lst acc) :: own)) (ht : ∀ Xb, Blk X scope Xb → TgOk Xb E tg R Tg) (hm : mfM cm fm xs = .ok ys)
    (hc : ∀ Xb x σ2 acc Dd B3 H3 b, Blk X scope Xb → Stt E ((Dd, .lst acc) :: own) B3 H3 → Ex B B3 → Tg x B3 (wipe σ (ownN.map (·.2))) σ2 → cm x = .ok b → EvTs Xb E ((Dd, .lst acc) :: own) B3 H3 σ2 ifs b)
    (he : ∀ Xb x y σ2 acc Dd B3 H3, Blk X scope Xb → Stt E ((Dd, .lst acc) :: own) B3 H3 → Ex B B3 → Tg x B3 (wipe σ (ownN.map (·.2))) σ2 → cm x = .ok true → fm x = .ok y → EvE Xb E ((Dd, .lst acc) :: own) B3 H3 σ2 elt S y)
    (hwp : ∀ x B3 σ2, Tg x B3 (wipe σ (ownN.map (·.2))) σ2 → wipe σ2 (ownN.map (·.2)) = wipe σ (ownN.map (·.2)))
    (hup : ∀ x B3 B4 σ2, Tg x B3 (wipe σ (ownN.map (·.2))) σ2 → Ex B3 B4 → Tg x B4 (wipe σ (ownN.map (·.2))) σ2)
    (q : ∀ p vs B' H', Stt E ((p, .lst vs) :: own) B' H' → Ex B B' → Paired (S.r B') vs ys → WSs X rest D (σ.set i (some (.ref p))) H')
    (hs : ∀ x, foldedSetIterable it X.env x = pure x := by intro _; rfl) : WSs X (.Assign [.Name n pos'] (.ListComp elt [⟨tg, it, ifs, 0⟩] scope pos) p :: rest) D σ H := by
  obtain ⟨wi, pi, hw⟩ := hit
  exact WSs.cons (ps_lcB C hy hyl hsw pi ok hs) (hw B H S0 (Ex.refl _) (Ex.refl _) _ fun J B2 H2 S2 e3 e4 W hz => lc_read (Q := fun v H1 => WSs X rest D (σ.set i (some v)) H1) S2 W hz hK ht hm (fun Xb x σ2 acc Dd B3 H3 b hX S3 e5 => hc Xb x σ2 acc Dd B3 H3 b hX S3 (e3.trans e5)) (fun Xb x y σ2 acc Dd B3 H3 hX S3 e5 => he Xb x y σ2 acc Dd B3 H3 hX S3 (e3.trans e5)) hwp hup
    fun p us B3 H3 S3 e5 e6 r => q p us B3 H3 S3 (e3.trans e5) r)
end
end Sg

namespace Sg
open PySem PySem.Spec PyProof.Rows L2

/-- xs[lo:hi] -/
def cut {α : Type} (xs : List α) (lo hi : Option Int) : List α := (xs.drop (HT.sIx xs.length 0 lo)).take (HT.sIx xs.length xs.length hi - HT.sIx xs.length 0 lo)
theorem pdrop {α β : Type} {F : α → β → Prop} : ∀ {l₁ : List α} {l₂ : List β} (n : Nat), Paired F l₁ l₂ → Paired F (l₁.drop n) (l₂.drop n)
  | _, _, 0, h => h
  | _, _, _ + 1, .nil => .nil
  | _, _, n + 1, .cons _ t => pdrop n t
theorem ptake {α β : Type} {F : α → β → Prop} : ∀ {l₁ : List α} {l₂ : List β} (n : Nat), Paired F l₁ l₂ → Paired F (l₁.take n) (l₂.take n)
  | _, _, 0, _ => .nil
  | _, _, _ + 1, .nil => .nil
  | _, _, n + 1, .cons h t => .cons h (ptake n t)
theorem pcut {α β : Type} {F : α → β → Prop} {l₁ : List α} {l₂ : List β} (lo hi : Option Int) (h : Paired F l₁ l₂) : Paired F (cut l₁ lo hi) (cut l₂ lo hi) := by
  unfold cut
  rw [plen h]
  exact ptake _ (pdrop _ h)
theorem prev {α β : Type} {F : α → β → Prop} : ∀ {l₁ : List α} {l₂ : List β}, Paired F l₁ l₂ → Paired F l₁.reverse l₂.reverse
  | _, _, .nil => .nil
  | _, _, .cons h t => by
    rw [List.reverse_cons, List.reverse_cons]
    exact psnoc (prev t) h
theorem pat {α β : Type} {F : α → β → Prop} {l₁ : List α} {l₂ : List β} {i : Int} {y : β} (h : Paired F l₁ l₂) (hy : atI l₂ i = some y) : ∃ x, atI l₁ i = some x ∧ F x y := by
  unfold atI at hy ⊢
  rw [plen h]
  cases e : ixN l₂.length i with
  | none => rw [e] at hy; cases hy
  | some j =>
    rw [e] at hy
    have hy' : l₂[j]? = some y := hy
    have hl : j < l₁.length := by
      rw [plen h]
      exact (List.getElem?_eq_some_iff.mp hy').1
    obtain ⟨z, hz, hF⟩ := L2.paired_get h (List.getElem?_eq_getElem hl)
    rw [hy'] at hz
    cases hz
    exact ⟨l₁[j], List.getElem?_eq_getElem hl, hF⟩
theorem pset {α β : Type} {F : α → β → Prop} {u : α} {w : β} (q : F u w) : ∀ {l₁ : List α} {l₂ : List β} (n : Nat), Paired F l₁ l₂ → Paired F (l₁.set n u) (l₂.set n w)
  | _, _, _, .nil => .nil
  | _, _, 0, .cons _ t => .cons q t
  | _, _, n + 1, .cons h t => .cons h (pset q n t)
section
variable {X : Cx} {E : Ent} {own new own' : Own} {B H B' H' : Hp} {σ : L2.St} {α β γ τ ρ δ ε : Type} {R : Rel α} {S : Rel β} {T : Rel γ} {U : Rel ε} {e a b c o it d : Expr} {x : α} {y : β} {u : γ} {t : ε} {p pos pos' apos : Pos} {i j k k0 : Nat} {z w : Bool} {xs ys : List α} {es : List Expr}
variable {n m f : Str} {rest body other : List Stmt} {D : Ends} {P : ρ → Prop} {Er : Err → Prop} {ps : List Str} {A : AR} {CA : Addr}
/-! subscripts -/
theorem ev_ixL {q : Int} (ho : EvB X E own B H σ o (rLst R) xs) (ha : EvB X E own B H σ a rInt q) (hx : atI xs q = some x) (hs : PlainIx a := by exact fun _ _ => rfl) : EvB X E own B H σ (.Subscript o a pos) R x := fun B1 H1 S1 e1 e2 Q k =>
  WE.of (pe_ix ix_list peW peW hs) (ho B1 H1 S1 e1 e2 _ fun v B2 H2 S2 e3 e4 r => ha B2 H2 S2 (e1.trans e3) (e2.trans e4) _ fun w B3 H3 S3 e5 e6 r' => by
    obtain ⟨l, vs, h1, h2, h3⟩ := Rel.mono _ e6 r
    obtain ⟨u, hu, hF⟩ := pat h3 hx
    exact ⟨l, vs, q, u, h1, r', .inl h2, hu, k u B3 H3 S3 (e3.trans e5) (e4.trans e6) hF⟩)
theorem ev_ixT {q : Int} (ho : EvB X E own B H σ o (rTup R) xs) (ha : EvB X E own B H σ a rInt q) (hx : atI xs q = some x) (hs : PlainIx a := by exact fun _ _ => rfl) : EvB X E own B H σ (.Subscript o a pos) R x := fun B1 H1 S1 e1 e2 Q k =>
  WE.of (pe_ix ix_tup peW peW hs) (ho B1 H1 S1 e1 e2 _ fun v B2 H2 S2 e3 e4 r => ha B2 H2 S2 (e1.trans e3) (e2.trans e4) _ fun w B3 H3 S3 e5 e6 r' => by
    obtain ⟨l, vs, h1, h2, h3⟩ := Rel.mono _ e6 r
    obtain ⟨u, hu, hF⟩ := pat h3 hx
    exact ⟨l, vs, q, u, h1, r', SqT.of h2, hu, k u B3 H3 S3 (e3.trans e5) (e4.trans e6) hF⟩)
/-- t[0], t[1] of a pair -/
theorem ev_fst {q : α × β} {kk} {pp : Pos} (ho : EvB X E own B H σ o (rPr R S) q) : EvB X E own B H σ (.Subscript o (.Constant (.int 0) kk pp) pos) R q.1 := fun B1 H1 S1 e1 e2 Q k =>
  WE.of (pe_ix ix_tup peW pe_int (fun _ _ => rfl)) (ho B1 H1 S1 e1 e2 _ fun v B2 H2 S2 e3 e4 r => by
    obtain ⟨l, c, d, h1, h2, h3, h4⟩ := r
    exact ⟨l, [c, d], 0, c, h1, rfl, SqT.of h2, rfl, k c B2 H2 S2 e3 e4 h3⟩)
theorem ev_snd {q : α × β} {kk} {pp : Pos} (ho : EvB X E own B H σ o (rPr R S) q) : EvB X E own B H σ (.Subscript o (.Constant (.int 1) kk pp) pos) S q.2 := fun B1 H1 S1 e1 e2 Q k =>
  WE.of (pe_ix ix_tup peW pe_int (fun _ _ => rfl)) (ho B1 H1 S1 e1 e2 _ fun v B2 H2 S2 e3 e4 r => by
    obtain ⟨l, c, d, h1, h2, h3, h4⟩ := r
    exact ⟨l, [c, d], 1, d, h1, rfl, SqT.of h2, rfl, k d B2 H2 S2 e3 e4 h4⟩)
/-! slices -/
def EvP (X : Cx) (E : Ent) (own : Own) (B H : Hp) (σ : L2.St) (e : Option Expr) (o : Option Int) : Prop := ∃ t : TO, PO X e t ∧ ∀ B1 H1, Stt E own B1 H1 → Ex B B1 → Ex H H1 → ∀ Q : Option Int → Hp → Prop,
  (∀ B2 H2, Stt E own B2 H2 → Ex B1 B2 → Ex H1 H2 → Q o H2) → t σ H1 Q
theorem ep_n : EvP X E own B H σ none none := ⟨_, po_none, fun B1 H1 S1 e1 e2 Q k => k B1 H1 S1 (Ex.refl _) (Ex.refl _)⟩
theorem ep_s {q : Int} (h : EvB X E own B H σ a rInt q) : EvP X E own B H σ (some a) (some q) := ⟨_, po_some peW, fun B1 H1 S1 e1 e2 Q k => h B1 H1 S1 e1 e2 _ fun v B2 H2 S2 e3 e4 r => ⟨q, r, k B2 H2 S2 e3 e4⟩⟩
theorem el_cut [Imm R] {lo hi : Option Expr} {l u : Option Int} (ho : EvB X E own B H σ o (rLst R) xs) (hl : EvP X E own B H σ lo l) (hu : EvP X E own B H σ hi u) : EvL X E own B H σ (.Subscript o (.Slice lo hi none p) pos) R (cut xs l u) := fun B1 H1 S1 e1 e2 Q k => by
  obtain ⟨tl, pl, hl⟩ := hl
  obtain ⟨tu, pu, hu⟩ := hu
  exact WE.of (pe_slice sl_list peW pl pu) (ho B1 H1 S1 e1 e2 _ fun v B2 H2 S2 e3 e4 r => hl B2 H2 S2 (e1.trans e3) (e2.trans e4) _ fun B3 H3 S3 e5 e6 => hu B3 H3 S3 ((e1.trans e3).trans e5) ((e2.trans e4).trans e6) _ fun B4 H4 S4 e7 e8 => by
    obtain ⟨q, vs, h1, h2, h3⟩ := Rel.mono _ (e6.trans e8) r
    exact ⟨q, vs, h1, .inl h2, fun p np => k p _ B4 _ (S4.alloc np fun ys z => by cases z) ((e3.trans e5).trans e7) (((e4.trans e6).trans e8).trans (Sx.new np).ex) (pcut l u (pimp h3 fun _ _ z => Imm.imm S4.tu z))⟩)
/-! list + list -/
theorem Inv.rdL {pins : List (Addr × Obj)} {s : Shared} {l : Addr} {vs : List V} (I : Inv X pins σ H s) (h : Rd H l (.lst vs)) : vs.length ≤ sizeLine ∧ ∃ (its : List Value) (n : Nat), Vals vs its ∧ vs.length = its.length ∧ s.heap.get? l = some { cls := .type "list", data := .seq its.toArray n } := by
  obtain ⟨z, its, n, r, e⟩ := h.ok I.hok
  exact ⟨z, its, n, r, r.length, e⟩
def rCatR : R2 := fun x y H Q => ∃ l b xs zs, x = .ref l ∧ y = .ref b ∧ Rd H l (.lst xs) ∧ Rd H b (.lst zs) ∧ xs.length + zs.length ≤ sizeLine ∧ ∀ p, H p = none → Q (.ref p) (upd H p (.lst (xs ++ zs)))
theorem op_catR : OpR X (binaryOp .Add) rCatR := by
  intro pins s σ H x y v u Q I rx ry h
  obtain ⟨l, b, xs, zs, rfl, rfl, hH, hB, hz, q⟩ := h
  cases rx
  cases ry
  obtain ⟨z, its, n, r, hl, e⟩ := Inv.rdL I hH
  obtain ⟨z2, its2, n2, r2, hl2, e2⟩ := Inv.rdL I hB
  refine PySem.P.add_list e e2 ?_ (by rw [List.size_toArray, List.size_toArray]; omega)
  have ea : its.toArray ++ its2.toArray = (its ++ its2).toArray := by simp
  rw [ea]
  exact ⟨.ref _, _, I.lnew (t' := s.toks) (r.append r2) (by rw [List.length_append]; omega), rfl, q _ I.fresh⟩
theorem el_cat [Imm R] (ha : EvB X E own B H σ a (rLst R) xs) (hb : EvB X E own B H σ b (rLst R) ys) (hz : xs.length + ys.length ≤ sizeLine) : EvL X E own B H σ (.BinOp a .Add b pos) R (xs ++ ys) := fun B1 H1 S1 e1 e2 Q k =>
  WE.of (pe_op op_catR peW peW) (ha B1 H1 S1 e1 e2 _ fun v B2 H2 S2 e3 e4 r => hb B2 H2 S2 (e1.trans e3) (e2.trans e4) _ fun w B3 H3 S3 e5 e6 r' => by
    obtain ⟨l, vs, h1, h2, h3⟩ := Rel.mono _ e6 r
    obtain ⟨l2, us, h1', h2', h3'⟩ := r'
    exact ⟨l, l2, vs, us, h1, h1', h2, h2', by rw [plen h3, plen h3']; exact hz, fun p np => k p _ B3 _ (S3.alloc np fun ys z => by cases z) (e3.trans e5) ((e4.trans e6).trans (Sx.new np).ex) (pimp (pappend h3 h3') fun _ _ z => Imm.imm S3.tu z)⟩)
/-- [..] * n -/
def rRepR : R2 := fun x y H Q => ∃ l k xs, x = .ref l ∧ y = .int k ∧ H l = some (.lst xs) ∧ -(2 ^ 63) ≤ k ∧ k < 2 ^ 63 ∧ xs.length * k.toNat ≤ sizeLine ∧
  ∀ p, H p = none → Q (.ref p) (upd H p (.lst (List.replicate k.toNat xs).flatten))
theorem prep {α β : Type} {F : α → β → Prop} {l₁ : List α} {l₂ : List β} (h : Paired F l₁ l₂) : ∀ n : Nat, Paired F (List.replicate n l₁).flatten (List.replicate n l₂).flatten
  | 0 => .nil
  | n + 1 => by
    rw [List.replicate_succ, List.replicate_succ, List.flatten_cons, List.flatten_cons]
    exact pappend h (prep h n)
theorem el_rep {q : Int} (ha : EvL X E own B H σ a R xs) (hb : ∀ own' B' H', Ex B B' → Ex H H' → EvB X E own' B' H' σ b rInt q) (hz : -(2 ^ 63) ≤ q ∧ q < 2 ^ 63 ∧ xs.length * q.toNat ≤ sizeLine) : EvL X E own B H σ (.BinOp a .Mult b pos) R (List.replicate q.toNat xs).flatten := fun B1 H1 S1 e1 e2 Q k =>
  WE.of (pe_op (show OpR X (binaryOp .Mult) rRepR from op_rep) peW peW) (ha B1 H1 S1 e1 e2 _ fun l vs B2 H2 S2 e3 e4 r => hb _ B2 H2 (e1.trans e3) (e2.trans e4) B2 H2 S2 (Ex.refl _) (Ex.refl _) _ fun w B3 H3 S3 e5 e6 r' => by
    refine ⟨l, q, vs, rfl, r', S3.own1, hz.1, hz.2.1, by rw [plen r]; exact hz.2.2, fun p np => ?_⟩
    have S4 := (S3.alloc np (o := .lst (List.replicate q.toNat vs).flatten) fun ys z => by cases z).swap.drop
    exact k p _ B3 _ S4 (e3.trans e5) ((e4.trans e6).trans (Sx.new np).ex) (prep (pimp r fun _ _ z => R.mono e5 z) _))
/-! x in xs -/
class Flat (R : Rel α) [DecidableEq α] : Prop where
  f : ∀ {H : Hp} {v : V} {x : α}, R.r H v x → flatV v = true
  eq : ∀ {H : Hp} {v w : V} {x y : α}, R.r H v x → R.r H w y → eqV v w = decide (x = y)
instance : Flat rInt := ⟨fun h => by rw [show _ = _ from h]; rfl, fun h h' => by
  rw [show _ = _ from h, show _ = _ from h']
  show (_ == _) = _
  rw [Bool.eq_iff_iff]
  simp⟩
instance : Flat rStr := ⟨fun h => by rw [show _ = _ from h]; rfl, fun h h' => by
  rw [show _ = _ from h, show _ = _ from h']
  show (_ == _) = _
  rw [Bool.eq_iff_iff]
  simp⟩
theorem in_rel [DecidableEq α] [Flat R] {H1 : Hp} {v : V} {x : α} (hx : R.r H1 v x) : ∀ {vs : List V} {xs : List α}, Paired (R.r H1) vs xs → vs.all flatV = true ∧ inV v vs = decide (x ∈ xs)
  | _, _, .nil => ⟨rfl, by simp [inV]⟩
  | _, _, .cons (a := w) (b := y) h t => by
    obtain ⟨h1, h2⟩ := in_rel hx t
    refine ⟨by rw [List.all_cons, Flat.f h, h1] <;> rfl, ?_⟩
    show (eqV w v || inV v _) = _
    rw [h2, Flat.eq h hx, Bool.eq_iff_iff]
    simp only [Bool.or_eq_true, decide_eq_true_iff, List.mem_cons]
    exact ⟨fun h => h.imp Eq.symm id, fun h => h.imp Eq.symm id⟩
theorem in_bh (b : Expr) : True := trivial
theorem ev_in [DecidableEq α] [Flat R] (ha : EvB X E own B H σ a R x) (ho : EvB X E own B H σ o (rLst R) xs) (hm : behindInMarks .In o = false := by rfl) : EvB X E own B H σ (.Compare a [.In] [o] pos) rBool (decide (x ∈ xs)) :=
  ev_cmp op_in_seq ha ho hm fun H1 v w Q h1 h2 k => by
    obtain ⟨l, vs, g1, g2, g3⟩ := h2
    obtain ⟨q1, q2⟩ := in_rel h1 g3
    refine ⟨l, vs, g1, .inl (.inl g2), Flat.f h1, q1, ?_⟩
    rw [q2]
    exact k
theorem et_in [DecidableEq α] [Flat R] (ha : EvB X E own B H σ a R x) (ho : EvB X E own B H σ o (rLst R) xs) (hm : behindInMarks .In o = false := by rfl) : EvT X E own B H σ (.Compare a [.In] [o] pos) (decide (x ∈ xs)) :=
  et_cmp op_in_seq ha ho hm fun H1 v w Q h1 h2 k => by
    obtain ⟨l, vs, g1, g2, g3⟩ := h2
    obtain ⟨q1, q2⟩ := in_rel h1 g3
    refine ⟨l, vs, g1, .inl (.inl g2), Flat.f h1, q1, ?_⟩
    rw [q2]
    exact k
theorem ev_nin [DecidableEq α] [Flat R] (ha : EvB X E own B H σ a R x) (ho : EvB X E own B H σ o (rLst R) xs) (hm : behindInMarks .NotIn o = false := by rfl) : EvB X E own B H σ (.Compare a [.NotIn] [o] pos) rBool (!decide (x ∈ xs)) :=
  ev_cmp op_notIn_seq ha ho hm fun H1 v w Q h1 h2 k => by
    obtain ⟨l, vs, g1, g2, g3⟩ := h2
    obtain ⟨q1, q2⟩ := in_rel h1 g3
    refine ⟨l, vs, g1, .inl (.inl g2), Flat.f h1, q1, ?_⟩
    rw [q2]
    exact k
theorem et_nin [DecidableEq α] [Flat R] (ha : EvB X E own B H σ a R x) (ho : EvB X E own B H σ o (rLst R) xs) (hm : behindInMarks .NotIn o = false := by rfl) : EvT X E own B H σ (.Compare a [.NotIn] [o] pos) (!decide (x ∈ xs)) :=
  et_cmp op_notIn_seq ha ho hm fun H1 v w Q h1 h2 k => by
    obtain ⟨l, vs, g1, g2, g3⟩ := h2
    obtain ⟨q1, q2⟩ := in_rel h1 g3
    refine ⟨l, vs, g1, .inl (.inl g2), Flat.f h1, q1, ?_⟩
    rw [q2]
    exact k
/-! a if t else b -/
theorem ev_ife (hc : EvT X E own B H σ c z) (h1 : z = true → EvB X E own B H σ a R x) (h2 : z = false → EvB X E own B H σ b R x) : EvB X E own B H σ (.IfExp c a b pos) R x := fun B1 H1 S1 e1 e2 Q k =>
  WE.of (pe_ifExp ptW peW peW) (hc B1 H1 S1 e1 e2 _ fun B2 H2 S2 e3 e4 => by
    cases z with
    | true => exact h1 rfl B2 H2 S2 (e1.trans e3) (e2.trans e4) Q fun v B3 H3 S3 e5 e6 => k v B3 H3 S3 (e3.trans e5) (e4.trans e6)
    | false => exact h2 rfl B2 H2 S2 (e1.trans e3) (e2.trans e4) Q fun v B3 H3 S3 e5 e6 => k v B3 H3 S3 (e3.trans e5) (e4.trans e6))
/-! min, max of two -/
theorem pa2 (hs0 : starEach (a :: [b]) X.env = (false, eval a X.env) :: starEach [b] X.env) (hs1 : St1 X b) : PA X [a, b] (tCons (WE X a) (tCons (WE X b) tNil)) := pa_cons peW (pa1 hs1) hs0
theorem ev_max2 {i j : Int} (hc : X.calm = true) (hg : Gl X "max") (hm : X.mg "max" = none) (ha : EvB X E own B H σ a rInt i) (hb : EvB X E own B H σ b rInt j) (hs0 : starEach (a :: [b]) X.env = (false, eval a X.env) :: starEach [b] X.env := by rfl) (hs1 : St1 X b := by rfl) (hpl : (backTo pos (starEach [b] X.env)).any (·.1) = false := by rfl) : EvB X E own B H σ (.Call (.Name "max" p) [a, b] [] pos) rInt (if j > i then j else i) := fun B1 H1 S1 e1 e2 Q k =>
  WE.of (pe_callB (call_max2 hc) hg hm (by decide +kernel) (pa2 hs0 hs1) (he := hs0) (hpl := hpl)) (ha B1 H1 S1 e1 e2 _ fun v B2 H2 S2 e3 e4 r => hb B2 H2 S2 (e1.trans e3) (e2.trans e4) _ fun w B3 H3 S3 e5 e6 r' => ⟨i, j, by rw [show v = .int i from r, show w = .int j from r'], k _ B3 H3 S3 (e3.trans e5) (e4.trans e6) rfl⟩)
theorem ev_min2 {i j : Int} (hc : X.calm = true) (hg : Gl X "min") (hm : X.mg "min" = none) (ha : EvB X E own B H σ a rInt i) (hb : EvB X E own B H σ b rInt j) (hs0 : starEach (a :: [b]) X.env = (false, eval a X.env) :: starEach [b] X.env := by rfl) (hs1 : St1 X b := by rfl) (hpl : (backTo pos (starEach [b] X.env)).any (·.1) = false := by rfl) : EvB X E own B H σ (.Call (.Name "min" p) [a, b] [] pos) rInt (if j < i then j else i) := fun B1 H1 S1 e1 e2 Q k =>
  WE.of (pe_callB (call_min2 hc) hg hm (by decide +kernel) (pa2 hs0 hs1) (he := hs0) (hpl := hpl)) (ha B1 H1 S1 e1 e2 _ fun v B2 H2 S2 e3 e4 r => hb B2 H2 S2 (e1.trans e3) (e2.trans e4) _ fun w B3 H3 S3 e5 e6 r' => ⟨i, j, by rw [show v = .int i from r, show w = .int j from r'], k _ B3 H3 S3 (e3.trans e5) (e4.trans e6) rfl⟩)
/-! int(bool), int(int) -/
theorem ev_intB (hg : Gl X "int") (hm : X.mg "int" = none) (ha : EvB X E own B H σ a rBool z) (hs : St1 X a := by rfl) : EvB X E own B H σ (.Call (.Name "int" p) [a] [] pos) rInt (b2i z) :=
  ev_b1 (f := b2i) (pe_callTy call_int1 hg hm (by decide +kernel) (pa1 hs) (he := hs)) ha fun H1 v Q h k => .inr ⟨z, by rw [show v = .bl z from h], k _ rfl⟩
/-! list(d), sorted(d), dict(pairs) -/
theorem keys_rel {H1 : Hp} : ∀ {ws : List (Key × V)} {kvs : List (Int × α)}, pI R H1 ws kvs → ws.map (·.1) = (kvs.map (·.1)).map Sum.inl
  | _, _, .nil => rfl
  | _, _, .cons h t => by rw [List.map_cons, List.map_cons, List.map_cons, keys_rel t, h.1]
theorem keys_relV {H1 : Hp} : ∀ {ws : List (Key × V)} {kvs : List (Int × α)}, pI R H1 ws kvs → ws.map (fun kv => kV kv.1) = (kvs.map (·.1)).map V.int
  | _, _, .nil => rfl
  | _, _, .cons h t => by rw [List.map_cons, List.map_cons, List.map_cons, keys_relV t, h.1]; rfl
theorem el_listD {kvs : List (Int × α)} (hc : X.calm = true) (hg : Gl X "list") (hm : X.mg "list" = none) (ha : EvB X E own B H σ a (rDI R) kvs) (hs : St1 X a := by rfl) : EvL X E own B H σ (.Call (.Name "list" p) [a] [] pos) rInt (kvs.map (·.1)) :=
  el_b1 (pe_callTy (call_listD hc) hg hm (by decide +kernel) (pa1 hs) (he := hs)) ha fun H1 v Q h k => by
    obtain ⟨q, ws, h1, h2, h3⟩ := h
    refine ⟨q, ws, by rw [h1], h2, fun l hl => ?_⟩
    rw [keys_relV h3]
    exact k l _ hl (ints_rel' _)
theorem el_sortD {kvs : List (Int × α)} (hc : X.calm = true) (hg : Gl X "sorted") (hm : X.mg "sorted" = none) (ha : EvB X E own B H σ a (rDI R) kvs) (hz : kvs.length < 64) (hs : St1 X a := by rfl) : EvL X E own B H σ (.Call (.Name "sorted" p) [a] [] pos) rInt (sortI (kvs.map (·.1))) :=
  el_b1 (pe_callB (call_sortedDI hc) hg hm (by decide +kernel) (pa1 hs) (he := hs)) ha fun H1 v Q h k => by
    obtain ⟨q, ws, h1, h2, h3⟩ := h
    refine ⟨q, ws, kvs.map (·.1), by rw [h1], h2, keys_rel h3, by rw [List.length_map]; exact hz, fun ys l hp ho hl => ?_⟩
    rw [sortI_unique hp ho]
    exact k l _ hl (ints_rel' _)
/-- an owned dict made -/
def EvDI {α : Type} (X : Cx) (E : Ent) (own : Own) (B H : Hp) (σ : L2.St) (e : Expr) (R : Rel α) (kvs : List (Int × α)) : Prop := ∀ B1 H1, Stt E own B1 H1 → Ex B B1 → Ex H H1 → ∀ Q : VK,
  (∀ p ws B2 H2, Stt E ((p, .dK ws) :: own) B2 H2 → Ex B1 B2 → Ex H1 H2 → pI R B2 ws kvs → Q (.ref p) H2) → WE X e σ H1 Q
theorem EvDI.toE {kvs : List (Int × α)} (h : EvDI X E own B H σ e R kvs) : EvE X E own B H σ e (rDI R) kvs := fun B1 H1 S e1 e2 Q k => h B1 H1 S e1 e2 Q fun p ws B2 H2 S2 e3 e4 r => by
  have n := (S2.ow _ (List.mem_cons_self ..)).2.1
  exact k (.ref p) _ H2 S2.keep (e3.trans (Sx.new n).ex) e4 ⟨p, ws, rfl, Rd.of upd_same, r.up (Sx.new n).ex⟩
theorem pairs_split [Imm R] {B2 H2 : Hp} (tu : Tx H2 B2) : ∀ {vs : List V} {kvs : List (Int × α)}, Paired ((rPr rInt R).r H2) vs kvs → ∃ (ps : List Addr) (ws : List (Key × V)), vs = ps.map V.ref ∧ Paired (fun p (kv : Key × V) => SqT X.K H2 p [kV kv.1, kv.2]) ps ws ∧ pI R B2 ws kvs
  | _, _, .nil => ⟨[], [], rfl, .nil, .nil⟩
  | _, _, .cons (b := kv) h t => by
    obtain ⟨ps, ws, h1, h2, h3⟩ := pairs_split tu t
    obtain ⟨q, a, b, g1, g2, g3, g4⟩ := h
    have g3' : a = .int kv.1 := g3
    subst g3'
    exact ⟨q :: ps, (Sum.inl kv.1, b) :: ws, by rw [g1, h1] <;> rfl, .cons (SqT.of g2) h2, .cons ⟨rfl, Imm.imm tu g4⟩ h3⟩
theorem merge_rel {B2 : Hp} : ∀ {ws acc : List (Key × V)} {kvs acc' : List (Int × α)}, pI R B2 ws kvs → pI R B2 acc acc' → pI R B2 (mergeK acc ws) (kvs.foldl (fun acc kv => dput acc kv.1 kv.2) acc')
  | _, _, _, _, .nil, h => h
  | _, _, _, _, .cons h t, h' => by
    show pI R B2 (mergeK (putK _ _ _) _) (List.foldl _ (dput _ _ _) _)
    rw [h.1]
    exact merge_rel t (rel_put (κ := Key) inl_inj h.2 h')
theorem ed_dict [Imm R] {kvs : List (Int × α)} (hc : X.calm = true) (hg : Gl X "dict") (hm : X.mg "dict" = none) (ha : EvB X E own B H σ a (rLst (rPr rInt R)) kvs) (hs : St1 X a := by rfl) : EvDI X E own B H σ (.Call (.Name "dict" p) [a] [] pos) R (dmerge kvs) := fun B1 H1 S1 e1 e2 Q k =>
  WE.of (pe_callTy (call_dictP hc) hg hm (by decide +kernel) (pa1 hs) (he := hs)) (ha B1 H1 S1 e1 e2 _ fun v B2 H2 S2 e3 e4 r => by
    obtain ⟨l, vs, h1, h2, h3⟩ := r
    obtain ⟨ps, ws, g1, g2, g3⟩ := pairs_split (X := X) S2.tu h3
    subst g1
    exact ⟨l, ps, ws, by rw [h1], .inl h2, g2, fun q nq => k q _ B2 _ (S2.alloc nq fun ys z => by cases z) e3 (e4.trans (Sx.new nq).ex) (merge_rel g3 .nil)⟩)
end
end Sg

namespace Sg
open PySem PySem.Spec PyProof.Rows L2
abbrev powI (i j : Int) : Int := i ^ j.toNat
instance {i j : Int} : Decidable (CDiv i j) := by unfold CDiv; infer_instance
instance {i j : Int} : Decidable (CMul i j) := by unfold CMul; infer_instance
/-- the class of tables in the written part -/
structure TabTxt (K : PySem.W.Frag) (CT : Addr) : Prop where
  cls : Cls K CT
  n_ranks : NoAttr K CT "ranks"
  n_parts : NoAttr K CT "parts"
  n_closed : NoAttr K CT "closed"
  n_wholes : NoAttr K CT "wholes"
/-! names without a value in the module: built-ins -/
structure Blt (mg : Str → Option Value) : Prop where
  len : mg "len" = none
  list : mg "list" = none
  sorted : mg "sorted" = none
  isinstance : mg "isinstance" = none
  range : mg "range" = none
  dict : mg "dict" = none
  all : mg "all" = none
  any : mg "any" = none
  min : mg "min" = none
  max : mg "max" = none
  sum : mg "sum" = none
  reversed : mg "reversed" = none
  int : mg "int" = none
  str : mg "str" = none
  enumerate : mg "enumerate" = none
  zip : mg "zip" = none
  tuple : mg "tuple" = none
  abs : mg "abs" = none
  bool : mg "bool" = none
theorem Fin.inl {ρ ρ' τ : Type} {P : ρ → Prop} {Er : Err → Prop} {kn : ρ' → Res ρ} {Q : τ → Prop} {u : ρ'} (F : Fin (sel (fun u => Fin P Er (kn u)) Q) Er (.ok (.inl u))) : Fin P Er (kn u) := F
theorem Fin.inlr {ρ ρ' τ θ : Type} {P : ρ → Prop} {Er : Err → Prop} {f : ρ' → Res ρ} {g : θ → Res ρ} {Q : τ → Prop} {u : θ} (F : Fin (sel (fun u => Fin P Er (sel f g u)) Q) Er (.ok (.inl (.inr u)))) : Fin P Er (g u) := F
theorem mfM_map {α β : Type} (f : α → β) : ∀ xs : List α, mfM (fun _ => .ok true) (fun x => .ok (f x)) xs = .ok (xs.map f)
  | [] => rfl
  | x :: r => by
    have h := mfM_map f r
    unfold mfM
    rw [h]
    rfl
theorem mfM_fm {α β : Type} (c : α → Bool) (f : α → β) : ∀ xs : List α, mfM (fun x => .ok (c x)) (fun x => .ok (f x)) xs = .ok ((xs.filter c).map f)
  | [] => rfl
  | x :: r => by
    have h0 := mfM_fm c f r
    unfold mfM
    rw [h0, List.filter_cons]
    show (if c x = true then _ else _) = _
    by_cases h : c x = true
    · rw [if_pos h, if_pos h]
      rfl
    · rw [if_neg h, if_neg h]
section
variable {X Xb : Cx} {E : Ent} {own new own' : Own} {B H B' H' : Hp} {σ : L2.St} {α β γ δ τ ρ ρ' : Type} {R : Rel α} {S : Rel β} {T : Rel γ} {U : Rel δ} {e a b c d o it : Expr} {x : α} {y : β} {p pos pos' apos : Pos} {i j k k0 : Nat} {z w : Bool} {xs : List α} {ys : List β} {es : List Expr}
variable {n m : Str} {rest body other : List Stmt} {D : Ends} {P : ρ → Prop} {Er : Err → Prop} {scope sc : Scope} {N : List Str} {t : List (Str × NameKind)} {kd : NameKind}
theorem Scp.blk {ownN : List (Str × Nat)} (V : Scp X N sc) (h : blkC N sc scope ownN = true) : BlkOk X.N X.env.scope scope ownN := by
  rw [V.n, V.sc]
  exact blkOk_by h
theorem Scp.lk {x : Str} (V : Scp X N sc) (h : nmOk sc t = true) (j : Nat) (hj : t[j]? = some (x, kd) := by rfl) : X.env.scope.names.lookup x = some kd := by
  rw [V.sc]
  exact (nmOk.at h hj).1
/-! what is owned: kept, picked -/
theorem getE {own : Own} {k : Nat} {q : Addr × HO} (h : own[k]? = some q) : q ∈ own := List.mem_of_getElem? h
theorem Stt.keepAt {q : Addr} {oo : HO} (S0 : Stt E own B H) (hk : own[k]? = some (q, oo)) : Stt E (own.eraseIdx k) (upd B q oo) H where
  b0 := S0.b0.trans (Sx.new (S0.ow _ (getE hk)).2.1)
  h0 := S0.h0
  bh := fun a u e => by
    by_cases ha : a = q
    · subst ha
      rw [upd_same] at e
      rw [← e]
      exact (S0.ow _ (getE hk)).2.2
    · rw [upd_ne ha] at e
      exact S0.bh a u e
  tu := fun a ys e => by
    by_cases ha : a = q
    · subst ha
      rw [upd_same]
      rw [← e]
      exact (S0.ow _ (getE hk)).2.2.symm
    · rw [upd_ne ha]
      exact S0.tu a ys e
  fr := fun a u e => by
    by_cases ha : a = q
    · subst ha
      exact .inr (S0.ow _ (getE hk)).1
    · rw [upd_ne ha] at e
      exact S0.fr a u e
  ow := fun r hr => by
    obtain ⟨h1, h2, h3⟩ := S0.ow r (List.mem_of_mem_eraseIdx hr)
    have ne : r.1 ≠ q := fun z => by
      obtain ⟨j, hj, ej⟩ := List.getElem_of_mem hr
      have hk' := List.getElem?_eq_some_iff.mp hk
      obtain ⟨hk1, hk2⟩ := hk'
      rw [List.getElem_eraseIdx] at ej
      have nd := S0.nd
      have key : ∀ (l : Nat) (hl : l < own.length), own[l] = r → l = k := fun l hl el => by
        have e1 : (own.map (·.1))[l]'(by rw [List.length_map]; exact hl) = (own.map (·.1))[k]'(by rw [List.length_map]; exact hk1) := by
          rw [List.getElem_map, List.getElem_map, hk2, el, z]
        exact (List.getElem_inj nd).mp e1
      split at ej
      · have := key j _ ej
        omega
      · have := key (j + 1) _ ej
        omega
    rw [upd_ne ne]
    exact ⟨h1, h2, h3⟩
  nd := by
    exact S0.nd.sublist ((List.eraseIdx_sublist own k).map _)
theorem rl_keep {q : Addr} {vs : List V} (S0 : Stt E own B H) (hk : own[k]? = some (q, .lst vs)) (r : Paired (R.r B) vs xs) : ∃ B', Stt E (own.eraseIdx k) B' H ∧ Ex B B' ∧ (rLst R).r B' (.ref q) xs := by
  have e := (Sx.new (o := .lst vs) (S0.ow _ (getE hk)).2.1).ex
  exact ⟨_, S0.keepAt hk, e, q, vs, rfl, Rd.of upd_same, pimp r fun _ _ z => R.mono e z⟩
theorem rdi_keep {q : Addr} {ws : List (Key × V)} {kvs : List (Int × α)} (S0 : Stt E own B H) (hk : own[k]? = some (q, .dK ws)) (r : pI R B ws kvs) : ∃ B', Stt E (own.eraseIdx k) B' H ∧ Ex B B' ∧ (rDI R).r B' (.ref q) kvs := by
  have e := (Sx.new (o := .dK ws) (S0.ow _ (getE hk)).2.1).ex
  exact ⟨_, S0.keepAt hk, e, q, ws, rfl, Rd.of upd_same, r.up e⟩
theorem rds_keep {q : Addr} {ws : List (Key × V)} {kvs : List (Str × α)} (S0 : Stt E own B H) (hk : own[k]? = some (q, .dK ws)) (r : pS R B ws kvs) : ∃ B', Stt E (own.eraseIdx k) B' H ∧ Ex B B' ∧ (rDS R).r B' (.ref q) kvs := by
  have e := (Sx.new (o := .dK ws) (S0.ow _ (getE hk)).2.1).ex
  exact ⟨_, S0.keepAt hk, e, q, ws, rfl, Rd.of upd_same, r.up e⟩
theorem rdt_keep {q : Addr} {ws : List (List Key × V)} {kvs : List (List Int × α)} (S0 : Stt E own B H) (hk : own[k]? = some (q, .dT ws)) (r : pT R B ws kvs) : ∃ B', Stt E (own.eraseIdx k) B' H ∧ Ex B B' ∧ (rDT R).r B' (.ref q) kvs := by
  have e := (Sx.new (o := .dT ws) (S0.ow _ (getE hk)).2.1).ex
  exact ⟨_, S0.keepAt hk, e, q, ws, rfl, Rd.of upd_same, r.up e⟩
def pick (own : Own) : List Nat → Own
  | [] => []
  | i :: is => (match own[i]? with | some q => q :: pick own is | none => pick own is)
theorem pick_mem {own : Own} {q : Addr × HO} : ∀ {is : List Nat}, q ∈ pick own is → ∃ i ∈ is, own[i]? = some q
  | i :: is, h => by
    unfold pick at h
    split at h
    · rename_i r hr
      rcases List.mem_cons.mp h with rfl | h
      · exact ⟨i, List.mem_cons_self .., hr⟩
      · obtain ⟨j, hj, e⟩ := pick_mem h
        exact ⟨j, List.mem_cons_of_mem _ hj, e⟩
    · obtain ⟨j, hj, e⟩ := pick_mem h
      exact ⟨j, List.mem_cons_of_mem _ hj, e⟩
theorem pick_nd {own : Own} (nd : (own.map (·.1)).Nodup) : ∀ {is : List Nat}, is.Nodup → ((pick own is).map (·.1)).Nodup
  | [], _ => List.nodup_nil
  | i :: is, h => by
    obtain ⟨h1, h2⟩ := List.nodup_cons.mp h
    unfold pick
    split
    · rename_i r hr
      rw [List.map_cons]
      refine List.nodup_cons.mpr ⟨fun z => ?_, pick_nd nd h2⟩
      obtain ⟨s, hs, es⟩ := List.mem_map.mp z
      obtain ⟨j, hj, ej⟩ := pick_mem hs
      have hi := List.getElem?_eq_some_iff.mp hr
      have hj' := List.getElem?_eq_some_iff.mp ej
      obtain ⟨i1, i2⟩ := hi
      obtain ⟨j1, j2⟩ := hj'
      have e1 : (own.map (·.1))[j]'(by rw [List.length_map]; exact j1) = (own.map (·.1))[i]'(by rw [List.length_map]; exact i1) := by
        rw [List.getElem_map, List.getElem_map, i2, j2, es]
      have e2 := (List.getElem_inj nd).mp e1
      subst e2
      exact h1 hj
    · exact pick_nd nd h2
theorem Stt.pick (is : List Nat) (S0 : Stt E own B H) (hn : is.Nodup := by decide) : Stt E (Sg.pick own is) B H := S0.sub (fun q hq => by
  obtain ⟨i, _, e⟩ := pick_mem hq
  exact List.mem_of_getElem? e) (pick_nd S0.nd hn)
/-! something where something or nothing is -/
theorem ev_unopt {y : Option α} (h : EvB X E own B H σ e (rOpt R) y) (hy : y = some x) : EvB X E own B H σ e R x := fun B1 H1 S1 e1 e2 Q q => h B1 H1 S1 e1 e2 Q fun v B2 H2 S2 e3 e4 r => q v B2 H2 S2 e3 e4 (by subst hy; exact r.2)
theorem ee_unopt {y : Option α} (h : EvE X E own B H σ e (rOpt R) y) (hy : y = some x) : EvE X E own B H σ e R x := fun B1 H1 S1 e1 e2 Q q => h B1 H1 S1 e1 e2 Q fun v B2 H2 S2 e3 e4 r => q v B2 H2 S2 e3 e4 (by subst hy; exact r.2)
theorem ev_ifeP {x' : α} (hc : EvT X E own B H σ c z) (h1 : EvB X E own B H σ a R x) (h2 : EvB X E own B H σ b R x') : EvB X E own B H σ (.IfExp c a b pos) R (if z = true then x else x') :=
  ev_ife hc (fun hz => by rw [if_pos hz]; exact h1) (fun hz => by rw [if_neg (by rw [hz]; exact Bool.false_ne_true)]; exact h2)
/-! a join behind an if -/
theorem WSs.nxm {st : List Stmt} {nx' : L2.St → Hp → Prop} (h : WSs X st { D with nx := nx' } σ H) (f : ∀ σ H, nx' σ H → D.nx σ H) : WSs X st D σ H := fun pins s I =>
  wpAny_mono (h pins s I) (fun fl s' q => by
    cases fl with
    | next =>
      obtain ⟨σ2, H2, I2, q⟩ := q
      exact ⟨σ2, H2, I2, f _ _ q⟩
    | cont => exact q
    | brk => exact q
    | ret u => exact q) fun _ _ q => q
theorem s_ifJ {m1 m2 : Res τ} {kn : τ → Res ρ} (S0 : Stt E own B H) (hc : EvT X E own B H σ c z) (F : Fin P Er ((if z = true then m1 else m2).bind kn)) (Inv : τ → L2.St → Own → Hp → Prop)
    (h1 : z = true → ∀ B' H', Stt E own B' H' → Ex B B' → ∀ Q : τ → Prop, Fin Q Er m1 → WSs X body { D with nx := TurnE E B' Q Inv } σ H')
    (h2 : z = false → ∀ B' H', Stt E own B' H' → Ex B B' → ∀ Q : τ → Prop, Fin Q Er m2 → WSs X other { D with nx := TurnE E B' Q Inv } σ H')
    (hd : ∀ a σ' own' B' H', Inv a σ' own' B' → Stt E own' B' H' → Ex B B' → Fin P Er (kn a) → WSs X rest D σ' H') : WSs X (.If c body other pos :: rest) D σ H :=
  s_if S0 hc (fun hz B' H' S' e' => WSs.nxm (D := { D with nx := WSs X rest D }) (h1 hz B' H' S' e' _ (Fin.bind (by rw [if_pos hz] at F; exact F))) fun σ2 H2 ⟨a', own2, B2, q1, q2, q3, q4⟩ => hd a' σ2 own2 B2 H2 q4 q2 (e'.trans q3) q1)
    (fun hz B' H' S' e' => WSs.nxm (D := { D with nx := WSs X rest D }) (h2 hz B' H' S' e' _ (Fin.bind (by rw [if_neg (by rw [hz]; exact Bool.false_ne_true)] at F; exact F))) fun σ2 H2 ⟨a', own2, B2, q1, q2, q3, q4⟩ => hd a' σ2 own2 B2 H2 q4 q2 (e'.trans q3) q1)
/-! a, b = e -/
theorem s_unp2 {q : α × β} {n1 n2 : Str} {i1 i2 : Nat} {p1 p2 tp : Pos} {kk : Nat} (C : Cok X k) (L1 : Slot X i1 n1) (L2' : Slot X i2 n2) (S0 : Stt E own B H) (he : EvE X E own B H σ e (rPr R S) q)
    (kt : ∀ v w B' H', Stt E own B' H' → Ex B B' → R.r B' v q.1 → S.r B' w q.2 → WSs X rest D ((σ.set i1 (some v)).set i2 (some w)) H')
    (hs : swapsWithSole [.Tuple [.Name n1 p1, .Name n2 p2] kk tp] e pos.line X.env = pure false := by rfl) (hw : swappedStores [.Tuple [.Name n1 p1, .Name n2 p2] kk tp] e X.env = pure none := by rfl) :
    WSs X (.Assign [.Tuple [.Name n1 p1, .Name n2 p2] kk tp] e pos :: rest) D σ H :=
  WSs.cons (ps_asg peW (pg_tup (n := 2) C.calm (pgs_cons (pg_name (i := i1) C.nd L1.ix L1.loc L1.hf) (pgs_cons (pg_name (i := i2) C.nd L2'.ix L2'.loc L2'.hf) pgs_nil))) hs hw) (he B H S0 (Ex.refl _) (Ex.refl _) _ fun v B2 H2 S2 e1 _ r => by
    obtain ⟨l, a, b, h1, h2, h3, h4⟩ := r
    exact ⟨l, [a, b], h1, SqT.of (S2.bh _ _ h2), rfl, a, [b], rfl, b, [], rfl, rfl, kt a b B2 H2 S2 e1 h3 h4⟩)
/-! three, four -/
def rT3 (R : Rel α) (S : Rel β) (T : Rel γ) : Rel (α × β × γ) := ⟨fun H v x => ∃ p a b c, v = .ref p ∧ H p = some (.tup [a, b, c]) ∧ R.r H a x.1 ∧ S.r H b x.2.1 ∧ T.r H c x.2.2, fun e ⟨p, a, b, c, h1, h2, h3, h4, h5⟩ => ⟨p, a, b, c, h1, e.tup h2, R.mono e h3, S.mono e h4, T.mono e h5⟩⟩
def rT4 (R : Rel α) (S : Rel β) (T : Rel γ) (U : Rel δ) : Rel (α × β × γ × δ) := ⟨fun H v x => ∃ p a b c d, v = .ref p ∧ H p = some (.tup [a, b, c, d]) ∧ R.r H a x.1 ∧ S.r H b x.2.1 ∧ T.r H c x.2.2.1 ∧ U.r H d x.2.2.2, fun e ⟨p, a, b, c, d, h1, h2, h3, h4, h5, h6⟩ => ⟨p, a, b, c, d, h1, e.tup h2, R.mono e h3, S.mono e h4, T.mono e h5, U.mono e h6⟩⟩
instance [Imm R] [Imm S] [Imm T] : Imm (rT3 R S T) := ⟨fun e ⟨p, a, b, c, h1, h2, h3, h4, h5⟩ => ⟨p, a, b, c, h1, e _ _ h2, Imm.imm e h3, Imm.imm e h4, Imm.imm e h5⟩⟩
instance [Imm R] [Imm S] [Imm T] [Imm U] : Imm (rT4 R S T U) := ⟨fun e ⟨p, a, b, c, d, h1, h2, h3, h4, h5, h6⟩ => ⟨p, a, b, c, d, h1, e _ _ h2, Imm.imm e h3, Imm.imm e h4, Imm.imm e h5, Imm.imm e h6⟩⟩
instance : NN (rT3 R S T) := ⟨fun ⟨p, a, b, c, h1, _⟩ => by rw [h1]; exact fun q => by cases q⟩
instance : NN (rT4 R S T U) := ⟨fun ⟨p, a, b, c, d, h1, _⟩ => by rw [h1]; exact fun q => by cases q⟩
theorem ee_t3 {x1} {u : γ} (ha : EvE X E own B H σ a R x) (hb : EvE X E own B H σ b S y) (hc : EvE X E own B H σ c T u) (hs1 : starEach (a :: [b, c]) X.env = (false, eval a X.env) :: starEach [b, c] X.env := by rfl) (hs2 : starEach (b :: [c]) X.env = (false, eval b X.env) :: starEach [c] X.env := by rfl) (hs3 : St1 X c := by rfl) : EvE X E own B H σ (.Tuple [a, b, c] x1 pos) (rT3 R S T) (x, y, u) := fun B1 H1 S1 e1 e2 Q k =>
  WE.of (pe_tup (pa_cons peW (pa_cons peW (pa_cons peW pa_nil hs3) hs2) hs1)) (ha B1 H1 S1 e1 e2 _ fun v B2 H2 S2 e3 e4 r => hb B2 H2 S2 (e1.trans e3) (e2.trans e4) _ fun w B3 H3 S3 e5 e6 s => hc B3 H3 S3 ((e1.trans e3).trans e5) ((e2.trans e4).trans e6) _ fun w2 B4 H4 S4 e7 e8 t =>
    ⟨by show 3 ≤ sizeLine; decide, fun p hp => k (.ref p) _ _ (S4.lay hp) (((e3.trans e5).trans e7).trans (S4.layB hp).ex) (((e4.trans e6).trans e8).trans (Sx.new hp).ex) ⟨p, v, w, w2, rfl, upd_same, R.mono ((e5.trans e7).trans (S4.layB hp).ex) r, S.mono (e7.trans (S4.layB hp).ex) s, T.mono (S4.layB hp).ex t⟩⟩)
theorem ee_t4 {x1} {u : γ} {u2 : δ} (ha : EvE X E own B H σ a R x) (hb : EvE X E own B H σ b S y) (hc : EvE X E own B H σ c T u) (hd : EvE X E own B H σ d U u2) (hs1 : starEach (a :: [b, c, d]) X.env = (false, eval a X.env) :: starEach [b, c, d] X.env := by rfl) (hs2 : starEach (b :: [c, d]) X.env = (false, eval b X.env) :: starEach [c, d] X.env := by rfl) (hs3 : starEach (c :: [d]) X.env = (false, eval c X.env) :: starEach [d] X.env := by rfl) (hs4 : St1 X d := by rfl) : EvE X E own B H σ (.Tuple [a, b, c, d] x1 pos) (rT4 R S T U) (x, y, u, u2) := fun B1 H1 S1 e1 e2 Q k =>
  WE.of (pe_tup (pa_cons peW (pa_cons peW (pa_cons peW (pa_cons peW pa_nil hs4) hs3) hs2) hs1)) (ha B1 H1 S1 e1 e2 _ fun v B2 H2 S2 e3 e4 r => hb B2 H2 S2 (e1.trans e3) (e2.trans e4) _ fun w B3 H3 S3 e5 e6 s => hc B3 H3 S3 ((e1.trans e3).trans e5) ((e2.trans e4).trans e6) _ fun w2 B4 H4 S4 e7 e8 t => hd B4 H4 S4 (((e1.trans e3).trans e5).trans e7) (((e2.trans e4).trans e6).trans e8) _ fun w3 B5 H5 S5 e9 e10 t2 =>
    ⟨by show 4 ≤ sizeLine; decide, fun p hp => k (.ref p) _ _ (S5.lay hp) ((((e3.trans e5).trans e7).trans e9).trans (S5.layB hp).ex) ((((e4.trans e6).trans e8).trans e10).trans (Sx.new hp).ex) ⟨p, v, w, w2, w3, rfl, upd_same, R.mono (((e5.trans e7).trans e9).trans (S5.layB hp).ex) r, S.mono ((e7.trans e9).trans (S5.layB hp).ex) s, T.mono (e9.trans (S5.layB hp).ex) t, U.mono (S5.layB hp).ex t2⟩⟩)
theorem ev_t30 {q : α × β × γ} {kk} {pp : Pos} (ho : EvB X E own B H σ o (rT3 R S T) q) : EvB X E own B H σ (.Subscript o (.Constant (.int 0) kk pp) pos) R q.1 := fun B1 H1 S1 e1 e2 Q k =>
  WE.of (pe_ix ix_tup peW pe_int (fun _ _ => rfl)) (ho B1 H1 S1 e1 e2 _ fun v B2 H2 S2 e3 e4 r => by
    obtain ⟨l, c, d, e, h1, h2, h3, h4, h5⟩ := r
    exact ⟨l, [c, d, e], 0, c, h1, rfl, SqT.of h2, rfl, k c B2 H2 S2 e3 e4 h3⟩)
theorem ev_t31 {q : α × β × γ} {kk} {pp : Pos} (ho : EvB X E own B H σ o (rT3 R S T) q) : EvB X E own B H σ (.Subscript o (.Constant (.int 1) kk pp) pos) S q.2.1 := fun B1 H1 S1 e1 e2 Q k =>
  WE.of (pe_ix ix_tup peW pe_int (fun _ _ => rfl)) (ho B1 H1 S1 e1 e2 _ fun v B2 H2 S2 e3 e4 r => by
    obtain ⟨l, c, d, e, h1, h2, h3, h4, h5⟩ := r
    exact ⟨l, [c, d, e], 1, d, h1, rfl, SqT.of h2, rfl, k d B2 H2 S2 e3 e4 h4⟩)
theorem ev_t32 {q : α × β × γ} {kk} {pp : Pos} (ho : EvB X E own B H σ o (rT3 R S T) q) : EvB X E own B H σ (.Subscript o (.Constant (.int 2) kk pp) pos) T q.2.2 := fun B1 H1 S1 e1 e2 Q k =>
  WE.of (pe_ix ix_tup peW pe_int (fun _ _ => rfl)) (ho B1 H1 S1 e1 e2 _ fun v B2 H2 S2 e3 e4 r => by
    obtain ⟨l, c, d, e, h1, h2, h3, h4, h5⟩ := r
    exact ⟨l, [c, d, e], 2, e, h1, rfl, SqT.of h2, rfl, k e B2 H2 S2 e3 e4 h5⟩)
theorem ev_t40 {q : α × β × γ × δ} {kk} {pp : Pos} (ho : EvB X E own B H σ o (rT4 R S T U) q) : EvB X E own B H σ (.Subscript o (.Constant (.int 0) kk pp) pos) R q.1 := fun B1 H1 S1 e1 e2 Q k =>
  WE.of (pe_ix ix_tup peW pe_int (fun _ _ => rfl)) (ho B1 H1 S1 e1 e2 _ fun v B2 H2 S2 e3 e4 r => by
    obtain ⟨l, c, d, e, f, h1, h2, h3, h4, h5, h6⟩ := r
    exact ⟨l, [c, d, e, f], 0, c, h1, rfl, SqT.of h2, rfl, k c B2 H2 S2 e3 e4 h3⟩)
theorem ev_t41 {q : α × β × γ × δ} {kk} {pp : Pos} (ho : EvB X E own B H σ o (rT4 R S T U) q) : EvB X E own B H σ (.Subscript o (.Constant (.int 1) kk pp) pos) S q.2.1 := fun B1 H1 S1 e1 e2 Q k =>
  WE.of (pe_ix ix_tup peW pe_int (fun _ _ => rfl)) (ho B1 H1 S1 e1 e2 _ fun v B2 H2 S2 e3 e4 r => by
    obtain ⟨l, c, d, e, f, h1, h2, h3, h4, h5, h6⟩ := r
    exact ⟨l, [c, d, e, f], 1, d, h1, rfl, SqT.of h2, rfl, k d B2 H2 S2 e3 e4 h4⟩)
theorem ev_t42 {q : α × β × γ × δ} {kk} {pp : Pos} (ho : EvB X E own B H σ o (rT4 R S T U) q) : EvB X E own B H σ (.Subscript o (.Constant (.int 2) kk pp) pos) T q.2.2.1 := fun B1 H1 S1 e1 e2 Q k =>
  WE.of (pe_ix ix_tup peW pe_int (fun _ _ => rfl)) (ho B1 H1 S1 e1 e2 _ fun v B2 H2 S2 e3 e4 r => by
    obtain ⟨l, c, d, e, f, h1, h2, h3, h4, h5, h6⟩ := r
    exact ⟨l, [c, d, e, f], 2, e, h1, rfl, SqT.of h2, rfl, k e B2 H2 S2 e3 e4 h5⟩)
theorem ev_t43 {q : α × β × γ × δ} {kk} {pp : Pos} (ho : EvB X E own B H σ o (rT4 R S T U) q) : EvB X E own B H σ (.Subscript o (.Constant (.int 3) kk pp) pos) U q.2.2.2 := fun B1 H1 S1 e1 e2 Q k =>
  WE.of (pe_ix ix_tup peW pe_int (fun _ _ => rfl)) (ho B1 H1 S1 e1 e2 _ fun v B2 H2 S2 e3 e4 r => by
    obtain ⟨l, c, d, e, f, h1, h2, h3, h4, h5, h6⟩ := r
    exact ⟨l, [c, d, e, f], 3, f, h1, rfl, SqT.of h2, rfl, k f B2 H2 S2 e3 e4 h6⟩)
theorem ee_fst {q : α × β} {kk} {pp : Pos} (ho : EvE X E own B H σ o (rPr R S) q) : EvE X E own B H σ (.Subscript o (.Constant (.int 0) kk pp) pos) R q.1 := fun B1 H1 S1 e1 e2 Q k =>
  WE.of (pe_ix ix_tup peW pe_int (fun _ _ => rfl)) (ho B1 H1 S1 e1 e2 _ fun v B2 H2 S2 e3 e4 r => by
    obtain ⟨l, c, d, h1, h2, h3, h4⟩ := r
    exact ⟨l, [c, d], 0, c, h1, rfl, SqT.of (S2.bh _ _ h2), rfl, k c B2 H2 S2 e3 e4 h3⟩)
theorem ee_snd {q : α × β} {kk} {pp : Pos} (ho : EvE X E own B H σ o (rPr R S) q) : EvE X E own B H σ (.Subscript o (.Constant (.int 1) kk pp) pos) S q.2 := fun B1 H1 S1 e1 e2 Q k =>
  WE.of (pe_ix ix_tup peW pe_int (fun _ _ => rfl)) (ho B1 H1 S1 e1 e2 _ fun v B2 H2 S2 e3 e4 r => by
    obtain ⟨l, c, d, h1, h2, h3, h4⟩ := r
    exact ⟨l, [c, d], 1, d, h1, rfl, SqT.of (S2.bh _ _ h2), rfl, k d B2 H2 S2 e3 e4 h4⟩)
theorem ee_t30 {q : α × β × γ} {kk} {pp : Pos} (ho : EvE X E own B H σ o (rT3 R S T) q) : EvE X E own B H σ (.Subscript o (.Constant (.int 0) kk pp) pos) R q.1 := fun B1 H1 S1 e1 e2 Q k =>
  WE.of (pe_ix ix_tup peW pe_int (fun _ _ => rfl)) (ho B1 H1 S1 e1 e2 _ fun v B2 H2 S2 e3 e4 r => by
    obtain ⟨l, c, d, e, h1, h2, h3, h4, h5⟩ := r
    exact ⟨l, [c, d, e], 0, c, h1, rfl, SqT.of (S2.bh _ _ h2), rfl, k c B2 H2 S2 e3 e4 h3⟩)
theorem ee_t31 {q : α × β × γ} {kk} {pp : Pos} (ho : EvE X E own B H σ o (rT3 R S T) q) : EvE X E own B H σ (.Subscript o (.Constant (.int 1) kk pp) pos) S q.2.1 := fun B1 H1 S1 e1 e2 Q k =>
  WE.of (pe_ix ix_tup peW pe_int (fun _ _ => rfl)) (ho B1 H1 S1 e1 e2 _ fun v B2 H2 S2 e3 e4 r => by
    obtain ⟨l, c, d, e, h1, h2, h3, h4, h5⟩ := r
    exact ⟨l, [c, d, e], 1, d, h1, rfl, SqT.of (S2.bh _ _ h2), rfl, k d B2 H2 S2 e3 e4 h4⟩)
theorem ee_t32 {q : α × β × γ} {kk} {pp : Pos} (ho : EvE X E own B H σ o (rT3 R S T) q) : EvE X E own B H σ (.Subscript o (.Constant (.int 2) kk pp) pos) T q.2.2 := fun B1 H1 S1 e1 e2 Q k =>
  WE.of (pe_ix ix_tup peW pe_int (fun _ _ => rfl)) (ho B1 H1 S1 e1 e2 _ fun v B2 H2 S2 e3 e4 r => by
    obtain ⟨l, c, d, e, h1, h2, h3, h4, h5⟩ := r
    exact ⟨l, [c, d, e], 2, e, h1, rfl, SqT.of (S2.bh _ _ h2), rfl, k e B2 H2 S2 e3 e4 h5⟩)
theorem ee_t40 {q : α × β × γ × δ} {kk} {pp : Pos} (ho : EvE X E own B H σ o (rT4 R S T U) q) : EvE X E own B H σ (.Subscript o (.Constant (.int 0) kk pp) pos) R q.1 := fun B1 H1 S1 e1 e2 Q k =>
  WE.of (pe_ix ix_tup peW pe_int (fun _ _ => rfl)) (ho B1 H1 S1 e1 e2 _ fun v B2 H2 S2 e3 e4 r => by
    obtain ⟨l, c, d, e, f, h1, h2, h3, h4, h5, h6⟩ := r
    exact ⟨l, [c, d, e, f], 0, c, h1, rfl, SqT.of (S2.bh _ _ h2), rfl, k c B2 H2 S2 e3 e4 h3⟩)
theorem ee_t41 {q : α × β × γ × δ} {kk} {pp : Pos} (ho : EvE X E own B H σ o (rT4 R S T U) q) : EvE X E own B H σ (.Subscript o (.Constant (.int 1) kk pp) pos) S q.2.1 := fun B1 H1 S1 e1 e2 Q k =>
  WE.of (pe_ix ix_tup peW pe_int (fun _ _ => rfl)) (ho B1 H1 S1 e1 e2 _ fun v B2 H2 S2 e3 e4 r => by
    obtain ⟨l, c, d, e, f, h1, h2, h3, h4, h5, h6⟩ := r
    exact ⟨l, [c, d, e, f], 1, d, h1, rfl, SqT.of (S2.bh _ _ h2), rfl, k d B2 H2 S2 e3 e4 h4⟩)
theorem ee_t42 {q : α × β × γ × δ} {kk} {pp : Pos} (ho : EvE X E own B H σ o (rT4 R S T U) q) : EvE X E own B H σ (.Subscript o (.Constant (.int 2) kk pp) pos) T q.2.2.1 := fun B1 H1 S1 e1 e2 Q k =>
  WE.of (pe_ix ix_tup peW pe_int (fun _ _ => rfl)) (ho B1 H1 S1 e1 e2 _ fun v B2 H2 S2 e3 e4 r => by
    obtain ⟨l, c, d, e, f, h1, h2, h3, h4, h5, h6⟩ := r
    exact ⟨l, [c, d, e, f], 2, e, h1, rfl, SqT.of (S2.bh _ _ h2), rfl, k e B2 H2 S2 e3 e4 h5⟩)
theorem ee_t43 {q : α × β × γ × δ} {kk} {pp : Pos} (ho : EvE X E own B H σ o (rT4 R S T U) q) : EvE X E own B H σ (.Subscript o (.Constant (.int 3) kk pp) pos) U q.2.2.2 := fun B1 H1 S1 e1 e2 Q k =>
  WE.of (pe_ix ix_tup peW pe_int (fun _ _ => rfl)) (ho B1 H1 S1 e1 e2 _ fun v B2 H2 S2 e3 e4 r => by
    obtain ⟨l, c, d, e, f, h1, h2, h3, h4, h5, h6⟩ := r
    exact ⟨l, [c, d, e, f], 3, f, h1, rfl, SqT.of (S2.bh _ _ h2), rfl, k f B2 H2 S2 e3 e4 h6⟩)
theorem s_unp3 {q : α × β × γ} {n1 n2 n3 : Str} {i1 i2 i3 : Nat} {p1 p2 p3 tp : Pos} {kk : Nat} (C : Cok X k) (L1 : Slot X i1 n1) (L2' : Slot X i2 n2) (L3 : Slot X i3 n3) (S0 : Stt E own B H) (he : EvE X E own B H σ e (rT3 R S T) q)
    (kt : ∀ v w u B' H', Stt E own B' H' → Ex B B' → R.r B' v q.1 → S.r B' w q.2.1 → T.r B' u q.2.2 → WSs X rest D (((σ.set i1 (some v)).set i2 (some w)).set i3 (some u)) H')
    (hs : swapsWithSole [.Tuple [.Name n1 p1, .Name n2 p2, .Name n3 p3] kk tp] e pos.line X.env = pure false := by rfl) (hw : swappedStores [.Tuple [.Name n1 p1, .Name n2 p2, .Name n3 p3] kk tp] e X.env = pure none := by rfl) :
    WSs X (.Assign [.Tuple [.Name n1 p1, .Name n2 p2, .Name n3 p3] kk tp] e pos :: rest) D σ H :=
  WSs.cons (ps_asg peW (pg_tup (n := 3) C.calm (pgs_cons (pg_name (i := i1) C.nd L1.ix L1.loc L1.hf) (pgs_cons (pg_name (i := i2) C.nd L2'.ix L2'.loc L2'.hf) (pgs_cons (pg_name (i := i3) C.nd L3.ix L3.loc L3.hf) pgs_nil)))) hs hw) (he B H S0 (Ex.refl _) (Ex.refl _) _ fun v B2 H2 S2 e1 _ r => by
    obtain ⟨l, a, b, c, h1, h2, h3, h4, h5⟩ := r
    exact ⟨l, [a, b, c], h1, SqT.of (S2.bh _ _ h2), rfl, a, [b, c], rfl, b, [c], rfl, c, [], rfl, rfl, kt a b c B2 H2 S2 e1 h3 h4 h5⟩)
theorem s_unp4 {q : α × β × γ × δ} {n1 n2 n3 n4 : Str} {i1 i2 i3 i4 : Nat} {p1 p2 p3 p4 tp : Pos} {kk : Nat} (C : Cok X k) (L1 : Slot X i1 n1) (L2' : Slot X i2 n2) (L3 : Slot X i3 n3) (L4 : Slot X i4 n4) (S0 : Stt E own B H) (he : EvE X E own B H σ e (rT4 R S T U) q)
    (kt : ∀ v w u u2 B' H', Stt E own B' H' → Ex B B' → R.r B' v q.1 → S.r B' w q.2.1 → T.r B' u q.2.2.1 → U.r B' u2 q.2.2.2 → WSs X rest D ((((σ.set i1 (some v)).set i2 (some w)).set i3 (some u)).set i4 (some u2)) H')
    (hs : swapsWithSole [.Tuple [.Name n1 p1, .Name n2 p2, .Name n3 p3, .Name n4 p4] kk tp] e pos.line X.env = pure false := by rfl) (hw : swappedStores [.Tuple [.Name n1 p1, .Name n2 p2, .Name n3 p3, .Name n4 p4] kk tp] e X.env = pure none := by rfl) :
    WSs X (.Assign [.Tuple [.Name n1 p1, .Name n2 p2, .Name n3 p3, .Name n4 p4] kk tp] e pos :: rest) D σ H :=
  WSs.cons (ps_asg peW (pg_tup (n := 4) C.calm (pgs_cons (pg_name (i := i1) C.nd L1.ix L1.loc L1.hf) (pgs_cons (pg_name (i := i2) C.nd L2'.ix L2'.loc L2'.hf) (pgs_cons (pg_name (i := i3) C.nd L3.ix L3.loc L3.hf) (pgs_cons (pg_name (i := i4) C.nd L4.ix L4.loc L4.hf) pgs_nil))))) hs hw) (he B H S0 (Ex.refl _) (Ex.refl _) _ fun v B2 H2 S2 e1 _ r => by
    obtain ⟨l, a, b, c, d, h1, h2, h3, h4, h5, h6⟩ := r
    exact ⟨l, [a, b, c, d], h1, SqT.of (S2.bh _ _ h2), rfl, a, [b, c, d], rfl, b, [c, d], rfl, c, [d], rfl, d, [], rfl, rfl, kt a b c d B2 H2 S2 e1 h3 h4 h5 h6⟩)
def tP3 (i j l : Nat) (R : Rel α) (S : Rel β) (T : Rel γ) : α × β × γ → Hp → L2.St → L2.St → Prop := fun x B σ σ' => ∃ v w u, R.r B v x.1 ∧ S.r B w x.2.1 ∧ T.r B u x.2.2 ∧ σ' = ((σ.set i (some v)).set j (some w)).set l (some u)
theorem tg_t3 {n3 : Str} {i1 i2 i3 : Nat} {m : Str} {p1 p2 p3 : Pos} {k1 : Nat} {q : Pos} (C : Cok X k0) (L1 : Slot X i1 n) (L2' : Slot X i2 m) (L3 : Slot X i3 n3) : TgOk X E (.Tuple [.Name n p1, .Name m p2, .Name n3 p3] k1 q) (rT3 R S T) (tP3 i1 i2 i3 R S T) :=
  ⟨_, pg_tup (n := 3) C.calm (pgs_cons (pg_name (i := i1) C.nd L1.ix L1.loc L1.hf) (pgs_cons (pg_name (i := i2) C.nd L2'.ix L2'.loc L2'.hf) (pgs_cons (pg_name (i := i3) C.nd L3.ix L3.loc L3.hf) pgs_nil))), fun own B H v x σ St r Q k => by
    obtain ⟨q, a, b, c, h1, h2, h3, h4, h5⟩ := r
    exact ⟨q, [a, b, c], h1, SqT.of (St.bh _ _ h2), rfl, a, [b, c], rfl, b, [c], rfl, c, [], rfl, rfl, k _ ⟨a, b, c, h3, h4, h5, rfl⟩⟩⟩
/-! an owned list changed -/
theorem s_reverse {apos : Pos} {q : Addr} {vs : List V} (S0 : Stt E own B H) (ha : PE X a (tVar i)) (h : σ[i]? = some (some (.ref q))) (hk : own[k]? = some (q, .lst vs)) (r : Paired (R.r B) vs xs)
    (kt : ∀ H', Stt E (own.set k (q, .lst vs.reverse)) B H' → Paired (R.r B) vs.reverse xs.reverse → WSs X rest D σ H')
    (t : BmT0 X a "reverse" apos p := by exact ⟨rfl, rfl⟩) (hw : swapsWith (.Call (.Attribute a "reverse" apos) [] [] p) none pos.line X.env = pure false := by rfl) :
    WSs X (.Expr (.Call (.Attribute a "reverse" apos) [] [] p) pos :: rest) D σ H :=
  WSs.cons (ps_expr (pe_bm0 PySem.F.plainAttrs_list PySem.F.slot_list_reverse PySem.F.type_list_reverse mt_reverse ha t.1 t.2) hw) (by
    have hq := (S0.ow _ (getE hk)).2.2
    exact ⟨.ref q, h, .inl ⟨rfl, _, SqL.of hq⟩, q, vs, rfl, rfl, hq, kt _ (S0.put hk fun ys z => by cases z) (prev r)⟩)
theorem s_clear {apos : Pos} {q : Addr} {vs : List V} (S0 : Stt E own B H) (ha : PE X a (tVar i)) (h : σ[i]? = some (some (.ref q))) (hk : own[k]? = some (q, .lst vs)) (r : Paired (R.r B) vs xs)
    (kt : ∀ H', Stt E (own.set k (q, .lst [])) B H' → Paired (R.r B) [] [] → WSs X rest D σ H')
    (t : BmT0 X a "clear" apos p := by exact ⟨rfl, rfl⟩) (hw : swapsWith (.Call (.Attribute a "clear" apos) [] [] p) none pos.line X.env = pure false := by rfl) :
    WSs X (.Expr (.Call (.Attribute a "clear" apos) [] [] p) pos :: rest) D σ H :=
  WSs.cons (ps_expr (pe_bm0 PySem.F.plainAttrs_list PySem.F.slot_list_clear PySem.F.type_list_clear mt_clear ha t.1 t.2) hw) (by
    have hq := (S0.ow _ (getE hk)).2.2
    exact ⟨.ref q, h, .inl ⟨rfl, _, SqL.of hq⟩, q, vs, rfl, rfl, hq, kt _ (S0.put hk fun ys z => by cases z) .nil⟩)
end
end Sg

namespace Sg
open PySem PySem.Spec PyProof.Rows L2
/-! a block over a dict: the dict is locked, the block runs as a call would -/
def lkB (d : Addr) (f : HO) (B : Hp) : Hp := fun a => if a = d then (B d).map (fun _ => f) else B a
def unB (d : Addr) (B1 B3 : Hp) : Hp := fun a => if a = d then B1 d else B3 a
theorem lkB_ne {d a : Addr} {f : HO} {B : Hp} (h : a ≠ d) : lkB d f B a = B a := if_neg h
theorem lkB_at {d : Addr} {f : HO} {B : Hp} : lkB d f B d = (B d).map (fun _ => f) := if_pos rfl
theorem unB_ne {d a : Addr} {B1 B3 : Hp} (h : a ≠ d) : unB d B1 B3 a = B3 a := if_neg h
theorem unB_at {d : Addr} {B1 B3 : Hp} : unB d B1 B3 d = B1 d := if_pos rfl
section
variable {X Xb : Cx} {E : Ent} {own new own' : Own} {B H B' H' : Hp} {σ : L2.St} {α β γ δ τ ρ ρ' : Type} {R : Rel α} {S : Rel β} {T : Rel γ} {U : Rel δ} {e a b c d o it tg elt : Expr} {x : α} {y : β} {p pos pos' apos : Pos} {i j k k0 : Nat} {z w : Bool} {xs : List α} {ys : List β} {es : List Expr}
variable {n m : Str} {rest body other : List Stmt} {D : Ends} {P : ρ → Prop} {Er : Err → Prop} {scope sc : Scope} {N : List Str} {t : List (Str × NameKind)} {kd : NameKind}
theorem lk_enter {q : Addr} {ws : List (Key × V)} {ob : Obj} (S1 : Stt E own B H) (h : H q = some (.dK ws)) : Stt ⟨lkB q (.frz ob (.dK ws)) B, upd H q (.frz ob (.dK ws))⟩ [] (lkB q (.frz ob (.dK ws)) B) (upd H q (.frz ob (.dK ws))) :=
  Stt.enter (fun a u e => by
    by_cases ha : a = q
    · subst ha
      rw [lkB_at] at e
      rw [upd_same]
      cases hb : B a with
      | none => rw [hb] at e; cases e
      | some v => rw [hb] at e; exact e
    · rw [lkB_ne ha] at e
      rw [upd_ne ha]
      exact S1.bh a u e) fun a ys e => by
    by_cases ha : a = q
    · subst ha
      rw [upd_same] at e
      cases e
    · rw [upd_ne ha] at e
      rw [lkB_ne ha]
      exact S1.tu a ys e
theorem lk_exB {q : Addr} {ws : List (Key × V)} {ob : Obj} (S1 : Stt E own B H) (h : H q = some (.dK ws)) : Ex B (lkB q (.frz ob (.dK ws)) B) := fun a u e => by
  by_cases ha : a = q
  · subst ha
    have e2 := S1.bh a u e
    rw [h] at e2
    cases e2
    exact ⟨.frz ob (.dK ws), by rw [lkB_at, e] <;> rfl, rfl⟩
  · exact ⟨u, by rw [lkB_ne ha]; exact e, rfl⟩
theorem lk_exH {q : Addr} {ws : List (Key × V)} {ob : Obj} (h : H q = some (.dK ws)) : Ex H (upd H q (.frz ob (.dK ws))) := fun a u e => by
  by_cases ha : a = q
  · subst ha
    rw [h] at e
    cases e
    exact ⟨_, upd_same, rfl⟩
  · exact ⟨u, by rw [upd_ne ha]; exact e, rfl⟩
theorem lk_back {q : Addr} {ws : List (Key × V)} {ob : Obj} {B3 H3 : Hp} {r : Addr × HO} (S1 : Stt E own B H) (h : H q = some (.dK ws)) (S3 : Stt ⟨lkB q (.frz ob (.dK ws)) B, upd H q (.frz ob (.dK ws))⟩ [r] B3 H3) : Stt ⟨B, H⟩ [r] (unB q B B3) (upd H3 q (.dK ws)) where
  b0 := fun a u e => by
    by_cases ha : a = q
    · subst ha
      rw [unB_at]
      exact e
    · rw [unB_ne ha]
      exact S3.b0 a u (by show lkB _ _ _ _ = _; rw [lkB_ne ha]; exact e)
  h0 := fun a u e => by
    by_cases ha : a = q
    · subst ha
      have e' : H a = some u := e
      rw [h] at e'
      rw [upd_same]
      exact e'
    · rw [upd_ne ha]
      exact S3.h0 a u (by show upd _ _ _ _ = _; rw [upd_ne ha]; exact e)
  bh := fun a u e => by
    by_cases ha : a = q
    · subst ha
      rw [unB_at] at e
      have e2 := S1.bh a u e
      rw [h] at e2
      rw [upd_same]
      exact e2
    · rw [unB_ne ha] at e
      rw [upd_ne ha]
      exact S3.bh a u e
  tu := fun a ys e => by
    by_cases ha : a = q
    · subst ha
      rw [upd_same] at e
      cases e
    · rw [upd_ne ha] at e
      rw [unB_ne ha]
      exact S3.tu a ys e
  fr := fun a u e => by
    by_cases ha : a = q
    · subst ha
      rw [unB_at] at e
      exact .inl e
    · rw [unB_ne ha] at e
      rcases S3.fr a u e with z | z
      · have z' : lkB q (.frz ob (.dK ws)) B a = some u := z
        rw [lkB_ne ha] at z'
        exact .inl z'
      · have z' : upd H q (.frz ob (.dK ws)) a = Option.none := z
        rw [upd_ne ha] at z'
        exact .inr z'
  ow := fun s hs => by
    obtain ⟨h1, h2, h3⟩ := S3.ow s hs
    have h1' : upd H q (.frz ob (.dK ws)) s.1 = Option.none := h1
    have ne : s.1 ≠ q := fun z => by
      rw [z, upd_same] at h1'
      cases h1'
    rw [upd_ne ne] at h1'
    exact ⟨h1', by rw [unB_ne ne]; exact h2, by rw [upd_ne ne]; exact h3⟩
  nd := S3.nd
theorem lk_exBack {q : Addr} {ws : List (Key × V)} {ob : Obj} {B3 H3 : Hp} {own3 : Own} (S1 : Stt E own B H) (h : H q = some (.dK ws)) (S3 : Stt ⟨lkB q (.frz ob (.dK ws)) B, upd H q (.frz ob (.dK ws))⟩ own3 B3 H3) : Ex B3 (unB q B B3) := fun a u e => by
  by_cases ha : a = q
  · subst ha
    rcases S3.fr a u e with z | z
    · have z' : lkB a (.frz ob (.dK ws)) B a = some u := z
      rw [lkB_at] at z'
      cases hb : B a with
      | none => rw [hb] at z'; cases z'
      | some v =>
        rw [hb] at z'
        cases z'
        have e2 := S1.bh a v hb
        rw [h] at e2
        cases e2
        exact ⟨.dK ws, by rw [unB_at]; exact hb, rfl⟩
    · have z' : upd H a (.frz ob (.dK ws)) a = Option.none := z
      rw [upd_same] at z'
      cases z'
  · exact ⟨u, by rw [unB_ne ha]; exact e, rfl⟩
theorem WE.szI {Q : VK} (h : Szd H → WE X e σ H Q) : WE X e σ H Q := fun pins s I => h (Szd.of I) pins s I
/-- a dict that stands at one place, whoever looks -/
def EvK (X : Cx) (B H : Hp) (σ : L2.St) (e : Expr) (R : Rel α) (kvs : List (Int × α)) : Prop := ∃ q ws, (∀ H', Tx H H' → ∀ Q : VK, Q (.ref q) H' → WE X e σ H' Q) ∧ Rd H q (.dK ws) ∧ pI R H ws kvs
theorem ek_v {v : V} {kvs : List (Int × α)} (hp : PE X e (tVar i)) (h : σ[i]? = some (some v)) (r : (rDI R).r H v kvs) : EvK X B H σ e R kvs := by
  obtain ⟨q, ws, rfl, h2, h3⟩ := r
  exact ⟨q, ws, fun H' _ Q k => WE.of hp ⟨_, h, k⟩, h2, h3⟩
theorem ek_own {q : Addr} {ws : List (Key × V)} {kvs : List (Int × α)} (S0 : Stt E own B H) (hp : PE X e (tVar i)) (h : σ[i]? = some (some (.ref q))) (ho : (q, HO.dK ws) ∈ own) (r : pI R B ws kvs) : EvK X B H σ e R kvs :=
  ⟨q, ws, fun H' _ Q k => WE.of hp ⟨_, h, k⟩, Rd.of (S0.ow _ ho).2.2, r.up S0.bh.ex⟩
/-- .. at a place of a tuple -/
structure TupAt (H : Hp) (v u : V) (j : Int) : Prop where
  t : ∃ p vs, v = .ref p ∧ H p = some (.tup vs) ∧ atI vs j = some u
theorem ek_at {v u : V} {j : Nat} {kvs : List (Int × α)} {kk} {pp : Pos} (hp : PE X o (tVar i)) (h : σ[i]? = some (some v)) (ht : TupAt H v u j) (r : (rDI R).r H u kvs) : EvK X B H σ (.Subscript o (.Constant (.int j) kk pp) pos) R kvs := by
  obtain ⟨q, ws, rfl, h2, h3⟩ := r
  obtain ⟨p, vs, rfl, h5, h6⟩ := ht
  exact ⟨q, ws, fun H' tx Q k => WE.of (pe_ix ix_tup hp pe_int (fun _ _ => rfl)) ⟨_, h, p, vs, j, .ref q, rfl, rfl, SqT.of (tx _ _ h5), h6, k⟩, h2, h3⟩
theorem walk_keysE {q : Addr} {ws : List (Key × V)} {ob : Obj} {kvs : List (Int × α)} {B2 : Hp} (h : E.H0 q = some (.frz ob (.dK ws))) (r : ws.map (·.1) = (kvs.map (·.1)).map (Sum.inl (β := Str))) : Walk E KoT B2 (Itk q ob ws) rInt (kvs.map (·.1)) := by
  have hl : ws.length = (kvs.map (·.1)).length := by
    have := congrArg List.length r
    simpa using this
  refine ⟨fun i own' B' H' S' e k hi => ?_, fun i own' B' H' S' e k hi => ?_, fun i own' B' H' v H'' x S' e k hx hy => ?_⟩
  · exact ⟨S'.h0 _ _ h, by rw [hl]; exact hi⟩
  · exact ⟨S'.h0 _ _ h, by rw [hl]; exact hi⟩
  · obtain ⟨e1, kk, vv, h1, h2⟩ := hy
    subst e1
    refine ⟨B', S', Ex.refl _, Ex.refl _, ?_⟩
    have e3 : (ws.map (·.1))[i]? = some kk := by rw [List.getElem?_map, h1]; rfl
    rw [r, List.getElem?_map, hx] at e3
    have e4 : kk = Sum.inl x := (Option.some.inj e3).symm
    rw [h2, e4]
    rfl
theorem el_lcD {Tg : Int → Hp → L2.St → L2.St → Prop} {cm : Int → Res Bool} {fm : Int → Res β} {ifs : List Expr} {ownN : List (Str × Nat)} {kvs : List (Int × α)} (C : Cok X k0) (ok : BlkOk X.N X.env.scope scope ownN) (hit : EvK X B H σ it R kvs)
    (ht : ∀ Xb Eb, Blk X scope Xb → TgOk Xb Eb tg rInt Tg) (hm : mfM cm fm (kvs.map (·.1)) = .ok ys)
    (hc : ∀ (Eb : Ent) Xb x σ2 acc Dd B3 H3 b, Ex B Eb.B0 → Ex H Eb.H0 → Blk X scope Xb → Stt Eb [(Dd, .lst acc)] B3 H3 → Ex Eb.B0 B3 → Tg x B3 (wipe σ (ownN.map (·.2))) σ2 → cm x = .ok b → EvTs Xb Eb [(Dd, .lst acc)] B3 H3 σ2 ifs b)
    (he : ∀ (Eb : Ent) Xb x y σ2 acc Dd B3 H3, Ex B Eb.B0 → Ex H Eb.H0 → Blk X scope Xb → Stt Eb [(Dd, .lst acc)] B3 H3 → Ex Eb.B0 B3 → Tg x B3 (wipe σ (ownN.map (·.2))) σ2 → cm x = .ok true → fm x = .ok y → EvE Xb Eb [(Dd, .lst acc)] B3 H3 σ2 elt S y)
    (hwp : ∀ x B3 σ2, Tg x B3 (wipe σ (ownN.map (·.2))) σ2 → wipe σ2 (ownN.map (·.2)) = wipe σ (ownN.map (·.2)))
    (hup : ∀ x B3 B4 σ2, Tg x B3 (wipe σ (ownN.map (·.2))) σ2 → Ex B3 B4 → Tg x B4 (wipe σ (ownN.map (·.2))) σ2)
    (hs : ∀ x, foldedSetIterable it X.env x = pure x := by intro _; rfl) : EvL X E own B H σ (.ListComp elt [⟨tg, it, ifs, 0⟩] scope pos) S ys := fun B1 H1 S1 e1 e2 Q k => by
  obtain ⟨q, ws, hv, hq, hp⟩ := hit
  have hq1 := e2.dK hq
  have tx1 : Tx H H1 := fun a ys h => e2.tup h
  have kr := keys_rel hp
  refine WE.szI fun sz => ?_
  have hz : (kvs.map (·.1)).length ≤ sizeLine := by
    have := sz.2.2.1 _ _ hq1
    rw [List.length_map, ← plen hp]
    exact this
  rcases hq1 with hq1 | ⟨ob, hq1⟩
  · refine WE.of (pe_lock (pe_lcB C (pi_keys peW) ok hs)) ⟨q, .dK ws, hq1, trivial, fun ob => ?_⟩
    refine hv _ (fun a ys h => ?_) _ ⟨q, ob, rfl, .inl ⟨ws, upd_same, ?_⟩⟩
    · have h1 := tx1 a ys h
      rw [upd_ne fun z => by rw [z, hq1] at h1; cases h1]
      exact h1
    · have eb := e1.trans (lk_exB (ob := ob) S1 hq1)
      have eh := e2.trans (lk_exH (ob := ob) hq1)
      refine lc_read (Q := fun v H' => H' q = some (.frz ob (.dK ws)) ∧ Q v (upd H' q (.dK ws))) (lk_enter S1 hq1) (walk_keysE upd_same kr) hz (fun _ _ => trivial) (fun Xb hb => ht Xb _ hb) hm (fun Xb x σ2 acc Dd B3 H3 b hX S3 e5 => hc _ Xb x σ2 acc Dd B3 H3 b eb eh hX S3 e5) (fun Xb x y σ2 acc Dd B3 H3 hX S3 e5 => he _ Xb x y σ2 acc Dd B3 H3 eb eh hX S3 e5) hwp hup fun p us B3 H3 S3 e5 e6 r => ?_
      have T := lk_back S1 hq1 S3
      exact ⟨S3.h0 _ _ upd_same, k p us _ _ (S1.call T) T.b0.ex T.h0.ex (pimp r fun _ _ z => S.mono (lk_exBack S1 hq1 S3) z)⟩
  · refine WE.of (pe_lcB C (pi_keys peW) ok hs) (hv _ tx1 _ ⟨q, ob, rfl, .inl ⟨ws, hq1, ?_⟩⟩)
    exact lc_read (Q := Q) (Stt.enter S1.bh S1.tu) (walk_keysE hq1 kr) hz (fun _ _ => trivial) (fun Xb hb => ht Xb _ hb) hm (fun Xb x σ2 acc Dd B3 H3 b hX S3 e5 => hc _ Xb x σ2 acc Dd B3 H3 b e1 e2 hX S3 e5) (fun Xb x y σ2 acc Dd B3 H3 hX S3 e5 => he _ Xb x y σ2 acc Dd B3 H3 e1 e2 hX S3 e5) hwp hup fun p us B3 H3 S3 e5 e6 r =>
      k p us _ _ (S1.call S3) e5 e6 r
/-- y = [.. for x in d ..] on one line -/
theorem s_asgLcD {Tg : Int → Hp → L2.St → L2.St → Prop} {cm : Int → Res Bool} {fm : Int → Res β} {ifs : List Expr} {ownN : List (Str × Nat)} {kvs : List (Int × α)} (C : Cok X k0) (hy : X.N[i]? = some n) (hyl : X.env.scope.names.lookup n = some .local) (hsw : swapsWith (.ListComp elt [⟨tg, it, ifs, 0⟩] scope pos) (some (.Name n pos')) p.line X.env = pure true) (S1 : Stt E own B H)
    (ok : BlkOk X.N X.env.scope scope ownN) (hit : EvK X B H σ it R kvs)
    (ht : ∀ Xb Eb, Blk X scope Xb → TgOk Xb Eb tg rInt Tg) (hm : mfM cm fm (kvs.map (·.1)) = .ok ys)
    (hc : ∀ (Eb : Ent) Xb x σ2 acc Dd B3 H3 b, Ex B Eb.B0 → Ex H Eb.H0 → Blk X scope Xb → Stt Eb [(Dd, .lst acc)] B3 H3 → Ex Eb.B0 B3 → Tg x B3 (wipe σ (ownN.map (·.2))) σ2 → cm x = .ok b → EvTs Xb Eb [(Dd, .lst acc)] B3 H3 σ2 ifs b)
    (he : ∀ (Eb : Ent) Xb x y σ2 acc Dd B3 H3, Ex B Eb.B0 → Ex H Eb.H0 → Blk X scope Xb → Stt Eb [(Dd, .lst acc)] B3 H3 → Ex Eb.B0 B3 → Tg x B3 (wipe σ (ownN.map (·.2))) σ2 → cm x = .ok true → fm x = .ok y → EvE Xb Eb [(Dd, .lst acc)] B3 H3 σ2 elt S y)
    (hwp : ∀ x B3 σ2, Tg x B3 (wipe σ (ownN.map (·.2))) σ2 → wipe σ2 (ownN.map (·.2)) = wipe σ (ownN.map (·.2)))
    (hup : ∀ x B3 B4 σ2, Tg x B3 (wipe σ (ownN.map (·.2))) σ2 → Ex B3 B4 → Tg x B4 (wipe σ (ownN.map (·.2))) σ2)
    (kt : ∀ p vs B' H', Stt E ((p, .lst vs) :: own) B' H' → Ex B B' → Paired (S.r B') vs ys → WSs X rest D (σ.set i (some (.ref p))) H')
    (hs : ∀ x, foldedSetIterable it X.env x = pure x := by intro _; rfl) : WSs X (.Assign [.Name n pos'] (.ListComp elt [⟨tg, it, ifs, 0⟩] scope pos) p :: rest) D σ H := by
  obtain ⟨q, ws, hv, hq1, hp⟩ := hit
  have kr := keys_rel hp
  intro pins s I
  have sz := Szd.of I
  revert pins s
  have hz : (kvs.map (·.1)).length ≤ sizeLine := by
    have := sz.2.2.1 _ _ hq1
    rw [List.length_map, ← plen hp]
    exact this
  show WSs X _ D σ H
  rcases hq1 with hq1 | ⟨ob, hq1⟩
  · refine WSs.cons (ps_lock (ps_lcB C hy hyl hsw (pi_keys peW) ok hs)) ⟨q, .dK ws, hq1, trivial, fun ob => ?_⟩
    refine hv _ (fun a ys h => ?_) _ ⟨q, ob, rfl, .inl ⟨ws, upd_same, ?_⟩⟩
    · rw [upd_ne fun z => by rw [z, hq1] at h; cases h]
      exact h
    · have eb := lk_exB (ob := ob) S1 hq1
      have eh := lk_exH (ob := ob) hq1
      refine lc_read (Q := fun v H1 => H1 q = some (.frz ob (.dK ws)) ∧ WSs X rest D (σ.set i (some v)) (upd H1 q (.dK ws))) (lk_enter S1 hq1) (walk_keysE upd_same kr) hz (fun _ _ => trivial) (fun Xb hb => ht Xb _ hb) hm (fun Xb x σ2 acc Dd B3 H3 b hX S3 e5 => hc _ Xb x σ2 acc Dd B3 H3 b eb eh hX S3 e5) (fun Xb x y σ2 acc Dd B3 H3 hX S3 e5 => he _ Xb x y σ2 acc Dd B3 H3 eb eh hX S3 e5) hwp hup fun p us B3 H3 S3 e5 e6 r => ?_
      have T := lk_back S1 hq1 S3
      exact ⟨S3.h0 _ _ upd_same, kt p us _ _ (S1.call T) T.b0.ex (pimp r fun _ _ z => S.mono (lk_exBack S1 hq1 S3) z)⟩
  · refine WSs.cons (ps_lcB C hy hyl hsw (pi_keys peW) ok hs) (hv _ (fun _ _ h => h) _ ⟨q, ob, rfl, .inl ⟨ws, hq1, ?_⟩⟩)
    exact lc_read (Q := fun v H1 => WSs X rest D (σ.set i (some v)) H1) (Stt.enter S1.bh S1.tu) (walk_keysE hq1 kr) hz (fun _ _ => trivial) (fun Xb hb => ht Xb _ hb) hm (fun Xb x σ2 acc Dd B3 H3 b hX S3 e5 => hc _ Xb x σ2 acc Dd B3 H3 b (Ex.refl _) (Ex.refl _) hX S3 e5) (fun Xb x y σ2 acc Dd B3 H3 hX S3 e5 => he _ Xb x y σ2 acc Dd B3 H3 (Ex.refl _) (Ex.refl _) hX S3 e5) hwp hup fun p us B3 H3 S3 e5 e6 r =>
      kt p us _ _ (S1.call S3) e5 r
end
end Sg

namespace Sg
open PySem PySem.Spec PyProof.Rows L2
/-! list(reversed(x)): a list's own iterator taken up by list -/
structure SelfSrc (prog : Program) (w : World) (T : String) (it d : Addr) (n : Nat) (P : Nat → Value → Prop) (OK : Heap → Prop) : Prop where
  ty : ∀ s : Shared, OK s.heap → s.TypeIs (.ref it) T
  there : ∀ h : Heap, OK h → it < h.objs.size ∧ d < h.objs.size
  keep : ∀ h h' : Heap, OK h → (∀ b, b = it ∨ b = d → ∀ o, h.get? b = some o → h'.get? b = some o) → OK h'
  notList : (Value.type T == Value.type "list") = false
  notTuple : (Value.type T == Value.type "tuple") = false
  hint : ∀ (A : Around) (E : Value → Shared → Prop) (s : Shared) (Q : Bool → Shared → Prop), OK s.heap → (∀ b tk, Q b { s with toks := tk }) → wpAny (model prog w) A (Builtin.List.listLengthHint (.ref it)) Q E s
  iter : ∀ (A : Around) (E : Value → Shared → Prop) (s : Shared) (Q : Value → Shared → Prop), OK s.heap → Q (.ref it) s → wpAny (model prog w) A (pyIter (.ref it)) Q E s
  walk : ∀ A : Around, A.handled = none → ∃ (St : Nat → Heap → Prop), Walks prog w A it [it, d] [it] n P St ∧ ∀ h, OK h → St 0 h
section
variable {prog : Program} {w : World} {A : Around} {E : Value → Shared → Prop} {s : Shared} {T : String} {it d : Addr} {n : Nat} {P : Nat → Value → Prop} {OK : Heap → Prop}
theorem self_extend {R : Result → Shared → Prop} (K : SelfSrc prog w T it d n P OK) (hh : A.handled = none) (hok : OK s.heap) (S : Addr) (hSr : S ≠ it) (hSd : S ≠ d) (res : Value) (c₀ : Nat) (hS : s.heap.get? S = some { cls := .type "list", data := .seq #[] c₀ })
    (hR : ∀ h' tk acc' c', (∀ b o, b ≠ S → b ≠ it → s.heap.get? b = some o → h'.get? b = some o) → h'.get? S = some { cls := .type "list", dict := none, data := .seq acc' c', slots := #[] } → ItemsOf P acc' n → R (.ok (.ret res)) { s with heap := h', toks := tk }) (hn : n ≤ sizeLine) :
    wpAny (model prog w) A.in1 (Builtin.List.listExtendWith (.ref S) (.ref it) res)
      (fun fin s' => match fin with | .done f => R (.ok f) s' | .again c' => c'.quiet = true ∧ codeAny (model prog w) A c' R s') (fun e s' => R (.error e) s') s := by
  have hSf : S ∉ [it, d] := by simp only [List.mem_cons, List.not_mem_nil, or_false, not_or]; exact ⟨hSr, hSd⟩
  obtain ⟨St, W, st⟩ := K.walk A.in1 hh
  unfold Builtin.List.listExtendWith
  refine wpAny_bind (wpAny_typeOf (T := T) (K.ty s hok) ?_)
  have h1 : Builtin.List.listSameRef (.ref S) (.ref it) = false := by simp [Builtin.List.listSameRef, hSr]
  simp only [h1, K.notList, K.notTuple, Bool.or_false, Bool.false_eq_true, if_false]
  have key : ∀ (h : Heap) (c₁ tk : Nat), OK h → (∀ b o, b ≠ S → s.heap.get? b = some o → h.get? b = some o) →
      h.get? S = some { cls := .type "list", data := .seq #[] c₁ } → codeAny (model prog w) A (.builtin "list.extend.loop" ⟨[.ref S, .ref it, res], []⟩) R { s with heap := h, toks := tk } := by
    intro h c₁ tk hst hk hS₁
    refine codeAny_extend_loopS W.toS hn S hSf res n 0 _ #[] c₁ rfl (Nat.zero_le _) (st _ hst) hS₁ (ItemsOf.nil _) fun s' acc' c' hm hS' hacc => ?_
    rw [Moved.eq_with hm]
    refine hR s'.heap s'.toks acc' c' (fun b o hb hb2 e => hm.heap b o (fun hmem => ?_) (hk b o hb e)) hS' hacc
    rcases List.mem_cons.mp hmem with e' | hmem
    · exact hb e'
    · exact hb2 (List.mem_singleton.mp hmem)
  refine wpAny_bind (K.iter _ _ _ _ hok ?_)
  refine wpAny_bind (wpAny_holding (K.hint _ _ _ _ hok fun bb tk => ?_))
  refine wpAny_ite_split (fun _ => ?_) (fun _ => wpAny_pure ⟨plainId_quiet PySem.F.plain_extend_loop _, key _ c₀ _ hok (fun b o _ e => e) hS⟩)
  refine wpAny_bind (wpAny_rule ?_)
  refine wpAny_bind ?_
  show wpAny _ _ (updateSeq S (·.push .none) >>= fun _ => updateSeq S (·.pop)) _ _ _
  refine wpAny_bind (wpAny_updateSeq (s := { s with toks := tk }) hS rfl ?_)
  have hS₂ := Heap.get?_update_self (Obj.mapSeq (·.push Value.none)) hS rfl
  refine wpAny_updateSeq (hz := by seq_fits) hS₂ rfl ?_
  have hS₃ := Heap.get?_update_self (Obj.mapSeq (·.pop)) hS₂ rfl
  refine wpAny_pure ⟨plainId_quiet PySem.F.plain_extend_loop _, key _ _ _ (K.keep _ _ hok fun b hb o e => ?_) (fun b o hb e => ?_) hS₃⟩
  · have hbS : b ≠ S := by rcases hb with rfl | rfl; exact hSr.symm; exact hSd.symm
    exact (Heap.get?_update_other _ _ (Ne.symm hbS)).trans ((Heap.get?_update_other _ _ (Ne.symm hbS)).trans e)
  · exact (Heap.get?_update_other _ _ (Ne.symm hb)).trans ((Heap.get?_update_other _ _ (Ne.symm hb)).trans e)
theorem self_init {R : Result → Shared → Prop} (K : SelfSrc prog w T it d n P OK) (hh : A.handled = none) (hok : OK s.heap) (S : Addr) (hSr : S ≠ it) (hSd : S ≠ d) (hS : s.heap.get? S = some { cls := .type "list", data := .seq #[] })
    (hR : ∀ h' tk acc' c', (∀ b o, b ≠ S → b ≠ it → s.heap.get? b = some o → h'.get? b = some o) → h'.get? S = some { cls := .type "list", dict := none, data := .seq acc' c', slots := #[] } → ItemsOf P acc' n → R (.ok (.ret .none)) { s with heap := h', toks := tk }) (hn : n ≤ sizeLine) :
    wpAny (model prog w) A.in1 (Builtin.«list.__init__» ⟨[.ref S, .ref it], []⟩)
      (fun fin s' => match fin with | .done f => R (.ok f) s' | .again c' => c'.quiet = true ∧ codeAny (model prog w) A c' R s') (fun e s' => R (.error e) s') s := by
  show wpAny _ _ (do let old ← Builtin.List.listItems (.ref S); Builtin.List.listUpdate (.ref S) (fun _ => #[]); letGo old.toList.reverse; Builtin.List.listExtendWith (.ref S) (.ref it) .none) _ _ s
  refine wpAny_bind ?_
  unfold Builtin.List.listItems
  refine wpAny_bind (wpAny_seqItems hS rfl (wpAny_pure ?_))
  show wpAny _ _ (updateSeq S (fun _ => #[]) >>= fun _ => letGo (#[] : Array Value).toList.reverse >>= fun _ => Builtin.List.listExtendWith (.ref S) (.ref it) .none) _ _ s
  refine wpAny_bind (wpAny_updateSeq hS rfl ?_)
  have hS2 := Heap.get?_update_self (Obj.mapSeq (fun _ => (#[] : Array Value))) hS rfl
  have oth : ∀ b o, b ≠ S → s.heap.get? b = some o → (s.heap.update S (Obj.mapSeq (fun _ => (#[] : Array Value)))).get? b = some o :=
    fun b o hb e => (Heap.get?_update_other _ _ (Ne.symm hb)).trans e
  refine wpAny_bind (wpAny_letGo ?_)
  refine self_extend K hh (K.keep _ _ hok fun b hb o e => oth b o (by rcases hb with rfl | rfl; exact hSr.symm; exact hSd.symm) e) S hSr hSd .none _ hS2 (fun h' tk acc' c' hk hS' hacc => ?_) hn
  exact hR h' tk acc' c' (fun b o hb hb2 e => hk b o hb hb2 (oth b o hb e)) hS' hacc
theorem self_call {Q : Value → Shared → Prop} (K : SelfSrc prog w T it d n P OK) (hh : A.handled = none) (hok : OK s.heap) (hn : n ≤ sizeLine)
    (hQ : ∀ h' tk acc' c', (∀ b o, b ≠ it → s.heap.get? b = some o → h'.get? b = some o) → h'.get? s.heap.objs.size = some { cls := .type "list", dict := none, data := .seq acc' c', slots := #[] } → ItemsOf P acc' n → Q (.ref s.heap.objs.size) { s with heap := h', toks := tk }) :
    wpAny (model prog w) A (call (.type "list") [.ref it]) Q E s := by
  refine callType_codes (Q₁ := fun obj s₁ => obj = .ref s.heap.objs.size ∧ s₁ = { s with heap := s.heap.push { cls := .type "list", data := .seq #[] } }) PySem.F.called_list (PySem.F.typeCall_list_1 _) PySem.F.entry_list_init
    (code_list_new _ ⟨rfl, rfl⟩) fun obj s₁ h₁ => ?_
  obtain ⟨rfl, rfl⟩ := h₁
  have hS : (s.heap.push { cls := .type "list", data := .seq #[] }).get? s.heap.objs.size = some { cls := .type "list", data := .seq #[] } := Heap.get?_push_size _ rfl
  have hlt := K.there _ hok
  refine ⟨⟨_, hS, rfl⟩, PySem.F.args_list_init_2 _ _, self_init (A := A.in1) K hh (K.keep _ _ hok fun b _ o e => Heap.get?_push_of_some _ e) _ (Nat.ne_of_gt hlt.1) (Nat.ne_of_gt hlt.2) hS (fun h' tk acc' c' hk hS' hacc => ?_) hn⟩
  exact ⟨rfl, hQ h' tk acc' c' (fun b o hb e => hk b o (Nat.ne_of_lt (Heap.lt_size e)) hb (Heap.get?_push_of_some _ e)) hS' hacc⟩
theorem src_lri {l : Addr} {items : Array Value} (hne : l ≠ it) : SelfSrc prog w "list_reverseiterator" it l items.size (fun i v => items[items.size - 1 - i]? = some v) (fun h => h.IsRevIter it l ((items.size : Int) - 1) ∧ h.IsList l items) where
  ty := fun s h => h.1.typeIs
  there := fun h x => ⟨let ⟨_, e, _⟩ := x.1; Heap.lt_size e, let ⟨_, e, _⟩ := x.2; Heap.lt_size e⟩
  keep := fun h h' x k => ⟨x.1.at fun o e => k it (.inl rfl) o e, x.2.at fun o e => k l (.inr rfl) o e⟩
  notList := by decide
  notTuple := by decide
  hint := fun A E s Q x q => by
    have hT := x.1.typeIs
    unfold Builtin.List.listLengthHint
    refine wpAny_bind (wpAny_specialOf hT RT.nolen_lri ?_)
    show wpAny _ A (specialOf (Value.ref it) (Str.ofString "__length_hint__") >>= _) _ _ _
    refine wpAny_bind (wpAny_specialOf hT RT.hint_lri ?_)
    generalize hid : ("list_reverseiterator.__length_hint__" : String) = id0
    wp_delta
    rw [show splitId id0 = some ("list_reverseiterator", "__length_hint__") from by subst hid; decide +kernel]
    subst hid
    refine wpAny_bind (wpAny_isInstance (b := true) hT (by rw [isSubtype_type]; kernel_rfl) ?_)
    exact wpAny_pure (q false s.toks)
  iter := fun A E s Q x q => wpAny_pyIter_revIter x.1 q
  walk := fun A hh => ⟨_, Walks.listRev hh it l hne items, fun h x => ⟨Nat.zero_le _, by rw [show ((items.size : Nat) : Int) - 1 - ((0 : Nat) : Int) = (items.size : Int) - 1 from by omega]; exact x.1, x.2⟩⟩
theorem nolen_rt : typeLookup (.type "reversed") "__len__" = pure none := by rw [typeLookup_type, builtinLookup_eq_fast]; kernel_rfl
theorem hint_rt : typeLookup (.type "reversed") "__length_hint__" = pure (some (.builtin "reversed.__length_hint__")) := by rw [typeLookup_type, builtinLookup_eq_fast]; kernel_rfl
theorem slot_rt_hint : PySem.Slot "reversed" "__length_hint__" "reversed.__length_hint__" :=
  .of (owner := "reversed") (n := "__length_hint__") (by rw [typeLookup_type, builtinLookup_eq_fast]; kernel_rfl) (by decide +kernel) (by decide +kernel) (by decide +kernel)
    (by first | exact .inl (by decide +kernel) | exact .inr (by decide +kernel)) (by rw [isSubtype_type]; kernel_rfl)
theorem entry_rt_hint : entryFor table "reversed.__length_hint__" = some Builtin.«reversed.__length_hint__» := entryFor_of_tree (by kernel_rfl)
theorem args_rt_hint (a : Value) : argsOk "reversed.__length_hint__" ⟨[a], []⟩ := by
  unfold argsOk; rw [signature?_of (id := "reversed.__length_hint__") (n := ['_', '_', 't', 'n', 'i', 'h', '_', 'h', 't', 'g', 'n', 'e', 'l', '_', '_']) (o := ['d', 'e', 's', 'r', 'e', 'v', 'e', 'r']) (by kernel_rfl) RT.owner_rt]; kernel_rfl
theorem fits63 {n : Nat} (h : n ≤ sizeLine) : Builtin.List.listFitsIndex (n : Int) = true ∧ Builtin.List.listTooLong (n : Int).toNat = false := by
  rw [sizeLine_eq] at h
  refine ⟨?_, ?_⟩
  · unfold Builtin.List.listFitsIndex
    rw [Bool.and_eq_true]
    exact ⟨decide_eq_true (by omega), decide_eq_true (by omega)⟩
  · unfold Builtin.List.listTooLong
    rw [sizeLine_eq]
    exact decide_eq_false (by omega)
theorem walks_rt {t : Addr} {items : Array Value} (hh : A.handled = none) (hne : t ≠ it) (hn : items.size ≤ sizeLine) :
    Walks prog w A it [it, t] [it] items.size (fun i v => items[items.size - 1 - i]? = some v) (fun i h => i ≤ items.size ∧ RT.IsRt h it t ((items.size : Int) - 1 - (i : Int)) ∧ IsTup h t items) where
  sub := fun b hb => by simp at hb; simp [hb]
  frame := fun _ _ _ x hk => ⟨x.1, x.2.1.at fun o e => hk it (by simp) o e, (let ⟨o, ho, r⟩ := x.2.2; ⟨o, hk t (by simp) o ho, r⟩)⟩
  item := fun i s Q E hi x hQ => by
    have e : (items.size : Int) - 1 - (i : Int) = ((items.size - 1 - i : Nat) : Int) := by omega
    have hit := x.2.1
    rw [e] at hit
    have hx : items[items.size - 1 - i]? = some (items[items.size - 1 - i]'(by omega)) := Array.getElem?_eq_getElem (by omega)
    refine RT.next_rt_item hit x.2.2 hx hn fun h' hit' hs' => ?_
    have e2 : ((items.size - 1 - i : Nat) : Int) - 1 = (items.size : Int) - 1 - ((i + 1 : Nat) : Int) := by omega
    rw [e2] at hit'
    exact hQ _ h' _ hx ⟨hi, hit', (let ⟨o, ho, r⟩ := x.2.2; ⟨o, (hs'.2 t hne).trans ho, r⟩)⟩ fun b o hb eo => hs'.extBut b o (fun h => hb (by simp [h])) eo
  done := fun s Q E x hQ => by
    have e : (items.size : Int) - 1 - (items.size : Int) = -1 := by omega
    have hit := x.2.1
    rw [e] at hit
    exact RT.next_rt_end hh hit fun h' he' => hQ h' s.toks fun b o hb eo => he' b o (fun h => hb (by simp [h])) eo
  self := fun _ _ _ _ x hQ => RT.iter_rt x.2.1 hQ
theorem src_rt {t : Addr} {items : Array Value} (hne : t ≠ it) (hn : items.size ≤ sizeLine) : SelfSrc prog w "reversed" it t items.size (fun i v => items[items.size - 1 - i]? = some v) (fun h => RT.IsRt h it t ((items.size : Int) - 1) ∧ IsTup h t items) where
  ty := fun s h => h.1.typeIs
  there := fun h x => ⟨let ⟨_, e, _⟩ := x.1; Heap.lt_size e, let ⟨_, e, _⟩ := x.2; Heap.lt_size e⟩
  keep := fun h h' x k => ⟨x.1.at fun o e => k it (.inl rfl) o e, (let ⟨o, ho, r⟩ := x.2; ⟨o, k t (.inr rfl) o ho, r⟩)⟩
  notList := by decide
  notTuple := by decide
  hint := fun A E s Q x q => by
    have hT := x.1.typeIs
    have h1 := x.1
    unfold Builtin.List.listLengthHint
    refine wpAny_bind (wpAny_specialOf hT nolen_rt ?_)
    show wpAny _ A (specialOf (Value.ref it) (Str.ofString "__length_hint__") >>= _) _ _ _
    refine wpAny_bind (wpAny_specialOf hT hint_rt ?_)
    generalize hid : ("reversed.__length_hint__" : String) = id0
    wp_delta
    rw [show splitId id0 = some ("reversed", "__length_hint__") from by subst hid; decide +kernel]
    subst hid
    refine wpAny_bind (wpAny_isInstance (b := true) hT (by rw [isSubtype_type]; kernel_rfl) ?_)
    refine wpAny_ite_split (fun z => absurd z (by decide)) fun _ => ?_
    try dsimp only
    refine wpAny_ite_split (fun z => ?_) fun _ => ?_
    · exact absurd z (by decide)
    refine wpAny_bind (wpAny_rule ?_)
    try dsimp only
    refine wpAny_bind (wpAny_of_eq (slot_rt_hint.bind _) ?_)
    try dsimp only
    refine wpAny_bind (wpAny_attempt ?_)
    refine wpAny_call_entry slot_rt_hint hT entry_rt_hint ?_ (args_rt_hint _)
    obtain ⟨o, ho, hc, hd⟩ := id h1
    unfold Builtin.«reversed.__length_hint__»
    refine wpAny_bind (wpAny_of_eq (a := Value.ref it) rfl ?_)
    try dsimp only
    refine wpAny_bind (wpAny_field ho hd (x := .ref t) rfl ?_)
    try dsimp only
    refine wpAny_ite_split (fun z => absurd z (by simp)) fun _ => ?_
    try dsimp only
    refine wpAny_bind (PyProof.Rows.len_tuple x.2 (by rw [sizeLine_eq] at hn; have := line63; omega) ?_)
    refine wpAny_bind (wpAny_of_eq (a := some ((items.size : Nat) : Int)) rfl ?_)
    try dsimp only
    refine wpAny_bind (wpAny_field (s := { s with toks := _ }) ho hd (x := rawInt ((items.size : Int) - 1)) rfl ?_)
    show wpAny _ _ (if (items.size : Int) < (items.size : Int) - 1 + 1 then _ else _) _ _ _
    rw [if_neg (by omega)]
    refine wpAny_bind (wpAny_mkInt ?_)
    refine wpAny_pure ?_
    refine ⟨_, rfl, ?_⟩
    try dsimp only
    have en : (items.size : Int) - 1 + 1 = (items.size : Int) := by omega
    rw [en]
    generalize hk : ((items.size : Nat) : Int) = kk
    show wpAny _ _ (asInt? (.int kk _) >>= _) _ _ _
    refine wpAny_bind (wpAny_of_eq (a := some kk) rfl ?_)
    subst hk
    try dsimp only
    obtain ⟨f1, f2⟩ := fits63 hn
    rw [f1, f2, if_neg (by decide), if_neg (Int.not_lt.mpr (Int.natCast_nonneg _)), if_neg (by decide)]
    exact wpAny_pure (q _ _)
  iter := fun A E s Q x q => RT.iter_rt x.1 q
  walk := fun A hh => ⟨_, walks_rt hh hne hn, fun h x => ⟨Nat.zero_le _, by rw [show ((items.size : Nat) : Int) - 1 - ((0 : Nat) : Int) = (items.size : Int) - 1 from by omega]; exact x.1, x.2⟩⟩
end
def tListRev (K : PySem.W.Frag) (te : TE) : TE := fun σ H Q => te σ H fun v H1 => ∃ (a : Addr) (xs : List V), v = .ref a ∧ (SqL K H1 a xs ∨ SqT K H1 a xs) ∧ ∀ q, H1 q = none → Q (.ref q) (upd H1 q (.lst xs.reverse))
section
variable {X : Cx}
theorem pe_listRev {e : Expr} {te : TE} {p p2 pos pos2 : Pos} (hc : X.calm = true) (hg : Gl X "list") (hm : X.mg "list" = none) (hg2 : Gl X "reversed") (hm2 : X.mg "reversed" = none) (he : PE X e te)
    (hs : starEach [e] X.env = (false, eval e X.env) :: starEach [] X.env := by rfl)
    (hs2 : starEach [.Call (.Name "reversed" p2) [e] [] pos2] X.env = (false, eval (.Call (.Name "reversed" p2) [e] [] pos2) X.env) :: starEach [] X.env := by rfl) :
    PE X (.Call (.Name "list" p) [.Call (.Name "reversed" p2) [e] [] pos2] [] pos) (tListRev X.K te) := by
  refine ⟨fun pins s σ H Q I h => ?_⟩
  refine Call_ (ld_blt I hg hm (show bootBuiltins "list" = some (.type "list") from by decide +kernel) (PyProof.Rows.callWith_type1 (args_cons (Call_ (ld_blt I hg2 hm2 PyProof.Rows.boot_reversed (PyProof.Rows.callWith_type1 (args_cons (thn (he.run pins s σ H _ I h) fun u s1 ⟨v, H1, I1, r1, q1⟩ => args_nil ?_) hs) hs rfl))) hs2) hs2 rfl))
  obtain ⟨a, xs, ev, hq, q⟩ := q1
  subst ev
  obtain rfl : u = Value.ref a := r1
  have fin : ∀ (s2 : Shared) (T : String) (n : Nat) (its : List Value) (OK : Heap → Prop) (it : Addr), Vals xs its → n = its.toArray.size → n ≤ sizeLine → Inv X pins σ H1 s2 → FpOk X pins H1 it → OK s2.heap →
      SelfSrc X.prog X.w T it a n (fun i v => its.toArray[its.toArray.size - 1 - i]? = some v) OK →
      wpAny (model X.prog X.w) X.A (call (.type "list") [.ref it]) (EP X pins σ Q) X.xe s2 := by
    intro s2 T n its OK it rv en hn I2 hf ok src
    refine self_call src (I1.ok.hd hc) ok hn fun h' tk acc c' hk hS hacc => ?_
    subst en
    have hT : H1 s2.heap.objs.size = none := I2.hok.fresh (Nat.le_refl _)
    refine ⟨.ref s2.heap.objs.size, _, I2.turnedNew (ch := [it]) (fun b o hb e => hk b o (by simpa using hb) e) (fun b hb => by rw [List.mem_singleton.mp hb]; exact hf) (Nat.le_refl _) (show ObjOk X.prog X.w _ _ _ (.lst xs.reverse) from ⟨by rw [List.length_reverse, rv.length, ← List.size_toArray]; exact hn, acc.toList, c', RT.vals_rev rv hacc, ?_⟩), rfl, q _ hT⟩
    rw [Array.toArray_toList]
    exact hS
  rcases hq with hq | hq
  · obtain ⟨its, rv, p', hz⟩ := I1.list hq
    refine call_reversed_list p'.isList (args_nil ?_)
    have k0 : ∀ b o, s1.heap.get? b = some o → (s1.heap.push (revObj a ((its.toArray.size : Int) - 1))).get? b = some o := fun b o e => Heap.get?_push_of_some _ e
    obtain ⟨ol, hol, _⟩ := id p'.isList
    have hne : a ≠ s1.heap.objs.size := Nat.ne_of_lt (Heap.lt_size hol)
    exact fin { s1 with heap := s1.heap.push (revObj a ((its.toArray.size : Int) - 1)) } _ _ its _ _ rv rfl (by rw [List.size_toArray, ← rv.length]; exact hz) (I1.kept (t' := s1.toks) k0) (I1.fpOk (H' := H1) (b := s1.heap.objs.size) (Nat.le_refl _) (I1.hok.fresh (Nat.le_refl _))) ⟨⟨_, Heap.get?_push_size _ rfl, rfl, rfl⟩, p'.isList.push _⟩ (src_lri hne)
  · obtain ⟨its, rv, p', hz⟩ := I1.tuple hq
    have hn := line63
    refine RT.call_reversed_tup p' (fun A E Q k => PyProof.Rows.len_tuple p' (by simp only [List.size_toArray] <;> (have := rv.length; omega)) k) (args_nil ?_)
    have k0 : ∀ b o, s1.heap.get? b = some o → (s1.heap.push (RT.rtObj a ((its.toArray.size : Int) - 1))).get? b = some o := fun b o e => Heap.get?_push_of_some _ e
    obtain ⟨ol, hol, _⟩ := id p'
    have hne : a ≠ s1.heap.objs.size := Nat.ne_of_lt (Heap.lt_size hol)
    have hz2 : its.toArray.size ≤ sizeLine := by rw [List.size_toArray, ← rv.length]; exact hz
    exact fin { s1 with heap := s1.heap.push (RT.rtObj a ((its.toArray.size : Int) - 1)), toks := s1.toks + 1 + 1 } _ _ its _ _ rv rfl hz2 (I1.kept (t' := s1.toks + 1 + 1) k0) (I1.fpOk (H' := H1) (b := s1.heap.objs.size) (Nat.le_refl _) (I1.hok.fresh (Nat.le_refl _))) ⟨⟨_, Heap.get?_push_size _ rfl, rfl, rfl⟩, p'.push _⟩ (src_rt hne hz2)
end
end Sg

namespace Sg
open PySem PySem.Spec PyProof.Rows L2
section
variable {X Xb : Cx} {E : Ent} {own new own' : Own} {B H B' H' : Hp} {σ : L2.St} {α β γ δ τ ρ ρ' : Type} {R : Rel α} {S : Rel β} {T : Rel γ} {U : Rel δ} {e a b c d o it tg : Expr} {x : α} {y : β} {p pos pos' apos : Pos} {i j k k0 : Nat} {z w : Bool} {xs : List α} {ys : List β} {es : List Expr}
variable {n m : Str} {rest body other : List Stmt} {D : Ends} {P : ρ → Prop} {Er : Err → Prop} {scope sc : Scope} {N : List Str} {t : List (Str × NameKind)} {kd : NameKind}
/-! list(reversed(x)) -/
theorem el_listRL [Imm R] {p2 pos2 : Pos} (hc : X.calm = true) (hg : Gl X "list") (hm : X.mg "list" = none) (hg2 : Gl X "reversed") (hm2 : X.mg "reversed" = none) (ha : EvB X E own B H σ a (rLst R) xs) (hs : St1 X a := by rfl)
    (hs2 : starEach [.Call (.Name "reversed" p2) [a] [] pos2] X.env = (false, eval (.Call (.Name "reversed" p2) [a] [] pos2) X.env) :: starEach [] X.env := by rfl) : EvL X E own B H σ (.Call (.Name "list" p) [.Call (.Name "reversed" p2) [a] [] pos2] [] pos) R xs.reverse := fun B1 H1 S1 e1 e2 Q k =>
  WE.of (pe_listRev hc hg hm hg2 hm2 peW hs hs2) (ha B1 H1 S1 e1 e2 _ fun v B2 H2 S2 e3 e4 r => by
    obtain ⟨q, vs, h1, h2, h3⟩ := r
    exact ⟨q, vs, h1, .inl (.inl h2), fun l hl => k l _ B2 _ (S2.alloc hl fun ys z => by cases z) e3 (e4.trans (Sx.new hl).ex) (prev (pimp h3 fun _ _ z => Imm.imm S2.tu z))⟩)
theorem el_listRT [Imm R] {p2 pos2 : Pos} (hc : X.calm = true) (hg : Gl X "list") (hm : X.mg "list" = none) (hg2 : Gl X "reversed") (hm2 : X.mg "reversed" = none) (ha : EvB X E own B H σ a (rTup R) xs) (hs : St1 X a := by rfl)
    (hs2 : starEach [.Call (.Name "reversed" p2) [a] [] pos2] X.env = (false, eval (.Call (.Name "reversed" p2) [a] [] pos2) X.env) :: starEach [] X.env := by rfl) : EvL X E own B H σ (.Call (.Name "list" p) [.Call (.Name "reversed" p2) [a] [] pos2] [] pos) R xs.reverse := fun B1 H1 S1 e1 e2 Q k =>
  WE.of (pe_listRev hc hg hm hg2 hm2 peW hs hs2) (ha B1 H1 S1 e1 e2 _ fun v B2 H2 S2 e3 e4 r => by
    obtain ⟨q, vs, h1, h2, h3⟩ := r
    exact ⟨q, vs, h1, .inr (SqT.of h2), fun l hl => k l _ B2 _ (S2.alloc hl fun ys z => by cases z) e3 (e4.trans (Sx.new hl).ex) (prev (pimp h3 fun _ _ z => Imm.imm S2.tu z))⟩)
/-! xs[::-1] -/
theorem el_rev [Imm R] {p1 p2 p3 : Pos} {k1} (ha : EvB X E own B H σ a (rLst R) xs) : EvL X E own B H σ (.Subscript a (.Slice none none (some (.UnaryOp .USub (.Constant (.int 1) k1 p1) p2)) p3) pos) R xs.reverse := fun B1 H1 S1 e1 e2 Q k =>
  WE.of (pe_revL peW) (ha B1 H1 S1 e1 e2 _ fun v B2 H2 S2 e3 e4 r => by
    obtain ⟨q, vs, h1, h2, h3⟩ := r
    exact ⟨q, vs, h1, .inl h2, fun l hl => k l _ B2 _ (S2.alloc hl fun ys z => by cases z) e3 (e4.trans (Sx.new hl).ex) (prev (pimp h3 fun _ _ z => Imm.imm S2.tu z))⟩)
/-! range with a step above 0 -/
def rangeS (a b c : Int) : List Int := (List.range (Builtin.Range.rangeSize a b c).toNat).map fun i : Nat => a + (i : Int) * c
theorem rangeS_at {a b c : Int} {i : Nat} (h : i < (Builtin.Range.rangeSize a b c).toNat) : (rangeS a b c)[i]? = some (a + (i : Int) * c) := by
  unfold rangeS
  rw [List.getElem?_map, List.getElem?_range h]
  rfl
theorem rangeS_len (a b c : Int) : (rangeS a b c).length = (Builtin.Range.rangeSize a b c).toNat := by
  unfold rangeS
  rw [List.length_map, List.length_range]
theorem rsz_le {a b c : Int} (hc : 0 < c) (h : -8000000 ≤ a ∧ a ≤ 8000000 ∧ -8000000 ≤ b ∧ b ≤ 8000000) : (Builtin.Range.rangeSize a b c).toNat ≤ 16000001 ∧ 0 ≤ Builtin.Range.rangeSize a b c := by
  unfold Builtin.Range.rangeSize
  rw [if_pos hc]
  by_cases hl : a < b
  · rw [if_pos hl]
    have h1 : (b - a - 1) / c ≤ b - a - 1 := Int.ediv_le_self _ (by omega)
    have h2 : 0 ≤ (b - a - 1) / c := Int.ediv_nonneg (by omega) (by omega)
    omega
  · rw [if_neg hl]
    omega
theorem small_pos {a b c : Int} (hc : 0 < c) (hc' : c < 1000000) (h : -8000000 ≤ a ∧ a ≤ 8000000 ∧ -8000000 ≤ b ∧ b ≤ 8000000) : Builtin.Range.small a b c = true := by
  have q := rsz_le hc h
  unfold Builtin.Range.small
  simp only [Builtin.Range.rangeFitsLong, Bool.and_eq_true, Bool.or_eq_true, decide_eq_true_eq, beq_iff_eq, if_pos hc]
  generalize Builtin.Range.rangeSize a b c = n at q ⊢
  omega
theorem ei_r3 {tg : Expr} {lo hi st : Int} (hg : Gl X "range") (hm : X.mg "range" = none) (ha : EvB X E own B H σ a rInt lo) (hb : EvB X E own B H σ b rInt hi) (hc : EvB X E own B H σ c rInt st) (hz : -8000000 ≤ lo ∧ lo ≤ 8000000 ∧ -8000000 ≤ hi ∧ hi ≤ 8000000) (h0 : 0 < st) (h1 : st < 1000000)
    (hs : starEach [a, b, c] X.env = (false, eval a X.env) :: starEach [b, c] X.env := by rfl) (hs1 : starEach (b :: [c]) X.env = (false, eval b X.env) :: starEach [c] X.env := by rfl) (hs2 : St1 X c := by rfl) (hpl : (backTo pos (starEach [b, c] X.env)).any (·.1) = false := by rfl) : EvI X E own B H σ tg (.Call (.Name "range" p) [a, b, c] [] pos) rInt KoT (rangeS lo hi st) :=
  ⟨_, pi_range3 hg hm (pa_cons peW (pa_cons peW (pa1 hs2) hs1) hs) hs hpl, fun B1 H1 S e1 e2 Q k => ha B1 H1 S e1 e2 _ fun v B2 H2 S2 e3 e4 r => hb B2 H2 S2 (e1.trans e3) (e2.trans e4) _ fun w B3 H3 S3 e5 e6 r' => hc B3 H3 S3 ((e1.trans e3).trans e5) ((e2.trans e4).trans e6) _ fun u B4 H4 S4 e7 e8 r'' => by
    have q := rsz_le h0 hz
    refine ⟨lo, hi, st, (Builtin.Range.rangeSize lo hi st).toNat, by rw [show v = .int lo from r, show w = .int hi from r', show u = .int st from r''], ⟨by omega, by omega, small_pos h0 h1 hz, by omega⟩, k _ B4 H4 S4 ((e3.trans e5).trans e7) ((e4.trans e6).trans e8) ?_ (by rw [rangeS_len, sizeLine_eq]; omega)⟩
    refine ⟨fun i own' B' H' S' e k h => by rw [rangeS_len] at h; exact h, fun i own' B' H' S' e k h => by rw [rangeS_len] at h; exact h, fun i own' B' H' v H'' x S' e k hx hy => ?_⟩
    obtain ⟨e1, h1⟩ := hy
    subst e1
    have hl : i < (Builtin.Range.rangeSize lo hi st).toNat := by
      have := (List.getElem?_eq_some_iff.mp hx).1
      rwa [rangeS_len] at this
    rw [rangeS_at hl] at hx
    cases hx
    exact ⟨B', S', Ex.refl _, Ex.refl _, h1⟩⟩
/-! for x in reversed(list) -/
theorem walk_rev {q : Addr} {vs : List V} {Ko : Own → Prop} {K : PySem.W.Frag} (hl : ∀ own' B' H', Stt E own' B' H' → Ex B B' → Ko own' → Rd H' q (.lst vs)) (r : Paired (R.r B) vs xs) : Walk E Ko B (Itv K q vs.length) R xs.reverse := by
  have hlen := plen r
  refine ⟨fun i own' B' H' S' e k hi => ?_, fun i own' B' H' S' e k hi => by rw [List.length_reverse] at hi; show vs.length ≤ i; rw [hlen]; exact hi, fun i own' B' H' v H'' x S' e k hx hy => ?_⟩
  · rw [List.length_reverse, ← hlen] at hi
    exact ⟨hi, vs, vs[vs.length - 1 - i]'(by omega), .inl (hl own' B' H' S' e k), List.getElem?_eq_getElem _⟩
  · obtain ⟨e1, h1⟩ := hy
    subst e1
    have hi : i < xs.length := by
      have := (List.getElem?_eq_some_iff.mp hx).1
      rwa [List.length_reverse] at this
    have hv := h1 vs (.inl (hl own' B' H'' S' e k))
    obtain ⟨x', hx', rx⟩ := L2.paired_get r hv
    rw [List.getElem?_reverse hi, ← hlen, hx'] at hx
    cases hx
    exact ⟨B', S', Ex.refl _, Ex.refl _, R.mono e rx⟩
theorem ei_revE {tg : Expr} (hg : Gl X "reversed") (hm : X.mg "reversed" = none) (he : EvE X E own B H σ a (rLst R) xs) (hs : St1 X a := by rfl) : EvI X E own B H σ tg (.Call (.Name "reversed" p) [a] [] pos) R KoT xs.reverse := ⟨_, RT.pi_revA hg hm peW hs, fun B1 H1 S e1 e2 Q k => WE.sz (he B1 H1 S e1 e2 _ fun v B2 H2 S2 e3 e4 r sz => by
  obtain ⟨q, vs, h1, h2, h3⟩ := r
  subst h1
  exact ⟨q, vs, rfl, .inl ⟨.inl (S2.bh.ex.rdL h2), k _ B2 H2 S2 e3 e4 (walk_rev (fun own' B' H' S' e' _ => S'.bh.ex.rdL (e'.rdL h2)) h3) (by rw [List.length_reverse, ← plen h3]; exact sz.1 _ _ (S2.bh.ex.rdL h2))⟩⟩)⟩
theorem ei_rev0 [Imm R] {v : V} {tg : Expr} (hg : Gl X "reversed") (hm : X.mg "reversed" = none) (hp : PE X a (tVar i)) (h : σ[i]? = some (some v)) (r : (rLst R).r E.H0 v xs) (hs : St1 X a := by rfl) : EvI X E own B H σ tg (.Call (.Name "reversed" p) [a] [] pos) R KoT xs.reverse := ⟨_, RT.pi_revA hg hm peW hs, fun B1 H1 S e1 e2 Q k => by
  obtain ⟨q, vs, h1, h2, h3⟩ := r
  subst h1
  exact WE.sz (WE.of hp ⟨_, h, fun sz => ⟨q, vs, rfl, .inl ⟨.inl (S.h0.ex.rdL h2), k _ B1 H1 S (Ex.refl _) (Ex.refl _) (walk_rev (fun own' B' H' S' _ _ => S'.h0.ex.rdL h2) (pimp h3 fun _ _ z => Imm.imm (fun a ys ha => S.tu a ys (S.h0 _ _ ha)) z)) (by rw [List.length_reverse, ← plen h3]; exact sz.1 _ _ (S.h0.ex.rdL h2))⟩⟩⟩)⟩
/-! isinstance -/
class TyR (R : Rel α) (T : outParam String) : Prop where
  ty : ∀ {K : PySem.W.Frag} {H : Hp} {v : V} {x : α}, R.r H v x → TyX K H v (.type T)
instance : TyR rInt "int" := ⟨fun {K H v x} h => by rw [show v = .int x from h]; exact .base (.int _)⟩
instance : TyR rBool "bool" := ⟨fun {K H v x} h => by rw [show v = .bl x from h]; exact .base (.bl _)⟩
instance : TyR rStr "str" := ⟨fun {K H v x} h => by rw [show v = .str x from h]; exact .base (.str _)⟩
instance : TyR rNon "NoneType" := ⟨fun {K H v x} h => by rw [show v = .non from h]; exact .base .non⟩
instance : TyR (rLst R) "list" := ⟨fun {K H v x} h => by
  obtain ⟨q, vs, h1, h2 | ⟨ob, h2⟩, h3⟩ := h
  · rw [h1]; exact .base (.lst h2)
  · rw [h1]; exact .base (.frz h2)⟩
instance : TyR (rTup R) "tuple" := ⟨fun {K H v x} h => by
  obtain ⟨q, vs, h1, h2, h3⟩ := h
  rw [h1]; exact .base (.tup h2)⟩
instance : TyR (rPr R S) "tuple" := ⟨fun {K H v x} h => by
  obtain ⟨q, a, b, h1, h2, h3⟩ := h
  rw [h1]; exact .base (.tup h2)⟩
instance : TyR (rT3 R S T) "tuple" := ⟨fun {K H v x} h => by
  obtain ⟨q, a, b, c, h1, h2, h3⟩ := h
  rw [h1]; exact .base (.tup h2)⟩
instance : TyR (rT4 R S T U) "tuple" := ⟨fun {K H v x} h => by
  obtain ⟨q, a, b, c, d, h1, h2, h3⟩ := h
  rw [h1]; exact .base (.tup h2)⟩
instance : TyR (rDI R) "dict" := ⟨fun {K H v x} h => by
  obtain ⟨q, ws, h1, h2 | ⟨ob, h2⟩, h3⟩ := h
  · rw [h1]; exact .base (.dK h2)
  · rw [h1]; exact .fDict h2⟩
theorem ev_isi {tn cn : String} {z : Bool} {cs : Str} {p2 : Pos} [ty : TyR R tn] (hg : Gl X "isinstance") (hm : X.mg "isinstance" = none) (hgc : Gl X cs) (hmc : X.mg cs = none) (hv : bootBuiltins cs = some (.type cn)) (ha : EvB X E own B H σ a R x) (hk : kitB tn cn = some z)
    (hn : cs ≠ "__name__" := by decide) (hd : (cs == ("__debug__" : Str)) = false := by decide)
    (hs : starEach (a :: [.Name cs p2]) X.env = (false, eval a X.env) :: starEach [.Name cs p2] X.env := by rfl) (hs2 : St1 X (.Name cs p2) := by rfl) (hpl : (backTo pos (starEach [.Name cs p2] X.env)).any (·.1) = false := by rfl) :
    EvB X E own B H σ (.Call (.Name "isinstance" p) [a, .Name cs p2] [] pos) rBool z := fun B1 H1 S1 e1 e2 Q k =>
  WE.of (pe_callB call_isi hg hm (by decide +kernel) (pa_cons peW (pa_cons (pe_bltn (v := .ty cn) hgc hmc hv rfl hn hd) pa_nil hs2) hs) (he := hs) (hpl := hpl)) (ha B1 H1 S1 e1 e2 _ fun v B2 H2 S2 e3 e4 r => ⟨v, .ty cn, .type tn, .type cn, z, rfl, .ty cn, ty.ty r, kit_ty hk, k _ B2 H2 S2 e3 e4 rfl⟩)
/-! is True, is False -/
theorem op_isIB : OpR X (compareOp .Is) (fun x y H Q => ∃ (i : Int) (b : Bool), x = .int i ∧ y = .bl b ∧ Q (.bl false) H) := by
  intro pins s σ H x y v u Q I rx ry h
  obtain ⟨i, b, rfl, rfl, q⟩ := h
  obtain ⟨t, rfl⟩ := rx
  cases (show u = Value.bool b from ry)
  exact wpAny_is_other rfl (fun z => by cases z) ⟨.bl false, H, I, rfl, q⟩
theorem c_isIB : CmpR X .Is rInt rBool (fun _ _ => false) := ⟨⟨_, op_isIB, fun x y _ v w _ h1 h2 k => ⟨x, y, h1, h2, k⟩⟩, fun b => nomark b⟩
theorem c_isBB : CmpR X .Is rBool rBool (fun i j => decide (i = j)) := ⟨⟨_, op_isBl, fun x y _ v w _ h1 h2 k => ⟨x, y, h1, h2, k⟩⟩, fun b => nomark b⟩
/-! xs.extend(a new list) -/
theorem s_extendL {apos : Pos} {q : Addr} {vs : List V} {xs zs : List α} (S0 : Stt E own B H) (ha : PE X a (tVar i)) (h : σ[i]? = some (some (.ref q))) (hk : own[k]? = some (q, .lst vs)) (r : Paired (R.r B) vs xs) (he : EvL X E own B H σ e R zs) (hz : xs.length + zs.length ≤ sizeLine)
    (kt : ∀ us B' H', Stt E (own.set k (q, .lst (vs ++ us))) B' H' → Ex B B' → Paired (R.r B') (vs ++ us) (xs ++ zs) → WSs X rest D σ H')
    (t : BmT X a "extend" apos [] e p := by exact ⟨rfl, rfl, rfl, rfl, rfl⟩) (hs : St1 X e := by rfl) (hw : swapsWith (.Call (.Attribute a "extend" apos) [e] [] p) none pos.line X.env = pure false := by rfl) :
    WSs X (.Expr (.Call (.Attribute a "extend" apos) [e] [] p) pos :: rest) D σ H :=
  WSs.cons (ps_expr (pe_bm PySem.F.plainAttrs_list PySem.F.slot_list_extend PySem.F.type_list_extend mt_extend ha (pa1 hs) t.1 t.2.1 t.2.2.1 t.2.2.2.1 t.2.2.2.2) hw) ⟨.ref q, h, .inl ⟨rfl, _, SqL.of (S0.ow _ (getE hk)).2.2⟩, he B H S0 (Ex.refl _) (Ex.refl _) _ fun l us B2 H2 S2 e1 e2 ru => by
    have hq := (S2.ow _ (List.mem_cons_of_mem _ (getE hk))).2.2
    have hl := S2.own1
    refine ⟨q, l, vs, us, rfl, rfl, hq, hl, by rw [plen r, plen ru]; exact hz, ?_⟩
    have hk2 : ((l, HO.lst us) :: own)[k + 1]? = some (q, .lst vs) := hk
    have S3 := (S2.put hk2 (o' := .lst (vs ++ us)) fun ys z => by cases z)
    exact kt us B2 _ S3.drop e1 (pappend (pimp r fun _ _ z => R.mono e1 z) ru)⟩
/-! chains -/
theorem ev_ch {op op' : CmpOp} {r1 r2 : R2} {z1 z2 : Bool} {x : α} {y : β} {u : γ} (h1 : OpR X (compareOp op) r1) (h2 : OpR X (compareOp op') r2) (hm : lastMarks [op, op'] [b, c] = false) (ha : EvB X E own B H σ a R x) (hb : EvB X E own B H σ b S y) (hc : EvB X E own B H σ c T u)
    (k1 : ∀ H1 v w (Q : VK), R.r H1 v x → S.r H1 w y → Q (.bl z1) H1 → r1 v w H1 Q) (k2 : ∀ H1 v w (Q : VK), S.r H1 v y → T.r H1 w u → Q (.bl z2) H1 → r2 v w H1 Q) : EvB X E own B H σ (.Compare a [op, op'] [b, c] pos) rBool (z1 && z2) := fun B1 H1 S1 e1 e2 Q k =>
  WE.of (pe_chain h1 h2 peW peW peW hm) (ha B1 H1 S1 e1 e2 _ fun v B2 H2 S2 e3 e4 r => hb B2 H2 S2 (e1.trans e3) (e2.trans e4) _ fun w B3 H3 S3 e5 e6 s => k1 H3 v w _ (R.mono e6 r) s ⟨z1, rfl, by
    cases z1 with
    | true => exact hc B3 H3 S3 ((e1.trans e3).trans e5) ((e2.trans e4).trans e6) _ fun w2 B4 H4 S4 e7 e8 t => k2 H4 w w2 Q (S.mono e8 s) t (k _ B4 H4 S4 ((e3.trans e5).trans e7) ((e4.trans e6).trans e8) rfl)
    | false => exact k _ B3 H3 S3 (e3.trans e5) (e4.trans e6) rfl⟩)
variable {i0 j0 l0 : Int}
theorem ev_ch_lt_lt (ha : EvB X E own B H σ a rInt i0) (hb : EvB X E own B H σ b rInt j0) (hc : EvB X E own B H σ c rInt l0) (hm : lastMarks [.Lt, .Lt] [b, c] = false := by rfl) : EvB X E own B H σ (.Compare a [.Lt, .Lt] [b, c] pos) rBool (decide (i0 < j0) && decide (j0 < l0)) := ev_ch op_lt op_lt hm ha hb hc (fun _ _ _ _ h1 h2 k => ⟨_, _, h1, h2, k⟩) (fun _ _ _ _ h1 h2 k => ⟨_, _, h1, h2, k⟩)
theorem ev_ch_le_lt (ha : EvB X E own B H σ a rInt i0) (hb : EvB X E own B H σ b rInt j0) (hc : EvB X E own B H σ c rInt l0) (hm : lastMarks [.LtE, .Lt] [b, c] = false := by rfl) : EvB X E own B H σ (.Compare a [.LtE, .Lt] [b, c] pos) rBool (decide (i0 ≤ j0) && decide (j0 < l0)) := ev_ch op_le op_lt hm ha hb hc (fun _ _ _ _ h1 h2 k => ⟨_, _, h1, h2, k⟩) (fun _ _ _ _ h1 h2 k => ⟨_, _, h1, h2, k⟩)
theorem ev_ch_lt_le (ha : EvB X E own B H σ a rInt i0) (hb : EvB X E own B H σ b rInt j0) (hc : EvB X E own B H σ c rInt l0) (hm : lastMarks [.Lt, .LtE] [b, c] = false := by rfl) : EvB X E own B H σ (.Compare a [.Lt, .LtE] [b, c] pos) rBool (decide (i0 < j0) && decide (j0 ≤ l0)) := ev_ch op_lt op_le hm ha hb hc (fun _ _ _ _ h1 h2 k => ⟨_, _, h1, h2, k⟩) (fun _ _ _ _ h1 h2 k => ⟨_, _, h1, h2, k⟩)
theorem ev_ch_le_le (ha : EvB X E own B H σ a rInt i0) (hb : EvB X E own B H σ b rInt j0) (hc : EvB X E own B H σ c rInt l0) (hm : lastMarks [.LtE, .LtE] [b, c] = false := by rfl) : EvB X E own B H σ (.Compare a [.LtE, .LtE] [b, c] pos) rBool (decide (i0 ≤ j0) && decide (j0 ≤ l0)) := ev_ch op_le op_le hm ha hb hc (fun _ _ _ _ h1 h2 k => ⟨_, _, h1, h2, k⟩) (fun _ _ _ _ h1 h2 k => ⟨_, _, h1, h2, k⟩)
theorem et_ch {op op' : CmpOp} {r1 r2 : R2} {z1 z2 : Bool} {x : α} {y : β} {u : γ} (h1 : OpR X (compareOp op) r1) (h2 : OpR X (compareOp op') r2) (hm : lastMarks [op, op'] [b, c] = false) (ha : EvB X E own B H σ a R x) (hb : EvB X E own B H σ b S y) (hc : EvB X E own B H σ c T u)
    (k1 : ∀ H1 v w (Q : VK), R.r H1 v x → S.r H1 w y → Q (.bl z1) H1 → r1 v w H1 Q) (k2 : ∀ H1 v w (Q : VK), S.r H1 v y → T.r H1 w u → Q (.bl z2) H1 → r2 v w H1 Q) : EvT X E own B H σ (.Compare a [op, op'] [b, c] pos) (z1 && z2) := fun B1 H1 S1 e1 e2 Q k =>
  WT.of (pt_chain h1 h2 peW peW peW hm) (ha B1 H1 S1 e1 e2 _ fun v B2 H2 S2 e3 e4 r => hb B2 H2 S2 (e1.trans e3) (e2.trans e4) _ fun w B3 H3 S3 e5 e6 s => k1 H3 v w _ (R.mono e6 r) s ⟨z1, rfl, by
    cases z1 with
    | true => exact hc B3 H3 S3 ((e1.trans e3).trans e5) ((e2.trans e4).trans e6) _ fun w2 B4 H4 S4 e7 e8 t => k2 H4 w w2 _ (S.mono e8 s) t ⟨_, rfl, k B4 H4 S4 ((e3.trans e5).trans e7) ((e4.trans e6).trans e8)⟩
    | false => exact ⟨_, rfl, k B3 H3 S3 (e3.trans e5) (e4.trans e6)⟩⟩)
theorem et_ch_lt_lt (ha : EvB X E own B H σ a rInt i0) (hb : EvB X E own B H σ b rInt j0) (hc : EvB X E own B H σ c rInt l0) (hm : lastMarks [.Lt, .Lt] [b, c] = false := by rfl) : EvT X E own B H σ (.Compare a [.Lt, .Lt] [b, c] pos) (decide (i0 < j0) && decide (j0 < l0)) := et_ch op_lt op_lt hm ha hb hc (fun _ _ _ _ h1 h2 k => ⟨_, _, h1, h2, k⟩) (fun _ _ _ _ h1 h2 k => ⟨_, _, h1, h2, k⟩)
theorem et_ch_lt_le (ha : EvB X E own B H σ a rInt i0) (hb : EvB X E own B H σ b rInt j0) (hc : EvB X E own B H σ c rInt l0) (hm : lastMarks [.Lt, .LtE] [b, c] = false := by rfl) : EvT X E own B H σ (.Compare a [.Lt, .LtE] [b, c] pos) (decide (i0 < j0) && decide (j0 ≤ l0)) := et_ch op_lt op_le hm ha hb hc (fun _ _ _ _ h1 h2 k => ⟨_, _, h1, h2, k⟩) (fun _ _ _ _ h1 h2 k => ⟨_, _, h1, h2, k⟩)
theorem et_ch_le_lt (ha : EvB X E own B H σ a rInt i0) (hb : EvB X E own B H σ b rInt j0) (hc : EvB X E own B H σ c rInt l0) (hm : lastMarks [.LtE, .Lt] [b, c] = false := by rfl) : EvT X E own B H σ (.Compare a [.LtE, .Lt] [b, c] pos) (decide (i0 ≤ j0) && decide (j0 < l0)) := et_ch op_le op_lt hm ha hb hc (fun _ _ _ _ h1 h2 k => ⟨_, _, h1, h2, k⟩) (fun _ _ _ _ h1 h2 k => ⟨_, _, h1, h2, k⟩)
theorem et_ch_le_le (ha : EvB X E own B H σ a rInt i0) (hb : EvB X E own B H σ b rInt j0) (hc : EvB X E own B H σ c rInt l0) (hm : lastMarks [.LtE, .LtE] [b, c] = false := by rfl) : EvT X E own B H σ (.Compare a [.LtE, .LtE] [b, c] pos) (decide (i0 ≤ j0) && decide (j0 ≤ l0)) := et_ch op_le op_le hm ha hb hc (fun _ _ _ _ h1 h2 k => ⟨_, _, h1, h2, k⟩) (fun _ _ _ _ h1 h2 k => ⟨_, _, h1, h2, k⟩)
end
end Sg

namespace Sg
open PySem PySem.Spec PyProof.Rows L2
theorem putF_new {f : Str} {v : V} : ∀ {fs : List (Str × V)}, (fs.map (·.1)).all (fun g => !(g == f)) = true → putF f v fs = fs ++ [(f, v)]
  | [], _ => rfl
  | (g, x) :: r, h => by
    rw [List.map_cons, List.all_cons, Bool.and_eq_true] at h
    have h1 : g ≠ f := by simpa using h.1
    unfold putF
    rw [if_neg h1, putF_new h.2]
    rfl
/-- what __init__ of a table promises -/
def kTab (CT a dx : Addr) : Ent → VK → Tab → Prop := fun E Q t => ∀ d1 d2 d3 d4 B H, Stt E [(a, .ins CT dx (tabF d1 d2 d3 d4))] B H → (rDI rInt).r B d1 t.ranks → (rDI (rTup rInt)).r B d2 t.parts → (rLst rInt).r B d3 t.closed → (rDT rInt).r B d4 t.wholes → Q .non H
def SpInit {δ : Type} (CT : Addr) (args : δ → AR) (f : δ → Res Tab) : Sp := fun vs H Q _ => ∃ B H0 d a dx us, vs = .ref a :: us ∧ H = upd H0 a (.ins CT dx []) ∧ H0 a = none ∧ Sx B H0 ∧ Tx H0 B ∧ (args d).r us B H0 ∧ Fin (kTab CT a dx ⟨B, H0⟩ Q) NoErr (f d)
section
variable {X Xb : Cx} {E : Ent} {own new own' : Own} {B H B' H' : Hp} {σ : L2.St} {α β γ δ τ ρ ρ' : Type} {R : Rel α} {S : Rel β} {T : Rel γ} {U : Rel δ} {e a b c d o it tg : Expr} {x : α} {y : β} {p pos pos' apos : Pos} {i j k k0 : Nat} {z w : Bool} {xs : List α} {ys : List β} {es : List Expr}
variable {n m f : Str} {rest body other : List Stmt} {D : Ends} {P : ρ → Prop} {Er : Err → Prop} {CT : Addr}
/-- self.f = e, the instance one's own -/
theorem s_fset {q dx : Addr} {fs : List (Str × V)} (S0 : Stt E own B H) (hp : PE X o (tVar i)) (h : σ[i]? = some (some (.ref q))) (hk : own[k]? = some (q, .ins CT dx fs)) (cls : Cls X.K CT) (na : NoAttr X.K CT f) (he : EvE X E own B H σ e R x)
    (hl : fs.length < 1000) (hn : (fs.map (·.1)).all (fun g => !(g == f)) = true)
    (kt : ∀ v B' H', Stt E (own.set k (q, .ins CT dx (fs ++ [(f, v)]))) B' H' → Ex B B' → R.r B' v x → WSs X rest D σ H')
    (hs : swapsWith e (some (.Attribute o f pos')) pos.line X.env = pure false := by rfl) : WSs X (.Assign [.Attribute o f pos'] e pos :: rest) D σ H :=
  WSs.cons (ps_fld hp peW hs) (he B H S0 (Ex.refl _) (Ex.refl _) _ fun v B2 H2 S2 e1 e2 r => ⟨.ref q, h, q, CT, dx, fs, rfl, (S2.ow _ (getE hk)).2.2, cls, na, hl, by
    rw [putF_new hn]
    exact kt v B2 _ (S2.put hk fun ys z => by cases z) e1 r⟩)
theorem ee_ofld {q dx : Addr} {fs : List (Str × V)} {u : V} (hp : PE X o (tVar i)) (h : σ[i]? = some (some (.ref q))) (hk : own[k]? = some (q, .ins CT dx fs)) (cls : Cls X.K CT) (na : NoAttr X.K CT f) (hf : fs.lookup f = some u) (r : R.r B u x)
    (hb : attributeBase o f X.env (eval o X.env) = eval o X.env := by rfl) : EvE X E own B H σ (.Attribute o f pos) R x := fun B1 H1 S1 e1 e2 Q qq =>
  WE.of (pe_fld hp hb) ⟨.ref q, h, q, CT, dx, fs, u, rfl, (S1.ow _ (getE hk)).2.2, cls, na, hf, qq u B1 H1 S1 (Ex.refl _) (Ex.refl _) (R.mono e1 r)⟩
/-- Table(..) -/
def MkT (X : Cx) (k : Nat) (n : Str) (CT : Addr) (ps : List Str) (sp : Sp) : Prop := ∃ (f : Addr) (fd : FuncData), Mk X.K CT f ∧ FnOk X.prog X.w X.K X.mg X.base CX0 k f fd ps sp ∧ X.mg n = some (.ref CT) ∧ Binds X.K fd ps []
theorem Blk.mkt {scope : Scope} {ps : List Str} {sp : Sp} (h : Blk X scope Xb) (G : MkT X k n CT ps sp) : MkT Xb k n CT ps sp := by
  obtain ⟨s, H, Cc, cl, fp, rfl⟩ := h
  exact G
theorem ee_make {ps : List Str} {args : δ → AR} {g : δ → Res Tab} {d : δ} {r : Tab} (C : Cok X k0) (G : MkT X k n CT ps (SpInit CT args g)) (hk : k + 1 ≤ k0) (hg : Gl X n) (ha : EvAs X E own B H σ (e :: es) (args d)) (hm : g d = .ok r)
    (hdb : (n == ("__debug__" : Str)) = false := by rfl) (hst : starEach (e :: es) X.env = (false, eval e X.env) :: starEach es X.env := by rfl) (hpl : (backTo pos (starEach es X.env)).any (·.1) = false := by rfl) : EvE X E own B H σ (.Call (.Name n p) (e :: es) [] pos) (rTab CT) r := fun B1 H1 S1 e1 e2 Q kq => by
  obtain ⟨f, fd, M, F, hmg, hb⟩ := G
  refine WE.of (pe_make (dvs := []) (ds := []) M F (C.room.mono hk) hg hmg hb .nil pass0 paW hdb hst hpl) (ha B1 H1 S1 e1 e2 _ fun vs B2 H2 S2 e3 e4 ra => ?_)
  intro x dx hx hdx hne
  rw [List.append_nil]
  have S3 : Stt E own (upd B2 dx (.own x)) (upd H2 dx (.own x)) := S2.lay hdx
  have hx3 : upd H2 dx (.own x) x = none := by rw [upd_ne hne.symm]; exact hx
  refine ⟨upd B2 dx (.own x), upd H2 dx (.own x), d, x, dx, vs, rfl, rfl, hx3, S3.bh, S3.tu, (args d).mono (S2.layB hdx).ex (Sx.new hdx).ex ra, Fin.eq hm fun d1 d2 d3 d4 B4 H4 T h1 h2 h3 h4 => ⟨rfl, ?_⟩⟩
  have S4 := S3.call T
  have nB := (S4.ow _ (List.mem_cons_self ..)).2.1
  have eB := (Sx.new (o := .ins CT dx (tabF d1 d2 d3 d4)) nB).ex
  exact kq (.ref x) _ H4 S4.keep (e3.trans (((S2.layB hdx).ex.trans T.b0.ex).trans eB)) (e4.trans ((Sx.new hdx).ex.trans T.h0.ex)) ⟨x, dx, d1, d2, d3, d4, rfl, upd_same, Rel.mono _ eB h1, Rel.mono _ eB h2, Rel.mono _ eB h3, Rel.mono _ eB h4⟩
end
section
variable {P : Program} {w : World} {K : PySem.W.Frag} {mg : Str → Option Value} {base : Heap}
theorem init_ok {x qual : Str} {st : Stmt} {f : Addr} {fd : FuncData} {N ps : List Str} {k : Nat} {δ : Type} {CT : Addr} {args : δ → AR} {g : δ → Res Tab} (F : Fun K x qual st f fd) (S : FnScope N ps (defScope st)) (hl : ∀ d vs B H, (args d).r vs B H → vs.length + 1 = ps.length)
    (body : ∀ X : Cx, X.prog = P → X.w = w → X.K = K → X.mg = mg → X.base = base → Cok X k → Scp X N (defScope st) → (∀ x, X.fn x = true) → ∀ B H0 a dx us d (Q : VK), H0 a = none → Sx B H0 → Tx H0 B → (args d).r us B H0 → Fin (kTab CT a dx ⟨B, H0⟩ Q) NoErr (g d) →
      WSs X (defBody st) { nx := fun _ H' => Q .non H', rt := Q } (start N (.ref a :: us)) (upd H0 a (.ins CT dx []))) : FnOk P w K mg base CX0 (k + 1) f fd ps (SpInit CT args g) := by
  refine F.ok S (fun vs H Q E h => ?_) (fun cdv A outer s H vs Q E hr h => ?_)
  · obtain ⟨B, H0, d, a, dx, us, rfl, _, _, _, _, h3, _⟩ := h
    exact hl d us B H0 h3
  · obtain ⟨B, H0, d, a, dx, us, rfl, rfl, h0, h1, h2, h3, h4⟩ := h
    exact ⟨_, pssW, body ((cxOf CX0 P w K mg base N qual (defScope st) f cdv A outer s _ E).nox) rfl rfl rfl rfl rfl ⟨rfl, S.nd, hr, PassesOwn.never⟩ ⟨rfl, rfl⟩ (fun _ => rfl) B H0 a dx us d Q h0 h1 h2 h3 h4⟩
end
/-! what is owned, looked at from within a lock -/
section
variable {E : Ent} {own : Own} {B H H' : Hp} {α β γ δ : Type} {R : Rel α} {S : Rel β} {T : Rel γ} {U : Rel δ} {k : Nat}
theorem own_p0 {q : Addr} {vs : List V} {xs : List α} (S0 : Stt E own B H) (hk : own[k]? = some (q, .lst vs)) (r : Paired (R.r B) vs xs) (e : Ex H H') : (rLst R).r H' (.ref q) xs := Rel.mono _ e ⟨q, vs, rfl, Rd.of (S0.ow _ (getE hk)).2.2, pimp r fun _ _ z => R.mono S0.bh.ex z⟩
theorem own_p0I {q : Addr} {ws : List (Key × V)} {xs : List (Int × α)} (S0 : Stt E own B H) (hk : own[k]? = some (q, .dK ws)) (r : pI R B ws xs) (e : Ex H H') : (rDI R).r H' (.ref q) xs := Rel.mono _ e ⟨q, ws, rfl, Rd.of (S0.ow _ (getE hk)).2.2, r.up S0.bh.ex⟩
theorem own_p0S {q : Addr} {ws : List (Key × V)} {xs : List (Str × α)} (S0 : Stt E own B H) (hk : own[k]? = some (q, .dK ws)) (r : pS R B ws xs) (e : Ex H H') : (rDS R).r H' (.ref q) xs := Rel.mono _ e ⟨q, ws, rfl, Rd.of (S0.ow _ (getE hk)).2.2, r.up S0.bh.ex⟩
theorem own_p0T {q : Addr} {ws : List (List Key × V)} {xs : List (List Int × α)} (S0 : Stt E own B H) (hk : own[k]? = some (q, .dT ws)) (r : pT R B ws xs) (e : Ex H H') : (rDT R).r H' (.ref q) xs := Rel.mono _ e ⟨q, ws, rfl, Rd.of (S0.ow _ (getE hk)).2.2, r.up S0.bh.ex⟩
variable {X : Cx} {σ : L2.St} {o : Expr} {pos : Pos} {i : Nat} {v : V}
theorem ek_t41 {x : α × List (Int × β) × γ × δ} {kk} {pp : Pos} (hp : PE X o (tVar i)) (h : σ[i]? = some (some v)) (r : (rT4 R (rDI S) T U).r H v x) : EvK X B H σ (.Subscript o (.Constant (.int 1) kk pp) pos) S x.2.1 := by
  obtain ⟨p, a, b, c, d, h1, h2, h3, h4, h5, h6⟩ := r
  exact ek_at (j := 1) hp h ⟨p, [a, b, c, d], h1, h2, rfl⟩ h4
theorem ek_t42 {x : α × β × List (Int × γ) × δ} {kk} {pp : Pos} (hp : PE X o (tVar i)) (h : σ[i]? = some (some v)) (r : (rT4 R S (rDI T) U).r H v x) : EvK X B H σ (.Subscript o (.Constant (.int 2) kk pp) pos) T x.2.2.1 := by
  obtain ⟨p, a, b, c, d, h1, h2, h3, h4, h5, h6⟩ := r
  exact ek_at (j := 2) hp h ⟨p, [a, b, c, d], h1, h2, rfl⟩ h5
theorem ek_t31 {x : α × List (Int × β) × γ} {kk} {pp : Pos} (hp : PE X o (tVar i)) (h : σ[i]? = some (some v)) (r : (rT3 R (rDI S) T).r H v x) : EvK X B H σ (.Subscript o (.Constant (.int 1) kk pp) pos) S x.2.1 := by
  obtain ⟨p, a, b, c, h1, h2, h3, h4, h5⟩ := r
  exact ek_at (j := 1) hp h ⟨p, [a, b, c], h1, h2, rfl⟩ h4
theorem ek_t32 {x : α × β × List (Int × γ)} {kk} {pp : Pos} (hp : PE X o (tVar i)) (h : σ[i]? = some (some v)) (r : (rT3 R S (rDI T)).r H v x) : EvK X B H σ (.Subscript o (.Constant (.int 2) kk pp) pos) T x.2.2 := by
  obtain ⟨p, a, b, c, h1, h2, h3, h4, h5⟩ := r
  exact ek_at (j := 2) hp h ⟨p, [a, b, c], h1, h2, rfl⟩ h5
end
/-! a name that blocks catch holds a comprehension's list -/
theorem sw_cell {X : Cx} {n : Str} {elt : Expr} {gs : List Comprehension} {sc : Scope} {p1 p2 : Pos} {l : Nat} (h : X.env.scope.names.lookup n = some .cell) : swapsWith (.ListComp elt gs sc p1) (some (.Name n p2)) l X.env = pure false := by
  unfold swapsWith
  have h2 : X.env.kindOf n = some .cell := h
  show pure _ = pure _
  rw [h2]
  have : (some NameKind.cell == some NameKind.local) = false := rfl
  rw [this, Bool.and_false, Bool.false_and, Bool.false_and]
theorem sw_loc {X : Cx} {N : List Str} {sc : Scope} {n : Str} {elt : Expr} {gs : List Comprehension} {sc2 : Scope} {p1 p2 : Pos} {l : Nat} (V : Scp X N sc) (hk : sc.kind = .function) (h : X.env.scope.names.lookup n = some .local) (hl : (p2.line == p1.line) = true := by rfl) (hs : (sc2.names.any fun q => q.1 == n && (q.2 == .local || q.2 == .cell)) = false := by rfl) : swapsWith (.ListComp elt gs sc2 p1) (some (.Name n p2)) l X.env = pure true := by
  unfold swapsWith
  have h2 : X.env.kindOf n = some .local := h
  have h3 : X.env.blockKind = .function := by
    unfold Env.blockKind
    rw [V.sc, hk]
    rfl
  show pure _ = pure _
  have h4 : (some NameKind.local == some NameKind.local) = true := rfl
  have h5 : (ScopeKind.function == ScopeKind.function) = true := rfl
  have h6 : (Expr.ListComp elt gs sc2 p1).pos.line = p1.line := rfl
  have h7 : (sc2.names.any fun (n_1, k) => n_1 == n && (k == NameKind.local || k == NameKind.cell)) = false := hs
  rw [h2, h3, h4, h5, h6, hl, h7]
  rfl
/-! dicts made -/
section
variable {X Xb : Cx} {E : Ent} {own new own' : Own} {B H B' H' : Hp} {σ : L2.St} {α β γ δ : Type} {R : Rel α} {e : Expr} {p pos pos' : Pos} {i j k k0 : Nat} {n : Str} {rest : List Stmt} {D : Ends}
def EvDT {α : Type} (X : Cx) (E : Ent) (own : Own) (B H : Hp) (σ : L2.St) (e : Expr) (R : Rel α) (kvs : List (List Int × α)) : Prop := ∀ B1 H1, Stt E own B1 H1 → Ex B B1 → Ex H H1 → ∀ Q : VK,
  (∀ p ws B2 H2, Stt E ((p, .dT ws) :: own) B2 H2 → Ex B1 B2 → Ex H1 H2 → pT R B2 ws kvs → Q (.ref p) H2) → WE X e σ H1 Q
def EvDS {α : Type} (X : Cx) (E : Ent) (own : Own) (B H : Hp) (σ : L2.St) (e : Expr) (R : Rel α) (kvs : List (Str × α)) : Prop := ∀ B1 H1, Stt E own B1 H1 → Ex B B1 → Ex H H1 → ∀ Q : VK,
  (∀ p ws B2 H2, Stt E ((p, .dK ws) :: own) B2 H2 → Ex B1 B2 → Ex H1 H2 → pS R B2 ws kvs → Q (.ref p) H2) → WE X e σ H1 Q
theorem EvDT.toE {kvs : List (List Int × α)} (h : EvDT X E own B H σ e R kvs) : EvE X E own B H σ e (rDT R) kvs := fun B1 H1 S e1 e2 Q k => h B1 H1 S e1 e2 Q fun p ws B2 H2 S2 e3 e4 r => by
  have n := (S2.ow _ (List.mem_cons_self ..)).2.1
  exact k (.ref p) _ H2 S2.keep (e3.trans (Sx.new n).ex) e4 ⟨p, ws, rfl, Rd.of upd_same, r.up (Sx.new n).ex⟩
theorem EvDS.toE {kvs : List (Str × α)} (h : EvDS X E own B H σ e R kvs) : EvE X E own B H σ e (rDS R) kvs := fun B1 H1 S e1 e2 Q k => h B1 H1 S e1 e2 Q fun p ws B2 H2 S2 e3 e4 r => by
  have n := (S2.ow _ (List.mem_cons_self ..)).2.1
  exact k (.ref p) _ H2 S2.keep (e3.trans (Sx.new n).ex) e4 ⟨p, ws, rfl, Rd.of upd_same, r.up (Sx.new n).ex⟩
theorem ed_nI : EvDI X E own B H σ (.Dict [] [] pos) R [] := fun B1 H1 S1 e1 e2 Q k => WE.of pe_dnewK fun p hp => k p [] B1 _ (S1.alloc hp fun ys z => by cases z) (Ex.refl _) (Sx.new hp).ex .nil
theorem ed_nS : EvDS X E own B H σ (.Dict [] [] pos) R [] := fun B1 H1 S1 e1 e2 Q k => WE.of pe_dnewK fun p hp => k p [] B1 _ (S1.alloc hp fun ys z => by cases z) (Ex.refl _) (Sx.new hp).ex .nil
theorem ed_nT : EvDT X E own B H σ (.Dict [] [] pos) R [] := fun B1 H1 S1 e1 e2 Q k => WE.of pe_dnewT fun p hp => k p [] B1 _ (S1.alloc hp fun ys z => by cases z) (Ex.refl _) (Sx.new hp).ex .nil
theorem s_asgDI {kvs : List (Int × α)} (C : Cok X k) (L : Slot X i n) (S0 : Stt E own B H) (he : EvDI X E own B H σ e R kvs)
    (q : ∀ p ws B' H', Stt E ((p, .dK ws) :: own) B' H' → Ex B B' → pI R B' ws kvs → WSs X rest D (σ.set i (some (.ref p))) H') (hs : swapsWith e (some (.Name n pos')) pos.line X.env = pure false := by rfl) :
    WSs X (.Assign [.Name n pos'] e pos :: rest) D σ H :=
  WSs.cons (ps_set C.nd L.ix L.loc peW hs L.hf) (he B H S0 (Ex.refl _) (Ex.refl _) _ fun p ws B2 H2 S2 e1 _ r => q p ws B2 H2 S2 e1 r)
theorem s_asgDS {kvs : List (Str × α)} (C : Cok X k) (L : Slot X i n) (S0 : Stt E own B H) (he : EvDS X E own B H σ e R kvs)
    (q : ∀ p ws B' H', Stt E ((p, .dK ws) :: own) B' H' → Ex B B' → pS R B' ws kvs → WSs X rest D (σ.set i (some (.ref p))) H') (hs : swapsWith e (some (.Name n pos')) pos.line X.env = pure false := by rfl) :
    WSs X (.Assign [.Name n pos'] e pos :: rest) D σ H :=
  WSs.cons (ps_set C.nd L.ix L.loc peW hs L.hf) (he B H S0 (Ex.refl _) (Ex.refl _) _ fun p ws B2 H2 S2 e1 _ r => q p ws B2 H2 S2 e1 r)
theorem s_asgDT' {kvs : List (List Int × α)} (C : Cok X k) (L : Slot X i n) (S0 : Stt E own B H) (he : EvDT X E own B H σ e R kvs)
    (q : ∀ p ws B' H', Stt E ((p, .dT ws) :: own) B' H' → Ex B B' → pT R B' ws kvs → WSs X rest D (σ.set i (some (.ref p))) H') (hs : swapsWith e (some (.Name n pos')) pos.line X.env = pure false := by rfl) :
    WSs X (.Assign [.Name n pos'] e pos :: rest) D σ H :=
  WSs.cons (ps_set C.nd L.ix L.loc peW hs L.hf) (he B H S0 (Ex.refl _) (Ex.refl _) _ fun p ws B2 H2 S2 e1 _ r => q p ws B2 H2 S2 e1 r)
end
/-! constants of the module -/
section
variable {X Xb : Cx} {E : Ent} {own : Own} {B H : Hp} {σ : L2.St} {n : Str} {pos : Pos} {scope : Scope}
theorem ev_globI {z : Int} (V : ∃ t, X.mg n = some (.int z t)) (hg : Gl X n) (hd : (n == ("__debug__" : Str)) = false := by rfl) : EvB X E own B H σ (.Name n pos) rInt z := by
  obtain ⟨t, h⟩ := V
  exact ev_c (v := .int z) (pe_glob hg h ⟨_, rfl⟩ hd) fun _ => rfl
theorem ev_globS {z : Str} (V : ∃ t, X.mg n = some (.str z t)) (hg : Gl X n) (hd : (n == ("__debug__" : Str)) = false := by rfl) : EvB X E own B H σ (.Name n pos) rStr z := by
  obtain ⟨t, h⟩ := V
  exact ev_c (v := .str z) (pe_glob hg h ⟨_, rfl⟩ hd) fun _ => rfl
theorem Blk.gvI {z : Int} (h : Blk X scope Xb) (V : ∃ t, X.mg n = some (.int z t)) : ∃ t, Xb.mg n = some (.int z t) := by
  rw [h.mg]
  exact V
theorem Blk.gvS {z : Str} (h : Blk X scope Xb) (V : ∃ t, X.mg n = some (.str z t)) : ∃ t, Xb.mg n = some (.str z t) := by
  rw [h.mg]
  exact V
end
end Sg

namespace Sg
open PySem PySem.Spec PyProof.Rows L2
/-! ### the law as a whole -/
/-- no list stands in the written part -/
def noLst (K : PySem.W.Frag) : Bool := K.all fun p => match p.2.cls with
  | .type n => !(n == "list")
  | _ => true
theorem lookup_mem {β : Type} {a : Addr} {b : β} : ∀ {l : List (Addr × β)}, l.lookup a = some b → (a, b) ∈ l
  | [], h => nomatch h
  | (x, y) :: r, h => by
    rw [List.lookup_cons] at h
    cases hx : a == x with
    | true =>
      rw [hx] at h
      have e1 : a = x := by simpa using hx
      have e2 : y = b := Option.some.inj h
      rw [e1, e2]
      exact List.mem_cons_self ..
    | false =>
      rw [hx] at h
      exact List.mem_cons_of_mem _ (lookup_mem h)
theorem noLst.out {K : PySem.W.Frag} (h : noLst K = true) {a : Addr} {o : Obj} (hl : K.lookup a = some o) (hc : o.cls = .type "list") : False := by
  have q := List.all_eq_true.mp h _ (lookup_mem hl)
  simp only [hc] at q
  exact absurd q (by decide)
def spLaw : Sp := fun vs H Q _ => ∃ (a : Addr) (ns : List Int), vs = [.ref a] ∧ Rd H a (.lst (ns.map V.int)) ∧ ns.length ≤ 63 ∧ ∀ H', Q (.bl true) H'
def CalM (P : Program) (w : World) (K : PySem.W.Frag) (mg : Str → Option Value) (base : Heap) (k : Nat) (n : Str) (ps : List Str) (sp : Sp) : Prop := ∃ (f : Addr) (fd : FuncData), FnOk P w K mg base CX0 k f fd ps sp ∧ mg n = some (.ref f) ∧ PySem.W.keepIn K (.ref f) = true ∧ Binds K fd ps []
def MCalM (P : Program) (w : World) (K : PySem.W.Frag) (mg : Str → Option Value) (base : Heap) (k : Nat) (C : Addr) (n : Str) (ps : List Str) (sp : Sp) : Prop := ∃ (f : Addr) (fd : FuncData), FnOk P w K mg base CX0 k f fd ps sp ∧ Meth K C n f ∧ Binds K fd ps []
def MkTM (P : Program) (w : World) (K : PySem.W.Frag) (mg : Str → Option Value) (base : Heap) (k : Nat) (n : Str) (CT : Addr) (ps : List Str) (sp : Sp) : Prop := ∃ (f : Addr) (fd : FuncData), Mk K CT f ∧ FnOk P w K mg base CX0 k f fd ps sp ∧ mg n = some (.ref CT) ∧ Binds K fd ps []
theorem fn_law {P : Program} {w : World} {K : PySem.W.Frag} {mg : Str → Option Value} {base : Heap} {k : Nat} {f : Addr} {fd : FuncData} {p : Str} {m : List Int → Res Bool}
    {args : List Int → AR} (F : FnOk P w K mg base CX0 k f fd [p] (SpA args (kE rBool) m)) (h : ∀ ns : List Int, ns.length ≤ 63 → m ns = .ok true) (ha : ∀ (H : Hp) (v : V) (ns : List Int), (rLst rInt).r H v ns → (args ns).r [v] H H := by exact fun H v ns h => ⟨_, _, rfl, h, rfl⟩) : FnOk P w K mg base CX0 k f fd [p] spLaw := by
  refine F.imp fun vs H Q E hs => ?_
  obtain ⟨a, ns, rfl, hr, hl, hq⟩ := hs
  refine ⟨H, ns, Sx.refl _, fun _ _ e => e, ha _ _ _ ⟨a, _, rfl, hr, ints_rel' ns⟩, ?_⟩
  rw [h ns hl]
  intro v B2 H2 _ r
  rw [show v = .bl true from r]
  exact hq H2
theorem walk_law {l : PySem.W.OpenLaw} {q : Program} {loose : List Str} {XP : (Str → Option Value) → Heap → Prop} {YP : World → Heap → Prop} {d : DefRec} {K : Params → PySem.W.Frag} {k : Nat} {p : Str} (hn : l.most = some 63) (hdf : d.params.defaults = []) (hr : Room k callerA)
    (hY : ∀ (w : World) (h : Heap), YP w h → (K w.params).In h) (hN : ∀ w : World, noLst (K w.params) = true)
    (F : ∀ (w : World) (mg : Str → Option Value) (fa : Addr) (h : Heap), (K w.params).In h → h.Ns mainGlobals mg → mg d.name = some (.ref fa) →
      ∃ fd : FuncData, (∀ (s : Shared) (u : Value), BindsTo s fd ⟨[u], []⟩ [(p, u)]) ∧ ∀ base : Heap, (K w.params).In base → base.Ns mainGlobals mg → FnOk l.prog w (K w.params) mg base CX0 k fa fd [p] spLaw) :
    PySem.W.WalkO q loose XP YP l.row.toRowW d [] (fun f vs => PySem.call f vs) :=
  L2.walk_of (n := 63) (k := k) (x := p) (CX := fun _ => CX0) (sp := fun _ => spLaw) hn (by decide) hdf hr hY F (fun w _ a ns hl _ hS => ⟨a, ns, rfl, by
    rcases hS with h | ⟨o, its, n, h1, h2, _⟩
    · exact h
    · exact (noLst.out (hN w) h1 h2).elim, hl, fun _ => rfl⟩) fun _ _ _ _ _ z => z
end Sg

namespace Sg
open PySem PySem.Spec PyProof.Rows L2
theorem ltSl {n : Nat} (h : n < 1000) : n < sizeLine := by rw [sizeLine_eq]; omega
/-! a list of one's own lists -/
abbrev refs (qs : List (Addr × List V)) : List V := qs.map fun q => V.ref q.1
abbrev lsts (qs : List (Addr × List V)) : Own := qs.map fun q => (q.1, HO.lst q.2)
def rAny : Rel Unit := ⟨fun _ _ _ => True, fun _ h => h⟩
theorem pAny {H : Hp} : ∀ vs : List V, Paired (rAny.r H) vs (vs.map fun _ => ())
  | [] => .nil
  | v :: r => .cons trivial (pAny r)
section
variable {X Xb : Cx} {E : Ent} {own new own' : Own} {B H B' H' : Hp} {σ : L2.St} {α β γ δ τ ρ ρ' : Type} {R : Rel α} {S : Rel β} {T : Rel γ} {U : Rel δ} {e a b c d o it tg : Expr} {x : α} {y : β} {p pos pos' apos : Pos} {i j k k0 : Nat} {z w : Bool} {xs : List α} {ys : List β} {es : List Expr}
variable {n m f : Str} {rest body other : List Stmt} {D : Ends} {P : ρ → Prop} {Er : Err → Prop}
/-- x = [a, b], new lists both -/
theorem s_asgOL2 (C : Cok X k) (L : Slot X i n) (S0 : Stt E own B H) (ha : EvL X E own B H σ a R xs) (hb : ∀ own' B' H', Stt E own' B' H' → Ex B B' → Ex H H' → EvL X E own' B' H' σ b S ys)
    (q : ∀ p q0 q1 us vs B' H', Stt E ((p, .lst [.ref q0, .ref q1]) :: (q0, .lst us) :: (q1, .lst vs) :: own) B' H' → Ex B B' → Paired (R.r B') us xs → Paired (S.r B') vs ys → WSs X rest D (σ.set i (some (.ref p))) H')
    (hst : starEach (a :: [b]) X.env = (false, eval a X.env) :: starEach [b] X.env := by rfl) (hst2 : St1 X b := by rfl)
    (hs : swapsWith (.List [a, b] pos') (some (.Name n p)) pos.line X.env = pure false := by rfl) : WSs X (.Assign [.Name n p] (.List [a, b] pos') pos :: rest) D σ H :=
  WSs.cons (ps_set C.nd L.ix L.loc (pe_lst (pa_cons peW (pa1 hst2) hst)) hs L.hf) (ha B H S0 (Ex.refl _) (Ex.refl _) _ fun q0 us B2 H2 S2 e1 e2 r1 => hb _ B2 H2 S2 e1 e2 B2 H2 S2 (Ex.refl _) (Ex.refl _) _ fun q1 vs B3 H3 S3 e3 e4 r2 =>
    ⟨by show 2 ≤ sizeLine; decide, fun pp hp => q pp q0 q1 us vs B3 _ ((S3.swap.alloc hp fun ys z => by cases z)) (e1.trans e3) (pimp r1 fun _ _ z => R.mono e3 z) r2⟩)
/-- xs.append(a new list) -/
theorem s_appendO {apos : Pos} {q : Addr} {vs : List V} (S0 : Stt E own B H) (ha : PE X a (tVar i)) (h : σ[i]? = some (some (.ref q))) (hk : own[k]? = some (q, .lst vs)) (he : EvL X E own B H σ e R xs) (hz : vs.length < sizeLine)
    (kt : ∀ q2 us B' H', Stt E ((q2, .lst us) :: own.set k (q, .lst (vs ++ [.ref q2]))) B' H' → Ex B B' → Paired (R.r B') us xs → WSs X rest D σ H')
    (t : BmT X a "append" apos [] e p := by exact ⟨rfl, rfl, rfl, rfl, rfl⟩) (hs : St1 X e := by rfl) (hw : swapsWith (.Call (.Attribute a "append" apos) [e] [] p) none pos.line X.env = pure false := by rfl) :
    WSs X (.Expr (.Call (.Attribute a "append" apos) [e] [] p) pos :: rest) D σ H :=
  WSs.cons (ps_expr (pe_append ha t hs) hw) ⟨.ref q, h, .inl ⟨rfl, _, SqL.of (S0.ow _ (getE hk)).2.2⟩, he B H S0 (Ex.refl _) (Ex.refl _) _ fun q2 us B2 H2 S2 e1 e2 ru => by
    have hq := (S2.ow _ (List.mem_cons_of_mem _ (getE hk))).2.2
    refine ⟨q, vs, .ref q2, rfl, rfl, hq, hz, ?_⟩
    have hk2 : ((q2, HO.lst us) :: own)[k + 1]? = some (q, .lst vs) := hk
    have S3 := S2.put (o' := HO.lst (vs ++ [V.ref q2])) hk2 (fun ys z => by cases z)
    exact kt q2 us B2 _ S3 e1 ru⟩
/-- xs[j] of such a list -/
theorem ev_ixO {q qj : Addr} {vs us : List V} {jj : Int} {kk} {pp : Pos} (hp : PE X o (tVar i)) (h : σ[i]? = some (some (.ref q))) (hk : (q, HO.lst vs) ∈ own) (hv : atI vs jj = some (.ref qj)) (hj : (qj, HO.lst us) ∈ own) (r : Paired (R.r B) us xs) : EvB X E own B H σ (.Subscript o (.Constant (.int jj) kk pp) pos) (rLst R) xs := fun B1 H1 S1 e1 e2 Q kq =>
  WE.of (pe_ix ix_list hp pe_int (fun _ _ => rfl)) ⟨.ref q, h, q, vs, jj, .ref qj, rfl, rfl, SqL.of (S1.ow _ hk).2.2, hv, kq _ B1 H1 S1 (Ex.refl _) (Ex.refl _) ⟨qj, us, rfl, Rd.of (S1.ow _ hj).2.2, pimp r fun _ _ z => R.mono (e1.trans S1.bh.ex) z⟩⟩
/-- for x in xs: x.f() -/
theorem s_forOL {g : List V → List V} {tn : Str} {tp : Pos} {q : Addr} {qs : List (Addr × List V)} {own0 : Own} (C : Cok X k) (L : Slot X j tn) (S0 : Stt E ((q, .lst (refs qs)) :: (lsts qs ++ own0)) B H) (hp : PE X it (tVar i)) (h : σ[i]? = some (some (.ref q))) (hj : j < σ.length)
    (hb : ∀ own' B' H' σ' k' qk vk (D' : Ends), Stt E own' B' H' → σ'[j]? = some (some (.ref qk)) → own'[k']? = some (qk, .lst vk) → (∀ H2, Stt E (own'.set k' (qk, .lst (g vk))) B' H2 → D'.nx σ' H2) → WSs X body D' σ' H')
    (hq : qs ≠ []) (kt : ∀ v H', Stt E ((q, .lst (refs qs)) :: (lsts (qs.map fun u => (u.1, g u.2)) ++ own0)) B H' → WSs X rest D (σ.set j v) H')
    (hf : ∀ x, foldedSetIterable it X.env x = pure x := by intro _; rfl) : WSs X (.For (.Name tn tp) it body [] pos :: rest) D σ H := by
  refine WSs.cons (ps_for C.own C.calm (pi_list (tl := WE X it) peW) (pg_name (i := j) C.nd L.ix L.loc L.hf) pssW hf) (WE.of hp ⟨_, h, q, rfl, ⟨refs qs, SqL.of (S0.ow _ (List.mem_cons_self ..)).2.2⟩, ?_⟩)
  refine ⟨fun i' mm σ' H' => mm = qs.length - i' ∧ i' ≤ qs.length ∧ (∃ v, σ' = (if i' = 0 then σ else σ.set j v)) ∧ Stt E ((q, .lst (refs qs)) :: (lsts ((qs.take i').map fun u => (u.1, g u.2)) ++ (lsts (qs.drop i') ++ own0))) B H', ⟨qs.length, rfl, Nat.zero_le _, ⟨none, by rw [if_pos rfl]⟩, by simpa using S0⟩, ?_⟩
  rintro i' mm σ' H' ⟨rfl, hi, ⟨v0, rfl⟩, S'⟩
  have hl := (S'.ow _ (List.mem_cons_self ..)).2.2
  have len : (refs qs).length = qs.length := List.length_map _
  by_cases hlt : i' < qs.length
  · refine .inr ⟨⟨refs qs, (refs qs)[i']'(by rw [len]; exact hlt), SqL.of hl, List.getElem?_eq_getElem _⟩, fun σ2 H2 => (∃ v, σ2 = σ.set j v) ∧ Stt E ((q, .lst (refs qs)) :: (lsts ((qs.take (i' + 1)).map fun u => (u.1, g u.2)) ++ (lsts (qs.drop (i' + 1)) ++ own0))) B H2, fun σ2 H2 ⟨⟨v1, q1⟩, q2⟩ => ⟨qs.length - (i' + 1), by omega, rfl, hlt, ⟨v1, by rw [if_neg (Nat.succ_ne_zero _)]; exact q1⟩, q2⟩, fun v H'' hy => ?_⟩
    obtain ⟨e1, hv⟩ := hy
    subst e1
    have hv1 := hv _ (SqL.of hl)
    rw [List.getElem?_map, List.getElem?_eq_getElem hlt] at hv1
    have hv2 : v = .ref (qs[i']).1 := (Option.some.inj hv1).symm
    subst hv2
    have hset : (if i' = 0 then σ else σ.set j v0).set j (some (V.ref (qs[i']).1)) = σ.set j (some (.ref (qs[i']).1)) := by
      by_cases h0 : i' = 0
      · rw [if_pos h0]
      · rw [if_neg h0, List.set_set]
    show WSs X body _ ((if i' = 0 then σ else σ.set j v0).set j (some (V.ref (qs[i']).1))) H''
    rw [hset]
    have hd : lsts (qs.drop i') = ((qs[i']).1, HO.lst (qs[i']).2) :: lsts (qs.drop (i' + 1)) := by
      rw [List.drop_eq_getElem_cons hlt]
      rfl
    have ht : lsts ((qs.take (i' + 1)).map fun u => (u.1, g u.2)) = lsts ((qs.take i').map fun u => (u.1, g u.2)) ++ [((qs[i']).1, HO.lst (g (qs[i']).2))] := by
      rw [List.take_succ_eq_append_getElem hlt, List.map_append]
      exact List.map_append
    rw [hd] at S'
    rw [ht]
    generalize lsts ((qs.take i').map fun u => (u.1, g u.2)) = A at S' ⊢
    refine hb _ B H'' _ (A.length + 1) (qs[i']).1 (qs[i']).2 _ S' (List.getElem?_set_self hj) (by simp) fun H2 S2 => ⟨⟨_, rfl⟩, ?_⟩
    have e2 : ((q, HO.lst (refs qs)) :: (A ++ (((qs[i']).1, HO.lst (qs[i']).2) :: lsts (qs.drop (i' + 1)) ++ own0))).set (A.length + 1) ((qs[i']).1, .lst (g (qs[i']).2)) = ((q, .lst (refs qs)) :: (A ++ [((qs[i']).1, HO.lst (g (qs[i']).2))] ++ (lsts (qs.drop (i' + 1)) ++ own0))) := by
      simp
    rw [← e2]
    exact S2
  · have e : i' = qs.length := by omega
    subst e
    refine .inl ⟨⟨refs qs, SqL.of hl, Nat.le_of_eq len⟩, ?_⟩
    rw [List.take_length, List.drop_length] at S'
    have := kt v0 H' S'
    rw [if_neg (by intro z; exact hq (List.eq_nil_of_length_eq_zero z))]
    exact this
/-! x in a list of data -/
theorem Cok.hu65 (C : Cok X k) : X.A.units + 65 < cLine := by
  have := C.room.un
  omega
theorem any_in [F : DatK X.K R] (x : α) (xs : List α) [dd : Decidable (x ∈ xs)] : ((xs.map F.d).any fun z => PyData.eqv z (F.d x)) = decide (x ∈ xs) := by
  rw [List.any_map, Bool.eq_iff_iff, List.any_eq_true, decide_eq_true_iff]
  constructor
  · rintro ⟨z, hz, e⟩
    rw [← (F.eq z x).mp e]
    exact hz
  · intro h
    exact ⟨x, h, (F.eq x x).mpr rfl⟩
theorem ev_inD [F : DatK X.K R] [dd : Decidable (x ∈ xs)] (hu : X.A.units + 65 < cLine) (ha : EvB X E own B H σ a R x) (ho : EvB X E own B H σ o (rLst R) xs) (hn : F.n + 1 ≤ 64 := by exact Nat.le_of_ble_eq_true rfl) (hm : behindInMarks .In o = false := by rfl) : EvB X E own B H σ (.Compare a [.In] [o] pos) rBool (decide (x ∈ xs)) :=
  ev_cmp (op_inD hu) ha ho hm fun H1 v w Q h1 h2 k => ⟨F.d x, xs.map F.d, F.rd h1, DatK.rd (R := rLst R) h2, dat_sh (by omega) x, dat_sh (X := X) (R := rLst R) hn xs, by rw [any_in]; exact k⟩
theorem et_inD [F : DatK X.K R] [dd : Decidable (x ∈ xs)] (hu : X.A.units + 65 < cLine) (ha : EvB X E own B H σ a R x) (ho : EvB X E own B H σ o (rLst R) xs) (hn : F.n + 1 ≤ 64 := by exact Nat.le_of_ble_eq_true rfl) (hm : behindInMarks .In o = false := by rfl) : EvT X E own B H σ (.Compare a [.In] [o] pos) (decide (x ∈ xs)) :=
  et_cmp (op_inD hu) ha ho hm fun H1 v w Q h1 h2 k => ⟨F.d x, xs.map F.d, F.rd h1, DatK.rd (R := rLst R) h2, dat_sh (by omega) x, dat_sh (X := X) (R := rLst R) hn xs, by rw [any_in]; exact k⟩
theorem ev_ninD [F : DatK X.K R] [dd : Decidable (x ∈ xs)] (hu : X.A.units + 65 < cLine) (ha : EvB X E own B H σ a R x) (ho : EvB X E own B H σ o (rLst R) xs) (hn : F.n + 1 ≤ 64 := by exact Nat.le_of_ble_eq_true rfl) (hm : behindInMarks .NotIn o = false := by rfl) : EvB X E own B H σ (.Compare a [.NotIn] [o] pos) rBool (!decide (x ∈ xs)) :=
  ev_cmp (op_notInD hu) ha ho hm fun H1 v w Q h1 h2 k => ⟨F.d x, xs.map F.d, F.rd h1, DatK.rd (R := rLst R) h2, dat_sh (by omega) x, dat_sh (X := X) (R := rLst R) hn xs, by rw [any_in]; exact k⟩
theorem et_ninD [F : DatK X.K R] [dd : Decidable (x ∈ xs)] (hu : X.A.units + 65 < cLine) (ha : EvB X E own B H σ a R x) (ho : EvB X E own B H σ o (rLst R) xs) (hn : F.n + 1 ≤ 64 := by exact Nat.le_of_ble_eq_true rfl) (hm : behindInMarks .NotIn o = false := by rfl) : EvT X E own B H σ (.Compare a [.NotIn] [o] pos) (!decide (x ∈ xs)) :=
  et_cmp (op_notInD hu) ha ho hm fun H1 v w Q h1 h2 k => ⟨F.d x, xs.map F.d, F.rd h1, DatK.rd (R := rLst R) h2, dat_sh (by omega) x, dat_sh (X := X) (R := rLst R) hn xs, by rw [any_in]; exact k⟩
end
end Sg

namespace Sg
open PySem PySem.Spec PyProof.Rows L2
/-! xs.extend(a tuple) -/
theorem ext_tup (l : Addr) (items : Array Value) (n : Nat) (b : Addr) (items2 : Array Value) (n2 : Nat) (od : Option Addr) (sl : Array (Option Value)) (hs0 : ¬(!items.isEmpty && Builtin.List.listTooLong (items.size + items2.size)) = true) (hs1 : items.size ≤ sizeLine) (hs2 : items.size + items2.size ≤ sizeLine + 1 := by seq_fits) :
    Meets (Builtin.«list.extend» ⟨[.ref l, .ref b], []⟩) (fun _ R s => s.heap.get? l = some { cls := .type "list", dict := none, data := .seq items n, slots := #[] } ∧ s.heap.get? b = some { cls := .type "tuple", dict := od, data := .seq items2 n2, slots := sl } ∧ R (.ok (.ret Value.none)) { s with heap := s.heap.update l (Obj.mapSeq fun x => x ++ items2), toks := s.toks }) :=
  .of_wp fun prog w A R s h => by
    obtain ⟨hp, g, d, tk, os⟩ := s
    obtain ⟨hl, hb, h⟩ := h
    have f1 := AutoSeq1.idx_int
    have f2 := AutoSeq1.sub_tuple_tuple
    have f3 := AutoSeq1.sub_list_list
    have f4 := AutoSeq1.sub_tuple_list
    have f5 := AutoSeq1.sub_list_tuple
    have fits : (items ++ items2).size ≤ sizeLine + 1 := by
      rw [Array.size_append]
      exact hs2
    wp_walk using (wpAny_updateSeq hl rfl (hz := hs1) (_hz' := fits)), AutoSeq1.wpAny_loadPart' hl, AutoSeq1.wpAny_loadPart' hb
    exact ⟨_, rfl, h⟩
def rExtendT (K : PySem.W.Frag) : V → List V → Hp → VK → Prop := fun x vs H Q => ∃ l b xs zs, x = .ref l ∧ vs = [.ref b] ∧ H l = some (.lst xs) ∧ SqT K H b zs ∧ xs.length + zs.length ≤ sizeLine ∧ Q .non (upd H l (.lst (xs ++ zs)))
theorem notLong' {xs : Array Value} {n : Nat} (h : n ≤ sizeLine) : Builtin.List.listTooLong n = false := by
  unfold Builtin.List.listTooLong
  exact decide_eq_false (by omega)
theorem mt_extendT {X : Cx} : MtM X "list.extend" (rExtendT X.K) := by
  intro pins s σ H x vs v us Q I rx rv h
  obtain ⟨l, b, xs, zs, rfl, rfl, hH, hB, hz, q⟩ := h
  cases rx
  obtain ⟨u, rfl, ru⟩ := rv.one
  cases ru
  obtain ⟨z, its, n, r, hl, e⟩ := I.lstM hH
  obtain ⟨its2, r2, ⟨⟨oc, od, dt, sl⟩, e2, hc, n2, hd⟩, hz2⟩ := I.tuple hB
  simp only at hc hd
  subst hc hd
  have hl2 := r2.length
  have hsz : its.toArray.size + its2.toArray.size ≤ sizeLine := by rw [List.size_toArray, List.size_toArray]; omega
  have hlong : ¬ (!its.toArray.isEmpty && Builtin.List.listTooLong (its.toArray.size + its2.toArray.size)) = true := by
    rw [notLong' (xs := its.toArray) hsz, Bool.and_false]
    exact Bool.false_ne_true
  refine call_meets PySem.F.slot_list_extend ⟨_, e, rfl⟩ PySem.F.entry_list_extend (PySem.F.args_list_extend_2 _ _)
    (ext_tup l its.toArray n b its2.toArray n2 od sl hlong (by rw [List.size_toArray]; omega) (by omega)) ⟨e, e2, ?_⟩
  refine ⟨.non, _, I.lset (its' := its ++ its2) hH e (by simp) (r.append r2) ?_, rfl, q⟩
  rw [List.length_append]
  omega
section
variable {X Xb : Cx} {E : Ent} {own new own' : Own} {B H B' H' : Hp} {σ : L2.St} {α β γ δ τ ρ ρ' : Type} {R : Rel α} {S : Rel β} {T : Rel γ} {U : Rel δ} {e a b c d o it tg : Expr} {x : α} {y : β} {p pos pos' apos : Pos} {i j k k0 : Nat} {z w : Bool} {xs : List α} {ys : List β} {es : List Expr}
variable {n m f : Str} {rest body other : List Stmt} {D : Ends} {P : ρ → Prop} {Er : Err → Prop}
theorem s_extendT {apos : Pos} {q : Addr} {vs : List V} {xs zs : List α} (S0 : Stt E own B H) (ha : PE X a (tVar i)) (h : σ[i]? = some (some (.ref q))) (hk : own[k]? = some (q, .lst vs)) (r : Paired (R.r B) vs xs) (he : EvE X E own B H σ e (rTup R) zs) (hz : xs.length + zs.length ≤ sizeLine)
    (kt : ∀ us B' H', Stt E (own.set k (q, .lst (vs ++ us))) B' H' → Ex B B' → Paired (R.r B') (vs ++ us) (xs ++ zs) → WSs X rest D σ H')
    (t : BmT X a "extend" apos [] e p := by exact ⟨rfl, rfl, rfl, rfl, rfl⟩) (hs : St1 X e := by rfl) (hw : swapsWith (.Call (.Attribute a "extend" apos) [e] [] p) none pos.line X.env = pure false := by rfl) :
    WSs X (.Expr (.Call (.Attribute a "extend" apos) [e] [] p) pos :: rest) D σ H :=
  WSs.cons (ps_expr (pe_bm PySem.F.plainAttrs_list PySem.F.slot_list_extend PySem.F.type_list_extend mt_extendT ha (pa1 hs) t.1 t.2.1 t.2.2.1 t.2.2.2.1 t.2.2.2.2) hw) ⟨.ref q, h, .inl ⟨rfl, _, SqL.of (S0.ow _ (getE hk)).2.2⟩, he B H S0 (Ex.refl _) (Ex.refl _) _ fun v B2 H2 S2 e1 e2 ru => by
    obtain ⟨l, us, rfl, hl, hp⟩ := ru
    have hq := (S2.ow _ (getE hk)).2.2
    refine ⟨q, l, vs, us, rfl, rfl, hq, SqT.of (S2.bh _ _ hl), by rw [plen r, plen hp]; exact hz, ?_⟩
    exact kt us B2 _ (S2.put hk (o' := .lst (vs ++ us)) fun ys z => by cases z) e1 (pappend (pimp r fun _ _ z => R.mono e1 z) hp)⟩
/-- x += e, numbers -/
theorem s_augI {u w : Int} (C : Cok X k) (L : Slot X i n) (S0 : Stt E own B H) (h : σ[i]? = some (some (.int u))) (he : EvB X E own B H σ e rInt w)
    (q : ∀ B' H', Stt E own B' H' → Ex B B' → WSs X rest D (σ.set i (some (.int (u + w)))) H') : WSs X (.AugAssign (.Name n pos') .Add e pos :: rest) D σ H :=
  WSs.cons (ps_aug C.nd L.ix L.loc peW ip_add L.hf) ⟨_, h, he B H S0 (Ex.refl _) (Ex.refl _) _ fun v B2 H2 S2 e1 _ r => ⟨u, w, rfl, r, q B2 H2 S2 e1⟩⟩
/-! chains whose third part is asked only where the first pair holds -/
theorem ev_chP {op op' : CmpOp} {r1 r2 : R2} {z1 w : Bool} {x : α} {y : β} (h1 : OpR X (compareOp op) r1) (h2 : OpR X (compareOp op') r2) (hm : lastMarks [op, op'] [b, c] = false) (ha : EvB X E own B H σ a R x) (hb : EvB X E own B H σ b S y)
    (k1 : ∀ H1 v w (Q : VK), R.r H1 v x → S.r H1 w y → Q (.bl z1) H1 → r1 v w H1 Q) (hc : z1 = true → ∃ u : γ, EvB X E own B H σ c T u ∧ ∀ H1 v v' (Q : VK), S.r H1 v y → T.r H1 v' u → Q (.bl w) H1 → r2 v v' H1 Q) (hn : z1 = false → w = false) : EvB X E own B H σ (.Compare a [op, op'] [b, c] pos) rBool w := fun B1 H1 S1 e1 e2 Q k =>
  WE.of (pe_chain h1 h2 peW peW peW hm) (ha B1 H1 S1 e1 e2 _ fun v B2 H2 S2 e3 e4 r => hb B2 H2 S2 (e1.trans e3) (e2.trans e4) _ fun w1 B3 H3 S3 e5 e6 s => k1 H3 v w1 _ (R.mono e6 r) s ⟨z1, rfl, by
    cases z1 with
    | true =>
      obtain ⟨u, hu, k2⟩ := hc rfl
      exact hu B3 H3 S3 ((e1.trans e3).trans e5) ((e2.trans e4).trans e6) _ fun w2 B4 H4 S4 e7 e8 t => k2 H4 w1 w2 Q (S.mono e8 s) t (k _ B4 H4 S4 ((e3.trans e5).trans e7) ((e4.trans e6).trans e8) rfl)
    | false => exact k _ B3 H3 S3 (e3.trans e5) (e4.trans e6) (by rw [hn rfl]; rfl)⟩)
theorem et_chP {op op' : CmpOp} {r1 r2 : R2} {z1 w : Bool} {x : α} {y : β} (h1 : OpR X (compareOp op) r1) (h2 : OpR X (compareOp op') r2) (hm : lastMarks [op, op'] [b, c] = false) (ha : EvB X E own B H σ a R x) (hb : EvB X E own B H σ b S y)
    (k1 : ∀ H1 v w (Q : VK), R.r H1 v x → S.r H1 w y → Q (.bl z1) H1 → r1 v w H1 Q) (hc : z1 = true → ∃ u : γ, EvB X E own B H σ c T u ∧ ∀ H1 v v' (Q : VK), S.r H1 v y → T.r H1 v' u → Q (.bl w) H1 → r2 v v' H1 Q) (hn : z1 = false → w = false) : EvT X E own B H σ (.Compare a [op, op'] [b, c] pos) w := fun B1 H1 S1 e1 e2 Q k =>
  WT.of (pt_chain h1 h2 peW peW peW hm) (ha B1 H1 S1 e1 e2 _ fun v B2 H2 S2 e3 e4 r => hb B2 H2 S2 (e1.trans e3) (e2.trans e4) _ fun w1 B3 H3 S3 e5 e6 s => k1 H3 v w1 _ (R.mono e6 r) s ⟨z1, rfl, by
    cases z1 with
    | true =>
      obtain ⟨u, hu, k2⟩ := hc rfl
      exact hu B3 H3 S3 ((e1.trans e3).trans e5) ((e2.trans e4).trans e6) _ fun w2 B4 H4 S4 e7 e8 t => k2 H4 w1 w2 _ (S.mono e8 s) t ⟨_, rfl, k B4 H4 S4 ((e3.trans e5).trans e7) ((e4.trans e6).trans e8)⟩
    | false => exact ⟨_, rfl, by rw [hn rfl] at k; exact k B3 H3 S3 (e3.trans e5) (e4.trans e6)⟩⟩)
variable {i0 j0 : Int} {w0 : Bool}
theorem ev_chP_lt_lt (ha : EvB X E own B H σ a rInt i0) (hb : EvB X E own B H σ b rInt j0) (hc : decide (i0 < j0) = true → ∃ l0, EvB X E own B H σ c rInt l0 ∧ w0 = decide (j0 < l0)) (hn : decide (i0 < j0) = false → w0 = false) (hm : lastMarks [.Lt, .Lt] [b, c] = false := by rfl) : EvB X E own B H σ (.Compare a [.Lt, .Lt] [b, c] pos) rBool w0 := ev_chP (T := rInt) op_lt op_lt hm ha hb (fun _ _ _ _ h1 h2 k => ⟨_, _, h1, h2, k⟩) (fun hz => by
  obtain ⟨l0, h3, h4⟩ := hc hz
  subst h4; exact ⟨l0, h3, fun _ _ _ _ h1 h2 k => ⟨_, _, h1, h2, k⟩⟩) hn
theorem et_chP_lt_lt (ha : EvB X E own B H σ a rInt i0) (hb : EvB X E own B H σ b rInt j0) (hc : decide (i0 < j0) = true → ∃ l0, EvB X E own B H σ c rInt l0 ∧ w0 = decide (j0 < l0)) (hn : decide (i0 < j0) = false → w0 = false) (hm : lastMarks [.Lt, .Lt] [b, c] = false := by rfl) : EvT X E own B H σ (.Compare a [.Lt, .Lt] [b, c] pos) w0 := et_chP (T := rInt) op_lt op_lt hm ha hb (fun _ _ _ _ h1 h2 k => ⟨_, _, h1, h2, k⟩) (fun hz => by
  obtain ⟨l0, h3, h4⟩ := hc hz
  subst h4; exact ⟨l0, h3, fun _ _ _ _ h1 h2 k => ⟨_, _, h1, h2, k⟩⟩) hn
theorem ev_chP_lt_le (ha : EvB X E own B H σ a rInt i0) (hb : EvB X E own B H σ b rInt j0) (hc : decide (i0 < j0) = true → ∃ l0, EvB X E own B H σ c rInt l0 ∧ w0 = decide (j0 ≤ l0)) (hn : decide (i0 < j0) = false → w0 = false) (hm : lastMarks [.Lt, .LtE] [b, c] = false := by rfl) : EvB X E own B H σ (.Compare a [.Lt, .LtE] [b, c] pos) rBool w0 := ev_chP (T := rInt) op_lt op_le hm ha hb (fun _ _ _ _ h1 h2 k => ⟨_, _, h1, h2, k⟩) (fun hz => by
  obtain ⟨l0, h3, h4⟩ := hc hz
  subst h4; exact ⟨l0, h3, fun _ _ _ _ h1 h2 k => ⟨_, _, h1, h2, k⟩⟩) hn
theorem et_chP_lt_le (ha : EvB X E own B H σ a rInt i0) (hb : EvB X E own B H σ b rInt j0) (hc : decide (i0 < j0) = true → ∃ l0, EvB X E own B H σ c rInt l0 ∧ w0 = decide (j0 ≤ l0)) (hn : decide (i0 < j0) = false → w0 = false) (hm : lastMarks [.Lt, .LtE] [b, c] = false := by rfl) : EvT X E own B H σ (.Compare a [.Lt, .LtE] [b, c] pos) w0 := et_chP (T := rInt) op_lt op_le hm ha hb (fun _ _ _ _ h1 h2 k => ⟨_, _, h1, h2, k⟩) (fun hz => by
  obtain ⟨l0, h3, h4⟩ := hc hz
  subst h4; exact ⟨l0, h3, fun _ _ _ _ h1 h2 k => ⟨_, _, h1, h2, k⟩⟩) hn
theorem ev_chP_le_lt (ha : EvB X E own B H σ a rInt i0) (hb : EvB X E own B H σ b rInt j0) (hc : decide (i0 ≤ j0) = true → ∃ l0, EvB X E own B H σ c rInt l0 ∧ w0 = decide (j0 < l0)) (hn : decide (i0 ≤ j0) = false → w0 = false) (hm : lastMarks [.LtE, .Lt] [b, c] = false := by rfl) : EvB X E own B H σ (.Compare a [.LtE, .Lt] [b, c] pos) rBool w0 := ev_chP (T := rInt) op_le op_lt hm ha hb (fun _ _ _ _ h1 h2 k => ⟨_, _, h1, h2, k⟩) (fun hz => by
  obtain ⟨l0, h3, h4⟩ := hc hz
  subst h4; exact ⟨l0, h3, fun _ _ _ _ h1 h2 k => ⟨_, _, h1, h2, k⟩⟩) hn
theorem et_chP_le_lt (ha : EvB X E own B H σ a rInt i0) (hb : EvB X E own B H σ b rInt j0) (hc : decide (i0 ≤ j0) = true → ∃ l0, EvB X E own B H σ c rInt l0 ∧ w0 = decide (j0 < l0)) (hn : decide (i0 ≤ j0) = false → w0 = false) (hm : lastMarks [.LtE, .Lt] [b, c] = false := by rfl) : EvT X E own B H σ (.Compare a [.LtE, .Lt] [b, c] pos) w0 := et_chP (T := rInt) op_le op_lt hm ha hb (fun _ _ _ _ h1 h2 k => ⟨_, _, h1, h2, k⟩) (fun hz => by
  obtain ⟨l0, h3, h4⟩ := hc hz
  subst h4; exact ⟨l0, h3, fun _ _ _ _ h1 h2 k => ⟨_, _, h1, h2, k⟩⟩) hn
theorem ev_chP_le_le (ha : EvB X E own B H σ a rInt i0) (hb : EvB X E own B H σ b rInt j0) (hc : decide (i0 ≤ j0) = true → ∃ l0, EvB X E own B H σ c rInt l0 ∧ w0 = decide (j0 ≤ l0)) (hn : decide (i0 ≤ j0) = false → w0 = false) (hm : lastMarks [.LtE, .LtE] [b, c] = false := by rfl) : EvB X E own B H σ (.Compare a [.LtE, .LtE] [b, c] pos) rBool w0 := ev_chP (T := rInt) op_le op_le hm ha hb (fun _ _ _ _ h1 h2 k => ⟨_, _, h1, h2, k⟩) (fun hz => by
  obtain ⟨l0, h3, h4⟩ := hc hz
  subst h4; exact ⟨l0, h3, fun _ _ _ _ h1 h2 k => ⟨_, _, h1, h2, k⟩⟩) hn
theorem et_chP_le_le (ha : EvB X E own B H σ a rInt i0) (hb : EvB X E own B H σ b rInt j0) (hc : decide (i0 ≤ j0) = true → ∃ l0, EvB X E own B H σ c rInt l0 ∧ w0 = decide (j0 ≤ l0)) (hn : decide (i0 ≤ j0) = false → w0 = false) (hm : lastMarks [.LtE, .LtE] [b, c] = false := by rfl) : EvT X E own B H σ (.Compare a [.LtE, .LtE] [b, c] pos) w0 := et_chP (T := rInt) op_le op_le hm ha hb (fun _ _ _ _ h1 h2 k => ⟨_, _, h1, h2, k⟩) (fun hz => by
  obtain ⟨l0, h3, h4⟩ := hc hz
  subst h4; exact ⟨l0, h3, fun _ _ _ _ h1 h2 k => ⟨_, _, h1, h2, k⟩⟩) hn
/-! x[i], x[j] = e -/
def PlSub (X : Cx) (o i : Expr) (pos : Pos) : Prop := ∀ v, assign (.Subscript o i pos) X.env v = (do
      let ov ← holding [v] (eval o X.env)
      let iv ← holding [v, ov] (eval i X.env)
      standAt pos
      holding [v, ov, iv] (setItem ov iv v)
      release [v, ov, iv] [])
def setI {α : Type} (xs : List α) (i : Int) (x : α) : Option (List α) := (ixN xs.length i).map fun j => xs.set j x
theorem setI_get {xs ys : List α} {i : Int} {x : α} (h : setI xs i x = some ys) : ∃ j, ixN xs.length i = some j ∧ ys = xs.set j x := by
  unfold setI at h
  cases hj : ixN xs.length i with
  | none => rw [hj] at h; cases h
  | some j => rw [hj] at h; exact ⟨j, rfl, (Option.some.inj h).symm⟩
theorem psetJ {α β : Type} {F : α → β → Prop} {l₁ : List α} {l₂ : List β} {x : α} {y : β} (h : Paired F l₁ l₂) (hx : F x y) (j : Nat) : Paired F (l₁.set j x) (l₂.set j y) := by
  induction h generalizing j with
  | nil => exact .nil
  | cons a b ih =>
    cases j with
    | zero => exact .cons hx b
    | succ j => exact .cons a (ih j)
theorem s_set2 {o2 : Expr} {p1 p2 tp : Pos} {kk : Nat} {q : Addr} {vs : List V} {xs ys zs : List α} {u w : Int} {pq : α × α} (C : Cok X k0) (S0 : Stt E own B H) (ho : PE X o (tVar i)) (ho2 : PE X o2 (tVar i)) (h : σ[i]? = some (some (.ref q))) (hk : own[k]? = some (q, .lst vs)) (r : Paired (R.r B) vs xs)
    (he : EvE X E own B H σ e (rPr R R) pq) (ha : EvB X E own B H σ a rInt u) (h1 : setI xs u pq.1 = some ys)
    (hb : ∀ vs' B' H', Stt E (own.set k (q, .lst vs')) B' H' → Ex B B' → Paired (R.r B') vs' ys → EvB X E (own.set k (q, .lst vs')) B' H' σ b rInt w) (h2 : setI ys w pq.2 = some zs)
    (kt : ∀ vs' B' H', Stt E (own.set k (q, .lst vs')) B' H' → Ex B B' → Paired (R.r B') vs' zs → WSs X rest D σ H')
    (g1 : PlSub X o a p1 := by exact fun _ => rfl) (g2 : PlSub X o2 b p2 := by exact fun _ => rfl)
    (hs : swapsWithSole [.Tuple [.Subscript o a p1, .Subscript o2 b p2] kk tp] e pos.line X.env = pure false := by rfl) (hw : swappedStores [.Tuple [.Subscript o a p1, .Subscript o2 b p2] kk tp] e X.env = pure none := by rfl) :
    WSs X (.Assign [.Tuple [.Subscript o a p1, .Subscript o2 b p2] kk tp] e pos :: rest) D σ H :=
  WSs.cons (ps_asg peW (pg_tup (n := 2) C.calm (pgs_cons (pg_sub ho peW set_list g1) (pgs_cons (pg_sub ho2 peW set_list g2) pgs_nil))) hs hw) (he B H S0 (Ex.refl _) (Ex.refl _) _ fun v B2 H2 S2 e1 e2 rp => by
    obtain ⟨l, va, vb, hl, hl2, hr1, hr2⟩ := rp
    obtain ⟨j1, hj1, rfl⟩ := setI_get h1
    obtain ⟨j2, hj2, rfl⟩ := setI_get h2
    refine ⟨l, [va, vb], hl, SqT.of (S2.bh _ _ hl2), rfl, va, [vb], rfl, .ref q, h, ?_⟩
    refine ha B2 H2 S2 e1 e2 _ fun w1 B3 H3 S3 e3 e4 rw1 => ?_
    have hq := (S3.ow _ (List.mem_of_getElem? hk)).2.2
    have r3 := pimp r fun _ _ z => R.mono (e1.trans e3) z
    have r4 := psetJ r3 (R.mono e3 hr1) j1
    refine ⟨q, vs, u, j1, rfl, rw1, hq, by rw [plen r]; exact hj1, vb, [], rfl, .ref q, h, ?_⟩
    have S3' := S3.put hk (o' := .lst (vs.set j1 va)) fun ys z => by cases z
    refine hb _ B3 _ S3' (e1.trans e3) r4 B3 _ S3' (Ex.refl _) (Ex.refl _) _ fun w2 B4 H4 S4 e5 e6 rw2 => ?_
    have hk4 : (own.set k (q, HO.lst (vs.set j1 va)))[k]? = some (q, HO.lst (vs.set j1 va)) := by
      rw [List.getElem?_set_self (List.getElem?_eq_some_iff.mp hk).1]
    have hq4 := (S4.ow _ (List.mem_of_getElem? hk4)).2.2
    refine ⟨q, _, w, j2, rfl, rw2, hq4, by rw [plen r4]; exact hj2, rfl, ?_⟩
    have S4' := S4.put hk4 (o' := .lst ((vs.set j1 va).set j2 vb)) fun ys z => by cases z
    rw [List.set_set] at S4'
    exact kt _ B4 _ S4' ((e1.trans e3).trans e5) (psetJ (pimp r4 fun _ _ z => R.mono e5 z) (R.mono (e3.trans e5) hr2) j2))
end
end Sg

namespace Sg
open PySem PySem.Spec PyProof.Rows L2
/-! for x in d: the dict is locked while the rows within run -/
def upE (E : Ent) (B : Hp) (q : Addr) (f : HO) : Ent := ⟨unB q (lkB q f B) E.B0, upd E.H0 q f⟩
section
variable {X Xb : Cx} {E : Ent} {own new own' : Own} {B H B' H' : Hp} {σ : L2.St} {α β γ δ τ ρ ρ' : Type} {R : Rel α} {S : Rel β} {T : Rel γ} {U : Rel δ} {e a b c d o it tg : Expr} {x : α} {y : β} {p pos pos' apos : Pos} {i j k k0 : Nat} {z w : Bool} {xs : List α} {ys : List β} {es : List Expr}
variable {n m f : Str} {rest body other : List Stmt} {D : Ends} {P : ρ → Prop} {Er : Err → Prop}
/-- the thing at q is none of those owned here -/
def NoOwn (E : Ent) (B : Hp) (q : Addr) : Prop := B q ≠ Option.none ∨ E.H0 q ≠ Option.none
theorem own_ne {q : Addr} (S0 : Stt E own B H) (h : NoOwn E B q) : ∀ r ∈ own, r.1 ≠ q := fun r hr z => by
  obtain ⟨h1, h2, _⟩ := S0.ow r hr
  rw [z] at h1 h2
  rcases h with h | h
  · exact h h2
  · exact h h1
/-- the thing at q is taken for f -/
theorem up_enter {q : Addr} {u f : HO} (S0 : Stt E own B H) (h : H q = some u) (no : NoOwn E B q) (nu : ∀ ys, f ≠ .tup ys) : Stt (upE E B q f) own (lkB q f B) (upd H q f) where
  b0 := fun a v e => by
    by_cases ha : a = q
    · subst ha; have e' : unB a (lkB a f B) E.B0 a = some v := e; rw [unB_at] at e'; exact e'
    · have e' : unB q (lkB q f B) E.B0 a = some v := e; rw [unB_ne ha] at e'; rw [lkB_ne ha]; exact S0.b0 a v e'
  h0 := fun a v e => by
    by_cases ha : a = q
    · subst ha; rw [upd_same]; have e' : upd E.H0 a f a = some v := e; rw [upd_same] at e'; exact e'
    · rw [upd_ne ha]; have e' : upd E.H0 q f a = some v := e; rw [upd_ne ha] at e'; exact S0.h0 a v e'
  bh := fun a v e => by
    by_cases ha : a = q
    · subst ha
      rw [lkB_at] at e
      rw [upd_same]
      cases hb : B a with
      | none => rw [hb] at e; cases e
      | some w => rw [hb] at e; exact e
    · rw [lkB_ne ha] at e; rw [upd_ne ha]; exact S0.bh a v e
  tu := fun a ys e => by
    by_cases ha : a = q
    · subst ha; rw [upd_same] at e; exact absurd (Option.some.inj e) (nu ys)
    · rw [upd_ne ha] at e; rw [lkB_ne ha]; exact S0.tu a ys e
  fr := fun a v e => by
    by_cases ha : a = q
    · subst ha; exact .inl (by show unB a _ _ a = _; rw [unB_at]; exact e)
    · rw [lkB_ne ha] at e
      rcases S0.fr a v e with z | z
      · exact .inl (by show unB q _ _ a = _; rw [unB_ne ha]; exact z)
      · exact .inr (by show upd E.H0 q f a = _; rw [upd_ne ha]; exact z)
  ow := fun r hr => by
    have ne := own_ne S0 no r hr
    obtain ⟨h1, h2, h3⟩ := S0.ow r hr
    exact ⟨by show upd E.H0 q f r.1 = _; rw [upd_ne ne]; exact h1, by rw [lkB_ne ne]; exact h2, by rw [upd_ne ne]; exact h3⟩
  nd := S0.nd
theorem up_back {q : Addr} {u f : HO} {own3 : Own} {B3 H3 : Hp} (S0 : Stt E own B H) (h : H q = some u) (nu : ∀ ys, u ≠ .tup ys) (S3 : Stt (upE E B q f) own3 B3 H3) : Stt E own3 (unB q B B3) (upd H3 q u) where
  b0 := fun a v e => by
    by_cases ha : a = q
    · subst ha; rw [unB_at]; exact S0.b0 a v e
    · rw [unB_ne ha]; exact S3.b0 a v (by show unB q _ _ a = _; rw [unB_ne ha]; exact e)
  h0 := fun a v e => by
    by_cases ha : a = q
    · subst ha; rw [upd_same]; have := S0.h0 a v e; rw [h] at this; exact this
    · rw [upd_ne ha]; exact S3.h0 a v (by show upd E.H0 q f a = _; rw [upd_ne ha]; exact e)
  bh := fun a v e => by
    by_cases ha : a = q
    · subst ha; rw [unB_at] at e; rw [upd_same]; have := S0.bh a v e; rw [h] at this; exact this
    · rw [unB_ne ha] at e; rw [upd_ne ha]; exact S3.bh a v e
  tu := fun a ys e => by
    by_cases ha : a = q
    · subst ha; rw [upd_same] at e; exact absurd (Option.some.inj e) (nu ys)
    · rw [upd_ne ha] at e; rw [unB_ne ha]; exact S3.tu a ys e
  fr := fun a v e => by
    by_cases ha : a = q
    · subst ha; rw [unB_at] at e; exact S0.fr a v e
    · rw [unB_ne ha] at e
      rcases S3.fr a v e with z | z
      · have z' : unB q (lkB q f B) E.B0 a = some v := z; rw [unB_ne ha] at z'; exact .inl z'
      · have z' : upd E.H0 q f a = Option.none := z; rw [upd_ne ha] at z'; exact .inr z'
  ow := fun r hr => by
    obtain ⟨h1, h2, h3⟩ := S3.ow r hr
    have h1' : upd E.H0 q f r.1 = Option.none := h1
    have ne : r.1 ≠ q := fun z => by rw [z, upd_same] at h1'; cases h1'
    rw [upd_ne ne] at h1'
    exact ⟨h1', by rw [unB_ne ne]; exact h2, by rw [upd_ne ne]; exact h3⟩
  nd := S3.nd
theorem up_at {q : Addr} {f : HO} {own3 : Own} {B3 H3 : Hp} (S3 : Stt (upE E B q f) own3 B3 H3) : H3 q = some f := S3.h0 q f upd_same
theorem up_exB {q : Addr} {u f : HO} (S0 : Stt E own B H) (h : H q = some u) (hc : nf f = nf u) : Ex B (lkB q f B) := fun a v e => by
  by_cases ha : a = q
  · subst ha
    have := S0.bh a v e
    rw [h] at this
    cases this
    exact ⟨f, by rw [lkB_at, e] <;> rfl, hc⟩
  · exact ⟨v, by rw [lkB_ne ha]; exact e, rfl⟩
theorem up_exE {q : Addr} {u f : HO} (S0 : Stt E own B H) (h : H q = some u) (hc : nf f = nf u) : Ex E.H0 (upE E B q f).H0 := fun a v e => by
  by_cases ha : a = q
  · subst ha
    have := S0.h0 a v e
    rw [h] at this
    cases this
    exact ⟨f, upd_same, hc⟩
  · exact ⟨v, by show upd E.H0 q f a = _; rw [upd_ne ha]; exact e, rfl⟩
theorem up_exBack {q : Addr} {u f : HO} {own3 : Own} {B3 H3 : Hp} (S0 : Stt E own B H) (h : H q = some u) (hc : nf u = nf f) (S3 : Stt (upE E B q f) own3 B3 H3) : Ex B3 (unB q B B3) := fun a v e => by
  by_cases ha : a = q
  · subst ha
    rcases S3.fr a v e with z | z
    · have z' : unB a (lkB a f B) E.B0 a = some v := z
      rw [unB_at, lkB_at] at z'
      cases hb : B a with
      | none => rw [hb] at z'; cases z'
      | some w =>
        rw [hb] at z'
        cases z'
        have := S0.bh a w hb
        rw [h] at this
        cases this
        exact ⟨u, by rw [unB_at]; exact hb, hc⟩
    · have z' : upd E.H0 a f a = Option.none := z
      rw [upd_same] at z'
      cases z'
  · exact ⟨v, by rw [unB_ne ha]; exact e, rfl⟩
theorem upd_id {q : Addr} {u : HO} {B : Hp} (h : B q = some u) : upd B q u = B := by
  funext a
  by_cases ha : a = q
  · subst ha; rw [upd_same, h]
  · rw [upd_ne ha]
theorem forM_cons {step : τ → α → Res τ} {kn : τ → Res ρ} {r : List α} {acc : τ} (F : Fin P Er ((forM step (x :: r) acc).bind kn)) : Fin (fun a' => Fin P Er ((forM step r a').bind kn)) Er (step acc x) := by
  unfold forM at F
  cases hm : step acc x with
  | ok o => rw [hm] at F; exact F
  | err e => rw [hm] at F; exact F
  | stuck => rw [hm] at F; exact F
theorem forM_core {B2 H2 : Hp} {J : It} {g : TG} {Tg : α → Hp → L2.St → L2.St → Prop} {step : τ → α → Res τ} {kn : τ → Res ρ} {a0 : τ}
    (hg : ∀ own B H v x σ, Stt E own B H → R.r B v x → ∀ Q : L2.St → Hp → Prop, (∀ σ', Tg x B σ σ' → Q σ' H) → g v σ H Q) (S2 : Stt E own B2 H2) (W : Walk E KoT B2 J R xs)
    (F : Fin P Er ((forM step xs a0).bind kn)) (Inv : τ → L2.St → Own → Hp → Prop) (h0 : Inv a0 σ own B2) (hup : ∀ a σ' own' B' B'', Inv a σ' own' B' → Ex B' B'' → Inv a σ' own' B'')
    (hs : ∀ a x σ' σ2 own' B' H' (Q : τ → Prop), Inv a σ' own' B' → Stt E own' B' H' → Ex B2 B' → Tg x B' σ' σ2 → Fin Q Er (step a x) →
      WSs X body { nx := TurnE E B' Q Inv, rt := fun _ _ => False, bk := fun _ _ => False, ct := TurnE E B' Q Inv } σ2 H')
    (hd : ∀ a σ' own' B' H', Inv a σ' own' B' → Stt E own' B' H' → Ex B2 B' → Fin P Er (kn a) → D.nx σ' H') :
    ∃ W : Nat → Nat → L2.St → Hp → Prop, (∃ m, W 0 m σ H2) ∧ ∀ i m σ H, W i m σ H →
      (J.stop i H ∧ D.nx σ H) ∨ (J.go i H ∧ ∃ N : L2.St → Hp → Prop, (∀ σ' H', N σ' H' → ∃ m', m' < m ∧ W (i + 1) m' σ' H') ∧ ∀ x H', J.yld i H x H' → g x σ H' fun σ2 H2 => WSs X body { D with nx := N, ct := N, bk := D.nx } σ2 H2) := by
  refine ⟨fun i' mm σ' H' => mm = xs.length - i' ∧ i' ≤ xs.length ∧ ∃ a own' B', Fin P Er ((forM step (xs.drop i') a).bind kn) ∧ Stt E own' B' H' ∧ Ex B2 B' ∧ Inv a σ' own' B', ⟨xs.length, by simp, Nat.zero_le _, a0, own, B2, by rw [List.drop_zero]; exact F, S2, Ex.refl _, h0⟩, ?_⟩
  rintro i' mm σ' H' ⟨rfl, hi, a, own', B', F', S', e', iv⟩
  by_cases hlt : i' < xs.length
  · refine .inr ⟨W.go i' own' B' H' S' e' trivial hlt, fun σ2 H2 => ∃ a own' B', Fin P Er ((forM step (xs.drop (i' + 1)) a).bind kn) ∧ Stt E own' B' H2 ∧ Ex B2 B' ∧ Inv a σ2 own' B', fun σ2 H2 q => ⟨xs.length - (i' + 1), by omega, rfl, hlt, q⟩, fun v H'' hy => ?_⟩
    have hx : xs[i']? = some xs[i'] := List.getElem?_eq_getElem hlt
    obtain ⟨B'', S'', e3, e4, rx⟩ := W.yld i' own' B' H' v H'' _ S' e' trivial hx hy
    refine hg own' B'' H'' v _ σ' S'' rx _ fun σ2 tgx => ?_
    have hdrop : xs.drop i' = xs[i'] :: xs.drop (i' + 1) := List.drop_eq_getElem_cons hlt
    rw [hdrop] at F'
    have F2 := forM_cons F'
    have done := hs a _ σ' σ2 own' B'' H'' _ (hup _ _ _ _ _ iv e3) S'' (e'.trans e3) tgx F2
    intro pins s I
    refine wpAny_mono (done pins s I) (fun f s' q => ?_) fun _ _ q => q
    cases f with
    | next =>
      obtain ⟨σ2, H2', I2, a', own2, B3, q1, q2, q3, q4⟩ := q
      exact ⟨σ2, H2', I2, a', own2, B3, q1, q2, (e'.trans e3).trans q3, q4⟩
    | cont =>
      obtain ⟨σ2, H2', I2, a', own2, B3, q1, q2, q3, q4⟩ := q
      exact ⟨σ2, H2', I2, a', own2, B3, q1, q2, (e'.trans e3).trans q3, q4⟩
    | brk =>
      obtain ⟨_, _, _, h⟩ := q
      exact h.elim
    | ret u =>
      obtain ⟨_, _, _, _, _, h⟩ := q
      exact h.elim
  · have e : i' = xs.length := by omega
    subst e
    rw [List.drop_length] at F'
    exact .inl ⟨W.stop _ own' B' H' S' e' trivial (Nat.le_refl _), hd a σ' own' B' H' iv S' e' F'⟩
/-- .. none of those owned here -/
def EvKB (X : Cx) (E : Ent) (B H : Hp) (σ : L2.St) (e : Expr) (R : Rel α) (kvs : List (Int × α)) : Prop := ∃ q ws, (∀ H', Tx H H' → ∀ Q : VK, Q (.ref q) H' → WE X e σ H' Q) ∧ Rd H q (.dK ws) ∧ NoOwn E B q ∧ pI R H ws kvs
/-- what is known of K is known here, and none of it is owned -/
structure KOk (E : Ent) (B H K : Hp) : Prop where
  ex : Ex K H
  no : ∀ q, K q ≠ Option.none → NoOwn E B q
theorem kokB (S0 : Stt E own B H) : KOk E B H B := ⟨S0.bh.ex, fun _ h => .inl h⟩
theorem kok0 (S0 : Stt E own B H) : KOk E B H E.H0 := ⟨S0.h0.ex, fun _ h => .inr h⟩
theorem KOk.rd {K : Hp} {q : Addr} {u : HO} (k : KOk E B H K) (h : Rd K q u) : NoOwn E B q := k.no q (by rcases h with h | ⟨_, h⟩ <;> rw [h] <;> exact fun z => by cases z)
theorem ekb_v {K : Hp} {v : V} {kvs : List (Int × α)} (k : KOk E B H K) (hp : PE X e (tVar i)) (h : σ[i]? = some (some v)) (r : (rDI R).r K v kvs) : EvKB X E B H σ e R kvs := by
  obtain ⟨q, ws, rfl, h2, h3⟩ := r
  exact ⟨q, ws, fun H' _ Q k => WE.of hp ⟨_, h, k⟩, k.ex.dK h2, k.rd h2, h3.up k.ex⟩
theorem ekb_at {K : Hp} {v u : V} {j : Nat} {kvs : List (Int × α)} {kk} {pp : Pos} (k : KOk E B H K) (hp : PE X o (tVar i)) (h : σ[i]? = some (some v)) (ht : TupAt K v u j) (r : (rDI R).r K u kvs) : EvKB X E B H σ (.Subscript o (.Constant (.int j) kk pp) pos) R kvs := by
  obtain ⟨q, ws, rfl, h2, h3⟩ := r
  obtain ⟨p, vs, rfl, h5, h6⟩ := ht
  exact ⟨q, ws, fun H' tx Q k' => WE.of (pe_ix ix_tup hp pe_int (fun _ _ => rfl)) ⟨_, h, p, vs, j, .ref q, rfl, rfl, SqT.of (tx _ _ (k.ex.tup h5)), h6, k'⟩, k.ex.dK h2, k.rd h2, h3.up k.ex⟩
theorem ekb_t41 {K : Hp} {v : V} {x : α × List (Int × β) × γ × δ} {kk} {pp : Pos} (k : KOk E B H K) (hp : PE X o (tVar i)) (h : σ[i]? = some (some v)) (r : (rT4 R (rDI S) T U).r K v x) : EvKB X E B H σ (.Subscript o (.Constant (.int 1) kk pp) pos) S x.2.1 := by
  obtain ⟨p, a, b, c, d, h1, h2, h3, h4, h5, h6⟩ := r
  exact ekb_at (j := 1) k hp h ⟨p, [a, b, c, d], h1, h2, rfl⟩ h4
theorem ekb_t42 {K : Hp} {v : V} {x : α × β × List (Int × γ) × δ} {kk} {pp : Pos} (k : KOk E B H K) (hp : PE X o (tVar i)) (h : σ[i]? = some (some v)) (r : (rT4 R S (rDI T) U).r K v x) : EvKB X E B H σ (.Subscript o (.Constant (.int 2) kk pp) pos) T x.2.2.1 := by
  obtain ⟨p, a, b, c, d, h1, h2, h3, h4, h5, h6⟩ := r
  exact ekb_at (j := 2) k hp h ⟨p, [a, b, c, d], h1, h2, rfl⟩ h5
theorem ekb_t31 {K : Hp} {v : V} {x : α × List (Int × β) × γ} {kk} {pp : Pos} (k : KOk E B H K) (hp : PE X o (tVar i)) (h : σ[i]? = some (some v)) (r : (rT3 R (rDI S) T).r K v x) : EvKB X E B H σ (.Subscript o (.Constant (.int 1) kk pp) pos) S x.2.1 := by
  obtain ⟨p, a, b, c, h1, h2, h3, h4, h5⟩ := r
  exact ekb_at (j := 1) k hp h ⟨p, [a, b, c], h1, h2, rfl⟩ h4
theorem ekb_t32 {K : Hp} {v : V} {x : α × β × List (Int × γ)} {kk} {pp : Pos} (k : KOk E B H K) (hp : PE X o (tVar i)) (h : σ[i]? = some (some v)) (r : (rT3 R S (rDI T)).r K v x) : EvKB X E B H σ (.Subscript o (.Constant (.int 2) kk pp) pos) T x.2.2 := by
  obtain ⟨p, a, b, c, h1, h2, h3, h4, h5⟩ := r
  exact ekb_at (j := 2) k hp h ⟨p, [a, b, c], h1, h2, rfl⟩ h5
def TgOkA (X : Cx) {α : Type} (tg : Expr) (R : Rel α) (T : α → Hp → L2.St → L2.St → Prop) : Prop := ∃ g : TG, PG X tg g ∧ ∀ (E : Ent) own B H v x σ, Stt E own B H → R.r B v x → ∀ Q : L2.St → Hp → Prop, (∀ σ', T x B σ σ' → Q σ' H) → g v σ H Q
theorem s_forD {tg : Expr} {Tg : Int → Hp → L2.St → L2.St → Prop} {step : τ → Int → Res τ} {kn : τ → Res ρ} {a0 : τ} {kvs : List (Int × α)} (C : Cok X k0) (ht : TgOkA X tg rInt Tg) (S0 : Stt E own B H) (hit : EvKB X E B H σ it R kvs)
    (F : Fin P Er ((forM step (kvs.map (·.1)) a0).bind kn))
    (Inv : τ → L2.St → Own → Hp → Prop) (h0 : ∀ B1, Ex B B1 → Inv a0 σ own B1) (hup : ∀ a σ' own' B' B'', Inv a σ' own' B' → Ex B' B'' → Inv a σ' own' B'')
    (hs : ∀ E', Ex E.H0 (Ent.H0 E') → ∀ a x σ' σ2 own' B' H' (Q : τ → Prop), Inv a σ' own' B' → Stt E' own' B' H' → Ex B B' → Tg x B' σ' σ2 → Fin Q Er (step a x) →
      WSs X body { nx := TurnE E' B' Q Inv, rt := fun _ _ => False, bk := fun _ _ => False, ct := TurnE E' B' Q Inv } σ2 H')
    (hd : ∀ a σ' own' B' H', Inv a σ' own' B' → Stt E own' B' H' → Ex B B' → Fin P Er (kn a) → WSs X rest D σ' H')
    (hf : ∀ x, foldedSetIterable it X.env x = pure x := by intro _; rfl) : WSs X (.For tg it body [] pos :: rest) D σ H := by
  obtain ⟨q, ws, hv, hqH, no, hp⟩ := hit
  have kr := keys_rel hp
  obtain ⟨g, pg, hg⟩ := ht
  rcases hqH with hqH | ⟨ob, hqH⟩
  · refine WSs.cons (ps_lock (ps_for C.own C.calm (pi_keys peW) pg pssW hf)) ⟨q, .dK ws, hqH, trivial, fun ob => ?_⟩
    refine hv _ (fun a ys h => ?_) _ ⟨q, ob, rfl, .inl ⟨ws, upd_same, ?_⟩⟩
    · rw [upd_ne fun z => by rw [z, hqH] at h; cases h]
      exact h
    · have SE := up_enter (f := .frz ob (.dK ws)) S0 hqH no (fun ys z => by cases z)
      have ex := up_exB (f := .frz ob (.dK ws)) S0 hqH rfl
      have exE : Ex E.H0 (upE E B q (.frz ob (.dK ws))).H0 := up_exE S0 hqH rfl
      exact forM_core (hg (upE E B q (.frz ob (.dK ws)))) SE (walk_keysE upd_same kr) F Inv (h0 _ ex) hup (fun a x σ' σ2 own' B' H' Q iv S' e' t F' => hs _ exE a x σ' σ2 own' B' H' Q iv S' (ex.trans e') t F')
        fun a σ' own' B' H' iv S' e' F' => by
          have T := up_back S0 hqH (fun ys z => by cases z) S'
          have exb := up_exBack (f := .frz ob (.dK ws)) S0 hqH rfl S'
          exact ⟨up_at S', hd a σ' own' _ _ (hup _ _ _ _ _ iv exb) T ((ex.trans e').trans exb) F'⟩
  · refine WSs.cons (ps_for C.own C.calm (pi_keys peW) pg pssW hf) (hv _ (fun _ _ h => h) _ ⟨q, ob, rfl, .inl ⟨ws, hqH, ?_⟩⟩)
    have SE := up_enter (f := .frz ob (.dK ws)) S0 hqH no (fun ys z => by cases z)
    rw [upd_id hqH] at SE
    have ex := up_exB (f := .frz ob (.dK ws)) S0 hqH rfl
    have exE : Ex E.H0 (upE E B q (.frz ob (.dK ws))).H0 := up_exE S0 hqH rfl
    exact forM_core (hg (upE E B q (.frz ob (.dK ws)))) SE (walk_keysE upd_same kr) F Inv (h0 _ ex) hup (fun a x σ' σ2 own' B' H' Q iv S' e' t F' => hs _ exE a x σ' σ2 own' B' H' Q iv S' (ex.trans e') t F')
      fun a σ' own' B' H' iv S' e' F' => by
        have T := up_back S0 hqH (fun ys z => by cases z) S'
        have exb := up_exBack (f := .frz ob (.dK ws)) S0 hqH rfl S'
        rw [upd_id (up_at S')] at T
        exact hd a σ' own' _ _ (hup _ _ _ _ _ iv exb) T ((ex.trans e').trans exb) F'
theorem tg_nameA {k0 : Nat} (C : Cok X k0) (L : Slot X j n) : TgOkA X (.Name n pos) R (tN j R) := ⟨_, pg_name (i := j) C.nd L.ix L.loc L.hf, fun E own B H v x σ S r Q k => k _ ⟨v, r, rfl⟩⟩
end
end Sg

namespace Sg
open PySem PySem.Spec PyProof.Rows L2
/-! tuple(reversed(a tuple)) -/
section
variable {prog : Program} {w : World} {A : Around} {E : Value → Shared → Prop} {s : Shared} {T : String} {it d : Addr} {n : Nat} {P : Nat → Value → Prop} {OK : Heap → Prop}
theorem self_collect {Q : List Value → Shared → Prop} (K : SelfSrc prog w T it d n P OK) (hh : A.handled = none) (hok : OK s.heap) (hn : n ≤ sizeLine)
    (hQ : ∀ (h' : Heap) (tk : Nat) (acc : Array Value), (∀ b o, b ≠ it → s.heap.get? b = some o → h'.get? b = some o) → ItemsOf P acc n → Q acc.toList { s with heap := h', toks := tk }) :
    wpAny (model prog w) A (collect (.ref it)) Q E s := by
  have hlt := K.there _ hok
  unfold collect
  refine wpAny_bind (wpAny_runValue (codeAny_builtin PySem.F.entry_proto_collect ?_))
  rw [Around.under_plainId PySem.F.plain_proto_collect _]
  show wpAny _ A.in1 (newList [] >>= fun l' => again (.builtin "list.__iadd__" ⟨[l', .ref it], []⟩)) _ _ s
  refine wpAny_bind (wpAny_newObj_type ?_)
  refine wpAny_pure ⟨plainId_quiet PySem.F.plain_list_iadd _, codeAny_builtin PySem.F.entry_list_iadd ?_⟩
  rw [Around.under_plainId PySem.F.plain_list_iadd _]
  have hS₁ : (s.heap.push { cls := .type "list", data := .seq ([] : List Value).toArray }).get? s.heap.objs.size = some { cls := .type "list", data := .seq ([] : List Value).toArray } := Heap.get?_push_size _ rfl
  show wpAny _ A.in1 (Builtin.List.listExtendWith (.ref s.heap.objs.size) (.ref it) (.ref s.heap.objs.size)) _ _ _
  refine self_extend (R := wants _ E) (s := { s with heap := s.heap.push { cls := .type "list", data := .seq ([] : List Value).toArray } }) K hh (K.keep _ _ hok fun b _ o e => Heap.get?_push_of_some _ e) _ (Nat.ne_of_gt hlt.1) (Nat.ne_of_gt hlt.2) _ _ hS₁ (fun h' tk acc' c' hk hS' hacc => ?_) hn
  show wpAny _ A (load s.heap.objs.size >>= _) _ _ _
  refine wpAny_bind (wpAny_load hS' ?_)
  refine wpAny_pure ?_
  exact hQ h' tk acc' (fun b o hb e => hk b o (Nat.ne_of_lt (Heap.lt_size e)) hb (Heap.get?_push_of_some _ e)) hacc
theorem code_tuple_new_rt {Q₁ : Value → Shared → Prop} (K : SelfSrc prog w "reversed" it d n P OK) (hh : A.handled = none) (hok : OK s.heap) (hn : n ≤ sizeLine)
    (h : ∀ (h' : Heap) (tk : Nat) (acc : Array Value), (∀ b o, b ≠ it → s.heap.get? b = some o → h'.get? b = some o) → ItemsOf P acc n →
      Q₁ (.ref h'.objs.size) { s with heap := h'.push { cls := .type "tuple", data := .seq acc }, toks := tk }) :
    codeAny (model prog w) A (.call (.builtin "tuple.__new__") ⟨[.type "tuple", .ref it], []⟩) (wants Q₁ E) s := by
  refine codeAny_of_tree ?_
  show wpAny _ A.in1 (do checkBuiltinCall "tuple.__new__" ⟨[.type "tuple", .ref it], []⟩; again (.builtin "tuple.__new__" ⟨[.type "tuple", .ref it], []⟩)) _ _ s
  refine wpAny_bind (wpAny_of_eq (PySem.F.newCall_tuple_1 _) (wpAny_pure ⟨plainId_quiet PySem.F.plain_tuple_new _, codeAny_builtin PySem.F.entry_tuple_new ?_⟩))
  rw [Around.under_plainId PySem.F.plain_tuple_new _]
  have hsub := sub_tuple_self
  have hinit := init_tuple_lookup
  have hmh := madeHere_tuple
  have hTI : s.TypeIs (.ref it) "reversed" := K.ty s hok
  have hh1 : A.in1.handled = none := hh
  wp_walk using wpAny_typeOf hTI, self_collect (A := A.in1) K hh1 hok hn
  intro h' tk acc hk hacc
  show wpAny _ _ (Builtin.Tuple.tupleExact acc.toList.toArray >>= fun v => ret v) _ _ _
  unfold Builtin.Tuple.tupleExact
  refine wpAny_bind (wpAny_newObj_type ?_ (by show acc.toList.toArray.size ≤ sizeLine; simp only [Array.toArray_toList]; rw [hacc.1]; exact hn))
  refine wpAny_pure ?_
  have e : acc.toList.toArray = acc := by simp
  rw [e]
  exact h h' tk acc hk hacc
theorem call_tuple_rt {Q : Value → Shared → Prop} (K : SelfSrc prog w "reversed" it d n P OK) (hh : A.handled = none) (hok : OK s.heap) (hn : n ≤ sizeLine)
    (hQ : ∀ (h' : Heap) (tk : Nat) (acc : Array Value), (∀ b o, b ≠ it → s.heap.get? b = some o → h'.get? b = some o) → ItemsOf P acc n →
      Q (.ref h'.objs.size) { s with heap := h'.push { cls := .type "tuple", data := .seq acc }, toks := tk }) :
    wpAny (model prog w) A (call (.type "tuple") [.ref it]) Q E s := by
  refine callType_codes (Q₁ := fun obj s₁ => s₁.TypeIs obj "tuple" ∧ Q obj s₁) PySem.F.called_tuple (PySem.F.typeCall_tuple_1 _) PySem.F.entry_object_init
    (code_tuple_new_rt (A := A.in1) K hh hok hn fun h' tk acc hk hacc => ⟨⟨_, Heap.get?_push_size _ rfl, rfl⟩, hQ h' tk acc hk hacc⟩) fun obj s₁ h₁ => ?_
  exact ⟨h₁.1, PySem.F.args_object_init_2 obj _, object_init_meets PySem.F.called_tuple.init.lookup PySem.F.called_tuple.made (by decide) prog w A.in1 _ s₁ ⟨h₁.1, rfl, h₁.2⟩⟩
end
def tTupRevT (K : PySem.W.Frag) (te : TE) : TE := fun σ H Q => te σ H fun v H1 => ∃ (a : Addr) (xs : List V), v = .ref a ∧ SqT K H1 a xs ∧ ∀ q, H1 q = none → Q (.ref q) (upd H1 q (.tup xs.reverse))
section
variable {X : Cx}
theorem pe_tupRevT {e : Expr} {te : TE} {p p2 pos pos2 : Pos} (hc : X.calm = true) (hg : Gl X "tuple") (hm : X.mg "tuple" = none) (hg2 : Gl X "reversed") (hm2 : X.mg "reversed" = none) (he : PE X e te)
    (hs : starEach [e] X.env = (false, eval e X.env) :: starEach [] X.env := by rfl)
    (hs2 : starEach [.Call (.Name "reversed" p2) [e] [] pos2] X.env = (false, eval (.Call (.Name "reversed" p2) [e] [] pos2) X.env) :: starEach [] X.env := by rfl) :
    PE X (.Call (.Name "tuple" p) [.Call (.Name "reversed" p2) [e] [] pos2] [] pos) (tTupRevT X.K te) := by
  refine ⟨fun pins s σ H Q I h => ?_⟩
  refine Call_ (ld_blt I hg hm (show bootBuiltins "tuple" = some (.type "tuple") from by decide +kernel) (PyProof.Rows.callWith_type1 (args_cons (Call_ (ld_blt I hg2 hm2 PyProof.Rows.boot_reversed (PyProof.Rows.callWith_type1 (args_cons (thn (he.run pins s σ H _ I h) fun u s1 ⟨v, H1, I1, r1, q1⟩ => args_nil ?_) hs) hs rfl))) hs2) hs2 rfl))
  obtain ⟨a, xs, ev, hq, q⟩ := q1
  subst ev
  obtain rfl : u = Value.ref a := r1
  obtain ⟨its, rv, p', hz⟩ := I1.tuple hq
  have hn := line63
  refine RT.call_reversed_tup p' (fun A E Q k => PyProof.Rows.len_tuple p' (by simp only [List.size_toArray] <;> (have := rv.length; omega)) k) (args_nil ?_)
  have k0 : ∀ b o, s1.heap.get? b = some o → (s1.heap.push (RT.rtObj a ((its.toArray.size : Int) - 1))).get? b = some o := fun b o e => Heap.get?_push_of_some _ e
  obtain ⟨ol, hol, _⟩ := id p'
  have hne : a ≠ s1.heap.objs.size := Nat.ne_of_lt (Heap.lt_size hol)
  have hz2 : its.toArray.size ≤ sizeLine := by rw [List.size_toArray, ← rv.length]; exact hz
  have I2 : Inv X pins σ H1 { s1 with heap := s1.heap.push (RT.rtObj a ((its.toArray.size : Int) - 1)), toks := s1.toks + 1 + 1 } := I1.kept (t' := s1.toks + 1 + 1) k0
  obtain ⟨f0, f1, f2, f3, f4, f5⟩ := I1.fpOk (H' := H1) (b := s1.heap.objs.size) (Nat.le_refl _) (I1.hok.fresh (Nat.le_refl _))
  refine call_tuple_rt (s := { s1 with heap := s1.heap.push (RT.rtObj a ((its.toArray.size : Int) - 1)), toks := s1.toks + 1 + 1 }) (src_rt hne hz2) (I1.ok.hd hc) ⟨⟨_, Heap.get?_push_size _ rfl, rfl, rfl⟩, p'.push _⟩ hz2 fun h' tk acc hk hi => ?_
  have I3 : Inv X pins σ H1 { s1 with heap := h', toks := tk } := I2.turned (t' := tk) (fun b o hb e => hk b o hb e) f0 f1 f3 f4 f5
  refine ⟨.ref h'.objs.size, upd H1 h'.objs.size (.tup xs.reverse), I3.laid (t' := tk) (fun c o e => Heap.get?_push_of_some _ e) (Nat.le_refl _) (show ObjOk X.prog X.w _ _ _ (.tup xs.reverse) from ⟨by rw [List.length_reverse]; exact hz, acc.toList, RT.vals_rev rv hi, ?_⟩), rfl, q _ (I3.hok.fresh (Nat.le_refl _))⟩
  rw [Array.toArray_toList]
  exact IsTup.new _ _
end
section
variable {X : Cx} {E : Ent} {own : Own} {B H : Hp} {σ : L2.St} {α : Type} {R : Rel α} {a : Expr} {p pos : Pos} {xs : List α}
theorem ee_tupleRT [Imm R] {p2 pos2 : Pos} (hc : X.calm = true) (hg : Gl X "tuple") (hm : X.mg "tuple" = none) (hg2 : Gl X "reversed") (hm2 : X.mg "reversed" = none) (ha : EvB X E own B H σ a (rTup R) xs) (hs : St1 X a := by rfl)
    (hs2 : starEach [.Call (.Name "reversed" p2) [a] [] pos2] X.env = (false, eval (.Call (.Name "reversed" p2) [a] [] pos2) X.env) :: starEach [] X.env := by rfl) : EvE X E own B H σ (.Call (.Name "tuple" p) [.Call (.Name "reversed" p2) [a] [] pos2] [] pos) (rTup R) xs.reverse := fun B1 H1 S1 e1 e2 Q k =>
  WE.of (pe_tupRevT hc hg hm hg2 hm2 peW hs hs2) (ha B1 H1 S1 e1 e2 _ fun v B2 H2 S2 e3 e4 r => by
    obtain ⟨q, vs, h1, h2, h3⟩ := r
    refine ⟨q, vs, h1, SqT.of h2, fun l hl => ?_⟩
    exact k (.ref l) _ _ (S2.lay hl) (e3.trans (S2.layB hl).ex) (e4.trans (Sx.new hl).ex) ⟨l, vs.reverse, rfl, upd_same, prev (pimp h3 fun _ _ z => R.mono (S2.layB hl).ex (Imm.imm S2.tu z))⟩)
/-! an item that holds a list -/
theorem ee_ixL {o : Expr} {x : α} {q : Int} (ho : EvE X E own B H σ o (rLst R) xs) (ha : EvB X E own B H σ a rInt q) (hx : atI xs q = some x) (hs : PlainIx a := by exact fun _ _ => rfl) : EvE X E own B H σ (.Subscript o a pos) R x := fun B1 H1 S1 e1 e2 Q k =>
  WE.of (pe_ix ix_list peW peW hs) (ho B1 H1 S1 e1 e2 _ fun v B2 H2 S2 e3 e4 r => ha B2 H2 S2 (e1.trans e3) (e2.trans e4) _ fun w B3 H3 S3 e5 e6 r' => by
    obtain ⟨l, vs, h1, h2, h3⟩ := Rel.mono _ e5 r
    obtain ⟨u, hu, hF⟩ := pat h3 hx
    exact ⟨l, vs, q, u, h1, r', .inl (h2.imp (S3.bh _ _) fun ⟨o, h⟩ => ⟨o, S3.bh _ _ h⟩), hu, k u B3 H3 S3 (e3.trans e5) (e4.trans e6) hF⟩)
instance {K : PySem.W.Frag} {β γ : Type} {S : Rel β} {T : Rel γ} [D : DatK K R] [F : DatK K S] [G : DatK K T] : DatK K (rT3 R S T) := ⟨fun x => .tuple [D.d x.1, F.d x.2.1, G.d x.2.2], fun h => by
    obtain ⟨p, a, b, c, h1, h2, h3, h4, h5⟩ := h
    rw [h1]
    exact .tup (SqT.of h2) (.cons (D.rd h3) (.cons (F.rd h4) (.cons (G.rd h5) .nil))), fun x => by
    show (PyData.canLay0 (D.d x.1) && (PyData.canLay0 (F.d x.2.1) && (PyData.canLay0 (G.d x.2.2) && true))) = true
    rw [D.lay, F.lay, G.lay] <;> rfl, max D.n (max F.n G.n) + 1, fun x => by
    show max (PyData.depth (D.d x.1)) (max (PyData.depth (F.d x.2.1)) (max (PyData.depth (G.d x.2.2)) 0)) + 1 ≤ max D.n (max F.n G.n) + 1
    have := D.dep x.1
    have := F.dep x.2.1
    have := G.dep x.2.2
    omega, fun x y => by
    show (PyData.eqv (D.d x.1) (D.d y.1) && (PyData.eqv (F.d x.2.1) (F.d y.2.1) && (PyData.eqv (G.d x.2.2) (G.d y.2.2) && true))) = true ↔ _
    rw [Bool.and_eq_true, Bool.and_eq_true, Bool.and_true, D.eq, F.eq, G.eq]
    exact ⟨fun h => Prod.ext h.1 (Prod.ext h.2.1 h.2.2), fun h => by rw [h]; exact ⟨rfl, rfl, rfl⟩⟩⟩
end
end Sg

namespace Sg
open PySem PySem.Spec PyProof.Rows L2
/-! ### sorted(list, key = a bound method) -/
def leK {α : Type} (f : α → Int) (a b : α) : Bool := decide (f a ≤ f b)
theorem dataLe_intK {α : Type} (k : α → Int) : PySem.W.dataLe false (fun x => PyData.int (k x)) = leK k := PySem.W.dataLe_int k
section
variable {X : Cx} {pins : List (Addr × Obj)} {σ : L2.St} {H : Hp} {s : Shared} {kk : Nat} {q g t : Addr} {sp : Sp} {xs : List V} {ks : List Int} {vs : List Value}
theorem ints_each {h : Heap} : ∀ {us : List Value} {ns : List Int}, IntsAre us ns → PySem.W.EachIs (fun v k => ∃ as, Reads h v k as) us (ns.map PyData.int)
  | _, _, .nil => .nil
  | _, _, .cons n t r => .cons ⟨_, Reads.int n t⟩ (ints_each r)
theorem vals_each : ∀ {xs : List V} {us : List Value} {ks : List Int}, Vals xs us → ks.length = xs.length → PySem.W.EachIs (fun u (p : V × Int) => RelV p.1 u) us (xs.zip ks)
  | _, _, [], .nil, _ => .nil
  | _, _, _ :: _, .nil, h => by cases h
  | _, _, [], .cons _ _, h => by cases h
  | _, _, k :: ks, .cons r rs, h => .cons r (vals_each rs (Nat.succ.inj h))
theorem each_vals : ∀ {us : List Value} {ps : List (V × Int)}, PySem.W.EachIs (fun u (p : V × Int) => RelV p.1 u) us ps → Vals (ps.map (·.1)) us
  | _, _, .nil => .nil
  | _, _, .cons r rs => .cons r (each_vals rs)
theorem zip_map2 : ∀ {xs : List V} {ks : List Int}, ks.length = xs.length → (xs.zip ks).map (fun p => PyData.int p.2) = ks.map PyData.int
  | [], [], _ => rfl
  | _ :: _, _ :: _, h => congrArg (List.cons _) (zip_map2 (Nat.succ.inj h))
  | [], _ :: _, h => by cases h
  | _ :: _, [], h => by cases h
/-- the state between two keys -/
structure KeyAt (X : Cx) (pins : List (Addr × Obj)) (σ : L2.St) (W : Nat → Hp → Prop) (ks : List Int) (kS a : Addr) (e1 : Nat) (i : Nat) (s : Shared) : Prop where
  st : ∃ (H : Hp) (kA : Array Value) (e : Nat), Inv X pins σ H s ∧ W i H ∧ H kS = none ∧ H a = none ∧ s.heap.get? kS = some (seqObj "list" kA e) ∧ s.heap.get? a = some (seqObj "list" #[] e1) ∧ IntsAre kA.toList (ks.take i)
theorem key_rest {A : Around} {R : PySem.Fin → Shared → Prop} {E' : Value → Shared → Prop} {W : Nat → Hp → Prop} {kS a : Addr} {e1 : Nat} (hr : Room kk A) (hA : A.frames = some X.stack) (F : FnR X.prog X.w X.K X.mg X.base CX0 kk g sp)
    (rS : FbM.Rec X pins kS) (ra : FbM.Rec X pins a) (hne : kS ≠ a) (hv : Vals xs vs) (hl : ks.length = xs.length) (hz : xs.length ≤ sizeLine)
    (hq : ∀ i H, W i H → H q = some (.met g t)) (hW : ∀ i x k H, xs[i]? = some x → ks[i]? = some k → W i H → sp [.ref t, x] H (fun v H' => v = .int k ∧ W (i + 1) H') E0)
    (h0 : KeyAt X pins σ W ks kS a e1 0 s)
    (hQ : ∀ s' H' ys, Inv X pins σ (upd H' a (.lst ys)) s' → W xs.length H' → H' a = none → ys = ((xs.zip ks).mergeSort (leK (·.2))).map (·.1) → R (.done (.ret .none)) s') :
    wpAny (model X.prog X.w) A (ksk_rest a (.ref q) false vs.toArray e1 (.ref kS)) R E' s := by
  unfold ksk_rest
  refine wpAny_bind (wpAny_rule ?_)
  rw [List.forIn_toArray]
  have hlv : xs.length = vs.length := hv.length
  refine wpAny_bind (ksk_fold (KeyAt X pins σ W ks kS a e1) vs 0 s h0 ?step ?done)
  case step =>
    intro j u s' hu ⟨⟨H, kA, e, I, w, nS, na, gS, ga, hk⟩⟩
    simp only [Nat.zero_add] at w hk ⊢
    have hj : j < vs.length := (List.getElem?_eq_some_iff.mp hu).1
    obtain ⟨x, hx⟩ : ∃ x, xs[j]? = some x := ⟨_, List.getElem?_eq_getElem (by omega)⟩
    obtain ⟨k, hkj⟩ : ∃ k, ks[j]? = some k := ⟨_, List.getElem?_eq_getElem (by omega)⟩
    obtain ⟨u', hu', rx⟩ := hv.get hx
    rw [hu] at hu'
    cases hu'
    have e0 := I.env0
    have e1' : Env0 X.prog X.w X.K X.mg X.base A X.stack s' H := ⟨hA, e0.mod, e0.bs, e0.bsz, e0.funs, e0.frf, e0.hok, e0.bare⟩
    have hqm : s'.heap.get? q = some (PySem.W.methodObj (.ref g) (.ref t)) := I.hok q _ (hq j H w)
    refine wpAny_bind (wpAny_attempt (wpAny_mono (Q := fun v s2 => ∃ H' n, v = Value.int k n ∧ Inv X pins σ H' s2 ∧ W (j + 1) H' ∧ H' kS = none ∧ H' a = none ∧ s2.heap.get? kS = some (seqObj "list" kA e) ∧ s2.heap.get? a = some (seqObj "list" #[] e1)) (E := fun _ _ => False)
      (wpAny_call (PySem.W.method_call hqm (codeAny_mono (F A X.stack s' H [.ref t, u] [.ref t, x] _ E0 hr e1' (.cons rfl (.cons rx .nil)) (hW j x k H hx hkj w)) fun rr s2 hrr => ?_))) (fun v s2 hp => ?_) fun _ _ hF => hF.elim))
    · cases rr with
      | error e => exact hrr.elim
      | ok fl =>
        cases fl with
        | next => exact False.elim hrr
        | brk => exact False.elim hrr
        | cont => exact False.elim hrr
        | ret v =>
          obtain ⟨v', H', os, bare, un, hok, rv', ev, w'⟩ := (show CE X.stack X.prog X.w H _ _ v s2 from hrr)
          subst ev
          obtain ⟨n, rfl⟩ := rv'
          exact ⟨H', n, rfl, I.call' os un hok bare (fun b y => absurd y List.not_mem_nil), w', un.free _ _ gS nS List.not_mem_nil, un.free _ _ ga na List.not_mem_nil, un.keep _ _ gS nS rS.fr List.not_mem_nil, un.keep _ _ ga na ra.fr List.not_mem_nil⟩
    · obtain ⟨H', n, rfl, I2, w', nS', na', gS', ga'⟩ := hp
      have hz2 : kA.size ≤ sizeLine := by
        have h1 := hk.length
        rw [Array.length_toList, List.length_take] at h1
        omega
      have s1 := Heap.SameBut.update s2.heap kS (Obj.mapSeq (·.push (Value.int k n)))
      obtain ⟨c2, hc2⟩ : ∃ c2, (s2.heap.update kS (Obj.mapSeq (·.push (Value.int k n)))).get? kS = some (seqObj "list" (kA.push (Value.int k n)) c2) := ⟨_, get?_update_seq gS' (·.push (Value.int k n))⟩
      refine wpAny_bind (listUpdate_at gS' rfl ?_ hz2 (Nat.le_trans (Nat.le_of_eq (Array.size_push ..)) (Nat.succ_le_succ hz2)))
      refine wpAny_pure ⟨rfl, ⟨H', kA.push (Value.int k n), c2, rS.turn (t' := s2.toks) I2 nS' (fun c o hc eo => (s1.2 c hc).trans eo), w', nS', na', hc2, (s1.2 a hne.symm).trans ga', ?_⟩⟩
      have ek : ks.take (j + 1) = ks.take j ++ [k] := by rw [List.take_add_one, hkj]; simp
      have ea : (kA.push (Value.int k n)).toList = kA.toList ++ [Value.int k n] := by simp
      rw [ea, ek]
      exact ksk_snoc hk
  case done =>
    intro s' ⟨⟨H, kA, e, I, w, nS, na, gS, ga, hk⟩⟩
    simp only [Nat.zero_add] at w hk
    rw [← hlv] at w hk
    rw [← hl, List.take_length] at hk
    refine wpAny_bind (listItems_at gS rfl ?_)
    have hh := PySem.W.hideAll_get
    have kp : PySem.W.KeepsBut a (PySem.W.hideAll s'.heap [kS]) s'.heap := fun b o _ eb => PySem.W.of_hideAll [kS] eb
    have hnone : (PySem.W.hideAll s'.heap [kS]).get? kS = none := PySem.W.hideAll_none [kS] (List.mem_singleton.mpr rfl)
    have hsz : kA.size = vs.length := by
      have h1 := hk.length
      rw [Array.length_toList] at h1
      omega
    have hal : PySem.W.AllAlike (ks.map PyData.int) := fun d hd d' hd' => by
      obtain ⟨_, _, rfl⟩ := List.mem_map.mp hd
      obtain ⟨_, _, rfl⟩ := List.mem_map.mp hd'
      rfl
    have hsk : PySem.W.Sortable (ks.map PyData.int) := .inr fun d hd => by
      obtain ⟨_, _, rfl⟩ := List.mem_map.mp hd
      exact ⟨(fun z => by cases z), (fun xs z => by cases z)⟩
    have hu : ∀ d, d ∈ ks.map PyData.int → A.units + d.depth < cLine := fun d hd => by
      obtain ⟨_, _, rfl⟩ := List.mem_map.mp hd
      have := hr.un
      show A.units + 0 < _
      omega
    refine PySem.W.keyH_end (κ := PySem.W.dataKind s'.heap (ks.map PyData.int)) (h₁ := PySem.W.hideAll s'.heap [kS]) kp hnone gS ga hne (PySem.W.SortsAt.data (ints_each hk) hal hsk hu) hsz (by omega) fun h' tk c hkeep hget => ?_
    have hko : PySem.W.KeyedOut false ((xs.zip ks).map (fun p => PyData.int p.2)) vs (PySem.W.sortVals (PySem.W.dataKind s'.heap (ks.map PyData.int)) false kA.toList vs) := by
      rw [zip_map2 hl]
      exact ⟨s'.heap, kA.toList, hal, rfl, ints_each hk⟩
    have hev := PySem.W.keyedOut_each (fun p : V × Int => PyData.int p.2) hko (vals_each hv hl)
    rw [dataLe_intK] at hev
    have hvals := each_vals hev
    generalize PySem.W.sortVals (PySem.W.dataKind s'.heap (ks.map PyData.int)) false kA.toList vs = out at hget hvals
    have keepall : ∀ b o, b ≠ kS → b ≠ a → s'.heap.get? b = some o → h'.get? b = some o := fun b o h1 h2 eb => hkeep b o h2 (PySem.W.hideAll_get [kS] eb (fun z => h1 (List.mem_singleton.mp z)))
    have hlen : (((xs.zip ks).mergeSort (leK (·.2))).map (·.1)).length ≤ sizeLine := by
      rw [List.length_map, List.length_mergeSort, List.length_zip]
      omega
    refine hQ _ H _ ?_ w na rfl
    have tr : ∀ b u, H b = some u → b ≠ kS ∧ b ≠ a := fun b u eb => ⟨(fun z => by rw [z, nS] at eb; cases eb), (fun z => by rw [z, na] at eb; cases eb)⟩
    refine I.step (g' := s'.gens) (d' := s'.drawn) (ch := [kS, a]) (fun b hb => ?_) (fun b o _ _ hc eb _ => keepall b o (fun z => hc (by simp [z])) (fun z => hc (by simp [z])) eb) (fun b o _ _ hc eb _ => ⟨o.slots, keepall b o (fun z => hc (by simp [z])) (fun z => hc (by simp [z])) eb⟩)
      (fun b o hc _ n => by rw [upd_ne (fun z => hc (by simp [z]))]; exact n) (fun b o hc eb => ⟨o, keepall b o (fun z => hc (by simp [z])) (fun z => hc (by simp [z])) eb⟩)
      (fun b xs eb => by rw [upd_ne (tr b _ eb).2]; exact eb) (fun b o u eb => by rw [upd_ne (tr b _ eb).2]; exact eb) (fun b ps eb => ⟨#[], by rw [upd_ne (tr b _ eb).2, eb]; simp⟩) (fun m hm => ?_) (fun b u eb => ?_) I.bare
    · rcases List.mem_cons.mp hb with rfl | hb
      · exact ⟨.inr rS.ge, rS.nl, rS.ce, rS.pn⟩
      · rw [List.mem_singleton.mp hb]
        exact ⟨.inr ra.ge, ra.nl, ra.ce, ra.pn⟩
    · obtain ⟨o, es, ep, ho, r⟩ := hm
      exact ⟨o, es, ep, keepall _ o rS.nl.symm ra.nl.symm ho, r⟩
    · by_cases hb : b = a
      · subst hb
        rw [upd_same] at eb
        cases eb
        exact ⟨hlen, out, c, hvals, hget⟩
      · rw [upd_ne hb] at eb
        refine (I.hok b u eb).stay (fun c v hc qv => keepall c v (fun z => ?_) (fun z => ?_) qv) (fun c qv => ?_) (fun c xs qv => ?_)
        · rcases hc with hc | hc
          · exact (tr b u eb).1 (hc.symm.trans z)
          · exact (tr c _ hc).1 z
        · rcases hc with hc | hc
          · exact (tr b u eb).2 (hc.symm.trans z)
          · exact (tr c _ hc).2 z
        · rw [upd_ne (tr c _ qv).2]
          exact qv
        · rw [upd_ne (tr c _ qv).2]
          exact qv
/-- list.sort with the key, from the copied list on -/
theorem key_tree {A : Around} {R : PySem.Fin → Shared → Prop} {E' : Value → Shared → Prop} {W : Nat → Hp → Prop} (hr : Room kk A) (hA : A.frames = some X.stack) (F : FnR X.prog X.w X.K X.mg X.base CX0 kk g sp)
    (I : Inv X pins σ H s) (hv : Vals xs vs) (hl : ks.length = xs.length) (hz : xs.length ≤ sizeLine)
    (hq : ∀ i H, W i H → H q = some (.met g t)) (hW : ∀ i x k H, xs[i]? = some x → ks[i]? = some k → W i H → sp [.ref t, x] H (fun v H' => v = .int k ∧ W (i + 1) H') E0) (h0 : W 0 H)
    (hQ : ∀ s' H' ys, Inv X pins σ (upd H' (s.heap.objs.size + 1) (.lst ys)) s' → W xs.length H' → H' (s.heap.objs.size + 1) = none → ys = ((xs.zip ks).mergeSort (leK (·.2))).map (·.1) → R (.done (.ret .none)) s') :
    wpAny (model X.prog X.w) A (ksk_tree (s.heap.objs.size + 1) (.ref q) false) R E' { s with heap := PySem.W.copyHeap s.heap vs } := by
  have ho := PySem.W.copyHeap_at s.heap vs
  have hz' : vs.length ≤ sizeLine := by rw [← hv.length]; exact hz
  obtain ⟨e1, ho1⟩ : ∃ e1, ((PySem.W.copyHeap s.heap vs).update (s.heap.objs.size + 1) (Obj.mapSeq fun _ => (#[] : Array Value))).get? (s.heap.objs.size + 1) = some (seqObj "list" #[] e1) := ⟨_, get?_update_seq ho fun _ => #[]⟩
  have ha : s.heap.objs.size + 1 < (PySem.W.copyHeap s.heap vs).objs.size := Heap.lt_size ho
  have hkS : (((PySem.W.copyHeap s.heap vs).update (s.heap.objs.size + 1) (Obj.mapSeq fun _ => (#[] : Array Value))).push (seqObj "tuple" vs.toArray 0)).objs.size = (PySem.W.copyHeap s.heap vs).objs.size + 1 := by rw [size_push', Heap.size_update]
  unfold ksk_tree
  refine wpAny_bind (listItems_at ho rfl ?_)
  refine wpAny_bind (listUpdate_at ho rfl ?_ (by rw [List.size_toArray]; exact hz') (Nat.zero_le _))
  refine wpAny_bind (seqEpoch_at ho1 rfl ?_)
  refine wpAny_bind (wpAny_newTuple ?_ (by show vs.length ≤ _; exact hz'))
  refine wpAny_bind (wpAny_newList ?_ (Nat.zero_le _))
  refine wpAny_holding ?_
  have hcs : (PySem.W.copyHeap s.heap vs).objs.size = s.heap.objs.size + 2 := by
    unfold PySem.W.copyHeap
    rw [size_push', Heap.size_update, size_push']
  have nS : H (((PySem.W.copyHeap s.heap vs).update (s.heap.objs.size + 1) (Obj.mapSeq fun _ => (#[] : Array Value))).push (seqObj "tuple" vs.toArray 0)).objs.size = none := I.hok.fresh (by rw [hkS, hcs]; exact Nat.le_add_right _ 3)
  have na : H (s.heap.objs.size + 1) = none := I.hok.fresh (Nat.le_succ _)
  have I2 : Inv X pins σ H { s with heap := PySem.W.sortingHeap (PySem.W.copyHeap s.heap vs) (s.heap.objs.size + 1) vs } := I.kept (t' := s.toks) fun b u e => PySem.W.sortingHeap_old (Nat.ne_of_lt (Nat.lt_succ_of_lt (Heap.lt_size e))) (PySem.W.copyHeap_old e)
  refine key_rest hr hA F (FbM.rec_new I (by rw [hkS, hcs]; exact Nat.le_add_right _ 3)) (FbM.rec_new I (Nat.le_succ _)) (by rw [hkS, hcs]; exact Nat.ne_of_gt (Nat.lt_add_of_pos_right (by decide : 0 < 2))) hv hl hz hq hW ⟨⟨H, #[], 0, I2, h0, nS, na, Heap.get?_push_size _ rfl, Heap.get?_push_of_some _ (Heap.get?_push_of_some _ ho1), .nil⟩⟩ hQ
end
/-- a method whose value may be taken -/
def BCal (X : Cx) (k : Nat) (C : Addr) (n : Str) (ps : List Str) (sp : Sp) : Prop := ∃ (f : Addr) (fd : FuncData), FnOk X.prog X.w X.K X.mg X.base CX0 k f fd ps sp ∧ BMeth X.K C n f ∧ Binds X.K fd ps []
def tBnd (K : PySem.W.Frag) (C : Addr) (m : Str) (g : Addr) (ta : TE) : TE := fun σ H Q => ta σ H fun x H1 => ∃ a dx fs, x = .ref a ∧ H1 a = some (.ins C dx fs) ∧ fs.lookup m = none ∧ ∀ q, H1 q = none → Q (.ref q) (upd H1 q (.met g a))
theorem pe_bnd {X : Cx} {e : Expr} {ta : TE} {C g : Addr} {m : Str} {pos : Pos} (he : PE X e ta) (c : Cls X.K C) (b : BMeth X.K C m g) (hb : attributeBase e m X.env (eval e X.env) = eval e X.env) : PE X (.Attribute e m pos) (tBnd X.K C m g ta) := by
  refine ⟨fun pins s σ H Q I h => ?_⟩
  refine attr_of hb (thn (he.run pins s σ H _ I h) fun u s1 ⟨x, H1, I1, rx, a, dx, fs, ex, ea, l, q⟩ => ?_)
  subst ex
  obtain rfl : u = Value.ref a := rx
  exact getbound_ok I1 ea c b l fun p s2 hp I2 => ⟨.ref p, _, I2, rfl, q p hp⟩
section
variable {X Xb : Cx} {E : Ent} {own new own' : Own} {B H B' H' : Hp} {σ : L2.St} {α β γ δ τ ρ ρ' : Type} {R : Rel α} {S : Rel β} {T : Rel γ} {U : Rel δ} {e a b c d o it tg : Expr} {x : α} {y : β} {p pos pos' apos kpos : Pos} {i j k k0 : Nat} {z w : Bool} {xs : List α} {ys : List β} {es : List Expr}
variable {n m f : Str} {rest body other : List Stmt} {D : Ends} {P : ρ → Prop} {Er : Err → Prop} {ps : List Str} {CA : Addr} {scope : Scope}
theorem Blk.bcal {sp : Sp} (h : Blk X scope Xb) (G : BCal X k CA n ps sp) : BCal Xb k CA n ps sp := by
  obtain ⟨s, H, Cc, cl, fp, rfl⟩ := h
  exact G
theorem plen2 {P : α → β → Prop} {l₁ : List α} {l₂ : List β} (h : Paired P l₁ l₂) : l₁.length = l₂.length := plen h
theorem paired_zip {P : V → α → Prop} : ∀ {vs : List V} {xs : List α}, Paired P vs xs → (vs.zip xs).map (·.1) = vs ∧ (vs.zip xs).map (·.2) = xs ∧ ∀ q ∈ vs.zip xs, P q.1 q.2
  | _, _, .nil => ⟨rfl, rfl, fun q h => nomatch h⟩
  | _, _, .cons h t => by
    obtain ⟨h1, h2, h3⟩ := paired_zip t
    refine ⟨congrArg (List.cons _) h1, congrArg (List.cons _) h2, fun q hq => ?_⟩
    rcases List.mem_cons.mp hq with rfl | hq
    · exact h
    · exact h3 q hq
theorem paired_of {P : V → α → Prop} : ∀ {zs : List (V × α)}, (∀ q ∈ zs, P q.1 q.2) → Paired P (zs.map (·.1)) (zs.map (·.2))
  | [], _ => .nil
  | q :: r, h => .cons (h q (List.mem_cons_self ..)) (paired_of fun z hz => h z (List.mem_cons_of_mem _ hz))
theorem paired_sort {P : V → α → Prop} {vs : List V} {xs : List α} (h : Paired P vs xs) (key : α → Int) : Paired P (((vs.zip (xs.map key)).mergeSort (leK (·.2))).map (·.1)) (xs.mergeSort (leK key)) := by
  obtain ⟨h1, h2, h3⟩ := paired_zip h
  have e1 : vs.zip (xs.map key) = (vs.zip xs).map (fun q => (q.1, key q.2)) := by
    rw [List.zip_map_right]
    rfl
  have e2 : ((vs.zip xs).map (fun q => (q.1, key q.2))).mergeSort (leK (·.2)) = ((vs.zip xs).mergeSort (leK fun q => key q.2)).map (fun q => (q.1, key q.2)) := (List.map_mergeSort (r := leK fun q : V × α => key q.2) (s := leK (·.2)) (f := fun q : V × α => (q.1, key q.2)) (fun a _ b _ => rfl)).symm
  have e3 : xs.mergeSort (leK key) = ((vs.zip xs).mergeSort (leK fun q => key q.2)).map (·.2) := by
    refine Eq.trans ?_ (List.map_mergeSort (r := leK fun q : V × α => key q.2) (s := leK key) (f := fun q : V × α => q.2) (fun a _ b _ => rfl)).symm
    rw [h2]
  rw [e1, e2, e3, List.map_map]
  exact paired_of fun q hq => h3 q (List.mem_mergeSort.mp hq)
theorem callr_any {f : Value} {ks : List Str} : CallRK X f ks (fun vs zs H Q => ∀ (pins : List (Addr × Obj)) (s : Shared) (σ : L2.St) (us ws : List Value), Inv X pins σ H s → Vals vs us → Vals zs ws → wpAny (model X.prog X.w) X.A (call f us (ks.zip ws)) (EP X pins σ Q) X.xe s) :=
  fun pins s σ H xs zs us ws Q I r rz h => h pins s σ us ws I r rz
/-- sorted(e, key=o.m) -/
theorem el_sortKey [Imm R] {args : δ → AR} {fm : δ → Res Int} {dk : α → δ} {key : α → Int} (C : Cok X k0) (cls : Cls X.K CA) (G : BCal X k CA m ps (SpA args (kE rInt) fm)) (hk : k + 2 ≤ k0) (hg : Gl X "sorted") (hm : X.mg "sorted" = none) (ha : EvB X E own B H σ a (rLst R) xs) (ho : EvB X E own B H σ o S y) (hi : InsOf CA m S)
    (hA : ∀ x, args (dk x) = aC S y (aC R x aN)) (hf : ∀ x ∈ xs, fm (dk x) = .ok (key x)) (hs : St1 X a := by rfl) (hb : attributeBase o m X.env (eval o X.env) = eval o X.env := by rfl)
    (he : backTo pos (starEach (a :: []) X.env) = (false, eval a X.env) :: backTo pos (starEach [] X.env) := by rfl) (hpl : (backTo pos (starEach (a :: []) X.env)).any (·.1) = false := by rfl)
    (hall : (backToKw pos (keywordEach [⟨some "key", .Attribute o m apos, kpos⟩] X.env)).all (·.1.isSome) = true := by rfl) (hnone : (backToKw pos (keywordEach [⟨some "key", .Attribute o m apos, kpos⟩] X.env)).any (·.1.isNone) = false := by rfl) (hks : (backToKw pos (keywordEach [⟨some "key", .Attribute o m apos, kpos⟩] X.env)).filterMap (·.1) = [Str.ofString "key"] := by rfl) :
    EvL X E own B H σ (.Call (.Name "sorted" p) [a] [⟨some "key", .Attribute o m apos, kpos⟩] pos) R (xs.mergeSort (leK key)) := fun B1 H1 S1 e1 e2 Q kq => by
  obtain ⟨f, fd, F, bm, hbd⟩ := G
  refine WE.of (pe_callBK (id := "sorted") callr_any hg hm (by decide +kernel) (pa1 hs) (pk_cons (pe_bnd peW cls bm hb) pk_nil) (he := he) (hpl := hpl) (hall := hall) (hnone := hnone) (hks := hks)) (ha B1 H1 S1 e1 e2 _ fun v B2 H2 S2 e3 e4 r => ?_)
  refine ho B2 H2 S2 (e1.trans e3) (e2.trans e4) _ fun w B3 H3 S3 e5 e6 r2 => ?_
  obtain ⟨t, dx, fs, rfl, h2, h3⟩ := hi r2
  refine ⟨t, dx, fs, rfl, h2, h3, fun q hq => ?_⟩
  intro pins s σ' us ws I rv rz
  obtain ⟨l, vs, rfl, hl, hp⟩ := Rel.mono _ e6 r
  have up : Ex H3 (upd H3 q (.met f t)) := (Sx.new hq).ex
  have hl' := up.rdL hl
  have hp' : Paired (R.r (upd H3 q (.met f t))) vs xs := pimp hp fun _ _ z => R.mono up z
  have S4 : Stt E ((q, .met f t) :: own) B3 (upd H3 q (.met f t)) := S3.alloc hq fun ys z => by cases z
  obtain rfl := Vals.ref1 rv
  obtain ⟨w1, rfl, ew⟩ := vals1 rz
  obtain rfl : w1 = Value.ref q := ew
  obtain ⟨its, rvs, pl, hz⟩ := I.list (.inl hl')
  show wpAny _ _ (call (.builtin "sorted") [.ref l] [(Str.ofString "key", .ref q)]) _ _ _
  refine PySem.W.sorted_of_sort pl.isList (by rw [← rvs.length]; exact hz) (ksk_s1 _ _) (fun _ => ksk_l1 _ _) fun E' => ?_
  rw [ksk_t1]
  have hr2 : Room k X.A.in1.in1 := ((C.room.mono hk).in1).in1
  have FR := FnOk.raw F hbd (.nil : Vals [] [])
  refine key_tree (ks := xs.map key) (W := fun _ H' => ∃ B', Stt E ((q, .met f t) :: own) B' H' ∧ Ex B3 B' ∧ Ex (upd H3 q (.met f t)) H') hr2 (by exact I.env0.frames) FR I rvs (by rw [List.length_map, plen hp]) hz (fun i H' ⟨B', S', _, _⟩ => (S'.ow _ (List.mem_cons_self ..)).2.2) (fun i x kx H' hx hkx ⟨B', S', e7, e8⟩ => ?_) ⟨B3, S4, Ex.refl _, Ex.refl _⟩ fun s' H' ys I' ⟨B', S', e7, e8⟩ hn ey => ?_
  · obtain ⟨x0, hx0, rx⟩ := L2.paired_get hp' hx
    rw [List.getElem?_map, hx0] at hkx
    have ek : key x0 = kx := Option.some.inj hkx
    subst ek
    show ∃ B d, _
    refine ⟨B', dk x0, S'.bh, S'.tu, ?_, ?_⟩
    · rw [hA]
      exact ⟨_, _, rfl, Rel.mono _ (up.trans e8) r2, _, _, rfl, R.mono e8 rx, rfl⟩
    · exact Fin.eq (hf x0 (List.mem_of_getElem? hx0)) fun v B4 H4 T r4 => ⟨r4, B4, S'.call T, e7.trans T.b0.ex, e8.trans T.h0.ex⟩
  · subst ey
    refine ⟨rfl, .ref _, _, I', rfl, ?_⟩
    refine kq _ _ B' _ (S'.drop.alloc hn fun ys z => by cases z) ((e3.trans e5).trans e7) ((((e4.trans e6).trans up).trans e8).trans (Sx.new hn).ex) ?_
    exact paired_sort (pimp hp' fun _ _ z => Imm.imm S'.tu (R.mono e8 z)) key
end
def BCalM (P : Program) (w : World) (K : PySem.W.Frag) (mg : Str → Option Value) (base : Heap) (k : Nat) (C : Addr) (n : Str) (ps : List Str) (sp : Sp) : Prop := ∃ (f : Addr) (fd : FuncData), FnOk P w K mg base CX0 k f fd ps sp ∧ BMeth K C n f ∧ Binds K fd ps []
/-- what a thing that goes well gives -/
def Res.isOk {α : Type} : Res α → Bool
  | .ok _ => true
  | _ => false
def Res.getI : Res Int → Int
  | .ok i => i
  | _ => 0
theorem Res.all_ok {α : Type} {f : α → Res Int} {xs : List α} (h : xs.all (fun i => (f i).isOk) = true) : ∀ x ∈ xs, f x = .ok (f x).getI := fun x hx => by
  have := List.all_eq_true.mp h x hx
  cases e : f x with
  | ok i => rfl
  | err z => rw [e] at this; cases this
  | stuck => rw [e] at this; cases this
end Sg

namespace Sg
open PySem PySem.Spec PyProof.Rows L2
section
variable {X : Cx} {E : Ent} {own : Own} {B H : Hp} {σ : L2.St} {α : Type} {R : Rel α} {e : Expr} {x y : α} {pos : Pos} {k : Nat} {xs : List α} {rest : List Stmt} {D : Ends}
theorem two_of {P : V → α → Prop} : ∀ {vs : List V} {xs : List α}, Paired P vs xs → xs.length = 2 → xs[0]? = some x → xs[1]? = some y → ∃ u w, vs = [u, w] ∧ P u x ∧ P w y
  | _, _, .nil, h, _, _ => by cases h
  | _, _, .cons _ .nil, h, _, _ => by cases h
  | _, _, .cons h1 (.cons h2 .nil), _, hx, hy => by
    have ex := Option.some.inj hx
    have ey := Option.some.inj hy
    subst ex
    subst ey
    exact ⟨_, _, rfl, h1, h2⟩
  | _, _, .cons _ (.cons _ (.cons _ _)), h, _, _ => by
    rw [List.length_cons, List.length_cons, List.length_cons] at h
    omega
theorem s_unp2l {n1 n2 : Str} {i1 i2 : Nat} {p1 p2 tp : Pos} {kk : Nat} (C : Cok X k) (L1 : Slot X i1 n1) (L2' : Slot X i2 n2) (S0 : Stt E own B H) (he : EvE X E own B H σ e (rLst R) xs) (hl : xs.length = 2) (hx : xs[0]? = some x) (hy : xs[1]? = some y)
    (kt : ∀ v w B' H', Stt E own B' H' → Ex B B' → R.r B' v x → R.r B' w y → WSs X rest D ((σ.set i1 (some v)).set i2 (some w)) H')
    (hs : swapsWithSole [.Tuple [.Name n1 p1, .Name n2 p2] kk tp] e pos.line X.env = pure false := by rfl) (hw : swappedStores [.Tuple [.Name n1 p1, .Name n2 p2] kk tp] e X.env = pure none := by rfl) :
    WSs X (.Assign [.Tuple [.Name n1 p1, .Name n2 p2] kk tp] e pos :: rest) D σ H :=
  WSs.cons (ps_asg peW (pg_lst (n := 2) C.calm (pgs_cons (pg_name (i := i1) C.nd L1.ix L1.loc L1.hf) (pgs_cons (pg_name (i := i2) C.nd L2'.ix L2'.loc L2'.hf) pgs_nil))) hs hw) (he B H S0 (Ex.refl _) (Ex.refl _) _ fun v B2 H2 S2 e1 _ r => by
    obtain ⟨l, vs, h1, h2, h3⟩ := r
    obtain ⟨u, w, rfl, ru, rw'⟩ := two_of h3 hl hx hy
    exact ⟨l, [u, w], h1, .inl (S2.bh.ex.rdL h2), rfl, u, [w], rfl, w, [], rfl, rfl, kt u w B2 H2 S2 e1 ru rw'⟩)
variable {a b c : Expr} {i0 j0 : Int} {w0 : Bool} {op op' : CmpOp} {f g : Int → Int → Bool}
/-! chains by their rules -/
theorem ev_chR (c1 : CmpR X op rInt rInt f) (c2 : CmpR X op' rInt rInt g) (ha : EvB X E own B H σ a rInt i0) (hb : EvB X E own B H σ b rInt j0) (hc : f i0 j0 = true → ∃ l0, EvB X E own B H σ c rInt l0 ∧ w0 = g j0 l0) (hn : f i0 j0 = false → w0 = false) (hm : lastMarks [op, op'] [b, c] = false := by rfl) : EvB X E own B H σ (.Compare a [op, op'] [b, c] pos) rBool w0 := by
  obtain ⟨r1, o1, k1⟩ := c1.ok
  obtain ⟨r2, o2, k2⟩ := c2.ok
  exact ev_chP (T := rInt) o1 o2 hm ha hb (k1 i0 j0) (fun hz => by
    obtain ⟨l0, h3, h4⟩ := hc hz
    subst h4
    exact ⟨l0, h3, k2 j0 l0⟩) hn
theorem et_chR (c1 : CmpR X op rInt rInt f) (c2 : CmpR X op' rInt rInt g) (ha : EvB X E own B H σ a rInt i0) (hb : EvB X E own B H σ b rInt j0) (hc : f i0 j0 = true → ∃ l0, EvB X E own B H σ c rInt l0 ∧ w0 = g j0 l0) (hn : f i0 j0 = false → w0 = false) (hm : lastMarks [op, op'] [b, c] = false := by rfl) : EvT X E own B H σ (.Compare a [op, op'] [b, c] pos) w0 := by
  obtain ⟨r1, o1, k1⟩ := c1.ok
  obtain ⟨r2, o2, k2⟩ := c2.ok
  exact et_chP (T := rInt) o1 o2 hm ha hb (k1 i0 j0) (fun hz => by
    obtain ⟨l0, h3, h4⟩ := hc hz
    subst h4
    exact ⟨l0, h3, k2 j0 l0⟩) hn
end
/-! a list whose members are kept for good -/
def EvM (X : Cx) (E : Ent) (own : Own) (B H : Hp) (σ : L2.St) {α : Type} (e : Expr) (R : Rel α) (xs : List α) : Prop := ∀ B1 H1, Stt E own B1 H1 → Ex B B1 → Ex H H1 → ∀ Q : VK,
  (∀ q vs B2 H2, Stt E own B2 H2 → Ex B1 B2 → Ex H1 H2 → Rd H2 q (.lst vs) → Paired (R.r B2) vs xs → Q (.ref q) H2) → WE X e σ H1 Q
section
variable {X : Cx} {E : Ent} {own : Own} {B H : Hp} {σ : L2.St} {α : Type} {R : Rel α} {e a b o : Expr} {x y : α} {p pos : Pos} {i k : Nat} {xs ys : List α} {rest : List Stmt} {D : Ends}
theorem em_B [Imm R] (h : EvB X E own B H σ e (rLst R) xs) : EvM X E own B H σ e R xs := fun B1 H1 S1 e1 e2 Q k => h B1 H1 S1 e1 e2 _ fun v B2 H2 S2 e3 e4 r => by
  obtain ⟨q, vs, rfl, h2, h3⟩ := r
  exact k q vs B2 H2 S2 e3 e4 h2 (pimp h3 fun _ _ z => Imm.imm S2.tu z)
theorem em_E (h : EvE X E own B H σ e (rLst R) xs) : EvM X E own B H σ e R xs := fun B1 H1 S1 e1 e2 Q k => h B1 H1 S1 e1 e2 _ fun v B2 H2 S2 e3 e4 r => by
  obtain ⟨q, vs, rfl, h2, h3⟩ := r
  exact k q vs B2 H2 S2 e3 e4 (S2.bh.ex.rdL h2) h3
theorem em_own {q : Addr} {vs : List V} (hp : PE X e (tVar i)) (h : σ[i]? = some (some (.ref q))) (ho : (q, HO.lst vs) ∈ own) (r : Paired (R.r B) vs xs) : EvM X E own B H σ e R xs :=
  fun B1 H1 S e1 e2 Q k => WE.of hp ⟨.ref q, h, k q vs B1 H1 S (Ex.refl _) (Ex.refl _) (Rd.of (S.ow _ ho).2.2) (pimp r fun _ _ z => R.mono e1 z)⟩
theorem ee_ixM {q : Int} (ho : EvM X E own B H σ o R xs) (ha : EvB X E own B H σ a rInt q) (hx : atI xs q = some x) (hs : PlainIx a := by exact fun _ _ => rfl) : EvE X E own B H σ (.Subscript o a pos) R x := fun B1 H1 S1 e1 e2 Q k =>
  WE.of (pe_ix ix_list peW peW hs) (ho B1 H1 S1 e1 e2 _ fun l vs B2 H2 S2 e3 e4 h2 h3 => ha B2 H2 S2 (e1.trans e3) (e2.trans e4) _ fun w B3 H3 S3 e5 e6 r' => by
    obtain ⟨u, hu, hF⟩ := pat (pimp h3 fun _ _ z => R.mono e5 z) hx
    exact ⟨l, vs, q, u, rfl, r', .inl (e6.rdL h2), hu, k u B3 H3 S3 (e3.trans e5) (e4.trans e6) hF⟩)
theorem el_cutM {lo hi : Option Expr} {l u : Option Int} (ho : EvM X E own B H σ o R xs) (hl : EvP X E own B H σ lo l) (hu : EvP X E own B H σ hi u) : EvL X E own B H σ (.Subscript o (.Slice lo hi none p) pos) R (cut xs l u) := fun B1 H1 S1 e1 e2 Q k => by
  obtain ⟨tl, pl, hl⟩ := hl
  obtain ⟨tu, pu, hu⟩ := hu
  exact WE.of (pe_slice sl_list peW pl pu) (ho B1 H1 S1 e1 e2 _ fun q vs B2 H2 S2 e3 e4 h2 h3 => hl B2 H2 S2 (e1.trans e3) (e2.trans e4) _ fun B3 H3 S3 e5 e6 => hu B3 H3 S3 ((e1.trans e3).trans e5) ((e2.trans e4).trans e6) _ fun B4 H4 S4 e7 e8 =>
    ⟨q, vs, rfl, .inl ((e6.trans e8).rdL h2), fun p np => k p _ B4 _ (S4.alloc np fun ys z => by cases z) ((e3.trans e5).trans e7) (((e4.trans e6).trans e8).trans (Sx.new np).ex) (pcut l u (pimp h3 fun _ _ z => R.mono (e5.trans e7) z))⟩)
theorem el_catM (ha : EvM X E own B H σ a R xs) (hb : EvM X E own B H σ b R ys) (hz : xs.length + ys.length ≤ sizeLine) : EvL X E own B H σ (.BinOp a .Add b pos) R (xs ++ ys) := fun B1 H1 S1 e1 e2 Q k =>
  WE.of (pe_op op_catR peW peW) (ha B1 H1 S1 e1 e2 _ fun l vs B2 H2 S2 e3 e4 h2 h3 => hb B2 H2 S2 (e1.trans e3) (e2.trans e4) _ fun l2 us B3 H3 S3 e5 e6 h2' h3' =>
    ⟨l, l2, vs, us, rfl, rfl, e6.rdL h2, h2', by rw [plen h3, plen h3']; exact hz, fun p np => k p _ B3 _ (S3.alloc np fun ys z => by cases z) (e3.trans e5) ((e4.trans e6).trans (Sx.new np).ex) (pappend (pimp h3 fun _ _ z => R.mono e5 z) h3')⟩)
theorem el_listM (hg : Gl X "list") (hm : X.mg "list" = none) (ha : EvM X E own B H σ a R xs) (hs : St1 X a := by rfl) : EvL X E own B H σ (.Call (.Name "list" p) [a] [] pos) R xs := fun B1 H1 S1 e1 e2 Q k =>
  WE.of (pe_callTy call_list_of hg hm (by decide +kernel) (pa1 hs) (he := hs)) (ha B1 H1 S1 e1 e2 _ fun q vs B2 H2 S2 e3 e4 h2 h3 => ⟨q, vs, rfl, .inl (.inl h2), fun l hl => k l _ B2 _ (S2.alloc hl fun ys z => by cases z) e3 (e4.trans (Sx.new hl).ex) h3⟩)
theorem el_revM {p1 p2 p3 : Pos} {k1} (ha : EvM X E own B H σ a R xs) : EvL X E own B H σ (.Subscript a (.Slice none none (some (.UnaryOp .USub (.Constant (.int 1) k1 p1) p2)) p3) pos) R xs.reverse := fun B1 H1 S1 e1 e2 Q k =>
  WE.of (pe_revL peW) (ha B1 H1 S1 e1 e2 _ fun q vs B2 H2 S2 e3 e4 h2 h3 => ⟨q, vs, rfl, .inl h2, fun l hl => k l _ B2 _ (S2.alloc hl fun ys z => by cases z) e3 (e4.trans (Sx.new hl).ex) (prev h3)⟩)
end
end Sg

namespace Sg
open PySem PySem.Spec PyProof.Rows L2
/-! ### lists of numbers and dicts -/
def rSum {α β : Type} (R : Rel α) (S : Rel β) : Rel (α ⊕ β) := ⟨fun H v x => match x with
  | .inl a => R.r H v a
  | .inr b => S.r H v b, fun {H H' v x} e h => by
  cases x with
  | inl a => exact R.mono e h
  | inr b => exact S.mono e h⟩
abbrev RunD := List (Int × List Int)
abbrev RunT := List (Int ⊕ RunD)
def rRun : Rel (Int ⊕ RunD) := rSum rInt (rDI (rLst rInt))
def rRuns : Rel RunT := rLst rRun
section
variable {X : Cx} {E : Ent} {own : Own} {B H : Hp} {σ : L2.St} {α : Type} {R : Rel α} {e a b o : Expr} {x y : α} {p pos pos' : Pos} {i k j k0 : Nat} {xs ys : List α} {rest : List Stmt} {D : Ends} {n : Str}
/-- x = [{}] -/
theorem s_rn0 {pd : Pos} (C : Cok X k) (L : Slot X i n) (S0 : Stt E own B H)
    (q : ∀ p q B' H', Stt E ((p, .lst [V.ref q]) :: (q, .dK []) :: own) B' H' → Ex B B' → WSs X rest D (σ.set i (some (.ref p))) H')
    (hst : St1 X (.Dict [] [] pd) := by rfl) (hs : swapsWith (.List [.Dict [] [] pd] pos') (some (.Name n p)) pos.line X.env = pure false := by rfl) : WSs X (.Assign [.Name n p] (.List [.Dict [] [] pd] pos') pos :: rest) D σ H :=
  WSs.cons (ps_set C.nd L.ix L.loc (pe_lst (pa1 hst)) hs L.hf) ((ed_nI (R := rInt)) B H S0 (Ex.refl _) (Ex.refl _) _ fun q0 ws B2 H2 S2 e1 e2 r => by
    cases r
    exact ⟨by show 1 ≤ sizeLine; decide, fun pp hp => q pp q0 B2 _ (S2.alloc hp fun ys z => by cases z) e1⟩)
/-- x = x + [e, {}] -/
theorem s_rnCat {pd pl pb : Pos} {q p0 : Addr} {vs : List V} {ws : List (Key × V)} {u : Int} (C : Cok X k) (L : Slot X i n) (S0 : Stt E ((p0, .lst (vs ++ [V.ref q])) :: (q, .dK ws) :: own) B H) (hp : PE X o (tVar i)) (h : σ[i]? = some (some (.ref p0)))
    (he : ∀ own' B' H', Stt E own' B' H' → Ex B B' → Ex H H' → EvB X E own' B' H' σ e rInt u) (hz : vs.length + 1 + 2 ≤ sizeLine)
    (kt : ∀ p1 q1 B' H', Stt E ((p1, .lst ((vs ++ [V.ref q, .int u]) ++ [V.ref q1])) :: (q1, .dK []) :: (q, .dK ws) :: own) B' H' → Ex B B' → WSs X rest D (σ.set i (some (.ref p1))) H')
    (hst : starEach (e :: [.Dict [] [] pd]) X.env = (false, eval e X.env) :: starEach [.Dict [] [] pd] X.env := by rfl) (hst2 : St1 X (.Dict [] [] pd) := by rfl)
    (hs : swapsWith (.BinOp o .Add (.List [e, .Dict [] [] pd] pl) pb) (some (.Name n p)) pos.line X.env = pure false := by rfl) : WSs X (.Assign [.Name n p] (.BinOp o .Add (.List [e, .Dict [] [] pd] pl) pb) pos :: rest) D σ H :=
  WSs.cons (ps_set C.nd L.ix L.loc (pe_op op_catR hp (pe_lst (pa_cons peW (pa1 hst2) hst))) hs L.hf) ⟨_, h, he _ B H S0 (Ex.refl _) (Ex.refl _) B H S0 (Ex.refl _) (Ex.refl _) _ fun v B2 H2 S2 e1 e2 rv => (ed_nI (R := rInt)) B2 H2 S2 (Ex.refl _) (Ex.refl _) _ fun q1 ws1 B3 H3 S3 e3 e4 r3 => by
    cases r3
    have rv' : v = .int u := rv
    subst rv'
    refine ⟨by show 2 ≤ sizeLine; decide, fun l2 hl2 => ?_⟩
    have S4 := S3.alloc hl2 (o := .lst [.int u, V.ref q1]) fun ys z => by cases z
    have g0 : (p0, HO.lst (vs ++ [V.ref q])) ∈ ((l2, HO.lst [.int u, V.ref q1]) :: (q1, HO.dK []) :: (p0, HO.lst (vs ++ [V.ref q])) :: (q, HO.dK ws) :: own) := by simp
    have g1 := (S4.ow _ g0).2.2
    have g2 := (S4.ow _ (List.mem_cons_self ..)).2.2
    refine ⟨p0, l2, _, _, rfl, rfl, Rd.of g1, Rd.of g2, by rw [List.length_append]; exact hz, fun p1 hp1 => ?_⟩
    have S5 := S4.alloc hp1 (o := .lst ((vs ++ [V.ref q]) ++ [.int u, V.ref q1])) fun ys z => by cases z
    have S6 := Stt.pick [0, 2, 4] S5
    have S7 : Stt E ((p1, .lst ((vs ++ [V.ref q, .int u]) ++ [V.ref q1])) :: (q1, .dK []) :: (q, .dK ws) :: own) B3 (upd (upd H3 l2 (.lst [.int u, V.ref q1])) p1 (.lst ((vs ++ [V.ref q]) ++ [.int u, V.ref q1]))) := by
      have e5 : (vs ++ [V.ref q, .int u]) ++ [V.ref q1] = (vs ++ [V.ref q]) ++ [.int u, V.ref q1] := by simp
      rw [e5]
      refine S5.sub (fun z hz => ?_) ?_
      · simp only [List.mem_cons] at hz ⊢
        rcases hz with h | h | h | h
        · exact .inl h
        · exact .inr (.inr (.inl h))
        · exact .inr (.inr (.inr (.inr (.inl h))))
        · exact .inr (.inr (.inr (.inr (.inr h))))
      · have nd := S5.nd
        simp only [List.map_cons, List.nodup_cons, List.mem_cons, not_or] at nd ⊢
        exact ⟨⟨nd.1.2.1, nd.1.2.2.2.1, nd.1.2.2.2.2⟩, ⟨nd.2.2.1.2.1, nd.2.2.1.2.2⟩, nd.2.2.2.2⟩
    exact kt p1 q1 B3 _ S7 (e1.trans e3)⟩
/-- x[-1] -/
theorem we_last {k1} {p1 p2 : Pos} {q p0 : Addr} {vs : List V} {σ : L2.St} {Q : VK} (S : Stt E own B H) (hp : PE X o (tVar i)) (h : σ[i]? = some (some (.ref p0))) (hm : (p0, HO.lst (vs ++ [V.ref q])) ∈ own) (k : Q (.ref q) H) : WE X (.Subscript o (.UnaryOp .USub (.Constant (.int 1) k1 p1) p2) pos) σ H Q :=
  WE.of (pe_ix ix_list hp (pe_un un_neg pe_int) (fun _ _ => rfl)) ⟨_, h, ⟨1, rfl, p0, vs ++ [V.ref q], -1, .ref q, rfl, rfl, SqL.of (S.ow _ hm).2.2, by
    unfold atI ixN
    rw [if_neg (by omega), List.length_append, List.length_singleton, if_pos (by omega)]
    show (vs ++ [V.ref q])[(-1 + ((vs.length + 1 : Nat) : Int)).toNat]? = _
    rw [show (-1 + ((vs.length + 1 : Nat) : Int)).toNat = vs.length by omega, List.getElem?_append_right (Nat.le_refl _), Nat.sub_self]
    rfl, k⟩⟩
theorem ev_lastD {k1} {p1 p2 : Pos} {q p0 : Addr} {vs : List V} {ws : List (Key × V)} {kvs : List (Int × α)} (hp : PE X o (tVar i)) (h : σ[i]? = some (some (.ref p0))) (hm : (p0, HO.lst (vs ++ [V.ref q])) ∈ own) (hq : (q, HO.dK ws) ∈ own) (r : pI R B ws kvs) :
    EvB X E own B H σ (.Subscript o (.UnaryOp .USub (.Constant (.int 1) k1 p1) p2) pos) (rDI R) kvs := fun B1 H1 S e1 e2 Q kq => we_last S hp h hm (kq _ B1 H1 S (Ex.refl _) (Ex.refl _) ⟨q, ws, rfl, Rd.of (S.ow _ hq).2.2, r.up (e1.trans S.bh.ex)⟩)
/-- d[a] = e, d an owned dict wherever it is found -/
theorem s_dputG {q : Addr} {ws : List (Key × V)} {kvs : List (Int × α)} {u : Int} (C : Cok X k0) (S0 : Stt E own B H) (ho : ∀ B1 H1, Stt E own B1 H1 → ∀ Q : VK, Q (.ref q) H1 → WE X o σ H1 Q) (hk : own[k]? = some (q, .dK ws)) (r : pI R B ws kvs)
    (hv : EvE X E own B H σ e R x) (ha : EvB X E own B H σ a rInt u) (hz : kvs.length < sizeLine)
    (kt : ∀ ws' B' H', Stt E (own.set k (q, .dK ws')) B' H' → Ex B B' → pI R B' ws' (dput kvs u x) → WSs X rest D σ H')
    (hs : NoSl a := by exact fun _ _ => rfl) (hw : swapsWith e (some (.Subscript o a pos')) pos.line X.env = pure false := by rfl) : WSs X (.Assign [.Subscript o a pos'] e pos :: rest) D σ H :=
  WSs.cons (ps_dput C.hu peW peW peW hw) (hv B H S0 (Ex.refl _) (Ex.refl _) _ fun v B2 H2 S2 e1 e2 rv => ho B2 H2 S2 _ (ha B2 H2 S2 e1 e2 _ fun w B3 H3 S3 e3 e4 rw' => by
    have hq := (S3.ow _ (List.mem_of_getElem? hk)).2.2
    have rw'' : w = .int u := rw'
    refine ⟨q, _, rfl, .inl ⟨ws, Sum.inl u, hq, rw'', by rw [plen r]; exact hz, rfl⟩, ?_⟩
    exact kt _ B3 _ (S3.put hk fun ys z => by cases z) (e1.trans e3) (rel_put (κ := Key) inl_inj (R.mono e3 rv) (r.up (e1.trans e3)))))
end
/-! equal runs -/
def eqDB (a b : RunD) : Bool := (decide (a.length = b.length)) && a.all fun kv => decide (dget b kv.1 = some kv.2)
def eqRun : (Int ⊕ RunD) → (Int ⊕ RunD) → Bool
  | .inl i, .inl j => decide (i = j)
  | .inr a, .inr b => eqDB a b
  | _, _ => false
def runsEq : RunT → RunT → Bool
  | [], [] => true
  | x :: a, y :: b => eqRun x y && runsEq a b
  | _, _ => false
theorem runsEq_cons {x y : Int ⊕ RunD} {a b : RunT} (e : runsEq (x :: a) (y :: b) = true) : eqRun x y = true ∧ runsEq a b = true := by
  unfold runsEq at e
  rw [Bool.and_eq_true] at e
  exact e
section
variable {X : Cx} {E : Ent} {own : Own} {B H : Hp} {σ : L2.St} {a b : Expr} {x y : RunT} {pos : Pos} {k : Nat} {pins : List (Addr × Obj)} {s : Shared}
theorem ints_EqV {vx vy : V} {l : List Int} (h1 : (rLst rInt).r H vx l) (h2 : (rLst rInt).r H vy l) : EqV X.K H 2 vx vy := by
  obtain ⟨p, vs, rfl, e1, q1⟩ := h1
  obtain ⟨p2, vs2, rfl, e2, q2⟩ := h2
  refine .inr (.inr (.inl ⟨p, p2, vs, vs2, rfl, rfl, .inl e1, .inl e2, ?_⟩))
  rw [ints_rel q1, ints_rel q2]
  clear q1 q2 e1 e2
  induction l with
  | nil => exact .nil
  | cons i r ih => exact .cons (.inl ⟨rfl, rfl⟩) ih
theorem mem_rel {ws : List (Key × V)} {kvs : List (Int × List Int)} (h : pI (rLst rInt) H ws kvs) : ∀ p ∈ ws, ∃ kv ∈ kvs, p.1 = Sum.inl kv.1 ∧ (rLst rInt).r H p.2 kv.2 := by
  induction h with
  | nil => intro p hp; cases hp
  | cons h t ih =>
    intro p hp
    rcases List.mem_cons.mp hp with rfl | hp
    · exact ⟨_, List.mem_cons_self .., h.1, h.2⟩
    · obtain ⟨kv, hk, e⟩ := ih p hp
      exact ⟨kv, List.mem_cons_of_mem _ hk, e⟩
theorem eqDB_run (I : Inv X pins σ H s) {A : Around} (hu : A.units + 3 < cLine) {vx vy : V} {x y : RunD} (h1 : (rDI (rLst rInt)).r H vx x) (h2 : (rDI (rLst rInt)).r H vy y) (e : eqDB x y = true) {v u : Value} (rx : RelV vx v) (ry : RelV vy u) : SeqAt.EqP X.prog X.w A s v u true := by
  obtain ⟨p, ks, rfl, ep, q1⟩ := h1
  obtain ⟨p2, ls, rfl, ep2, q2⟩ := h2
  cases (show v = Value.ref p from rx)
  cases (show u = Value.ref p2 from ry)
  unfold eqDB at e
  rw [Bool.and_eq_true, decide_eq_true_iff, List.all_eq_true] at e
  by_cases hpp : p = p2
  · subst hpp
    exact (SeqAt.EqAt.same _).eqP
  · refine SeqAt.eqP_refs hpp fun E Q q => ?_
    obtain ⟨_, ya, va, ra, da⟩ := (show ObjOk X.prog X.w H s.heap p (.dK ks) from ep.ok I.hok)
    obtain ⟨_, yb, vb, rb, db⟩ := (show ObjOk X.prog X.w H s.heap p2 (.dK ls) from ep2.ok I.hok)
    have hl : va.length = vb.length := by rw [← ra.length, ← rb.length, plen q1, plen q2]; exact e.1
    refine PySem.W.rcP_dicts (knd := mixKind X.prog X.w) (r := true) ya yb da db (by omega) (fun _ => hits_run (F := EqV X.K H 2) (eqV_run I 2 A.in1 (by show A.units + 1 + 2 < cLine; omega)) rb ra fun z hz => ?_) E Q ?_
    · obtain ⟨kv, hk, e1, e2⟩ := mem_rel q1 z hz
      have e3 := of_decide_eq_true (e.2 kv hk)
      have e4 := rel_get (κ := Key) inl_inj (k := kv.1) q2
      rw [e3] at e4
      obtain ⟨w, hw, rw'⟩ := e4
      exact ⟨w, by rw [e1]; exact hw, ints_EqV e2 rw'⟩
    · rw [show (va.length == vb.length && true) = true from by rw [hl]; simp]
      exact q
theorem eqRun_run (I : Inv X pins σ H s) {A : Around} (hu : A.units + 3 < cLine) {vx vy : V} {x y : Int ⊕ RunD} (h1 : rRun.r H vx x) (h2 : rRun.r H vy y) (e : eqRun x y = true) {v u : Value} (rx : RelV vx v) (ry : RelV vy u) : SeqAt.EqP X.prog X.w A s v u true := by
  cases x with
  | inl i =>
    cases y with
    | inl j =>
      have e' : i = j := of_decide_eq_true e
      have h1' : vx = .int i := h1
      have h2' : vy = .int j := h2
      subst h1' h2' e'
      exact (eqAt_same rx ry rfl).eqP
    | inr b => cases e
  | inr a =>
    cases y with
    | inl j => cases e
    | inr b => exact eqDB_run I hu h1 h2 e rx ry
theorem runs_items (I : Inv X pins σ H s) {A : Around} (hu : A.units + 3 < cLine) : ∀ {vs ws : List V} {x y : RunT} {us zs : List Value}, Paired (rRun.r H) vs x → Paired (rRun.r H) ws y → runsEq x y = true → Vals vs us → Vals ws zs → us.length = zs.length ∧ ∀ j (h1 : j < us.length) (h2 : j < zs.length), SeqAt.EqP X.prog X.w A s us[j] zs[j] true
  | _, _, _, _, _, _, .nil, .nil, _, .nil, .nil => ⟨rfl, fun j h => absurd h (Nat.not_lt_zero j)⟩
  | _, _, _, _, _, _, .nil, .cons _ _, e, _, _ => by cases e
  | _, _, _, _, _, _, .cons _ _, .nil, e, _, _ => by cases e
  | _, _, _, _, _, _, .cons h t, .cons h' t', e, .cons r rs, .cons r' rs' => by
    have e' := runsEq_cons e
    obtain ⟨k1, k2⟩ := runs_items I hu t t' e'.2 rs rs'
    refine ⟨congrArg (· + 1) k1, fun j h1 h2 => ?_⟩
    cases j with
    | zero => exact eqRun_run I hu h h' e'.1 r r'
    | succ j => exact k2 j (Nat.lt_of_succ_lt_succ h1) (Nat.lt_of_succ_lt_succ h2)
theorem op_eqRuns (hu : X.A.units + 64 < cLine) : OpR X (compareOp .Eq) (fun v w H Q => ∃ x y, rRuns.r H v x ∧ rRuns.r H w y ∧ runsEq x y = true ∧ Q (.bl true) H) := by
  intro pins s σ H v w u u2 Q I rx ry h
  obtain ⟨x, y, h1, h2, e, q⟩ := h
  obtain ⟨p, vs, rfl, e1, q1⟩ := h1
  obtain ⟨p2, ws, rfl, e2, q2⟩ := h2
  cases (show u = Value.ref p from rx)
  cases (show u2 = Value.ref p2 from ry)
  obtain ⟨us, r1, l1, _⟩ := I.list (.inl e1)
  obtain ⟨zs, r2, l2, _⟩ := I.list (.inl e2)
  obtain ⟨k1, k2⟩ := runs_items I (A := X.A.in1) (by show X.A.units + 1 + 3 < cLine; omega) q1 q2 e r1 r2
  refine SeqAt.rcP_lists (e := fun _ => true) l1.isList l2.isList (by rw [List.size_toArray, List.size_toArray]; exact k1) (by omega) (fun j h1 h2 => ?_) _ _ ?_
  · have := k2 j (by simpa using h1) (by simpa using h2)
    simpa using this
  · rw [show ((List.range us.toArray.size).all fun _ => true) = true from List.all_eq_true.mpr fun _ _ => rfl]
    exact ⟨.bl true, H, I, rfl, q⟩
theorem ev_eqRuns (C : Cok X k) (ha : EvB X E own B H σ a rRuns x) (hb : EvB X E own B H σ b rRuns y) (h : runsEq x y = true) : EvB X E own B H σ (.Compare a [.Eq] [b] pos) rBool true :=
  ev_cmp (op_eqRuns C.hu64) ha hb (nomark b) fun H1 v w Q h1 h2 k => ⟨x, y, h1, h2, h, k⟩
theorem et_eqRuns (C : Cok X k) (ha : EvB X E own B H σ a rRuns x) (hb : EvB X E own B H σ b rRuns y) (h : runsEq x y = true) : EvT X E own B H σ (.Compare a [.Eq] [b] pos) true :=
  et_cmp (op_eqRuns C.hu64) ha hb (nomark b) fun H1 v w Q h1 h2 k => ⟨x, y, h1, h2, h, k⟩
end
end Sg

namespace Sg
open PySem PySem.Spec PyProof.Rows L2
theorem sw_subs {env : Env} {o a o2 b c d : Expr} {p1 p2 tp p3 : Pos} {kk k2 : Nat} : swappedStores [.Tuple [.Subscript o a p1, .Subscript o2 b p2] kk tp] (.Tuple [c, d] k2 p3) env = pure none := by
  unfold swappedStores
  simp only [List.filterMap_cons, List.filterMap_nil, List.length_nil, List.length_cons]
  split
  · rfl
  · split
    · rfl
    · rfl
end Sg

namespace Sg
open PySem PySem.Spec PyProof.Rows L2
section
variable {X : Cx} {E : Ent} {own : Own} {B H : Hp} {σ : L2.St} {α : Type} {R : Rel α} {e a b o : Expr} {x y : α} {p pos pos' : Pos} {i k j k0 : Nat} {xs ys : List α} {rest : List Stmt} {D : Ends} {n : Str}
/-! x in a tuple -/
theorem ev_inT [DecidableEq α] [Flat R] (ha : EvB X E own B H σ a R x) (ho : EvB X E own B H σ o (rTup R) xs) (hm : behindInMarks .In o = false := by rfl) : EvB X E own B H σ (.Compare a [.In] [o] pos) rBool (decide (x ∈ xs)) :=
  ev_cmp op_in_seq ha ho hm fun H1 v w Q h1 h2 k => by
    obtain ⟨l, vs, g1, g2, g3⟩ := h2
    obtain ⟨q1, q2⟩ := in_rel h1 g3
    refine ⟨l, vs, g1, .inr (SqT.of g2), Flat.f h1, q1, ?_⟩
    rw [q2]
    exact k
theorem et_inT [DecidableEq α] [Flat R] (ha : EvB X E own B H σ a R x) (ho : EvB X E own B H σ o (rTup R) xs) (hm : behindInMarks .In o = false := by rfl) : EvT X E own B H σ (.Compare a [.In] [o] pos) (decide (x ∈ xs)) :=
  et_cmp op_in_seq ha ho hm fun H1 v w Q h1 h2 k => by
    obtain ⟨l, vs, g1, g2, g3⟩ := h2
    obtain ⟨q1, q2⟩ := in_rel h1 g3
    refine ⟨l, vs, g1, .inr (SqT.of g2), Flat.f h1, q1, ?_⟩
    rw [q2]
    exact k
theorem ev_ninT [DecidableEq α] [Flat R] (ha : EvB X E own B H σ a R x) (ho : EvB X E own B H σ o (rTup R) xs) (hm : behindInMarks .NotIn o = false := by rfl) : EvB X E own B H σ (.Compare a [.NotIn] [o] pos) rBool (!decide (x ∈ xs)) :=
  ev_cmp op_notIn_seq ha ho hm fun H1 v w Q h1 h2 k => by
    obtain ⟨l, vs, g1, g2, g3⟩ := h2
    obtain ⟨q1, q2⟩ := in_rel h1 g3
    refine ⟨l, vs, g1, .inr (SqT.of g2), Flat.f h1, q1, ?_⟩
    rw [q2]
    exact k
theorem et_ninT [DecidableEq α] [Flat R] (ha : EvB X E own B H σ a R x) (ho : EvB X E own B H σ o (rTup R) xs) (hm : behindInMarks .NotIn o = false := by rfl) : EvT X E own B H σ (.Compare a [.NotIn] [o] pos) (!decide (x ∈ xs)) :=
  et_cmp op_notIn_seq ha ho hm fun H1 v w Q h1 h2 k => by
    obtain ⟨l, vs, g1, g2, g3⟩ := h2
    obtain ⟨q1, q2⟩ := in_rel h1 g3
    refine ⟨l, vs, g1, .inr (SqT.of g2), Flat.f h1, q1, ?_⟩
    rw [q2]
    exact k
end
end Sg

namespace Sg
open PySem PySem.Spec PyProof.Rows L2
section
variable {X : Cx} {E : Ent} {own : Own} {B H : Hp} {σ : L2.St} {α : Type} {R : Rel α} {e a b o : Expr} {x y : α} {p pos pos' : Pos} {i k j k0 : Nat} {xs ys : List α} {rest : List Stmt} {D : Ends} {n : Str}
/-! x[i] = e -/
theorem s_set1 {q : Addr} {vs : List V} {u : Int} (C : Cok X k0) (S0 : Stt E own B H) (ho : PE X o (tVar i)) (h : σ[i]? = some (some (.ref q))) (hk : own[k]? = some (q, .lst vs)) (r : Paired (R.r B) vs xs)
    (he : EvE X E own B H σ e R x) (ha : EvB X E own B H σ a rInt u) (h1 : setI xs u x = some ys)
    (kt : ∀ vs' B' H', Stt E (own.set k (q, .lst vs')) B' H' → Ex B B' → Paired (R.r B') vs' ys → WSs X rest D σ H')
    (g1 : PlSub X o a pos' := by exact fun _ => rfl) (hw : swapsWith e (some (.Subscript o a pos')) pos.line X.env = pure false := by rfl) : WSs X (.Assign [.Subscript o a pos'] e pos :: rest) D σ H :=
  WSs.cons (ps_asg peW (pg_sub ho peW set_list g1) hw) (he B H S0 (Ex.refl _) (Ex.refl _) _ fun v B2 H2 S2 e1 e2 rp => by
    obtain ⟨j1, hj1, rfl⟩ := setI_get h1
    refine ⟨.ref q, h, ?_⟩
    refine ha B2 H2 S2 e1 e2 _ fun w1 B3 H3 S3 e3 e4 rw1 => ?_
    have hq := (S3.ow _ (List.mem_of_getElem? hk)).2.2
    have r3 := pimp r fun _ _ z => R.mono (e1.trans e3) z
    refine ⟨q, vs, u, j1, rfl, rw1, hq, by rw [plen r]; exact hj1, ?_⟩
    have S3' := S3.put hk (o' := .lst (vs.set j1 v)) fun ys z => by cases z
    exact kt _ B3 _ S3' (e1.trans e3) (psetJ r3 (R.mono e3 rp) j1))
theorem el_repO {q : Int} {l : Addr} {vs : List V} (ho : PE X o (tVar i)) (h : σ[i]? = some (some (.ref l))) (hk : own[k]? = some (l, .lst vs)) (r : Paired (R.r B) vs xs) (hb : EvB X E own B H σ b rInt q) (hz : -(2 ^ 63) ≤ q ∧ q < 2 ^ 63 ∧ xs.length * q.toNat ≤ sizeLine) : EvL X E own B H σ (.BinOp o .Mult b pos) R (List.replicate q.toNat xs).flatten := fun B1 H1 S1 e1 e2 Q k =>
  WE.of (pe_op (show OpR X (binaryOp .Mult) rRepR from op_rep) ho peW) ⟨.ref l, h, hb B1 H1 S1 e1 e2 _ fun w B3 H3 S3 e5 e6 r' => by
    refine ⟨l, q, vs, rfl, r', (S3.ow _ (List.mem_of_getElem? hk)).2.2, hz.1, hz.2.1, by rw [plen r]; exact hz.2.2, fun p np => ?_⟩
    have S4 := (S3.alloc np (o := .lst (List.replicate q.toNat vs).flatten) fun ys z => by cases z)
    exact k p _ B3 _ S4 e5 (e6.trans (Sx.new np).ex) (prep (pimp r fun _ _ z => R.mono (e1.trans e5) z) _)⟩
end
end Sg

namespace Sg
open PySem PySem.Spec PyProof.Rows L2
/-! ### sorted(d.items()) -/
def vwO (p d : Addr) : HO := .ext fun h => h.IsItemsView p d
theorem vwO_ok {P : Program} {w : World} {H : Hp} {h : Heap} {p d : Addr} (e : h.get? p = some { cls := .type "dict_items", data := .fields #[.ref d] }) : ObjOk P w H h p (vwO p d) :=
  ⟨⟨_, e, rfl, rfl⟩, ⟨_, e⟩, fun h1 h2 ⟨o, ho, r⟩ k => ⟨o, k o ho, r⟩⟩
section
variable {X : Cx}
def rVw : V → List V → Hp → VK → Prop := fun x xs H Q => ∃ (d : Addr) (ws : List (Key × V)), x = .ref d ∧ xs = [] ∧ Rd H d (.dK ws) ∧ ∀ p, H p = none → Q (.ref p) (upd H p (vwO p d))
theorem mt_vw : MtR X "dict.items" rVw := by
  intro pins s σ H x xs v us Q I rx rxs hr
  obtain ⟨d, ws, rfl, rfl, hd, q⟩ := hr
  cases rx
  cases rxs
  obtain ⟨_, lo, vs, _, dd⟩ := dk_rd I.hok hd
  refine PySem.call_meetsIn F.slot_dict_items dd.typeIs F.entry_dict_items (F.args_dict_items_1 _) (meets_dict_items (mixKind X.prog X.w) d lo) ⟨⟨vs, dd⟩, ?_⟩
  exact ⟨.ref s.heap.objs.size, _, I.laid (t' := s.toks) (fun b u e => Heap.get?_push_of_some _ e) (Nat.le_refl _) (vwO_ok (Heap.get?_push_size _ rfl)), rfl, q _ (I.hok.fresh (Nat.le_refl _))⟩
/-! things that read as data -/
class EncR {α : Type} (R : Rel α) where
  enc : α → PyData
  rd : ∀ {X : Cx} {pins : List (Addr × Obj)} {σ : L2.St} {H : Hp} {s : Shared} {v : V} {x : α} {u : Value}, Inv X pins σ H s → R.r H v x → RelV v u → Reads s.heap u (enc x) []
  dp : ∀ x, (enc x).depth ≤ 1
  al : ∀ x y, PySem.W.alike (enc x) (enc y) = true
instance : EncR rInt where
  enc := .int
  rd := fun I r ru => by
    have r : _ = _ := r
    subst r
    obtain ⟨t, rfl⟩ := ru
    exact .int _ _
  dp := fun x => by show (0 : Nat) ≤ 1; omega
  al := fun x y => rfl
theorem ints_read {h : Heap} {H : Hp} : ∀ {vs : List V} {ns : List Int} {us : List Value}, Paired (rInt.r H) vs ns → Vals vs us → ReadsAll h us (ns.map PyData.int) []
  | _, _, _, .nil, .nil => .nil
  | _, _, _, .cons r rs, .cons g gs => by
    have r : _ = _ := r
    subst r
    obtain ⟨t, rfl⟩ := g
    exact ReadsAll.cons (as := []) (bs := []) (.int _ _) (ints_read rs gs)
instance : EncR (rTup rInt) where
  enc := fun ns => .tuple (ns.map .int)
  rd := fun {X pins σ H s v x u} I r ru => by
    obtain ⟨p, vs, rfl, hp, hr⟩ := r
    obtain rfl : u = Value.ref p := ru
    obtain ⟨_, its, rv, o, ho, hc, n, hd⟩ := (show ObjOk X.prog X.w H s.heap p (.tup vs) from I.hok p _ hp)
    refine Reads.tuple ho hc hd ?_
    exact ints_read hr rv
  dp := fun x => by
    show (PyData.tuple (x.map .int)).depth ≤ 1
    rw [PyData.depth, PySem.W.depth_ints]
    omega
  al := fun x y => by
    show PySem.W.alike (.tuple (x.map .int)) (.tuple (y.map .int)) = true
    rw [PySem.W.alike]
    exact PySem.W.alike_ints x y

def laidT : Hp → List (Addr × List V) → Hp
  | H, [] => H
  | H, q :: L => laidT (upd H q.1 (.tup q.2)) L
theorem laidT_off {a : Addr} : ∀ (L : List (Addr × List V)) (H : Hp), a ∉ L.map (·.1) → laidT H L a = H a
  | [], _, _ => rfl
  | q :: L, H, h => by
    rw [List.map_cons, List.mem_cons, not_or] at h
    show laidT (upd H q.1 (.tup q.2)) L a = H a
    rw [laidT_off L _ h.2, upd_ne h.1]
theorem laidT_at : ∀ (L : List (Addr × List V)) (H : Hp), (L.map (·.1)).Nodup → ∀ q ∈ L, laidT H L q.1 = some (.tup q.2)
  | q :: L, H, nd, r, hr => by
    rw [List.map_cons, List.nodup_cons] at nd
    show laidT (upd H q.1 (.tup q.2)) L r.1 = _
    rcases List.mem_cons.mp hr with rfl | hr
    · rw [laidT_off L _ nd.1, upd_same]
    · exact laidT_at L _ nd.2 r hr
theorem stt_laidT {E : Ent} {own : Own} : ∀ (L : List (Addr × List V)) {B H : Hp}, Stt E own B H → (L.map (·.1)).Nodup → (∀ q ∈ L, H q.1 = none) → Stt E own (laidT B L) (laidT H L) ∧ Ex B (laidT B L) ∧ Ex H (laidT H L)
  | [], _, _, S, _, _ => ⟨S, Ex.refl _, Ex.refl _⟩
  | q :: L, B, H, S, nd, hn => by
    rw [List.map_cons, List.nodup_cons] at nd
    have h1 := hn q (List.mem_cons_self ..)
    obtain ⟨a, b, c⟩ := stt_laidT L (S.lay (o := .tup q.2) h1) nd.2 fun r hr => by
      rw [upd_ne fun z => nd.1 (List.mem_map.mpr ⟨r, hr, z⟩)]
      exact hn r (List.mem_cons_of_mem _ hr)
    exact ⟨a, (S.layB h1).ex.trans b, (Sx.new h1).ex.trans c⟩
theorem inv_laidT {pins : List (Addr × Obj)} {σ : L2.St} {H0 : Hp} {s0 : Shared} {h' : Heap} {tk : Nat} (I0 : Inv X pins σ H0 s0) : ∀ (L : List (Addr × List V)) (H : Hp), Inv X pins σ H { s0 with heap := h', toks := tk } → (L.map (·.1)).Nodup →
    (∀ q ∈ L, s0.heap.objs.size ≤ q.1 ∧ H q.1 = none ∧ ∀ H2, ObjOk X.prog X.w H2 h' q.1 (.tup q.2)) → Inv X pins σ (laidT H L) { s0 with heap := h', toks := tk }
  | [], _, I, _, _ => I
  | q :: L, H, I, nd, hq => by
    rw [List.map_cons, List.nodup_cons] at nd
    obtain ⟨h1, h2, h3⟩ := hq q (List.mem_cons_self ..)
    refine inv_laidT I0 L _ (I.take (h' := h') (t' := tk) (fun b ob _ e => e) (I0.fpOk h1 h2) (h3 _)) nd.2 fun r hr => ?_
    obtain ⟨g1, g2, g3⟩ := hq r (List.mem_cons_of_mem _ hr)
    exact ⟨g1, by rw [upd_ne fun z => nd.1 (List.mem_map.mpr ⟨r, hr, z⟩)]; exact g2, g3⟩
theorem each_ix {α β : Type} {R : α → β → Prop} : ∀ {xs : List α} {ys : List β}, xs.length = ys.length → (∀ (j : Nat) x y, xs[j]? = some x → ys[j]? = some y → R x y) → PySem.W.EachIs R xs ys
  | [], [], _, _ => .nil
  | [], _ :: _, h, _ => by cases h
  | _ :: _, [], h, _ => by cases h
  | x :: xs, y :: ys, h, k => .cons (k 0 x y rfl rfl) (each_ix (Nat.succ.inj h) fun j a b h1 h2 => k (j + 1) a b h1 h2)
theorem each_out {α β : Type} {R : α → β → Prop} {f : β → α} (hf : ∀ a b, R a b → a = f b) : ∀ {xs : List α} {ys : List β}, PySem.W.EachIs R xs ys → xs = ys.map f ∧ ∀ y ∈ ys, R (f y) y
  | _, _, .nil => ⟨rfl, fun y hy => by cases hy⟩
  | x :: xs, y :: ys, .cons r t => by
    obtain ⟨h1, h2⟩ := each_out hf t
    have e := hf x y r
    subst e
    refine ⟨by rw [h1, List.map_cons], fun z hz => ?_⟩
    rcases List.mem_cons.mp hz with rfl | hz
    · exact r
    · exact h2 z hz
section
variable {α : Type}
def leRow (R : Rel α) [EncR R] (a b : Int × α) : Bool := PySem.W.dataLe false (fun q : Int × α => .tuple [.int q.1, EncR.enc R q.2]) a b
def rSortVw (R : Rel α) [EncR R] : List V → Hp → VK → Prop := fun xs H Q => ∃ (p d : Addr) (ws : List (Key × V)) (kvs : List (Int × α)), xs = [.ref p] ∧ H p = some (vwO p d) ∧ Rd H d (.dK ws) ∧ Paired (fun w kv => w.1 = Sum.inl kv.1 ∧ R.r H w.2 kv.2) ws kvs ∧
  ∀ (L : List (Addr × V × (Int × α))) (l : Addr), L.map (·.2.2) = kvs.mergeSort (leRow R) → (∀ z ∈ L, R.r H z.2.1 z.2.2.2) → (L.map (·.1)).Nodup → (∀ z ∈ L, H z.1 = none) → H l = none → l ∉ L.map (·.1) →
    Q (.ref l) (upd (laidT H (L.map fun z => (z.1, [.int z.2.2.1, z.2.1]))) l (.lst (L.map fun z => .ref z.1)))
end

theorem cr_sortVw {α : Type} (R : Rel α) [EncR R] (hc : X.calm = true) (hu : X.A.units + 64 < cLine) : CallR X (.builtin "sorted") (rSortVw R) := by
  intro pins s σ H xs us Q I r hq
  obtain ⟨p, d, ws, kvs, rfl, hp, hd, hk, q⟩ := hq
  obtain rfl := Vals.ref1 r
  have view : s.heap.IsItemsView p d := (show ObjOk X.prog X.w H s.heap p (vwO p d) from I.hok p _ hp).1
  obtain ⟨zl, lo, vs, rel, dd⟩ := dk_rd I.hok hd
  obtain ⟨ep, hat⟩ := dd.dictAt
  have l1 : ws.length = vs.length := Paired.length rel
  have l2 : ws.length = kvs.length := plen hk
  have hz : vs.length ≤ sizeLine := by omega
  refine PySem.Calls.call_function_entry kind_sorted plain_sorted entry_sorted (args_sorted1 _) ?_
  unfold Builtin.«sorted»
  refine wpAny_bind (m := checkCount "sorted" 1 1 _) (wpAny_pure ?_)
  refine wpAny_bind (PySem.W.kdx_collect (A := X.A.in1) (knd := mixKind X.prog X.w) (kvs := vs) (ep := ep) (I.ok.hd hc) view hat hz fun h1 tk as k1 la G => ?_)
  refine wpAny_bind (wpAny_newList ?_ (by rw [List.length_map, la]; exact hz))
  have nd : as.Nodup := List.Pairwise.imp (fun z => Nat.ne_of_lt z) G.rise
  have hob : (h1.push { cls := .type "list", data := .seq (as.map Value.ref).toArray }).get? h1.objs.size = some (seqObj "list" (as.map Value.ref).toArray 0) := Heap.get?_push_size _ rfl
  have ka : ∀ b o, h1.get? b = some o → (h1.push { cls := .type "list", data := .seq (as.map Value.ref).toArray }).get? b = some o := fun b o e => Heap.get?_push_of_some _ e
  generalize h1.push { cls := .type "list", data := .seq (as.map Value.ref).toArray } = h2 at hob ka ⊢
  have kb : ∀ b o, s.heap.get? b = some o → h2.get? b = some o := fun b o e => ka b o (k1 b o e)
  -- what stands at a place
  let bs : List (Addr × V × (Int × α)) := (as.zip (ws.zip kvs)).map fun z => (z.1, z.2.1.2, z.2.2)
  have lb : as.length = bs.length := by
    show _ = ((as.zip (ws.zip kvs)).map _).length
    rw [List.length_map, List.length_zip, List.length_zip]
    omega
  have bj : ∀ (j : Nat) (b : Addr × V × (Int × α)), bs[j]? = some b → ∃ w, as[j]? = some b.1 ∧ ws[j]? = some w ∧ w.2 = b.2.1 ∧ kvs[j]? = some b.2.2 := by
    intro j b h
    have h : ((as.zip (ws.zip kvs)).map fun z => (z.1, z.2.1.2, z.2.2))[j]? = some b := h
    rw [List.getElem?_map, Option.map_eq_some_iff] at h
    obtain ⟨z, h3, rfl⟩ := h
    obtain ⟨g1, g2⟩ := List.getElem?_zip_eq_some.mp h3
    obtain ⟨g3, g4⟩ := List.getElem?_zip_eq_some.mp g2
    exact ⟨z.2.1, g1, g3, rfl, g4⟩
  have good : ∀ (j : Nat) (b : Addr × V × (Int × α)), bs[j]? = some b → ∃ key x, h1.get? b.1 = some { cls := .type "tuple", data := .seq #[key, x] } ∧ RelV (.int b.2.2.1) key ∧ RelV b.2.1 x ∧ R.r H b.2.1 b.2.2.2 := by
    intro j b h
    obtain ⟨w, g1, g2, g3, g4⟩ := bj j b h
    obtain ⟨key, k, x, f1, f2, f3⟩ := G.pairs j _ g1
    obtain ⟨y, e1, e2, e3⟩ := LiI.paired_get rel g2
    rw [f1] at e1
    cases e1
    obtain ⟨y2, e4, e5, e6⟩ := LiI.paired_get hk g2
    rw [g4] at e4
    cases e4
    have rk : RelV (kV w.1) key := by
      rw [e2]
      exact relV_key (show keyIs k key = true from f2)
    rw [e5] at rk
    rw [g3] at e3 e6
    exact ⟨key, x, f3, rk, e3, e6⟩
  let P : Value → Addr × V × (Int × α) → Prop := fun v b => v = .ref b.1 ∧ b ∈ bs
  have eP : PySem.W.EachIs P (as.map Value.ref) bs := each_ix (by rw [List.length_map]; exact lb) fun j v b g1 g2 => by
    obtain ⟨w, f1, _⟩ := bj j b g2
    rw [List.getElem?_map, f1] at g1
    exact ⟨(Option.some.inj g1).symm, List.mem_of_getElem? g2⟩
  let ec : Addr × V × (Int × α) → PyData := fun b => .tuple [.int b.2.2.1, EncR.enc R b.2.2.2]
  have eR : PySem.W.EachIs (fun v b => ∃ zs, Reads h2 v (ec b) zs ∧ h1.objs.size ∉ zs) (as.map Value.ref) bs := each_ix (by rw [List.length_map]; exact lb) fun j v b g1 g2 => by
    obtain ⟨w, f1, _⟩ := bj j b g2
    rw [List.getElem?_map, f1] at g1
    obtain ⟨key, x, q1, q2, q3, q4⟩ := good j b g2
    obtain rfl := (Option.some.inj g1).symm
    obtain ⟨t, rfl⟩ := q2
    refine ⟨[], Reads.tuple (ka _ _ q1) rfl rfl ?_, List.not_mem_nil⟩
    exact ReadsAll.cons (as := []) (bs := []) (.int _ _) (ReadsAll.cons (as := []) (bs := []) (PyProof.Rows.Reads.keeps kb (EncR.rd I q4 q3)) .nil)
  have hal : PySem.W.AllAlike (bs.map ec) := PySem.W.AllAlike.of fun b b' => by
    show PySem.W.alike (.tuple [.int b.2.2.1, EncR.enc R b.2.2.2]) (.tuple [.int b'.2.2.1, EncR.enc R b'.2.2.2]) = true
    rw [PySem.W.alike, PySem.W.alikeAll, PySem.W.alikeAll, EncR.al]
    rfl
  have hsk : PySem.W.Sortable (bs.map ec) := PySem.W.Sortable.tuples fun b => ⟨_, _, rfl⟩
  refine wpAny_bind (wpAny_holding (wpAny_mono (Q := fun _ s' => EP X pins σ Q (.ref h1.objs.size) s') (E := X.xe) (PySem.W.list_sort_data (A := X.A.in1) (bs := bs) (enc := ec) (R := P) hob eP eR hal hsk (by omega) (fun b _ => ?_) fun out lo2 eo => ?_) (fun _ s' x => wpAny_pure ⟨_, rfl, x⟩) fun _ _ e => e))
  · have h3 := EncR.dp (R := R) b.2.2.2
    have h4 : (ec b).depth ≤ 2 := by
      show (PyData.tuple [.int b.2.2.1, EncR.enc R b.2.2.2]).depth ≤ 2
      rw [PyData.depth, PyData.depthAll, PyData.depthAll, PyData.depthAll, PyData.depth]
      omega
    show X.A.units + 1 + 1 + _ < _
    omega
  · obtain ⟨eo1, eo2⟩ := each_out (f := fun b : Addr × V × (Int × α) => Value.ref b.1) (fun a b z => z.1) eo
    have pm : (bs.mergeSort (PySem.W.dataLe false ec)).Perm bs := List.mergeSort_perm _ _
    have ms : (bs.mergeSort (PySem.W.dataLe false ec)).map (·.2.2) = (bs.map (·.2.2)).mergeSort (leRow R) := List.map_mergeSort fun a _ b _ => rfl
    generalize bs.mergeSort (PySem.W.dataLe false ec) = L at eo1 eo2 pm ms
    have b1 : bs.map (·.1) = as := by
      show ((as.zip (ws.zip kvs)).map fun z => (z.1, z.2.1.2, z.2.2)).map (·.1) = as
      rw [List.map_map]
      exact List.map_fst_zip (by rw [List.length_zip]; omega)
    have b2 : bs.map (·.2.2) = kvs := by
      show ((as.zip (ws.zip kvs)).map fun z => (z.1, z.2.1.2, z.2.2)).map (·.2.2) = kvs
      rw [List.map_map]
      have e1 : (as.zip (ws.zip kvs)).map (·.2) = ws.zip kvs := List.map_snd_zip (by rw [List.length_zip]; omega)
      have e2 : (ws.zip kvs).map (·.2) = kvs := List.map_snd_zip (by omega)
      rw [← e1, List.map_map] at e2
      exact e2
    rw [b2] at ms
    have nL : (L.map (·.1)).Nodup := (pm.map (·.1)).nodup_iff.mpr (by rw [b1]; exact nd)
    have at_ : ∀ z ∈ L, ∃ j : Nat, bs[j]? = some z := fun z hz => List.mem_iff_getElem?.mp (pm.mem_iff.mp hz)
    have inAs : ∀ z ∈ L, z.1 ∈ as := fun z hz => by
      rw [← b1]
      exact List.mem_map.mpr ⟨z, pm.mem_iff.mp hz, rfl⟩
    have I1 : Inv X pins σ H { s with heap := h1, toks := tk } := I.kept (t' := tk) k1
    have nl : H h1.objs.size = none := I1.hok.fresh (Nat.le_refl _)
    have lowA : ∀ a ∈ as, a ≠ h1.objs.size := fun a ha => Nat.ne_of_lt (G.there ha)
    have kF : ∀ b o, b ≠ h1.objs.size → h2.get? b = some o → (sortedHeap h2 h1.objs.size (as.map Value.ref) out.toArray).get? b = some o := fun b o hb e => (PyProof.Rows.sortedHeap_old hb (Heap.lt_size e)).trans e
    obtain ⟨eF, heF⟩ := PyProof.Rows.sortedHeap_at (vs := as.map Value.ref) (out := out.toArray) hob
    generalize sortedHeap h2 h1.objs.size (as.map Value.ref) out.toArray = hF at kF heF
    have I2 : Inv X pins σ H { s with heap := hF, toks := tk } := I.kept (t' := tk) fun b o e => kF b o (Nat.ne_of_lt (Heap.lt_size (k1 b o e))) (kb b o e)
    have mm : (L.map fun z => (z.1, [V.int z.2.2.1, z.2.1])).map (·.1) = L.map (·.1) := by rw [List.map_map]; rfl
    have I3 := inv_laidT I (L.map fun z => (z.1, [V.int z.2.2.1, z.2.1])) H I2 (by rw [mm]; exact nL) fun r hr => by
      obtain ⟨z, hz, rfl⟩ := List.mem_map.mp hr
      obtain ⟨j, hj⟩ := at_ z hz
      obtain ⟨key, x, q1, q2, q3, q4⟩ := good j z hj
      have hb := Nat.le_of_lt (G.above _ (inAs z hz))
      exact ⟨hb, I.hok.fresh hb, fun H2 => ⟨by show 2 ≤ sizeLine; decide, [key, x], .cons q2 (.cons q3 .nil), ⟨_, kF _ _ (lowA _ (inAs z hz)) (ka _ _ q1), rfl, 0, rfl⟩⟩⟩
    have nlL : h1.objs.size ∉ L.map (·.1) := fun z => by
      obtain ⟨y, hy, e⟩ := List.mem_map.mp z
      exact lowA _ (inAs y hy) e
    have rv : Vals (L.map fun z => V.ref z.1) out := by
      rw [eo1]
      have : ∀ (M : List (Addr × V × (Int × α))), Vals (M.map fun z => V.ref z.1) (M.map fun z => Value.ref z.1) := fun M => by
        induction M with
        | nil => exact .nil
        | cons z M ih => exact .cons rfl ih
      exact this L
    have hlen : (L.map fun z => V.ref z.1).length ≤ sizeLine := by
      have := pm.length_eq
      rw [List.length_map]
      omega
    have I4 := I3.take (h' := hF) (t' := tk) (o := .lst (L.map fun z => V.ref z.1)) (fun b ob _ e => e) (I1.fpOk (b := h1.objs.size) (Nat.le_refl _) (by rw [laidT_off _ _ (by rw [mm]; exact nlL)]; exact nl)) ⟨hlen, out, eF, rv, heF⟩
    exact ⟨.ref h1.objs.size, _, I4, rfl, q L h1.objs.size ms (fun z hz => by
      obtain ⟨j, hj⟩ := at_ z hz
      exact (good j z hj).choose_spec.choose_spec.2.2.2) nL (fun z hz => I.hok.fresh (Nat.le_of_lt (G.above _ (inAs z hz)))) nl nlL⟩

theorem pe_vw {o : Expr} {te : TE} {ap cp : Pos} (he : PE X o te) (hb : attributeBase o "items" X.env (eval o X.env) = eval o X.env := by rfl) (hl : (ap.endLine == cp.line) = true := by rfl) : PE X (.Call (.Attribute o "items" ap) [] [] cp) (fun σ H Q => te σ H fun x H1 => rVw x [] H1 Q) := by
  refine ⟨fun pins s σ H Q I hq => ?_⟩
  refine wpAny_Call_method (T := "dict") (id := "dict.items") hb rfl hl F.plainAttrs_dict F.slot_dict_items F.type_dict_items (thn (he.run pins s σ H _ I hq) fun u s1 ⟨x, H1, I1, rx, hv⟩ => ?_)
  obtain ⟨d, ws, rfl, h2, hd, h3⟩ := hv
  obtain rfl : u = Value.ref d := rx
  obtain ⟨_, lo, vs, _, dd⟩ := dk_rd I1.hok hd
  exact ⟨dd.typeIs, dd.mapOf.noDict, Calls.callWith_builtin rfl (PySem.evalArgs_none (mt_vw pins s1 σ H1 (.ref d) [] (.ref d) [] Q I1 rfl .nil ⟨d, ws, rfl, h2, hd, h3⟩))⟩
section
variable {E : Ent} {own : Own} {B H : Hp} {σ : L2.St} {α : Type} {R : Rel α} {o : Expr} {p pos ap cp : Pos} {kvs : List (Int × α)}
theorem pair_map {β γ : Type} {F : V → γ → Prop} (f : β → V) (g : β → γ) : ∀ (L : List β), (∀ z ∈ L, F (f z) (g z)) → Paired F (L.map f) (L.map g)
  | [], _ => .nil
  | z :: L, h => .cons (h z (List.mem_cons_self ..)) (pair_map f g L fun y hy => h y (List.mem_cons_of_mem _ hy))
theorem el_sortItems [EncR R] [Imm R] (hc : X.calm = true) (hu : X.A.units + 64 < cLine) (hg : Gl X "sorted") (hm : X.mg "sorted" = none) (ho : EvB X E own B H σ o (rDI R) kvs)
    (hb : attributeBase o "items" X.env (eval o X.env) = eval o X.env := by rfl) (hl : (ap.endLine == cp.line) = true := by rfl) (hs : St1 X (.Call (.Attribute o "items" ap) [] [] cp) := by rfl) : EvL X E own B H σ (.Call (.Name "sorted" p) [.Call (.Attribute o "items" ap) [] [] cp] [] pos) (rPr rInt R) (kvs.mergeSort (leRow R)) := fun B1 H1 S1 e1 e2 Q k => by
  refine WE.of (pe_callB (cr_sortVw R hc hu) hg hm (by decide +kernel) (pa_cons (pe_vw peW hb hl) pa_nil hs) (he := hs)) (ho B1 H1 S1 e1 e2 _ fun v B2 H2 S2 e3 e4 r => ?_)
  obtain ⟨d, ws, rfl, h2, h3⟩ := r
  refine ⟨d, ws, rfl, rfl, h2, fun q hq => ?_⟩
  have x3 : Ex H2 (upd H2 q (vwO q d)) := (Sx.new hq).ex
  have S3 := S2.alloc hq (o := vwO q d) fun ys z => by cases z
  refine ⟨q, d, ws, kvs, rfl, upd_same, x3.dK h2, h3.up x3, fun L l e5 e6 e7 e8 e9 e10 => ?_⟩
  have mm : (L.map fun z => (z.1, [V.int z.2.2.1, z.2.1])).map (·.1) = L.map (·.1) := by rw [List.map_map]; rfl
  have hn : ∀ r ∈ (L.map fun z => (z.1, [V.int z.2.2.1, z.2.1])), (upd H2 q (vwO q d)) r.1 = none := fun r hr => by
    obtain ⟨z, hz, rfl⟩ := List.mem_map.mp hr
    exact e8 z hz
  obtain ⟨S4, x4, x5⟩ := stt_laidT (L.map fun z => (z.1, [V.int z.2.2.1, z.2.1])) S3 (by rw [mm]; exact e7) hn
  have nl : laidT (upd H2 q (vwO q d)) (L.map fun z => (z.1, [V.int z.2.2.1, z.2.1])) l = none := by
    rw [laidT_off _ _ (by rw [mm]; exact e10)]
    exact e9
  have S5 := (S4.alloc nl (o := .lst (L.map fun z => V.ref z.1)) fun ys z => by cases z).swap.drop
  refine k l _ _ _ S5 (e3.trans x4) (((e4.trans x3).trans x5).trans (Sx.new nl).ex) ?_
  rw [← e5]
  refine pair_map (fun z : Addr × V × (Int × α) => V.ref z.1) (fun z => z.2.2) L fun z hz => ?_
  exact ⟨z.1, _, _, rfl, laidT_at _ _ (by rw [mm]; exact e7) _ (List.mem_map.mpr ⟨z, hz, rfl⟩), rfl, R.mono x4 (Imm.imm S3.tu (e6 z hz))⟩
end
end
end Sg

namespace Sg
open PySem PySem.Spec PyProof.Rows L2
section
variable {X Xb : Cx} {E : Ent} {own new own' : Own} {B H B' H' : Hp} {σ : L2.St} {α β γ δ τ ρ ρ' : Type} {R : Rel α} {S : Rel β} {T : Rel γ} {U : Rel δ} {e a b c d o it tg : Expr} {x : α} {y : β} {p pos pos' apos : Pos} {i j k k0 : Nat} {z w : Bool} {xs : List α} {ys : List β} {es : List Expr}
variable {n m : Str} {rest body other : List Stmt} {D : Ends} {P : ρ → Prop} {Er : Err → Prop} {scope sc : Scope} {N : List Str} {t : List (Str × NameKind)} {kd : NameKind}
/-! range with the step -1 -/
theorem rsz_neg {a b : Int} (h : -8000000 ≤ a ∧ a ≤ 8000000 ∧ -8000000 ≤ b ∧ b ≤ 8000000) : (Builtin.Range.rangeSize a b (-1)).toNat ≤ 16000001 ∧ 0 ≤ Builtin.Range.rangeSize a b (-1) := by
  unfold Builtin.Range.rangeSize
  rw [if_neg (by decide)]
  by_cases hl : a > b
  · rw [if_pos hl, show (-(-1) : Int) = 1 from rfl, Int.ediv_one]
    omega
  · rw [if_neg hl]
    omega
theorem small_neg {a b : Int} (h : -8000000 ≤ a ∧ a ≤ 8000000 ∧ -8000000 ≤ b ∧ b ≤ 8000000) : Builtin.Range.small a b (-1) = true := by
  have q := rsz_neg h
  unfold Builtin.Range.small
  simp only [Builtin.Range.rangeFitsLong, Bool.and_eq_true, Bool.or_eq_true, decide_eq_true_eq, beq_iff_eq, if_neg (show ¬ (0 : Int) < -1 by decide), gt_iff_lt]
  generalize Builtin.Range.rangeSize a b (-1) = n at q ⊢
  omega
theorem ei_r3n {tg : Expr} {lo hi : Int} (hg : Gl X "range") (hm : X.mg "range" = none) (ha : EvB X E own B H σ a rInt lo) (hb : EvB X E own B H σ b rInt hi) (hc : EvB X E own B H σ c rInt (-1)) (hz : -8000000 ≤ lo ∧ lo ≤ 8000000 ∧ -8000000 ≤ hi ∧ hi ≤ 8000000)
    (hs : starEach [a, b, c] X.env = (false, eval a X.env) :: starEach [b, c] X.env := by rfl) (hs1 : starEach (b :: [c]) X.env = (false, eval b X.env) :: starEach [c] X.env := by rfl) (hs2 : St1 X c := by rfl) (hpl : (backTo pos (starEach [b, c] X.env)).any (·.1) = false := by rfl) : EvI X E own B H σ tg (.Call (.Name "range" p) [a, b, c] [] pos) rInt KoT (rangeS lo hi (-1)) :=
  ⟨_, pi_range3 hg hm (pa_cons peW (pa_cons peW (pa1 hs2) hs1) hs) hs hpl, fun B1 H1 S e1 e2 Q k => ha B1 H1 S e1 e2 _ fun v B2 H2 S2 e3 e4 r => hb B2 H2 S2 (e1.trans e3) (e2.trans e4) _ fun w B3 H3 S3 e5 e6 r' => hc B3 H3 S3 ((e1.trans e3).trans e5) ((e2.trans e4).trans e6) _ fun u B4 H4 S4 e7 e8 r'' => by
    have q := rsz_neg hz
    refine ⟨lo, hi, -1, (Builtin.Range.rangeSize lo hi (-1)).toNat, by rw [show v = .int lo from r, show w = .int hi from r', show u = .int (-1) from r''], ⟨by omega, by omega, small_neg hz, by omega⟩, k _ B4 H4 S4 ((e3.trans e5).trans e7) ((e4.trans e6).trans e8) ?_ (by rw [rangeS_len, sizeLine_eq]; omega)⟩
    refine ⟨fun i own' B' H' S' e k h => by rw [rangeS_len] at h; exact h, fun i own' B' H' S' e k h => by rw [rangeS_len] at h; exact h, fun i own' B' H' v H'' x S' e k hx hy => ?_⟩
    obtain ⟨e1, h1⟩ := hy
    subst e1
    have hl : i < (Builtin.Range.rangeSize lo hi (-1)).toNat := by
      have := (List.getElem?_eq_some_iff.mp hx).1
      rwa [rangeS_len] at this
    rw [rangeS_at hl] at hx
    cases hx
    exact ⟨B', S', Ex.refl _, Ex.refl _, h1⟩⟩
end
end Sg

namespace Sg
open PySem PySem.Spec PyProof.Rows L2
section
variable {X Xb : Cx} {E : Ent} {own new own' : Own} {B H B' H' : Hp} {σ : L2.St} {α β γ δ τ ρ ρ' : Type} {R : Rel α} {S : Rel ρ} {e a b c d o it tg : Expr} {x : α} {y : β} {p pos pos' apos : Pos} {i j k k0 : Nat} {z w : Bool} {xs : List α}
variable {n m : Str} {rest body other : List Stmt} {D : Ends} {P : ρ → Prop} {Er : Err → Prop}
/-! for x in d, handed back within -/
theorem forR_one {PR : ρ' → Prop} {PN : τ → Prop} {step : τ → α → Res (ρ' ⊕ τ)} {r : List α} {acc : τ} (F : Fin (sel PR PN) Er (forR step (x :: r) acc)) : Fin (sel PR (fun a' => Fin (sel PR PN) Er (forR step r a'))) Er (step acc x) := by
  unfold forR at F
  cases hm : step acc x with
  | ok o =>
    rw [hm] at F
    cases o with
    | inl u => exact F
    | inr a' => exact F
  | err e => rw [hm] at F; exact F
  | stuck => rw [hm] at F; exact F
theorem forR_core {B2 H2 : Hp} {J : It} {g : TG} {Tg : α → Hp → L2.St → L2.St → Prop} {PR : ρ' → Prop} {PN : τ → Prop} {step : τ → α → Res (ρ' ⊕ τ)} {a0 : τ}
    (hg : ∀ own B H v x σ, Stt E own B H → R.r B v x → ∀ Q : L2.St → Hp → Prop, (∀ σ', Tg x B σ σ' → Q σ' H) → g v σ H Q) (S2 : Stt E own B2 H2) (W : Walk E KoT B2 J R xs)
    (F : Fin (sel PR PN) Er (forR step xs a0)) (Inv : τ → L2.St → Own → Hp → Prop) (h0 : Inv a0 σ own B2) (hup : ∀ a σ' own' B' B'', Inv a σ' own' B' → Ex B' B'' → Inv a σ' own' B'')
    (hs : ∀ a x σ' σ2 own' B' H' (Q : τ → Prop), Inv a σ' own' B' → Stt E own' B' H' → Ex B2 B' → Tg x B' σ' σ2 → Fin (sel PR Q) Er (step a x) →
      WSs X body { nx := TurnE E B' Q Inv, rt := D.rt, bk := fun _ _ => False, ct := TurnE E B' Q Inv } σ2 H')
    (hd : ∀ a σ' own' B' H', Inv a σ' own' B' → Stt E own' B' H' → Ex B2 B' → PN a → D.nx σ' H') :
    ∃ W : Nat → Nat → L2.St → Hp → Prop, (∃ m, W 0 m σ H2) ∧ ∀ i m σ H, W i m σ H →
      (J.stop i H ∧ D.nx σ H) ∨ (J.go i H ∧ ∃ N : L2.St → Hp → Prop, (∀ σ' H', N σ' H' → ∃ m', m' < m ∧ W (i + 1) m' σ' H') ∧ ∀ x H', J.yld i H x H' → g x σ H' fun σ2 H2 => WSs X body { D with nx := N, ct := N, bk := D.nx } σ2 H2) := by
  refine ⟨fun i' mm σ' H' => mm = xs.length - i' ∧ i' ≤ xs.length ∧ ∃ a own' B', Fin (sel PR PN) Er (forR step (xs.drop i') a) ∧ Stt E own' B' H' ∧ Ex B2 B' ∧ Inv a σ' own' B', ⟨xs.length, by simp, Nat.zero_le _, a0, own, B2, by rw [List.drop_zero]; exact F, S2, Ex.refl _, h0⟩, ?_⟩
  rintro i' mm σ' H' ⟨rfl, hi, a, own', B', F', S', e', iv⟩
  by_cases hlt : i' < xs.length
  · refine .inr ⟨W.go i' own' B' H' S' e' trivial hlt, fun σ2 H2 => ∃ a own' B', Fin (sel PR PN) Er (forR step (xs.drop (i' + 1)) a) ∧ Stt E own' B' H2 ∧ Ex B2 B' ∧ Inv a σ2 own' B', fun σ2 H2 q => ⟨xs.length - (i' + 1), by omega, rfl, hlt, q⟩, fun v H'' hy => ?_⟩
    have hx : xs[i']? = some xs[i'] := List.getElem?_eq_getElem hlt
    obtain ⟨B'', S'', e3, e4, rx⟩ := W.yld i' own' B' H' v H'' _ S' e' trivial hx hy
    refine hg own' B'' H'' v _ σ' S'' rx _ fun σ2 tgx => ?_
    have hdrop : xs.drop i' = xs[i'] :: xs.drop (i' + 1) := List.drop_eq_getElem_cons hlt
    rw [hdrop] at F'
    have F2 := forR_one F'
    have done := hs a _ σ' σ2 own' B'' H'' _ (hup _ _ _ _ _ iv e3) S'' (e'.trans e3) tgx F2
    intro pins s I
    refine wpAny_mono (done pins s I) (fun f s' q => ?_) fun _ _ q => q
    cases f with
    | next =>
      obtain ⟨σ2, H2', I2, a', own2, B3, q1, q2, q3, q4⟩ := q
      exact ⟨σ2, H2', I2, a', own2, B3, q1, q2, (e'.trans e3).trans q3, q4⟩
    | cont =>
      obtain ⟨σ2, H2', I2, a', own2, B3, q1, q2, q3, q4⟩ := q
      exact ⟨σ2, H2', I2, a', own2, B3, q1, q2, (e'.trans e3).trans q3, q4⟩
    | brk =>
      obtain ⟨_, _, _, h⟩ := q
      exact h.elim
    | ret u => exact q
  · have e : i' = xs.length := by omega
    subst e
    rw [List.drop_length] at F'
    exact .inl ⟨W.stop _ own' B' H' S' e' trivial (Nat.le_refl _), hd a σ' own' B' H' iv S' e' F'⟩
theorem s_forRD {tg : Expr} {Tg : Int → Hp → L2.St → L2.St → Prop} {step : τ → Int → Res (ρ' ⊕ τ)} {kr : ρ' → Res ρ} {kn : τ → Res ρ} {a0 : τ} {kvs : List (Int × α)} (C : Cok X k0) (ht : TgOkA X tg rInt Tg) (S0 : Stt E own B H) (hit : EvKB X E B H σ it R kvs)
    (F : Fin (kE S E D.rt) Er ((forR step (kvs.map (·.1)) a0).bind (sel kr kn)))
    (Inv : τ → L2.St → Own → Hp → Prop) (h0 : ∀ B1, Ex B B1 → Inv a0 σ own B1) (hup : ∀ a σ' own' B' B'', Inv a σ' own' B' → Ex B' B'' → Inv a σ' own' B'')
    (hs : ∀ E' rt', Ex E.H0 (Ent.H0 E') → ∀ a x σ' σ2 own' B' H' (Q : τ → Prop), Inv a σ' own' B' → Stt E' own' B' H' → Ex B B' → Tg x B' σ' σ2 → Fin (sel (fun u => Fin (kE S E' rt') Er (kr u)) Q) Er (step a x) →
      WSs X body { nx := TurnE E' B' Q Inv, rt := rt', bk := fun _ _ => False, ct := TurnE E' B' Q Inv } σ2 H')
    (hd : ∀ a σ' own' B' H', Inv a σ' own' B' → Stt E own' B' H' → Ex B B' → Fin (kE S E D.rt) Er (kn a) → WSs X rest D σ' H')
    (hf : ∀ x, foldedSetIterable it X.env x = pure x := by intro _; rfl) : WSs X (.For tg it body [] pos :: rest) D σ H := by
  obtain ⟨q, ws, hv, hqH, no, hp⟩ := hit
  have kr' := keys_rel hp
  obtain ⟨g, pg, hg⟩ := ht
  have F1 : Fin (sel (fun u => Fin (kE S E D.rt) Er (kr u)) (fun a => Fin (kE S E D.rt) Er (kn a))) Er (forR step (kvs.map (·.1)) a0) := Fin.mono (Fin.bind F) (fun o _ h => by cases o <;> exact h) fun _ h => h
  rcases hqH with hqH | ⟨ob, hqH⟩
  · refine WSs.cons (ps_lock (ps_for C.own C.calm (pi_keys peW) pg pssW hf)) ⟨q, .dK ws, hqH, trivial, fun ob => ?_⟩
    refine hv _ (fun a ys h => ?_) _ ⟨q, ob, rfl, .inl ⟨ws, upd_same, ?_⟩⟩
    · rw [upd_ne fun z => by rw [z, hqH] at h; cases h]
      exact h
    · have SE := up_enter (f := .frz ob (.dK ws)) S0 hqH no (fun ys z => by cases z)
      have ex := up_exB (f := .frz ob (.dK ws)) S0 hqH rfl
      have exE : Ex E.H0 (upE E B q (.frz ob (.dK ws))).H0 := up_exE S0 hqH rfl
      have F2 : Fin (sel (fun u => Fin (kE S (upE E B q (.frz ob (.dK ws))) fun v H' => H' q = some (.frz ob (.dK ws)) ∧ D.rt v (upd H' q (.dK ws))) Er (kr u)) (fun a => Fin (kE S E D.rt) Er (kn a))) Er (forR step (kvs.map (·.1)) a0) := Fin.mono F1 (fun o _ h => by
        cases o with
        | inr a => exact h
        | inl u =>
          refine Fin.mono (show Fin (kE S E D.rt) Er (kr u) from h) (fun y _ hy v B' H' S' r => ?_) fun _ h => h
          exact ⟨up_at S', hy v _ _ (up_back S0 hqH (fun ys z => by cases z) S') (S.mono (up_exBack (f := .frz ob (.dK ws)) S0 hqH rfl S') r)⟩) fun _ h => h
      exact forR_core (hg (upE E B q (.frz ob (.dK ws)))) SE (walk_keysE upd_same kr') F2 Inv (h0 _ ex) hup (fun a x σ' σ2 own' B' H' Q iv S' e' t F' => hs _ _ exE a x σ' σ2 own' B' H' Q iv S' (ex.trans e') t F')
        fun a σ' own' B' H' iv S' e' F' => by
          have T := up_back S0 hqH (fun ys z => by cases z) S'
          have exb := up_exBack (f := .frz ob (.dK ws)) S0 hqH rfl S'
          exact ⟨up_at S', hd a σ' own' _ _ (hup _ _ _ _ _ iv exb) T ((ex.trans e').trans exb) F'⟩
  · refine WSs.cons (ps_for C.own C.calm (pi_keys peW) pg pssW hf) (hv _ (fun _ _ h => h) _ ⟨q, ob, rfl, .inl ⟨ws, hqH, ?_⟩⟩)
    have SE := up_enter (f := .frz ob (.dK ws)) S0 hqH no (fun ys z => by cases z)
    rw [upd_id hqH] at SE
    have ex := up_exB (f := .frz ob (.dK ws)) S0 hqH rfl
    have exE : Ex E.H0 (upE E B q (.frz ob (.dK ws))).H0 := up_exE S0 hqH rfl
    have F2 : Fin (sel (fun u => Fin (kE S (upE E B q (.frz ob (.dK ws))) D.rt) Er (kr u)) (fun a => Fin (kE S E D.rt) Er (kn a))) Er (forR step (kvs.map (·.1)) a0) := Fin.mono F1 (fun o _ h => by
      cases o with
      | inr a => exact h
      | inl u =>
        refine Fin.mono (show Fin (kE S E D.rt) Er (kr u) from h) (fun y _ hy v B' H' S' r => ?_) fun _ h => h
        have T := up_back S0 hqH (fun ys z => by cases z) S'
        rw [upd_id (up_at S')] at T
        exact hy v _ _ T (S.mono (up_exBack (f := .frz ob (.dK ws)) S0 hqH rfl S') r)) fun _ h => h
    exact forR_core (hg (upE E B q (.frz ob (.dK ws)))) SE (walk_keysE upd_same kr') F2 Inv (h0 _ ex) hup (fun a x σ' σ2 own' B' H' Q iv S' e' t F' => hs _ _ exE a x σ' σ2 own' B' H' Q iv S' (ex.trans e') t F')
      fun a σ' own' B' H' iv S' e' F' => by
        have T := up_back S0 hqH (fun ys z => by cases z) S'
        have exb := up_exBack (f := .frz ob (.dK ws)) S0 hqH rfl S'
        rw [upd_id (up_at S')] at T
        exact hd a σ' own' _ _ (hup _ _ _ _ _ iv exb) T ((ex.trans e').trans exb) F'
end
end Sg

namespace Sg
open PySem PySem.Spec PyProof.Rows L2
section
variable {X : Cx} {E : Ent} {own : Own} {B H : Hp} {σ : L2.St} {α : Type} {R : Rel α} {a b : Expr} {pos : Pos} {xs ys : List α}
/-! x or y, lists -/
theorem ee_orL [DecidableEq α] (ha : EvE X E own B H σ a (rLst R) xs) (hb : EvE X E own B H σ b (rLst R) ys) : EvE X E own B H σ (.BoolOp .Or [a, b] pos) (rLst R) (if xs = [] then ys else xs) := fun B1 H1 S1 e1 e2 Q k =>
  WE.of (pe_orT peW (pe_one peW)) (ha B1 H1 S1 e1 e2 _ fun v B2 H2 S2 e3 e4 r => by
    obtain ⟨p, vs, rfl, h2, h3⟩ := r
    have h2' := S2.bh.ex.rdL h2
    refine ⟨!vs.isEmpty, ?_, ?_⟩
    · exact .inl ⟨vs, .inl h2', rfl⟩
    · cases h3 with
      | nil =>
        refine hb B2 H2 S2 (e1.trans e3) (e2.trans e4) _ fun w B3 H3 S3 e5 e6 r' => ?_
        exact k w B3 H3 S3 (e3.trans e5) (e4.trans e6) (by rw [if_pos rfl]; exact r')
      | cons c d =>
        exact k _ B2 H2 S2 e3 e4 (by rw [if_neg (List.cons_ne_nil _ _)]; exact ⟨p, _, rfl, h2, .cons c d⟩))
end
end Sg

namespace Sg
open PySem PySem.Spec PyProof.Rows L2
section
variable {X Xb : Cx} {E : Ent} {own new own' : Own} {B H B' H' : Hp} {σ : L2.St} {α β γ δ τ ρ ρ' : Type} {R : Rel α} {S : Rel β} {T : Rel γ} {U : Rel δ} {e a b c d o it tg : Expr} {x : α} {y : β} {p pos pos' apos : Pos} {i j k k0 : Nat} {z w : Bool} {xs : List α} {ys : List β} {zs : List γ} {es : List Expr}
variable {n m f : Str} {rest body other : List Stmt} {D : Ends}
/-- x = [a, b, c], new lists all -/
theorem s_asgOL3 (C : Cok X k) (L : Slot X i n) (S0 : Stt E own B H) (ha : EvL X E own B H σ a R xs) (hb : ∀ own' B' H', Stt E own' B' H' → Ex B B' → Ex H H' → EvL X E own' B' H' σ b S ys) (hc : ∀ own' B' H', Stt E own' B' H' → Ex B B' → Ex H H' → EvL X E own' B' H' σ c T zs)
    (q : ∀ p q0 q1 q2 us vs ws B' H', Stt E ((p, .lst [.ref q0, .ref q1, .ref q2]) :: (q2, .lst ws) :: (q1, .lst vs) :: (q0, .lst us) :: own) B' H' → Ex B B' → Paired (R.r B') us xs → Paired (S.r B') vs ys → Paired (T.r B') ws zs → WSs X rest D (σ.set i (some (.ref p))) H')
    (hst : starEach (a :: [b, c]) X.env = (false, eval a X.env) :: starEach [b, c] X.env := by rfl) (hst1 : starEach (b :: [c]) X.env = (false, eval b X.env) :: starEach [c] X.env := by rfl) (hst2 : St1 X c := by rfl)
    (hs : swapsWith (.List [a, b, c] pos') (some (.Name n p)) pos.line X.env = pure false := by rfl) : WSs X (.Assign [.Name n p] (.List [a, b, c] pos') pos :: rest) D σ H :=
  WSs.cons (ps_set C.nd L.ix L.loc (pe_lst (pa_cons peW (pa_cons peW (pa1 hst2) hst1) hst)) hs L.hf) (ha B H S0 (Ex.refl _) (Ex.refl _) _ fun q0 us B2 H2 S2 e1 e2 r1 => hb _ B2 H2 S2 e1 e2 B2 H2 S2 (Ex.refl _) (Ex.refl _) _ fun q1 vs B3 H3 S3 e3 e4 r2 =>
    hc _ B3 H3 S3 (e1.trans e3) (e2.trans e4) B3 H3 S3 (Ex.refl _) (Ex.refl _) _ fun q2 ws B4 H4 S4 e5 e6 r3 =>
    ⟨by show 3 ≤ sizeLine; decide, fun pp hp => q pp q0 q1 q2 us vs ws B4 _ (S4.alloc hp fun ys z => by cases z) ((e1.trans e3).trans e5) (pimp r1 fun _ _ z => R.mono (e3.trans e5) z) (pimp r2 fun _ _ z => S.mono e5 z) r3⟩)
/-- a list of one's own lists, looked at -/
theorem ev_olv {q : Addr} {vs : List V} {xss : List (List α)} (hp : PE X o (tVar i)) (h : σ[i]? = some (some (.ref q))) (hk : (q, HO.lst vs) ∈ own) (hr : Paired (fun v xs => ∃ qj us, v = V.ref qj ∧ (qj, HO.lst us) ∈ own ∧ Paired (R.r B) us xs) vs xss) : EvB X E own B H σ o (rLst (rLst R)) xss := fun B1 H1 S1 e1 e2 Q kq =>
  WE.of hp ⟨.ref q, h, kq _ B1 H1 S1 (Ex.refl _) (Ex.refl _) ⟨q, vs, rfl, Rd.of (S1.ow _ hk).2.2, pimp hr fun v xs ⟨qj, us, h1, h2, h3⟩ => ⟨qj, us, h1, Rd.of (S1.ow _ h2).2.2, pimp h3 fun _ _ z => R.mono (e1.trans S1.bh.ex) z⟩⟩⟩
/-- xs * n, n of any kind -/
theorem el_repK {q : Int} (ha : EvL X E own B H σ a R xs) (hb : EvB X E own B H σ b rInt q) (hz : -(2 ^ 63) ≤ q ∧ q < 2 ^ 63 ∧ xs.length * q.toNat ≤ sizeLine) : EvL X E own B H σ (.BinOp a .Mult b pos) R (List.replicate q.toNat xs).flatten := fun B1 H1 S1 e1 e2 Q k =>
  WE.of (pe_op (show OpR X (binaryOp .Mult) rRepR from op_rep) peW peW) (ha B1 H1 S1 e1 e2 _ fun l vs B2 H2 S2 e3 e4 r => by
    have n := (S2.ow _ (List.mem_cons_self ..)).2.1
    refine hb (upd B2 l (.lst vs)) H2 S2.keep (e1.trans (e3.trans (Sx.new n).ex)) (e2.trans e4) _ fun w B3 H3 S3 e5 e6 r' => ?_
    have hB : B3 l = some (.lst vs) := e5.lst upd_same
    refine ⟨l, q, vs, rfl, r', S3.bh _ _ hB, hz.1, hz.2.1, by rw [plen r]; exact hz.2.2, fun p np => ?_⟩
    exact k p _ B3 _ (S3.alloc np (o := .lst (List.replicate q.toNat vs).flatten) fun ys z => by cases z) (e3.trans ((Sx.new n).ex.trans e5)) ((e4.trans e6).trans (Sx.new np).ex) (prep (pimp r fun _ _ z => R.mono ((Sx.new n).ex.trans e5) z) _))
end
end Sg

namespace Sg
open PySem PySem.Spec PyProof.Rows L2
/-! ### lists that are new since a mark -/
section
variable {α β γ δ : Type}
def rLstN (Bo : Hp) (R : Rel α) : Rel (List α) := ⟨fun H v xs => ∃ p vs, v = .ref p ∧ H p = some (.lst vs) ∧ Bo p = none ∧ Paired (R.r H) vs xs, fun e h => by
  obtain ⟨p, vs, h1, h2, h3, h4⟩ := h
  exact ⟨p, vs, h1, e.lst h2, h3, pimp h4 fun _ _ q => R.mono e q⟩⟩
theorem rLstN.forget {Bo : Hp} {R : Rel α} {H : Hp} {v : V} {xs : List α} (h : (rLstN Bo R).r H v xs) : (rLst R).r H v xs := by
  obtain ⟨p, vs, h1, h2, h3, h4⟩ := h
  exact ⟨p, vs, h1, Rd.of h2, h4⟩
instance {Bo : Hp} {R : Rel α} : NN (rLstN Bo R) := ⟨fun h => by obtain ⟨p, vs, h1, _⟩ := h; rw [h1]; exact fun q => by cases q⟩
theorem Ex.back {Bo B : Hp} (e : Ex Bo B) {p : Addr} (h : B p = none) : Bo p = none := by
  cases q : Bo p with
  | none => rfl
  | some o =>
    obtain ⟨o', h1, _⟩ := e _ _ q
    rw [h] at h1
    cases h1
/-- what is new since a later mark is new since an earlier one -/
class AntiN (RR : Hp → Rel α) : Prop where
  an : ∀ {Bo B H : Hp} {v : V} {x : α}, Ex Bo B → (RR B).r H v x → (RR Bo).r H v x
instance {R : Rel α} : AntiN (fun _ => R) := ⟨fun _ h => h⟩
instance {R : Rel α} : AntiN (fun B => rLstN B R) := ⟨fun e h => by
  obtain ⟨p, vs, h1, h2, h3, h4⟩ := h
  exact ⟨p, vs, h1, h2, e.back h3, h4⟩⟩
instance {R : Hp → Rel α} {S : Hp → Rel β} [AntiN R] [AntiN S] : AntiN (fun B => rPr (R B) (S B)) := ⟨fun e h => by
  obtain ⟨p, a, b, h1, h2, h3, h4⟩ := h
  exact ⟨p, a, b, h1, h2, AntiN.an (RR := R) e h3, AntiN.an (RR := S) e h4⟩⟩
instance {R : Hp → Rel α} {S : Hp → Rel β} {T : Hp → Rel γ} [AntiN R] [AntiN S] [AntiN T] : AntiN (fun B => rT3 (R B) (S B) (T B)) := ⟨fun e h => by
  obtain ⟨p, a, b, c, h1, h2, h3, h4, h5⟩ := h
  exact ⟨p, a, b, c, h1, h2, AntiN.an (RR := R) e h3, AntiN.an (RR := S) e h4, AntiN.an (RR := T) e h5⟩⟩
def kEN {ρ : Type} (RR : Hp → Rel ρ) : Kind ρ := fun E Q x => kE (RR E.B0) E Q x
def kLN {ρ : Type} (RR : Hp → Rel ρ) : Kind (List ρ) := fun E Q x => kL (RR E.B0) E Q x
end
/-- all newer things but tuples are let go of; one of them is written -/
theorem stt_reset {E : Ent} {own own' : Own} {Bo Ho B H : Hp} {q : Addr} {vs us : List V} (So : Stt E own' Bo Ho) (hx : Ex Bo B) (S : Stt E own B H) (hq : B q = some (.lst vs)) (hn : Bo q = none) : ∃ B', Stt E own B' (upd H q (.lst us)) ∧ Ex Bo B' ∧ Tx B B' ∧ ∀ p ws, Bo p = none → B' p ≠ some (.lst ws) := by
  have hH0 : E.H0 q = none := by
    rcases S.fr q _ hq with h | h
    · rw [So.b0 _ _ h] at hn
      cases hn
    · exact h
  refine ⟨fun x => match Bo x with
    | some _ => B x
    | none => match B x with
      | some (.tup ys) => some (.tup ys)
      | _ => none, ⟨fun a o e => ?_, fun a o e => ?_, fun a o e => ?_, fun a ys e => ?_, fun a o e => ?_, fun z hz => ?_, S.nd⟩, fun a o e => ?_, fun a ys e => ?_, fun p ws hp e => ?_⟩
  · show (match Bo a with | some _ => B a | none => _) = _
    rw [So.b0 a o e]
    exact S.b0 a o e
  · rw [upd_ne fun z => by
      subst z
      rw [hH0] at e
      cases e]
    exact S.h0 a o e
  · have e' : (match Bo a with
      | some _ => B a
      | none => match B a with
        | some (.tup ys) => some (.tup ys)
        | _ => none) = some o := e
    have hB : B a = some o ∧ a ≠ q := by
      cases hb : Bo a with
      | some u =>
        rw [hb] at e'
        exact ⟨e', fun z => by rw [z, hn] at hb; cases hb⟩
      | none =>
        rw [hb] at e'
        cases hv : B a with
        | none => rw [hv] at e'; cases e'
        | some u =>
          rw [hv] at e'
          cases u with
          | tup ys =>
            refine ⟨e', fun z => ?_⟩
            rw [z, hq] at hv
            cases hv
          | _ => cases e'
    rw [upd_ne hB.2]
    exact S.bh a o hB.1
  · have hne : a ≠ q := fun z => by
      subst z
      rw [upd_same] at e
      cases e
    rw [upd_ne hne] at e
    have hB := S.tu a ys e
    show (match Bo a with | some _ => B a | none => _) = _
    cases hb : Bo a with
    | some u => exact hB
    | none =>
      show (match B a with | some (.tup ys) => some (HO.tup ys) | _ => none) = _
      rw [hB]
  · have e' : (match Bo a with
      | some _ => B a
      | none => match B a with
        | some (.tup ys) => some (.tup ys)
        | _ => none) = some o := e
    cases hb : Bo a with
    | some u =>
      rw [hb] at e'
      exact S.fr a o e'
    | none =>
      rw [hb] at e'
      cases hv : B a with
      | none => rw [hv] at e'; cases e'
      | some u =>
        rw [hv] at e'
        cases u with
        | tup ys => cases e'; exact S.fr a _ hv
        | _ => cases e'
  · obtain ⟨h1, h2, h3⟩ := S.ow z hz
    refine ⟨h1, ?_, ?_⟩
    · show (match Bo z.1 with | some _ => B z.1 | none => _) = _
      cases hb : Bo z.1 with
      | some u => exact h2
      | none =>
        show (match B z.1 with | some (.tup ys) => some (HO.tup ys) | _ => none) = _
        rw [h2]
    · rw [upd_ne fun w => by
        rw [w, hq] at h2
        cases h2]
      exact h3
  · obtain ⟨o', h1, h2⟩ := hx a o e
    refine ⟨o', ?_, h2⟩
    show (match Bo a with | some _ => B a | none => _) = _
    rw [e]
    exact h1
  · show (match Bo a with | some _ => B a | none => _) = _
    cases hb : Bo a with
    | some u => exact e
    | none =>
      show (match B a with | some (.tup ys) => some (HO.tup ys) | _ => none) = _
      rw [e]
  · have e' : (match Bo p with
      | some _ => B p
      | none => match B p with
        | some (.tup ys) => some (.tup ys)
        | _ => none) = some (HO.lst ws) := e
    rw [hp] at e'
    cases hv : B p with
    | none => rw [hv] at e'; cases e'
    | some u =>
      rw [hv] at e'
      cases u with
      | tup ys => cases e'
      | _ => cases e'
theorem Ex.tx {B B' : Hp} (e : Ex B B') : Tx B B' := fun _ _ h => e.tup h
theorem Tx.trans {B B' B'' : Hp} (a : Tx B B') (b : Tx B' B'') : Tx B B'' := fun x ys h => b x ys (a x ys h)
section
variable {X Xb : Cx} {E : Ent} {own new own' : Own} {B H B' H' Bo Ho : Hp} {σ : L2.St} {α β γ δ τ ρ ρ' : Type} {R : Rel α} {S : Rel β} {T : Rel γ} {U : Rel δ} {e a b c d o it tg : Expr} {x : α} {y : β} {p pos pos' apos : Pos} {i j k k0 : Nat} {z w : Bool} {xs : List α} {ys : List β} {es : List Expr}
variable {n m f : Str} {rest body other : List Stmt} {D : Ends} {ps : List Str}
theorem ev_nl (h : EvB X E own B H σ e (rLstN Bo R) xs) : EvB X E own B H σ e (rLst R) xs := fun B1 H1 S1 e1 e2 Q k => h B1 H1 S1 e1 e2 Q fun v B2 H2 S2 e3 e4 r => k v B2 H2 S2 e3 e4 (rLstN.forget r)
theorem ee_nl (h : EvE X E own B H σ e (rLstN Bo R) xs) : EvE X E own B H σ e (rLst R) xs := fun B1 H1 S1 e1 e2 Q k => h B1 H1 S1 e1 e2 Q fun v B2 H2 S2 e3 e4 r => k v B2 H2 S2 e3 e4 (rLstN.forget r)
/-- a new list, kept, new since the mark -/
theorem el_toN (hx : Ex Bo B) (h : EvL X E own B H σ e R xs) : EvE X E own B H σ e (rLstN Bo R) xs := fun B1 H1 S e1 e2 Q k => h B1 H1 S e1 e2 Q fun p vs B2 H2 S2 e3 e4 r => by
  have n := (S2.ow _ (List.mem_cons_self ..)).2.1
  exact k (.ref p) _ H2 S2.keep (e3.trans (Sx.new n).ex) e4 ⟨p, vs, rfl, upd_same, (hx.trans (e1.trans e3)).back n, pimp r fun _ _ q => R.mono (Sx.new n).ex q⟩
theorem ee_callN {args : δ → AR} {f : δ → Res ρ} {RR : Hp → Rel ρ} {d : δ} {r : ρ} [A : AntiN RR] (hx : Ex Bo B) (C : Cok X k0) (G : Cal X k n ps (SpA args (kEN RR) f)) (hk : k ≤ k0) (hg : Gl X n) (ha : EvAs X E own B H σ (e :: es) (args d)) (hm : f d = .ok r)
    (hdb : (n == ("__debug__" : Str)) = false := by rfl) (he : starEach (e :: es) X.env = (false, eval e X.env) :: starEach es X.env := by rfl) (hpl : (backTo pos (starEach es X.env)).any (·.1) = false := by rfl) : EvE X E own B H σ (.Call (.Name n p) (e :: es) [] pos) (RR Bo) r := fun B1 H1 S1 e1 e2 Q q =>
  WE.of (pe_cal C G hk hg hdb he hpl) (ha B1 H1 S1 e1 e2 _ fun vs B2 H2 S2 e3 e4 ra => by
    rw [List.append_nil]
    exact ⟨B2, d, S2.bh, S2.tu, ra, kE_call (RR := RR B2) S2 hm fun v B3 H3 S3 e5 e6 r => q v B3 H3 S3 (e3.trans e5) (e4.trans e6) (A.an (hx.trans (e1.trans e3)) r)⟩)
theorem el_callN {args : δ → AR} {f : δ → Res (List ρ)} {RR : Hp → Rel ρ} {d : δ} {r : List ρ} [A : AntiN RR] (hx : Ex Bo B) (C : Cok X k0) (G : Cal X k n ps (SpA args (kLN RR) f)) (hk : k ≤ k0) (hg : Gl X n) (ha : EvAs X E own B H σ (e :: es) (args d)) (hm : f d = .ok r)
    (hdb : (n == ("__debug__" : Str)) = false := by rfl) (he : starEach (e :: es) X.env = (false, eval e X.env) :: starEach es X.env := by rfl) (hpl : (backTo pos (starEach es X.env)).any (·.1) = false := by rfl) : EvL X E own B H σ (.Call (.Name n p) (e :: es) [] pos) (RR Bo) r := fun B1 H1 S1 e1 e2 Q q =>
  WE.of (pe_cal C G hk hg hdb he hpl) (ha B1 H1 S1 e1 e2 _ fun vs B2 H2 S2 e3 e4 ra => by
    rw [List.append_nil]
    exact ⟨B2, d, S2.bh, S2.tu, ra, kL_call (RR := RR B2) S2 hm fun p vs B3 H3 S3 e5 e6 r => q p vs B3 H3 S3 (e3.trans e5) (e4.trans e6) (pimp r fun _ _ z => A.an (hx.trans (e1.trans e3)) z)⟩)
/-- x.clear(), x new since the mark: all that is newer is let go of -/
theorem s_clearN {apos : Pos} (So : Stt E own' Bo Ho) (hx : Ex Bo B) (S0 : Stt E own B H) (ha : EvE X E own B H σ a (rLstN Bo R) xs)
    (kt : ∀ B' H', Stt E own B' H' → Ex Bo B' → Tx B B' → WSs X rest D σ H')
    (t : BmT0 X a "clear" apos p := by exact ⟨rfl, rfl⟩) (hw : swapsWith (.Call (.Attribute a "clear" apos) [] [] p) none pos.line X.env = pure false := by rfl) :
    WSs X (.Expr (.Call (.Attribute a "clear" apos) [] [] p) pos :: rest) D σ H :=
  WSs.cons (ps_expr (pe_bm0 PySem.F.plainAttrs_list PySem.F.slot_list_clear PySem.F.type_list_clear mt_clear peW t.1 t.2) hw) (ha B H S0 (Ex.refl _) (Ex.refl _) _ fun v B2 H2 S2 e3 e4 r => by
    obtain ⟨q, vs, rfl, h2, h3, h4⟩ := r
    have hq := S2.bh _ _ h2
    obtain ⟨B', S', x1, x2, _⟩ := stt_reset (us := []) So (hx.trans e3) S2 h2 h3
    exact ⟨.inl ⟨rfl, _, SqL.of hq⟩, q, vs, rfl, rfl, hq, kt B' _ S' x1 (Tx.trans (e3.tx) x2)⟩)
end
/-! ### xs[a:b:c] -/
def cutC {α : Type} (xs : List α) (l u : Option Int) (c : Int) : List α := (sliceRange (sliceBounds l u (some c) xs.length).1 (sliceBounds l u (some c) xs.length).2.1 (sliceBounds l u (some c) xs.length).2.2).filterMap (xs[·]?)
theorem pfilt {α β : Type} {F : α → β → Prop} {vs : List α} {xs : List β} (h : Paired F vs xs) : ∀ r : List Nat, Paired F (r.filterMap (vs[·]?)) (r.filterMap (xs[·]?))
  | [] => .nil
  | i :: r => by
    rw [List.filterMap_cons, List.filterMap_cons]
    cases e : vs[i]? with
    | none =>
      have hl := plen h
      have e2 : xs[i]? = none := by
        rw [List.getElem?_eq_none_iff] at e ⊢
        omega
      rw [e2]
      exact pfilt h r
    | some v =>
      obtain ⟨x, hx, hF⟩ := L2.paired_get h e
      rw [hx]
      exact .cons hF (pfilt h r)
theorem pcutC {α β : Type} {F : α → β → Prop} {vs : List α} {xs : List β} (h : Paired F vs xs) (l u : Option Int) (c : Int) : Paired F (cutC vs l u c) (cutC xs l u c) := by
  unfold cutC
  rw [plen h]
  exact pfilt h _
section
variable {X : Cx} {e : Expr} {te : TE} {lo hi : Option Expr} {tl th : TO} {pos p1 p2 : Pos}
theorem pe_sliceC {c : Int} {k : Nat} (hc : c ≠ 0) (he : PE X e te) (hl : PO X lo tl) (hu : PO X hi th) : PE X (.Subscript e (.Slice lo hi (some (.Constant (.int c) k p1)) p2) pos) (fun σ H Q => te σ H fun x H1 => tl σ H1 fun l H2 => th σ H2 fun u H3 => ∃ a xs, x = .ref a ∧ SqL X.K H3 a xs ∧ ∀ p, H3 p = none → Q (.ref p) (upd H3 p (.lst (cutC xs l u c)))) := by
  refine ⟨fun pins s σ H Q I h => ?_⟩
  refine Subscript_ (thn (he.run pins s σ H _ I h) fun v s1 ⟨x, H1, I1, r1, q1⟩ => ?_)
  refine wpAny_Slice (thn (hl.run pins s1 σ H1 _ I1 q1) fun vl s2 ⟨l, H2, I2, pl, q2⟩ => thn (hu.run pins s2 σ H2 _ I2 q2) fun vu s3 ⟨u, H3, I3, pu, q3⟩ => ?_)
  obtain ⟨a, xs, ex, hx, q⟩ := q3
  subst ex
  cases r1
  have hst : PO X (some (.Constant (.int c) k p1)) (tPart (tC (.int c))) := po_some pe_int
  refine thn (hst.run pins s3 σ H3 (fun o H4 => o = some c ∧ H4 = H3) I3 ⟨c, rfl, rfl, rfl⟩) fun vs s4 ⟨o, H4, I4, ps, eo, e4⟩ => ?_
  subst eo e4
  have I5 : Inv X pins σ H4 { s4 with heap := s4.heap.push { cls := .type "slice", data := .fields #[vl, vu, vs] } } := I4.kept (t' := s4.toks) fun b ob q => Heap.get?_push_of_some _ q
  obtain ⟨its, r, ht, hz⟩ := I5.list hx
  have hlen := r.length
  show wpAny (model X.prog X.w) X.A (subscriptTail e (.Slice lo hi (some (.Constant (.int c) k p1)) p2) (.ref a) (.ref s4.heap.objs.size)) (EP X pins σ Q) X.xe { s4 with heap := s4.heap.push { cls := .type "slice", data := .fields #[vl, vu, vs] } }
  refine tail_any (ops := [.ref a, .ref s4.heap.objs.size]) ht.isList.typeIs (PySem.slot_list_getitem.lookup) ?_ (by with_unfolding_all rfl)
  refine wpAny_getItem_list_slice ht.isList (Heap.IsSliceOf.new _ vl vu vs) pl pu ps (fun z => hc (Option.some.inj z)) ?_ (by rw [List.size_toArray]; omega)
  have ep : slicePick its.toArray l u (some c) = (cutC its l u c).toArray := by
    unfold slicePick cutC
    simp only [List.size_toArray, List.getElem?_toArray]
  have hle : (cutC xs l u c).length ≤ xs.length := by
    have h1 := slicePick_size_le its.toArray l u (some c)
    rw [ep, List.size_toArray, List.size_toArray] at h1
    rw [plen (pcutC r l u c), hlen]
    exact h1
  rw [ep]
  refine ⟨.ref _, _, I5.laid (t' := s4.toks) (o := .lst (cutC xs l u c)) (fun b ob q => Heap.get?_push_of_some _ q) (Nat.le_refl _) ?_, rfl, q _ (I5.hok.fresh (Nat.le_refl _))⟩
  exact ⟨Nat.le_trans hle hz, _, 0, pcutC r l u c, Heap.get?_push_size _ rfl⟩
end
section
variable {X : Cx} {E : Ent} {own : Own} {B H : Hp} {σ : L2.St} {α : Type} {R : Rel α} {o : Expr} {p p1 pos : Pos} {k : Nat} {xs : List α}
theorem el_cutC [Imm R] {c : Int} {lo hi : Option Expr} {l u : Option Int} (hc : c ≠ 0) (ho : EvB X E own B H σ o (rLst R) xs) (hl : EvP X E own B H σ lo l) (hu : EvP X E own B H σ hi u) : EvL X E own B H σ (.Subscript o (.Slice lo hi (some (.Constant (.int c) k p1)) p) pos) R (cutC xs l u c) := fun B1 H1 S1 e1 e2 Q kk => by
  obtain ⟨tl, pl, hl⟩ := hl
  obtain ⟨tu, pu, hu⟩ := hu
  exact WE.of (pe_sliceC hc peW pl pu) (ho B1 H1 S1 e1 e2 _ fun v B2 H2 S2 e3 e4 r => hl B2 H2 S2 (e1.trans e3) (e2.trans e4) _ fun B3 H3 S3 e5 e6 => hu B3 H3 S3 ((e1.trans e3).trans e5) ((e2.trans e4).trans e6) _ fun B4 H4 S4 e7 e8 => by
    obtain ⟨q, vs, h1, h2, h3⟩ := Rel.mono _ (e6.trans e8) r
    exact ⟨q, vs, h1, .inl h2, fun p np => kk p _ B4 _ (S4.alloc np fun ys z => by cases z) ((e3.trans e5).trans e7) (((e4.trans e6).trans e8).trans (Sx.new np).ex) (pcutC (pimp h3 fun _ _ z => Imm.imm S4.tu z) l u c)⟩)
end
section
variable {X Xb : Cx} {E : Ent} {own new own' : Own} {B H B' H' Bo Ho : Hp} {σ : L2.St} {α β γ δ τ ρ ρ' : Type} {R : Rel α} {S : Rel β} {T : Rel γ} {U : Rel δ} {e a b c d o it tg : Expr} {x : α} {y : β} {p pos pos' apos : Pos} {i j k k0 : Nat} {z w : Bool} {xs : List α} {ys : List β} {zs : List γ} {es : List Expr}
variable {n m f : Str} {rest body other : List Stmt} {D : Ends}
/-! x = [a, b], x = [a, b, c], new lists all; what is owned may be read -/
theorem s_asgOW2 (C : Cok X k) (L : Slot X i n) (S0 : Stt E own B H) (ha : EvL X E own B H σ a R xs) (hb : ∀ q0 us B' H', Stt E ((q0, .lst us) :: own) B' H' → Ex B B' → Ex H H' → EvL X E ((q0, .lst us) :: own) B' H' σ b S ys)
    (q : ∀ p q0 q1 us vs B' H', Stt E ((p, .lst [.ref q0, .ref q1]) :: (q0, .lst us) :: (q1, .lst vs) :: own) B' H' → Ex B B' → Paired (R.r B') us xs → Paired (S.r B') vs ys → WSs X rest D (σ.set i (some (.ref p))) H')
    (hst : starEach (a :: [b]) X.env = (false, eval a X.env) :: starEach [b] X.env := by rfl) (hst2 : St1 X b := by rfl)
    (hs : swapsWith (.List [a, b] pos') (some (.Name n p)) pos.line X.env = pure false := by rfl) : WSs X (.Assign [.Name n p] (.List [a, b] pos') pos :: rest) D σ H :=
  WSs.cons (ps_set C.nd L.ix L.loc (pe_lst (pa_cons peW (pa1 hst2) hst)) hs L.hf) (ha B H S0 (Ex.refl _) (Ex.refl _) _ fun q0 us B2 H2 S2 e1 e2 r1 => hb q0 us B2 H2 S2 e1 e2 B2 H2 S2 (Ex.refl _) (Ex.refl _) _ fun q1 vs B3 H3 S3 e3 e4 r2 =>
    ⟨by show 2 ≤ sizeLine; decide, fun pp hp => q pp q0 q1 us vs B3 _ ((S3.swap.alloc hp fun ys z => by cases z)) (e1.trans e3) (pimp r1 fun _ _ z => R.mono e3 z) r2⟩)
theorem s_asgOW3 (C : Cok X k) (L : Slot X i n) (S0 : Stt E own B H) (ha : EvL X E own B H σ a R xs) (hb : ∀ q0 us B' H', Stt E ((q0, .lst us) :: own) B' H' → Ex B B' → Ex H H' → EvL X E ((q0, .lst us) :: own) B' H' σ b S ys) (hc : ∀ q1 vs q0 us B' H', Stt E ((q1, .lst vs) :: (q0, .lst us) :: own) B' H' → Ex B B' → Ex H H' → EvL X E ((q1, .lst vs) :: (q0, .lst us) :: own) B' H' σ c T zs)
    (q : ∀ p q0 q1 q2 us vs ws B' H', Stt E ((p, .lst [.ref q0, .ref q1, .ref q2]) :: (q2, .lst ws) :: (q1, .lst vs) :: (q0, .lst us) :: own) B' H' → Ex B B' → Paired (R.r B') us xs → Paired (S.r B') vs ys → Paired (T.r B') ws zs → WSs X rest D (σ.set i (some (.ref p))) H')
    (hst : starEach (a :: [b, c]) X.env = (false, eval a X.env) :: starEach [b, c] X.env := by rfl) (hst1 : starEach (b :: [c]) X.env = (false, eval b X.env) :: starEach [c] X.env := by rfl) (hst2 : St1 X c := by rfl)
    (hs : swapsWith (.List [a, b, c] pos') (some (.Name n p)) pos.line X.env = pure false := by rfl) : WSs X (.Assign [.Name n p] (.List [a, b, c] pos') pos :: rest) D σ H :=
  WSs.cons (ps_set C.nd L.ix L.loc (pe_lst (pa_cons peW (pa_cons peW (pa1 hst2) hst1) hst)) hs L.hf) (ha B H S0 (Ex.refl _) (Ex.refl _) _ fun q0 us B2 H2 S2 e1 e2 r1 => hb q0 us B2 H2 S2 e1 e2 B2 H2 S2 (Ex.refl _) (Ex.refl _) _ fun q1 vs B3 H3 S3 e3 e4 r2 =>
    hc q1 vs q0 us B3 H3 S3 (e1.trans e3) (e2.trans e4) B3 H3 S3 (Ex.refl _) (Ex.refl _) _ fun q2 ws B4 H4 S4 e5 e6 r3 =>
    ⟨by show 3 ≤ sizeLine; decide, fun pp hp => q pp q0 q1 q2 us vs ws B4 _ (S4.alloc hp fun ys z => by cases z) ((e1.trans e3).trans e5) (pimp r1 fun _ _ z => R.mono (e3.trans e5) z) (pimp r2 fun _ _ z => S.mono e5 z) r3⟩)
/-! the length of a tuple -/
class LenN {α : Type} (R : Rel α) (n : Nat) : Prop where
  l : ∀ {H : Hp} {v : V} {x : α}, R.r H v x → ∃ p vs, v = .ref p ∧ H p = some (.tup vs) ∧ vs.length = n
theorem lenPr : LenN (rPr R S) 2 := ⟨fun h => by obtain ⟨p, a, b, h1, h2, _⟩ := h; exact ⟨p, _, h1, h2, rfl⟩⟩
theorem lenT3 : LenN (rT3 R S T) 3 := ⟨fun h => by obtain ⟨p, a, b, c, h1, h2, _⟩ := h; exact ⟨p, _, h1, h2, rfl⟩⟩
theorem lenT4 : LenN (rT4 R S T U) 4 := ⟨fun h => by obtain ⟨p, a, b, c, d, h1, h2, _⟩ := h; exact ⟨p, _, h1, h2, rfl⟩⟩
theorem ev_lenTN {n : Nat} (hg : Gl X "len") (hm : X.mg "len" = none) (ha : EvB X E own B H σ a R x) (hl : LenN R n) (hs : St1 X a := by rfl) : EvB X E own B H σ (.Call (.Name "len" p) [a] [] pos) rInt (n : Int) :=
  ev_b1 (f := fun _ : α => (n : Int)) (pe_callB call_len_seq hg hm PySem.boot_len (pa1 hs) (he := hs)) ha fun H1 v Q h k => by
    obtain ⟨p, vs, h1, h2, h3⟩ := hl.l h
    exact ⟨p, vs, by rw [h1], .inr (SqT.of h2), k _ (by rw [h3]; rfl)⟩
/-- something outside of what is known is written -/
theorem stt_poke {q : Addr} {vs us : List V} (S : Stt E own B H) (hq : H q = some (.lst vs)) (hb : B q = none) (h0 : E.H0 q = none) (ho : ∀ z ∈ own, z.1 ≠ q) : Stt E own B (upd H q (.lst us)) :=
  ⟨S.b0, fun a o e => by
    rw [upd_ne fun z => by
      subst z
      rw [h0] at e
      cases e]
    exact S.h0 a o e, fun a o e => by
    rw [upd_ne fun z => by
      subst z
      rw [hb] at e
      cases e]
    exact S.bh a o e, fun a ys e => by
    have hne : a ≠ q := fun z => by
      subst z
      rw [upd_same] at e
      cases e
    rw [upd_ne hne] at e
    exact S.tu a ys e, S.fr, fun z hz => by
    obtain ⟨h1, h2, h3⟩ := S.ow z hz
    exact ⟨h1, h2, by rw [upd_ne (ho z hz)]; exact h3⟩, S.nd⟩
/-- x[i][0].clear(), x[i][1].clear(): x a list of one's own -/
theorem s_clear2P {nx : Str} {px1 px2 pc1 pc2 pk1 pk2 pz1 pz2 ps1 ps2 pm1 pm2 pa1 pa2 pe1 pe2 : Pos} {c1 c2 c3 c4} {ii : Int} {l : Addr} {vs : List V} {xs : List (List α × List β)} {xx : List α × List β}
    (So : Stt E own' Bo Ho) (hx : Ex Bo B) (S0 : Stt E own B H) (hp : ∀ {pp : Pos}, PE X (.Name nx pp) (tVar i)) (h : σ[i]? = some (some (.ref l))) (hk : own[k]? = some (l, .lst vs)) (r : Paired ((rPr (rLstN Bo R) (rLstN Bo S)).r B) vs xs) (hat : atI xs ii = some xx)
    (kt : ∀ B' H', Stt E own B' H' → Ex Bo B' → Tx B B' → WSs X rest D σ H')
    (t1 : BmT0 X (.Subscript (.Subscript (.Name nx px1) (.Constant (.int ii) c1 pc1) pk1) (.Constant (.int 0) c2 pz1) ps1) "clear" pm1 pa1 := by exact ⟨rfl, rfl⟩) (t2 : BmT0 X (.Subscript (.Subscript (.Name nx px2) (.Constant (.int ii) c3 pc2) pk2) (.Constant (.int 1) c4 pz2) ps2) "clear" pm2 pa2 := by exact ⟨rfl, rfl⟩)
    (hw1 : swapsWith (.Call (.Attribute (.Subscript (.Subscript (.Name nx px1) (.Constant (.int ii) c1 pc1) pk1) (.Constant (.int 0) c2 pz1) ps1) "clear" pm1) [] [] pa1) none pe1.line X.env = pure false := by rfl) (hw2 : swapsWith (.Call (.Attribute (.Subscript (.Subscript (.Name nx px2) (.Constant (.int ii) c3 pc2) pk2) (.Constant (.int 1) c4 pz2) ps2) "clear" pm2) [] [] pa2) none pe2.line X.env = pure false := by rfl) :
    WSs X (.Expr (.Call (.Attribute (.Subscript (.Subscript (.Name nx px1) (.Constant (.int ii) c1 pc1) pk1) (.Constant (.int 0) c2 pz1) ps1) "clear" pm1) [] [] pa1) pe1 :: .Expr (.Call (.Attribute (.Subscript (.Subscript (.Name nx px2) (.Constant (.int ii) c3 pc2) pk2) (.Constant (.int 1) c4 pz2) ps2) "clear" pm2) [] [] pa2) pe2 :: rest) D σ H := by
  obtain ⟨u, hu, ⟨t, v0, v1, rfl, ht, ⟨q0, us0, rfl, a1, a2, a3⟩, ⟨q1, us1, rfl, b1, b2, b3⟩⟩⟩ := pat r hat
  obtain ⟨o1, o2, o3⟩ := S0.ow _ (getE hk)
  have hl : H l = some (.lst vs) := o3
  have hl0 : B l = none := o2
  have nq0 : l ≠ q0 := fun z => by rw [z, a1] at hl0; cases hl0
  have htH := S0.bh _ _ ht
  have hq0 := S0.bh _ _ a1
  have hq1 := S0.bh _ _ b1
  have h1 : E.H0 q1 = none := by
    rcases S0.fr q1 _ b1 with h | h
    · rw [So.b0 _ _ h] at b2
      cases b2
    · exact h
  refine WSs.cons (ps_expr (pe_bm0 PySem.F.plainAttrs_list PySem.F.slot_list_clear PySem.F.type_list_clear mt_clear (pe_ix ix_tup (pe_ix ix_list hp pe_int (fun _ _ => rfl)) pe_int (fun _ _ => rfl)) t1.1 t1.2) hw1) ?_
  refine ⟨_, h, l, vs, ii, _, rfl, rfl, SqL.of hl, hu, t, _, 0, _, rfl, rfl, SqT.of htH, rfl, .inl ⟨rfl, _, SqL.of hq0⟩, q0, us0, rfl, rfl, hq0, ?_⟩
  obtain ⟨B', S', x1, x2, x3⟩ := stt_reset (us := []) So hx S0 a1 a2
  have hl' : upd H q0 (.lst []) l = some (.lst vs) := by rw [upd_ne nq0]; exact hl
  have ht' : upd H q0 (.lst []) t = some (.tup [.ref q0, .ref q1]) := by
    rw [upd_ne fun z => by rw [z, hq0] at htH; cases htH]
    exact htH
  have hq1' : ∃ us, upd H q0 (.lst []) q1 = some (.lst us) := by
    by_cases z : q1 = q0
    · rw [z]; exact ⟨_, upd_same⟩
    · exact ⟨us1, by rw [upd_ne z]; exact hq1⟩
  obtain ⟨us, hq1'⟩ := hq1'
  have hB1 : B' q1 = none := by
    cases e : B' q1 with
    | none => rfl
    | some o =>
      exfalso
      have e2 := S'.bh _ _ e
      rw [hq1'] at e2
      cases e2
      exact x3 _ _ b2 e
  refine WSs.cons (ps_expr (pe_bm0 PySem.F.plainAttrs_list PySem.F.slot_list_clear PySem.F.type_list_clear mt_clear (pe_ix ix_tup (pe_ix ix_list hp pe_int (fun _ _ => rfl)) pe_int (fun _ _ => rfl)) t2.1 t2.2) hw2) ?_
  refine ⟨_, h, l, vs, ii, _, rfl, rfl, SqL.of hl', hu, t, _, 1, _, rfl, rfl, SqT.of ht', rfl, .inl ⟨rfl, _, SqL.of hq1'⟩, q1, us, rfl, rfl, hq1', ?_⟩
  refine kt B' _ (stt_poke S' hq1' hB1 h1 fun z hz e => ?_) x1 x2
  have := (S0.ow z hz).2.1
  rw [e, b1] at this
  cases this
end
end Sg

namespace Sg
open PySem PySem.Spec PyProof.Rows L2
/-! ### min, max of whole numbers -/
def minDf (d : Int) : List Int → Int
  | [] => d
  | y :: ys => ys.foldl min y
def maxDf (d : Int) : List Int → Int
  | [] => d
  | y :: ys => ys.foldl max y
theorem alikeAll_ints (xs : List Int) : PySem.W.AlikeAll (xs.map PyData.int) := ⟨fun x hx y hy => by
  obtain ⟨i, _, rfl⟩ := List.mem_map.mp hx
  obtain ⟨j, _, rfl⟩ := List.mem_map.mp hy
  rfl, fun x hx => by
  obtain ⟨i, _, rfl⟩ := List.mem_map.mp hx
  exact fun z => by cases z⟩
theorem reads_int {h : Heap} {v : Value} {n : Int} {bs : List Addr} (r : Reads h v (.int n) bs) : ∃ t, v = .int n t := by
  cases r
  exact ⟨_, rfl⟩
section
variable {X : Cx} {E : Ent} {own : Own} {B H : Hp} {σ : L2.St} {a d : Expr} {p pos kpos : Pos} {k0 : Nat} {xs : List Int} {z : Int}
theorem ev_minD (C : Cok X k0) (hg : Gl X "min") (hm : X.mg "min" = none) (ha : EvB X E own B H σ a (rLst rInt) xs) (hd : EvB X E own B H σ d rInt z) (hs : St1 X a := by rfl)
    (he : backTo pos (starEach (a :: []) X.env) = (false, eval a X.env) :: backTo pos (starEach [] X.env) := by rfl) (hpl : (backTo pos (starEach (a :: []) X.env)).any (·.1) = false := by rfl)
    (hall : (backToKw pos (keywordEach [⟨some "default", d, kpos⟩] X.env)).all (·.1.isSome) = true := by rfl) (hnone : (backToKw pos (keywordEach [⟨some "default", d, kpos⟩] X.env)).any (·.1.isNone) = false := by rfl) (hks : (backToKw pos (keywordEach [⟨some "default", d, kpos⟩] X.env)).filterMap (·.1) = [Str.ofString "default"] := by rfl) :
    EvB X E own B H σ (.Call (.Name "min" p) [a] [⟨some "default", d, kpos⟩] pos) rInt (minDf z xs) := fun B1 H1 S1 e1 e2 Q kq => by
  refine WE.of (pe_callBK (id := "min") callr_any hg hm (by decide +kernel) (pa1 hs) (pk_cons peW pk_nil) (he := he) (hpl := hpl) (hall := hall) (hnone := hnone) (hks := hks)) (ha B1 H1 S1 e1 e2 _ fun v B2 H2 S2 e3 e4 r => ?_)
  refine hd B2 H2 S2 (e1.trans e3) (e2.trans e4) _ fun w B3 H3 S3 e5 e6 r2 => ?_
  intro pins s σ' us ws I rv rz
  obtain ⟨l, vs, rfl, hl, hp⟩ := Rel.mono _ e6 r
  obtain rfl := Vals.ref1 rv
  have r2 : w = .int z := r2
  subst r2
  obtain ⟨w1, rfl, t, rfl⟩ := vals1 rz
  obtain ⟨its, rvs, pl, hz⟩ := I.list (.inl hl)
  show wpAny _ _ (call (.builtin "min") [.ref l] [(Str.ofString "default", .int z t)]) _ _ _
  have hu := C.hu65
  have Qok : ∀ h' tk (n : Int) (t' : Tok), n = minDf z xs → (∀ b o, s.heap.get? b = some o → h'.get? b = some o) → EP X pins σ' Q (.int n t') { s with heap := h', toks := tk } := fun h' tk n t' hn hk => by
    subst hn
    exact ⟨.int _, H3, I.kept hk, ⟨_, rfl⟩, kq _ B3 H3 S3 (e3.trans e5) (e4.trans e6) rfl⟩
  refine PySem.W.min_list_default (A := X.A) (xs := xs.map PyData.int) (as := []) (I.ok.hd C.calm) pl.isList (by rw [List.toList_toArray]; exact ints_read hp rvs) (alikeAll_ints xs) (by rw [PySem.W.depth_ints]; omega) (fun h0 h' tk hk => ?_) (fun y ys i v h' tk bs hx hv hr hk => ?_)
  · rw [List.map_eq_nil_iff] at h0
    subst h0
    exact Qok h' tk z t rfl hk
  · cases xs with
    | nil => cases hx
    | cons n ns =>
      rw [List.map_cons] at hx
      cases hx
      rw [PySem.W.minD_ints] at hr
      obtain ⟨t', rfl⟩ := reads_int hr
      exact Qok h' tk _ t' rfl hk
theorem ev_maxD (C : Cok X k0) (hg : Gl X "max") (hm : X.mg "max" = none) (ha : EvB X E own B H σ a (rLst rInt) xs) (hd : EvB X E own B H σ d rInt z) (hs : St1 X a := by rfl)
    (he : backTo pos (starEach (a :: []) X.env) = (false, eval a X.env) :: backTo pos (starEach [] X.env) := by rfl) (hpl : (backTo pos (starEach (a :: []) X.env)).any (·.1) = false := by rfl)
    (hall : (backToKw pos (keywordEach [⟨some "default", d, kpos⟩] X.env)).all (·.1.isSome) = true := by rfl) (hnone : (backToKw pos (keywordEach [⟨some "default", d, kpos⟩] X.env)).any (·.1.isNone) = false := by rfl) (hks : (backToKw pos (keywordEach [⟨some "default", d, kpos⟩] X.env)).filterMap (·.1) = [Str.ofString "default"] := by rfl) :
    EvB X E own B H σ (.Call (.Name "max" p) [a] [⟨some "default", d, kpos⟩] pos) rInt (maxDf z xs) := fun B1 H1 S1 e1 e2 Q kq => by
  refine WE.of (pe_callBK (id := "max") callr_any hg hm (by decide +kernel) (pa1 hs) (pk_cons peW pk_nil) (he := he) (hpl := hpl) (hall := hall) (hnone := hnone) (hks := hks)) (ha B1 H1 S1 e1 e2 _ fun v B2 H2 S2 e3 e4 r => ?_)
  refine hd B2 H2 S2 (e1.trans e3) (e2.trans e4) _ fun w B3 H3 S3 e5 e6 r2 => ?_
  intro pins s σ' us ws I rv rz
  obtain ⟨l, vs, rfl, hl, hp⟩ := Rel.mono _ e6 r
  obtain rfl := Vals.ref1 rv
  have r2 : w = .int z := r2
  subst r2
  obtain ⟨w1, rfl, t, rfl⟩ := vals1 rz
  obtain ⟨its, rvs, pl, hz⟩ := I.list (.inl hl)
  show wpAny _ _ (call (.builtin "max") [.ref l] [(Str.ofString "default", .int z t)]) _ _ _
  have hu := C.hu65
  have Qok : ∀ h' tk (n : Int) (t' : Tok), n = maxDf z xs → (∀ b o, s.heap.get? b = some o → h'.get? b = some o) → EP X pins σ' Q (.int n t') { s with heap := h', toks := tk } := fun h' tk n t' hn hk => by
    subst hn
    exact ⟨.int _, H3, I.kept hk, ⟨_, rfl⟩, kq _ B3 H3 S3 (e3.trans e5) (e4.trans e6) rfl⟩
  refine PySem.W.max_list_default (A := X.A) (xs := xs.map PyData.int) (as := []) (I.ok.hd C.calm) pl.isList (by rw [List.toList_toArray]; exact ints_read hp rvs) (alikeAll_ints xs) (by rw [PySem.W.depth_ints]; omega) (fun h0 h' tk hk => ?_) (fun y ys i v h' tk bs hx hv hr hk => ?_)
  · rw [List.map_eq_nil_iff] at h0
    subst h0
    exact Qok h' tk z t rfl hk
  · cases xs with
    | nil => cases hx
    | cons n ns =>
      rw [List.map_cons] at hx
      cases hx
      rw [PySem.W.maxD_ints] at hr
      obtain ⟨t', rfl⟩ := reads_int hr
      exact Qok h' tk _ t' rfl hk
/-! min(xs), max(xs), xs not empty -/
theorem ev_minL (C : Cok X k0) (hg : Gl X "min") (hm : X.mg "min" = none) (ha : EvB X E own B H σ a (rLst rInt) xs) (hne : xs ≠ []) (hs : St1 X a := by rfl) : EvB X E own B H σ (.Call (.Name "min" p) [a] [] pos) rInt (minDf 0 xs) := fun B1 H1 S1 e1 e2 Q kq =>
  WE.of (pe_callB (cr_min C.calm) hg hm (by decide +kernel) (pa1 hs) (he := hs)) (ha B1 H1 S1 e1 e2 _ fun v B2 H2 S2 e3 e4 r => by
    obtain ⟨l, vs, rfl, hl, hp⟩ := r
    rw [ints_rel hp] at hl
    refine ⟨l, xs, rfl, .inl hl, List.length_pos_iff.mpr hne, fun m hm1 hm2 => ?_⟩
    have e : m = minDf 0 xs := by
      cases xs with
      | nil => exact absurd rfl hne
      | cons y ys =>
        have f1 : ∀ (l : List Int) (b : Int), l.foldl min b ≤ b ∧ (∀ x ∈ l, l.foldl min b ≤ x) ∧ (l.foldl min b = b ∨ l.foldl min b ∈ l) := by
          intro l
          induction l with
          | nil => intro b; exact ⟨Int.le_refl _, fun x h => (by cases h), .inl rfl⟩
          | cons c r ih =>
            intro b
            obtain ⟨i1, i2, i3⟩ := ih (min b c)
            rw [List.foldl_cons]
            refine ⟨Int.le_trans i1 (Int.min_le_left _ _), fun x hx => ?_, ?_⟩
            · rcases List.mem_cons.mp hx with rfl | hx
              · exact Int.le_trans i1 (Int.min_le_right _ _)
              · exact i2 x hx
            · rcases i3 with i3 | i3
              · rw [i3]
                by_cases h : b ≤ c
                · exact .inl (Int.min_eq_left h)
                · exact .inr (by rw [Int.min_eq_right (by omega)]; exact List.mem_cons_self ..)
              · exact .inr (List.mem_cons_of_mem _ i3)
        obtain ⟨g1, g2, g3⟩ := f1 ys y
        have h1 : ys.foldl min y ∈ y :: ys := by
          rcases g3 with g3 | g3
          · rw [g3]; exact List.mem_cons_self ..
          · exact List.mem_cons_of_mem _ g3
        have h2 := hm2 _ h1
        have h3 : ys.foldl min y ≤ m := by
          rcases List.mem_cons.mp hm1 with rfl | h
          · exact g1
          · exact g2 m h
        show m = ys.foldl min y
        omega
    rw [e]
    exact kq _ B2 H2 S2 e3 e4 rfl)
theorem ev_maxL (C : Cok X k0) (hg : Gl X "max") (hm : X.mg "max" = none) (ha : EvB X E own B H σ a (rLst rInt) xs) (hne : xs ≠ []) (hs : St1 X a := by rfl) : EvB X E own B H σ (.Call (.Name "max" p) [a] [] pos) rInt (maxDf 0 xs) := fun B1 H1 S1 e1 e2 Q kq =>
  WE.of (pe_callB (cr_max C.calm) hg hm (by decide +kernel) (pa1 hs) (he := hs)) (ha B1 H1 S1 e1 e2 _ fun v B2 H2 S2 e3 e4 r => by
    obtain ⟨l, vs, rfl, hl, hp⟩ := r
    rw [ints_rel hp] at hl
    refine ⟨l, xs, rfl, .inl hl, List.length_pos_iff.mpr hne, fun m hm1 hm2 => ?_⟩
    have e : m = maxDf 0 xs := by
      cases xs with
      | nil => exact absurd rfl hne
      | cons y ys =>
        have f1 : ∀ (l : List Int) (b : Int), b ≤ l.foldl max b ∧ (∀ x ∈ l, x ≤ l.foldl max b) ∧ (l.foldl max b = b ∨ l.foldl max b ∈ l) := by
          intro l
          induction l with
          | nil => intro b; exact ⟨Int.le_refl _, fun x h => (by cases h), .inl rfl⟩
          | cons c r ih =>
            intro b
            obtain ⟨i1, i2, i3⟩ := ih (max b c)
            rw [List.foldl_cons]
            refine ⟨Int.le_trans (Int.le_max_left _ _) i1, fun x hx => ?_, ?_⟩
            · rcases List.mem_cons.mp hx with rfl | hx
              · exact Int.le_trans (Int.le_max_right _ _) i1
              · exact i2 x hx
            · rcases i3 with i3 | i3
              · rw [i3]
                by_cases h : c ≤ b
                · exact .inl (Int.max_eq_left h)
                · exact .inr (by rw [Int.max_eq_right (by omega)]; exact List.mem_cons_self ..)
              · exact .inr (List.mem_cons_of_mem _ i3)
        obtain ⟨g1, g2, g3⟩ := f1 ys y
        have h1 : ys.foldl max y ∈ y :: ys := by
          rcases g3 with g3 | g3
          · rw [g3]; exact List.mem_cons_self ..
          · exact List.mem_cons_of_mem _ g3
        have h2 := hm2 _ h1
        have h3 : m ≤ ys.foldl max y := by
          rcases List.mem_cons.mp hm1 with rfl | h
          · exact g1
          · exact g2 m h
        show m = ys.foldl max y
        omega
    rw [e]
    exact kq _ B2 H2 S2 e3 e4 rfl)
end
end Sg

namespace Sg
open PySem PySem.Spec PyProof.Rows L2

/-! ### results within what may raise -/
def Res.sure {α : Type} : Res α → Res α
  | .err _ => .stuck
  | m => m
def Res.catch {α : Type} (m : Res α) (h : Err → Res α) : Res α := match m with
  | .ok a => .ok a
  | .err e => h e
  | .stuck => .stuck
/-- what a clause takes: the classes that it names; none else comes -/
def hdl {α : Type} (l : List Str) (mh : Err → Res α) : Err → Res α := fun e => if l.contains e.cls = true then mh e else .stuck
theorem Fin.getS {α β : Type} {P : β → Prop} {Er : Err → Prop} {m : Res α} {f : α → Res β} (h : Fin P Er (m.sure.bind f)) : ∃ x, m = .ok x ∧ Fin P Er (f x) := by
  cases m with
  | ok x => exact ⟨x, rfl, h⟩
  | err e => exact h.elim
  | stuck => exact h.elim
theorem Fin.getX {α β : Type} {P : β → Prop} {Er : Err → Prop} {m : Res α} {f : α → Res β} (h : Fin P Er (m.bind f)) : (∃ e, m = .err e ∧ Er e) ∨ ∃ x, m = .ok x ∧ Fin P Er (f x) := by
  cases m with
  | ok x => exact .inr ⟨x, rfl, h⟩
  | err e => exact .inl ⟨e, rfl, h⟩
  | stuck => exact h.elim
theorem Fin.catch {α : Type} {P : α → Prop} {Er : Err → Prop} {m : Res α} {h : Err → Res α} (x : Fin P Er (m.catch h)) : Fin P (fun e => Fin P Er (h e)) m := by
  cases m with
  | ok a => exact x
  | err e => exact x
  | stuck => exact x

/-! ### an error and what stands for it -/
abbrev MG := Str → Option Value
def EDv (B : Hp) (v : V) : ED → Prop
  | .int i => v = .int i
  | .ints l => (rLst rInt).r B v l
theorem EDv.mono {B B' : Hp} {v : V} {e : ED} (x : Ex B B') (h : EDv B v e) : EDv B' v e := by
  cases e with
  | int i => exact h
  | «ints» l => exact Rel.mono _ x h
theorem nf_xd {o : HO} {fs : List (Str × V)} (h : nf o = .xd fs) : o = .xd fs := by
  cases o with
  | frz ob u => cases u <;> cases h
  | xd _ => exact h
  | _ => cases h
def ErrF (B : Hp) (d : Option Addr) (l : List (Str × ED)) : Prop := (l = [] ∧ d = none) ∨ ∃ dx fs, d = some dx ∧ B dx = some (.xd fs) ∧ Paired (fun (p : Str × V) (q : Str × ED) => p.1 = q.1 ∧ EDv B p.2 q.2) fs l
theorem ErrF.mono {B B' : Hp} {d : Option Addr} {l : List (Str × ED)} (x : Ex B B') (h : ErrF B d l) : ErrF B' d l := by
  rcases h with h | ⟨dx, fs, h1, h2, h3⟩
  · exact .inl h
  · obtain ⟨o, q1, q2⟩ := x _ _ h2
    rw [nf_xd q2] at q1
    exact .inr ⟨dx, fs, h1, q1, pimp h3 fun _ _ z => ⟨z.1, EDv.mono x z.2⟩⟩
structure ErrR (mg : MG) (B : Hp) (cls : Value) (d : Option Addr) (e : Err) : Prop where
  c : ∃ C, mg e.cls = some (.ref C) ∧ cls = .ref C
  f : ErrF B d e.fs
theorem ErrR.mono {mg : MG} {B B' : Hp} {cls : Value} {d : Option Addr} {e : Err} (x : Ex B B') (h : ErrR mg B cls d e) : ErrR mg B' cls d e := ⟨h.c, h.f.mono x⟩

/-! ### defs that may raise -/
def SpX {δ ρ : Type} (mg : MG) (args : δ → AR) (Kd : Kind ρ) (f : δ → Res ρ) : Sp := fun vs H Q E => ∃ B d, Sx B H ∧ Tx H B ∧ (args d).r vs B H ∧
  Fin (Kd ⟨B, H⟩ Q) (fun e => ∀ cls dd B' H', Stt ⟨B, H⟩ [] B' H' → ErrR mg B' cls dd e → E cls dd H') (f d)
/-- a raise may leave here: what is wished of it is so at σ -/
def XOk (X : Cx) (E : Ent) (own : Own) (B : Hp) (σ : L2.St) (Er : Err → Prop) : Prop := ∃ W : WX, L2N.Takes X W ∧ ∀ e, Er e → ∀ cls dd B' H', Stt E own B' H' → Ex B B' → ErrR X.mg B' cls dd e → W cls dd σ H'
def CalX (X : Cx) (k : Nat) (n : Str) (ps : List Str) (sp : Sp) : Prop := ∃ (f : Addr) (fd : FuncData), FnOk X.prog X.w X.K X.mg X.base (L2N.CX X.prog X.w) k f fd ps sp ∧ X.mg n = some (.ref f) ∧ PySem.W.keepIn X.K (.ref f) = true ∧ Binds X.K fd ps []
def CalXM (P : Program) (w : World) (K : PySem.W.Frag) (mg : Str → Option Value) (base : Heap) (k : Nat) (n : Str) (ps : List Str) (sp : Sp) : Prop := ∃ (f : Addr) (fd : FuncData), FnOk P w K mg base (L2N.CX P w) k f fd ps sp ∧ mg n = some (.ref f) ∧ PySem.W.keepIn K (.ref f) = true ∧ Binds K fd ps []
/-- never comes to a value -/
def rNev : Rel Unit := ⟨fun _ _ _ => False, fun _ h => h⟩
section
variable {X : Cx} {E : Ent} {own new own' : Own} {B H B' H' : Hp} {σ : L2.St} {α β γ τ ρ δ : Type} {R : Rel α} {S : Rel β} {T : Rel γ} {e a b c o it : Expr} {x : α} {y : β} {p pos pos' apos : Pos} {i j k k0 : Nat} {z w : Bool} {xs : List α} {es : List Expr}
variable {n m : Str} {rest body other : List Stmt} {D : Ends} {P : ρ → Prop} {Er : Err → Prop} {ps : List Str} {A : AR}
theorem WSs.ends {st : List Stmt} {D' : Ends} (h : WSs X st D σ H) (f : (∀ σ H, D.nx σ H → D'.nx σ H) ∧ (∀ v H, D.rt v H → D'.rt v H) ∧ (∀ σ H, D.bk σ H → D'.bk σ H) ∧ ∀ σ H, D.ct σ H → D'.ct σ H) : WSs X st D' σ H := fun pins s I =>
  wpAny_mono (h pins s I) (fun fl s' q => by
    cases fl with
    | next =>
      obtain ⟨σ2, H2, I2, q⟩ := q
      exact ⟨σ2, H2, I2, f.1 _ _ q⟩
    | cont =>
      obtain ⟨σ2, H2, I2, q⟩ := q
      exact ⟨σ2, H2, I2, f.2.2.2 _ _ q⟩
    | brk =>
      obtain ⟨σ2, H2, I2, q⟩ := q
      exact ⟨σ2, H2, I2, f.2.2.1 _ _ q⟩
    | ret u =>
      obtain ⟨v, σ2, H2, I2, r, q⟩ := q
      exact ⟨v, σ2, H2, I2, r, f.2.1 _ _ q⟩) fun _ _ q => q
theorem XOk.up (h : XOk X E own B σ Er) (x : Ex B B') : XOk X E own B' σ Er := by
  obtain ⟨W, tk, q⟩ := h
  exact ⟨W, tk, fun e he cls dd B2 H2 S x2 r => q e he cls dd B2 H2 S (x.trans x2) r⟩
theorem tk_no : L2N.Takes X (fun _ _ _ _ => False) := fun _ _ x => by
  obtain ⟨_, _, _, _, _, _, _, _, _, _, _, _, _, _, _, _, z⟩ := x
  exact z.elim
theorem pe_calX {sp : Sp} {W : WX} (tk : L2N.Takes X W) (C : Cok X k0) (G : CalX X k n ps sp) (hk : k ≤ k0) (hg : Gl X n) (hdb : (n == ("__debug__" : Str)) = false) (he : starEach (e :: es) X.env = (false, eval e X.env) :: starEach es X.env) (hpl : (backTo pos (starEach es X.env)).any (·.1) = false) :
    PE X (.Call (.Name n p) (e :: es) [] pos) (tCallS sp (L2.WE W) (WA X (e :: es))) := by
  obtain ⟨f, fd, F, hm, hkp, hb⟩ := G
  exact pe_callS F (C.room.mono hk) hg hm hkp hb (L2N.passAt tk) paW hdb he hpl
/-- such a def called; it does not raise -/
theorem ee_callX {mg : MG} {args : δ → AR} {f : δ → Res ρ} {RR : Rel ρ} {d : δ} {r : ρ} (C : Cok X k0) (G : CalX X k n ps (SpX mg args (kE RR) f)) (hk : k ≤ k0) (hg : Gl X n) (ha : EvAs X E own B H σ (e :: es) (args d)) (hm : f d = .ok r)
    (hdb : (n == ("__debug__" : Str)) = false := by rfl) (he : starEach (e :: es) X.env = (false, eval e X.env) :: starEach es X.env := by rfl) (hpl : (backTo pos (starEach es X.env)).any (·.1) = false := by rfl) : EvE X E own B H σ (.Call (.Name n p) (e :: es) [] pos) RR r := fun B1 H1 S1 e1 e2 Q q =>
  WE.of (pe_calX tk_no C G hk hg hdb he hpl) (ha B1 H1 S1 e1 e2 _ fun vs B2 H2 S2 e3 e4 r => ⟨B2, d, S2.bh, S2.tu, r, Fin.eq hm fun v B3 H3 T q2 => q v B3 H3 (S2.call T) (e3.trans T.b0.ex) (e4.trans T.h0.ex) q2⟩)
theorem el_callX {mg : MG} {args : δ → AR} {f : δ → Res (List ρ)} {RR : Rel ρ} {d : δ} {r : List ρ} (C : Cok X k0) (G : CalX X k n ps (SpX mg args (kL RR) f)) (hk : k ≤ k0) (hg : Gl X n) (ha : EvAs X E own B H σ (e :: es) (args d)) (hm : f d = .ok r)
    (hdb : (n == ("__debug__" : Str)) = false := by rfl) (he : starEach (e :: es) X.env = (false, eval e X.env) :: starEach es X.env := by rfl) (hpl : (backTo pos (starEach es X.env)).any (·.1) = false := by rfl) : EvL X E own B H σ (.Call (.Name n p) (e :: es) [] pos) RR r := fun B1 H1 S1 e1 e2 Q q =>
  WE.of (pe_calX tk_no C G hk hg hdb he hpl) (ha B1 H1 S1 e1 e2 _ fun vs B2 H2 S2 e3 e4 r => ⟨B2, d, S2.bh, S2.tu, r, Fin.eq hm fun p vs B3 H3 T q2 => q p vs B3 H3 (S2.call T) (e3.trans T.b0.ex) (e4.trans T.h0.ex) q2⟩)
/-- .. it raises -/
theorem wx_err {Kd : Kind ρ} {args : δ → AR} {f : δ → Res ρ} {d : δ} {er : Err} (XO : XOk X E own B σ Er) (C : Cok X k0) (G : CalX X k n ps (SpX X.mg args Kd f)) (hk : k ≤ k0) (hg : Gl X n) (ha : EvAs X E own B H σ (e :: es) (args d)) (hm : f d = .err er) (hE : Er er)
    (hdb : (n == ("__debug__" : Str)) = false := by rfl) (he : starEach (e :: es) X.env = (false, eval e X.env) :: starEach es X.env := by rfl) (hpl : (backTo pos (starEach es X.env)).any (·.1) = false := by rfl) {B1 H1 : Hp} (S1 : Stt E own B1 H1) (e1 : Ex B B1) (e2 : Ex H H1) (Q : VK) : WE X (.Call (.Name n p) (e :: es) [] pos) σ H1 Q := by
  obtain ⟨W, tk, hW⟩ := XO
  refine WE.of (pe_calX tk C G hk hg hdb he hpl) (ha B1 H1 S1 e1 e2 _ fun vs B2 H2 S2 e3 e4 r => ⟨B2, d, S2.bh, S2.tu, r, ?_⟩)
  rw [hm]
  exact fun cls dd B' H' T er2 => hW _ hE cls dd B' H' (S2.call T) ((e1.trans e3).trans T.b0.ex) er2
theorem ee_errX {Kd : Kind ρ} {args : δ → AR} {f : δ → Res ρ} {d : δ} {er : Err} (XO : XOk X E own B σ Er) (C : Cok X k0) (G : CalX X k n ps (SpX X.mg args Kd f)) (hk : k ≤ k0) (hg : Gl X n) (ha : EvAs X E own B H σ (e :: es) (args d)) (hm : f d = .err er) (hE : Er er)
    (hdb : (n == ("__debug__" : Str)) = false := by rfl) (he : starEach (e :: es) X.env = (false, eval e X.env) :: starEach es X.env := by rfl) (hpl : (backTo pos (starEach es X.env)).any (·.1) = false := by rfl) : EvE X E own B H σ (.Call (.Name n p) (e :: es) [] pos) rNev () := fun B1 H1 S1 e1 e2 Q _ =>
  wx_err XO C G hk hg ha hm hE hdb he hpl S1 e1 e2 Q
theorem el_errX {Kd : Kind ρ} {args : δ → AR} {f : δ → Res ρ} {d : δ} {er : Err} (XO : XOk X E own B σ Er) (C : Cok X k0) (G : CalX X k n ps (SpX X.mg args Kd f)) (hk : k ≤ k0) (hg : Gl X n) (ha : EvAs X E own B H σ (e :: es) (args d)) (hm : f d = .err er) (hE : Er er)
    (hdb : (n == ("__debug__" : Str)) = false := by rfl) (he : starEach (e :: es) X.env = (false, eval e X.env) :: starEach es X.env := by rfl) (hpl : (backTo pos (starEach es X.env)).any (·.1) = false := by rfl) : EvL X E own B H σ (.Call (.Name n p) (e :: es) [] pos) R xs := fun B1 H1 S1 e1 e2 Q _ =>
  wx_err XO C G hk hg ha hm hE hdb he hpl S1 e1 e2 Q
/-- a statement that waits for it -/
theorem s_asgNev (C : Cok X k) (L : Slot X i n) (S0 : Stt E own B H) (he : EvE X E own B H σ e rNev ()) (hs : swapsWith e (some (.Name n pos')) pos.line X.env = pure false := by rfl) : WSs X (.Assign [.Name n pos'] e pos :: rest) D σ H :=
  s_asg C L S0 he (fun _ _ _ _ _ r => r.elim) hs
theorem s_retNev (S0 : Stt E own B H) (he : EvE X E own B H σ e rNev ()) : WSs X (.Return (some e) pos :: rest) D σ H := s_retE S0 he fun _ _ _ _ r => r.elim
theorem s_dropNev (S0 : Stt E own B H) (he : EvE X E own B H σ e rNev ()) (hs : swapsWith e none pos.line X.env = pure false := by rfl) : WSs X (.Expr e pos :: rest) D σ H := 
  WSs.cons (ps_expr peW hs) (he B H S0 (Ex.refl _) (Ex.refl _) _ fun v B2 H2 S2 _ _ r => r.elim)
/-- for t in f(..), which raises -/
theorem s_forNev {tg : Expr} {Tg : α → Hp → L2.St → L2.St → Prop} (C : Cok X k) (ht : TgOk X E tg R Tg) (S0 : Stt E own B H) (he : EvE X E own B H σ it rNev ()) (hf : ∀ x, foldedSetIterable it X.env x = pure x := by intro _; rfl) : WSs X (.For tg it body [] pos :: rest) D σ H := by
  obtain ⟨g, hg, _⟩ := ht
  exact WSs.cons (ps_for C.own C.calm (pi_list (tl := WE X it) peW) hg pssW hf) (he B H S0 (Ex.refl _) (Ex.refl _) _ fun v B2 H2 S2 _ _ r => r.elim)

/-! ### raise -/
/-- a class without an own __init__, which may be raised with a text -/
def Rz (K : PySem.W.Frag) (mg : MG) (c : Str) : Prop := ∃ C, mg c = some (.ref C) ∧ PySem.W.keepIn K (.ref C) = true ∧ PySem.W.excIn K C [.type "ValueError", .type "Exception", .type "BaseException", .type "object"] "ValueError.__new__" = true ∧ PySem.W.subIn K (.ref C) (.type "BaseException") = some true ∧ PySem.W.typeIn K (.ref C) = some (.type "type")
theorem s_raise0 {cn msg : Str} {j2 : Nat} {p2 p3 : Pos} (XO : XOk X E own B σ Er) (C : Cok X k) (hz : Rz X.K X.mg cn) (hg : Gl X cn) (S0 : Stt E own B H) (hE : Er ⟨cn, []⟩) (hdb : (cn == ("__debug__" : Str)) = false := by decide) :
    WSs X (.Raise (some (.Call (.Name cn p) [.Constant (.str msg) j2 p2] [] p3)) none pos :: rest) D σ H := by
  obtain ⟨W, tk, hW⟩ := XO
  obtain ⟨A, h1, h2, h3, h4, h5⟩ := hz
  exact WSs.cons (L2N.ps_raise C.calm tk (L2N.pmk_own F.excBase_ValueError h3 h1 h2 (raises_own h4 h5) hg hdb)) (hW _ hE _ _ B H S0 (Ex.refl _) ⟨⟨A, h1, rfl⟩, .inl ⟨rfl, rfl⟩⟩)
end

/-! ### contexts alike -/
structure Tr (X X' : Cx) : Prop where
  pr : X'.prog = X.prog
  w : X'.w = X.w
  K : X'.K = X.K
  mg : X'.mg = X.mg
  base : X'.base = X.base
  N : X'.N = X.N
  env : X'.env = X.env
  fn : X'.fn = X.fn
/-- .. of a def's body -/
structure Tp (X : Cx) : Prop where
  st : X.stack = X.env :: X.outer
  fr : X.env.frame = some X.env.locals
section
variable {X X' : Cx} {k : Nat} {n : Str} {ps N : List Str} {sp : Sp} {C : Addr} {sc : Scope}
theorem Tr.cal (t : Tr X X') (h : Cal X k n ps sp) : Cal X' k n ps sp := by
  unfold Cal
  rw [t.pr, t.w, t.K, t.mg, t.base]
  exact h
theorem Tr.calX (t : Tr X X') (h : CalX X k n ps sp) : CalX X' k n ps sp := by
  unfold CalX
  rw [t.pr, t.w, t.K, t.mg, t.base]
  exact h
theorem Tr.mcal (t : Tr X X') (h : MCal X k C n ps sp) : MCal X' k C n ps sp := by
  unfold MCal
  rw [t.pr, t.w, t.K, t.mg, t.base]
  exact h
theorem Tr.scp (t : Tr X X') (h : Scp X N sc) : Scp X' N sc := ⟨t.N.trans h.n, by rw [t.env]; exact h.sc⟩
theorem Tr.fns (t : Tr X X') (h : ∀ x, X.fn x = true) : ∀ x, X'.fn x = true := by rw [t.fn]; exact h
theorem Tr.blt (t : Tr X X') (h : Blt X.mg) : Blt X'.mg := by rw [t.mg]; exact h
end

/-! ### a def's promise from its body -/
section
variable {P : Program} {w : World} {K : PySem.W.Frag} {mg : Str → Option Value} {base : Heap}
theorem fun_okX {x qual : Str} {st : Stmt} {f : Addr} {fd : FuncData} {N ps : List Str} {k : Nat} {δ ρ : Type} {args : δ → AR} {Kd : Kind ρ} {g : δ → Res ρ} (F : Fun K x qual st f fd) (S : FnScope N ps (defScope st)) (hl : ∀ d vs B H, (args d).r vs B H → vs.length = ps.length)
    (body : ∀ X : Cx, X.prog = P → X.w = w → X.K = K → X.mg = mg → X.base = base → Cok X k → Scp X N (defScope st) → (∀ x, X.fn x = true) → ∀ B H vs d (Q : VK) (Er : Err → Prop), (∀ own B' σ, XOk X ⟨B, H⟩ own B' σ Er) → Sx B H → Tx H B → (args d).r vs B H → Fin (Kd ⟨B, H⟩ Q) Er (g d) →
      WSs X (defBody st) { nx := fun _ H' => Q .non H', rt := Q } (start N vs) H) : FnOk P w K mg base (L2N.CX P w) (k + 1) f fd ps (SpX mg args Kd g) := by
  obtain ⟨oc, od, kV, doc, pm, an, cdv, ct, osl, rfl, lk, hcd⟩ := F.ex
  refine fn_of lk hcd S (fun vs H Q E h => ?_) (fun A outer s H vs Q E hr h => ?_)
  · obtain ⟨B, d, _, _, h3, _⟩ := h
    exact hl d vs B H h3
  · obtain ⟨B, d, h1, h2, h3, h4⟩ := h
    refine ⟨_, pssW, body (cxOf (L2N.CX P w) P w K mg base N qual (defScope st) f cdv A outer s H E) rfl rfl rfl rfl rfl ⟨rfl, S.nd, hr, L2.passes_of rfl⟩ ⟨rfl, rfl⟩ (fun _ => rfl) B H vs d Q _ (fun own B' σ => ?_) h1 h2 h3 h4⟩
    exact ⟨_, L2N.takes_of rfl rfl rfl rfl, fun e he cls dd B2 H2 S2 _ r => he cls dd B2 H2 S2.none r⟩
theorem fun_okT {x qual : Str} {st : Stmt} {f : Addr} {fd : FuncData} {N ps : List Str} {k : Nat} {δ ρ : Type} {args : δ → AR} {Kd : Kind ρ} {g : δ → Res ρ} (F : Fun K x qual st f fd) (S : FnScope N ps (defScope st)) (hl : ∀ d vs B H, (args d).r vs B H → vs.length = ps.length)
    (body : ∀ X : Cx, X.prog = P → X.w = w → X.K = K → X.mg = mg → X.base = base → Cok X k → Scp X N (defScope st) → (∀ x, X.fn x = true) → Tp X → ∀ B H vs d (Q : VK), Sx B H → Tx H B → (args d).r vs B H → Fin (Kd ⟨B, H⟩ Q) NoErr (g d) →
      WSs X (defBody st) { nx := fun _ H' => Q .non H', rt := Q } (start N vs) H) : FnOk P w K mg base CX0 (k + 1) f fd ps (SpA args Kd g) := by
  refine F.ok S (fun vs H Q E h => ?_) (fun cdv A outer s H vs Q E hr h => ?_)
  · obtain ⟨B, d, _, _, h3, _⟩ := h
    exact hl d vs B H h3
  · obtain ⟨B, d, h1, h2, h3, h4⟩ := h
    exact ⟨_, pssW, body ((cxOf CX0 P w K mg base N qual (defScope st) f cdv A outer s H E).nox) rfl rfl rfl rfl rfl ⟨rfl, S.nd, hr, PassesOwn.never⟩ ⟨rfl, rfl⟩ (fun _ => rfl) ⟨rfl, rfl⟩ B H vs d Q h1 h2 h3 h4⟩
end
end Sg

namespace Sg
open PySem PySem.Spec PyProof.Rows L2

/-! ### the exception that is handled -/
/-- p's object stands for the error e -/
def ExP (mg : MG) (B : Hp) (p : Addr × Obj) (e : Err) : Prop := ∃ cls d, L2N.Zn cls d p.2 ∧ (∃ vs, p.2.data = .fields vs) ∧ ErrR mg B cls d e
theorem ExP.mono {mg : MG} {B B' : Hp} {p : Addr × Obj} {e : Err} (x : Ex B B') (h : ExP mg B p e) : ExP mg B' p e := by
  obtain ⟨cls, d, h1, h2, h3⟩ := h
  exact ⟨cls, d, h1, h2, h3.mono x⟩
structure Hok (X : Cx) (k : Nat) (p : Addr × Obj) : Prop where
  nd : X.N.Nodup
  room : L2H.RoomH k X.A
  hot : L2H.Hot1 X.A p
  mem : p ∈ X.pn
  own : PassesOwn (model X.prog X.w) X.A X.env X.xe
theorem Hok.hc {X : Cx} {k : Nat} {p : Addr × Obj} (C : Hok X k p) : L2H.HotC X := ⟨p, C.hot, C.mem⟩

/-! ### defs called there -/
structure FnHp (P : Program) (w : World) (K : PySem.W.Frag) (mg : Str → Option Value) (base : Heap) (k : Nat) (f : Addr) (fd : FuncData) (ps : List Str) (sp : Addr × Obj → Sp) : Prop where
  len : ∀ p vs H Q E, sp p vs H Q E → vs.length = ps.length
  run : ∀ (p : Addr × Obj) (A : Around) (outer : List Env) (s : Shared) (H : Hp) (args : Args) (us : List Value) (vs : List V) (Q : VK) (E : XK), L2H.Hot1 A p → L2H.RoomH k A → L2H.PinOk outer H s p → Env0 P w K mg base A outer s H → BindsTo s fd args (ps.zip us) → Vals vs us → sp p vs H Q E →
    codeAny (model P w) A (.call (.ref f) args) (CR CX0 outer P w H s Q E) s
theorem fnHp_of {P : Program} {w : World} {K : PySem.W.Frag} {mg : Str → Option Value} {base : Heap} {k : Nat} {x qual : Str} {st : Stmt} {f : Addr} {fd : FuncData} {N ps : List Str} {sp : Addr × Obj → Sp} (F : Fun K x qual st f fd) (S : FnScope N ps (defScope st))
    (hl : ∀ p vs H Q E, sp p vs H Q E → vs.length = ps.length)
    (bd : ∀ (p : Addr × Obj) (cdv : Value) (A : Around) (outer : List Env) (s : Shared) (H : Hp) (vs : List V) (Q : VK) (E : XK), L2H.Hot1 A p → L2H.RoomH k (A.deeper (envOfC qual (defScope st) s.heap.objs.size f cdv)) → sp p vs H Q E →
      WSs (L2H.cxH CX0 P w K mg base N qual (defScope st) f cdv A outer s H E p) (defBody st) { nx := fun _ H' => Q .non H', rt := Q } (L2.start N vs) H) : FnHp P w K mg base (k + 1) f fd ps sp := by
  obtain ⟨oc, od, kV, doc, pm, an, cdv, ct, osl, rfl, lk, hcd⟩ := F.ex
  constructor
  · exact hl
  intro p A outer s H args us vs Q E hot hr hpin e0 hb r hsp
  have hl1 := hl _ _ _ _ _ hsp
  have inK : K.In s.heap := e0.mod.kin.keeps fun b o q => (e0.bs b o q).1
  have nolim : s.heap.NoLimit := e0.mod.nolimit.keeps fun b o q => (e0.bs b o q).1
  refine codeAny_call_function hr.depth (inK _ _ lk) rfl S.co S.gen rfl (PySem.W.codeRec_of inK hcd) (hb _ _ _ _ ?_)
  refine wpAny_newFunctionEnv_cells S.kind (fun ⟨n, v⟩ hy => ?_) fun env he s1 xc => ?_
  · rcases S.par n (List.of_mem_zip hy).1 with q | q
    · exact .inl q
    · exact .inr ⟨q, PySem.W.cellsFrom_some _ _ _ (.inl q)⟩
  subst he
  refine ⟨nolim.keeps xc.toInCall.keep, codeAny_func ?_⟩
  have I := L2H.inv_startH (CX := CX0) (P := P) (w := w) (K := K) (mg := mg) (base := base) (E := E) S hpin e0 hl1 r xc
  refine wpAny_mono (bd p cdv A outer s H vs Q E hot (hr.deeper _) hsp [] s1 I) (fun fl s' hs => ?_) fun _ _ q => q
  cases fl with
  | brk =>
    obtain ⟨_, _, _, q⟩ := hs
    exact q.elim
  | cont =>
    obtain ⟨_, _, _, q⟩ := hs
    exact q.elim
  | next =>
    obtain ⟨σ2, H2, J, q⟩ := hs
    exact ⟨.non, H2, J.os, J.bare, J.base, J.hok, rfl, q⟩
  | ret u =>
    obtain ⟨v, σ2, H2, J, rv, q⟩ := hs
    exact ⟨v, H2, J.os, J.bare, J.base, J.hok, rv, q⟩
def CalHM (P : Program) (w : World) (K : PySem.W.Frag) (mg : Str → Option Value) (base : Heap) (k : Nat) (n : Str) (ps : List Str) (sp : Addr × Obj → Sp) : Prop := ∃ (f : Addr) (fd : FuncData), FnHp P w K mg base k f fd ps sp ∧ mg n = some (.ref f) ∧ PySem.W.keepIn K (.ref f) = true ∧ Binds K fd ps []
def CalH (X : Cx) (k : Nat) (n : Str) (ps : List Str) (sp : Addr × Obj → Sp) : Prop := CalHM X.prog X.w X.K X.mg X.base k n ps sp
theorem Tr.calH {X X' : Cx} {k : Nat} {n : Str} {ps : List Str} {sp : Addr × Obj → Sp} (t : Tr X X') (h : CalH X k n ps sp) : CalH X' k n ps sp := by
  unfold CalH
  rw [t.pr, t.w, t.K, t.mg, t.base]
  exact h
/-- a hot def's promise -/
def SpH {δ ρ : Type} (args : Addr × Obj → δ → AR) (Kd : Kind ρ) (f : δ → Res ρ) : Addr × Obj → Sp := fun p vs H Q _ => ∃ B d, Sx B H ∧ Tx H B ∧ (args p d).r vs B H ∧ Fin (Kd ⟨B, H⟩ Q) NoErr (f d)
/-- the handled exception as an argument -/
def aP (mg : MG) (p : Addr × Obj) (e : Err) (A : AR) : AR := ⟨fun vs B H => ∃ r, vs = .ref p.1 :: r ∧ ExP mg B p e ∧ A.r r B H, fun b x ⟨r, h1, h2, h3⟩ => ⟨r, h1, h2.mono b, A.mono b x h3⟩⟩
theorem fun_okH {P : Program} {w : World} {K : PySem.W.Frag} {mg : Str → Option Value} {base : Heap} {x qual : Str} {st : Stmt} {f : Addr} {fd : FuncData} {N ps : List Str} {k : Nat} {δ ρ : Type} {args : Addr × Obj → δ → AR} {Kd : Kind ρ} {g : δ → Res ρ} (F : Fun K x qual st f fd) (S : FnScope N ps (defScope st)) (hl : ∀ p d vs B H, (args p d).r vs B H → vs.length = ps.length)
    (body : ∀ (X : Cx) (p : Addr × Obj), X.prog = P → X.w = w → X.K = K → X.mg = mg → X.base = base → Hok X k p → Scp X N (defScope st) → (∀ x, X.fn x = true) → ∀ B H vs d (Q : VK), Sx B H → Tx H B → (args p d).r vs B H → Fin (Kd ⟨B, H⟩ Q) NoErr (g d) →
      WSs X (defBody st) { nx := fun _ H' => Q .non H', rt := Q } (start N vs) H) : FnHp P w K mg base (k + 1) f fd ps (SpH args Kd g) := by
  refine fnHp_of F S (fun p vs H Q E h => ?_) (fun p cdv A outer s H vs Q E hot hr h => ?_)
  · obtain ⟨B, d, _, _, h3, _⟩ := h
    exact hl p d vs B H h3
  · obtain ⟨B, d, h1, h2, h3, h4⟩ := h
    exact body (L2H.cxH CX0 P w K mg base N qual (defScope st) f cdv A outer s H E p) p rfl rfl rfl rfl rfl ⟨S.nd, hr, hot, List.mem_singleton.mpr rfl, L2.passes_of rfl⟩ ⟨rfl, rfl⟩ (fun _ => rfl) B H vs d Q h1 h2 h3 h4
section
variable {X : Cx} {E : Ent} {own new own' : Own} {B H B' H' : Hp} {σ : L2.St} {α β γ τ ρ δ : Type} {R : Rel α} {S : Rel β} {T : Rel γ} {e a b c o it : Expr} {x : α} {y : β} {q pos pos' apos : Pos} {i j k k0 : Nat} {z w : Bool} {xs : List α} {es : List Expr} {p : Addr × Obj}
variable {n m : Str} {rest body other : List Stmt} {D : Ends} {P : ρ → Prop} {Er : Err → Prop} {ps : List Str} {A : AR} {er : Err}
theorem run_hp {sp : Addr × Obj → Sp} {f : Addr} {fd : FuncData} {pins : List (Addr × Obj)} {s : Shared} {Q : VK} {us : List Value} {vs : List V} (F : FnHp X.prog X.w X.K X.mg X.base k f fd ps sp) (C : Hok X k0 p) (hk : k ≤ k0) (hb : Binds X.K fd ps []) (I : Inv X pins σ H s) (r : Vals vs us) (h : sp p vs H Q E0) :
    wpAny (model X.prog X.w) X.A (call (.ref f) us) (EP X pins σ Q) X.xe s := by
  have hl : (us ++ []).length = ps.length := by
    rw [List.append_nil, ← r.length]
    exact F.len _ _ _ _ _ h
  have b := hb s us I.kIn hl
  have P1 := I.pin p (List.mem_append.mpr (.inl C.mem))
  refine wpAny_call (codeAny_mono (F.run p X.A X.stack s H ⟨us, []⟩ us vs Q E0 C.hot (C.room.mono hk) ⟨P1.1, P1.2.1, fun hm => ?_, P1.2.2.2.2⟩ I.env0 (by rw [List.append_nil] at b; exact b) r h) fun rr s' hq => ?_)
  · rcases List.mem_cons.mp (I.stkSub p.1 hm) with z | z
    · exact P1.2.2.1 z
    · exact P1.2.2.2.1 z
  · cases rr with
    | error e => exact hq.elim
    | ok fl =>
      cases fl with
      | ret u => exact I.after hq
      | next => exact hq.elim
      | brk => exact hq.elim
      | cont => exact hq.elim
theorem pe_calH {sp : Addr × Obj → Sp} (C : Hok X k0 p) (G : CalH X k n ps sp) (hk : k ≤ k0) (hg : Gl X n) (hdb : (n == ("__debug__" : Str)) = false) (he : starEach (e :: es) X.env = (false, eval e X.env) :: starEach es X.env) (hpl : (backTo pos (starEach es X.env)).any (·.1) = false) :
    PE X (.Call (.Name n q) (e :: es) [] pos) (fun σ H Q => WA X (e :: es) σ H fun vs H1 => sp p vs H1 Q E0) := by
  obtain ⟨f, fd, F, hm, hkp, hb⟩ := G
  refine ⟨fun pins s σ H Q I h => wpAny_Call_Name_kw (ld_glob I hg hm ?_ hdb)⟩
  exact PySem.W.callWith_K (h₀ := X.base) I.ok.mod.kin hkp (thn (h pos pins s I) fun us s1 ⟨vs, H1, I1, r, q1⟩ => ⟨I1.kIn, run_hp F C hk hb I1 r q1⟩) he hpl
theorem ee_callH {args : Addr × Obj → δ → AR} {f : δ → Res ρ} {RR : Rel ρ} {d : δ} {r : ρ} (C : Hok X k0 p) (G : CalH X k n ps (SpH args (kE RR) f)) (hk : k ≤ k0) (hg : Gl X n) (ha : EvAs X E own B H σ (e :: es) (args p d)) (hm : f d = .ok r)
    (hdb : (n == ("__debug__" : Str)) = false := by rfl) (he : starEach (e :: es) X.env = (false, eval e X.env) :: starEach es X.env := by rfl) (hpl : (backTo pos (starEach es X.env)).any (·.1) = false := by rfl) : EvE X E own B H σ (.Call (.Name n q) (e :: es) [] pos) RR r := fun B1 H1 S1 e1 e2 Q k2 =>
  WE.of (pe_calH C G hk hg hdb he hpl) (ha B1 H1 S1 e1 e2 _ fun vs B2 H2 S2 e3 e4 r => ⟨B2, d, S2.bh, S2.tu, r, Fin.eq hm fun v B3 H3 T q2 => k2 v B3 H3 (S2.call T) (e3.trans T.b0.ex) (e4.trans T.h0.ex) q2⟩)
theorem el_callH {args : Addr × Obj → δ → AR} {f : δ → Res (List ρ)} {RR : Rel ρ} {d : δ} {r : List ρ} (C : Hok X k0 p) (G : CalH X k n ps (SpH args (kL RR) f)) (hk : k ≤ k0) (hg : Gl X n) (ha : EvAs X E own B H σ (e :: es) (args p d)) (hm : f d = .ok r)
    (hdb : (n == ("__debug__" : Str)) = false := by rfl) (he : starEach (e :: es) X.env = (false, eval e X.env) :: starEach es X.env := by rfl) (hpl : (backTo pos (starEach es X.env)).any (·.1) = false := by rfl) : EvL X E own B H σ (.Call (.Name n q) (e :: es) [] pos) RR r := fun B1 H1 S1 e1 e2 Q k2 =>
  WE.of (pe_calH C G hk hg hdb he hpl) (ha B1 H1 S1 e1 e2 _ fun vs B2 H2 S2 e3 e4 r => ⟨B2, d, S2.bh, S2.tu, r, Fin.eq hm fun p vs B3 H3 T q2 => k2 p vs B3 H3 (S2.call T) (e3.trans T.b0.ex) (e4.trans T.h0.ex) q2⟩)
/-- the exception's name handed on -/
theorem ap_cons (hp : PE X e (tVar i)) (h : σ[i]? = some (some (.ref p.1))) (hx : ExP X.mg B p er) (hr : EvAs X E own B H σ es A) (hs : starEach (e :: es) X.env = (false, eval e X.env) :: starEach es X.env := by rfl) : EvAs X E own B H σ (e :: es) (aP X.mg p er A) := fun B1 H1 S1 e1 e2 Q k =>
  WA.of (pa_cons peW paW hs) (WE.of hp ⟨.ref p.1, h, hr B1 H1 S1 e1 e2 _ fun vs B3 H3 S3 e5 e6 q => k (.ref p.1 :: vs) B3 H3 S3 e5 e6 ⟨vs, rfl, hx.mono (e1.trans e5), q⟩⟩)
/-! names bound there -/
theorem s_asgE_h (C : Hok X k p) (L : Slot X i n) (S0 : Stt E own B H) (he : EvE X E own B H σ e R x)
    (q : ∀ v B' H', Stt E own B' H' → Ex B B' → R.r B' v x → WSs X rest D (σ.set i (some v)) H') (hs : swapsWith e (some (.Name n pos')) pos.line X.env = pure false := by rfl) :
    WSs X (.Assign [.Name n pos'] e pos :: rest) D σ H :=
  WSs.cons (ps_set C.nd L.ix L.loc peW hs L.hf) (he B H S0 (Ex.refl _) (Ex.refl _) _ fun v B2 H2 S2 e1 _ r => q v B2 H2 S2 e1 r)
theorem s_asgI_h {x : Int} (C : Hok X k p) (L : Slot X i n) (S0 : Stt E own B H) (he : EvB X E own B H σ e rInt x)
    (q : ∀ B' H', Stt E own B' H' → Ex B B' → WSs X rest D (σ.set i (some (.int x))) H') (hs : swapsWith e (some (.Name n pos')) pos.line X.env = pure false := by rfl) :
    WSs X (.Assign [.Name n pos'] e pos :: rest) D σ H :=
  s_asgE_h C L S0 he.toE (fun v B' H' S' e1 r => by rw [show v = .int x from r]; exact q B' H' S' e1) hs
theorem s_asgB_h {x : Bool} (C : Hok X k p) (L : Slot X i n) (S0 : Stt E own B H) (he : EvB X E own B H σ e rBool x)
    (q : ∀ B' H', Stt E own B' H' → Ex B B' → WSs X rest D (σ.set i (some (.bl x))) H') (hs : swapsWith e (some (.Name n pos')) pos.line X.env = pure false := by rfl) :
    WSs X (.Assign [.Name n pos'] e pos :: rest) D σ H :=
  s_asgE_h C L S0 he.toE (fun v B' H' S' e1 r => by rw [show v = .bl x from r]; exact q B' H' S' e1) hs
theorem s_asgS_h {x : Str} (C : Hok X k p) (L : Slot X i n) (S0 : Stt E own B H) (he : EvB X E own B H σ e rStr x)
    (q : ∀ B' H', Stt E own B' H' → Ex B B' → WSs X rest D (σ.set i (some (.str x))) H') (hs : swapsWith e (some (.Name n pos')) pos.line X.env = pure false := by rfl) :
    WSs X (.Assign [.Name n pos'] e pos :: rest) D σ H :=
  s_asgE_h C L S0 he.toE (fun v B' H' S' e1 r => by rw [show v = .str x from r]; exact q B' H' S' e1) hs
theorem s_asgL_h (C : Hok X k p) (L : Slot X i n) (S0 : Stt E own B H) (he : EvL X E own B H σ e R xs)
    (q : ∀ p vs B' H', Stt E ((p, .lst vs) :: own) B' H' → Ex B B' → Paired (R.r B') vs xs → WSs X rest D (σ.set i (some (.ref p))) H') (hs : swapsWith e (some (.Name n pos')) pos.line X.env = pure false := by rfl) :
    WSs X (.Assign [.Name n pos'] e pos :: rest) D σ H :=
  WSs.cons (ps_set C.nd L.ix L.loc peW hs L.hf) (he B H S0 (Ex.refl _) (Ex.refl _) _ fun p vs B2 H2 S2 e1 _ r => q p vs B2 H2 S2 e1 r)

/-! ### isinstance of it -/
/-- what the classes that come must say -/
structure IsK (K : PySem.W.Frag) (D : Addr) : Prop where
  hcl : PySem.W.isClsIn K D = true
  hga : PySem.W.findIn K (.ref D) "__getattribute__" = some (some (.builtin "BaseException.__getattribute__"))
  hgt : PySem.W.findIn K (.ref D) "__getattr__" = some none
  hsub : PySem.W.subIn K (.ref D) (.type "BaseException") = some true
  ha : PySem.W.findIn K (.ref D) "__class__" = some (some (.builtin "object.__class__"))
  hm : PySem.W.mroIn K D (.type "object") = some true
  hdC : PySem.W.hasDictIn K D = true
structure IsB (K : PySem.W.Frag) : Prop where
  hn : PySem.W.specialIn K (.builtin "object.__class__") "__get__" = some (some (.builtin "getset_descriptor.__get__"))
  ht : PySem.W.takesIn K (.builtin "object.__class__") = some true
theorem instAt_of {P : Program} {wd : World} {h : Heap} {cls : Value} {d : Option Addr} {D : Addr} {fs : List (Str × ED)} (hok : HOk P wd H h) (hp : h.get? p.1 = some p.2) (hz : L2N.Zn cls d p.2) (hf : ∃ vs, p.2.data = .fields vs) (hc : cls = .ref D) (he : ErrF H d fs) :
    ∃ od, PySem.W.InstAt h p.1 p.2 D od ∧ ((fs = [] ∧ d = none ∧ od = none) ∨ ∃ (dx : Addr) (ob : Obj) (fv : List (Str × V)) (mA : Str → Option Value), d = some dx ∧ od = some ob ∧ H dx = some (.xd fv) ∧ (∀ f, PySem.W.lookIn f ob = some (mA f)) ∧ (∀ f, RelO (fv.lookup f) (mA f)) ∧ Paired (fun (p : Str × V) (q : Str × ED) => p.1 = q.1 ∧ EDv H p.2 q.2) fv fs) := by
  obtain ⟨vs, hd⟩ := hf
  obtain ⟨z1, z2, z3⟩ := hz
  subst hc
  have nc : PySem.W.notCls p.2 = true := by unfold PySem.W.notCls; rw [hd] <;> rfl
  rcases he with ⟨e1, e2⟩ | ⟨dx, fv, e1, e2, e3⟩
  · exact ⟨none, ⟨hp, z1, nc, by rw [z2, e2]; trivial⟩, .inl ⟨e1, e2, rfl⟩⟩
  · have hx : ObjOk P wd H h dx (.xd fv) := hok dx _ e2
    obtain ⟨mA, hns, hr⟩ := hx
    obtain ⟨ob, ho, hl⟩ := lookIn_ns hns
    exact ⟨some ob, ⟨hp, z1, nc, by rw [z2, e1]; exact ho⟩, .inr ⟨dx, ob, fv, mA, e1, rfl, e2, hl, hr, e3⟩⟩
def rIsX (K : PySem.W.Frag) (mg : MG) (p : Addr × Obj) (er : Err) : List V → Hp → VK → Prop := fun xs H Q => ∃ (D Cc : Addr) (b : Bool), xs = [.ref p.1, .ref Cc] ∧ mg er.cls = some (.ref D) ∧ IsK K D ∧ ExP mg H p er ∧ PySem.W.kitOne K (.ref D) (.ref Cc) = some b ∧ Q (.bl b) H
theorem cr_isX (IB : IsB X.K) (C : Hok X k0 p) : CallR X (.builtin "isinstance") (rIsX X.K X.mg p er) := by
  intro pins s σ H xs us Q I r h
  obtain ⟨D, Cc, b, rfl, hmg, T, hx, hk, q⟩ := h
  cases r with
  | cons rx rr =>
    cases rr with
    | cons rt rr =>
      cases rr
      cases rx
      cases rt
      obtain ⟨cls, d, h1, h2, ⟨⟨C2, c1, c2⟩, h4⟩⟩ := hx
      have eD : C2 = D := by
        rw [hmg] at c1
        cases c1
        rfl
      subst eD
      obtain ⟨od, J, _⟩ := instAt_of (I.hok) (I.pin p (List.mem_append.mpr (.inl C.mem))).1 h1 h2 c2 h4
      exact PySem.W.kia_one (PySem.W.kitx_exc T.hcl T.hga T.hgt T.hsub T.ha IB.hn IB.ht T.hm) I.kIn J hk (fun z => nomatch z) fun tk => ⟨.bl b, H, I.kept (t' := tk) fun _ _ z => z, rfl, q⟩
theorem pe_gref {x : Str} {C : Addr} (hg : Gl X x) (hm : X.mg x = some (.ref C)) (hdb : (x == ("__debug__" : Str)) = false := by decide) : PE X (.Name x pos) (tC (.ref C)) :=
  ⟨fun _ _ _ H _ I h => ld_glob I hg hm ⟨.ref C, H, I, rfl, h⟩ hdb⟩
/-- the table of who is beneath whom: the classes that come, the classes that are asked for -/
def IsT (K : PySem.W.Frag) (mg : MG) (cn dn : Str) (b : Bool) : Prop := ∃ C D, mg cn = some (.ref C) ∧ mg dn = some (.ref D) ∧ IsK K C ∧ PySem.W.kitOne K (.ref C) (.ref D) = some b
theorem ev_isX {cs : Str} {p2 : Pos} {z : Bool} (IB : IsB X.K) (C : Hok X k0 p) (hg : Gl X "isinstance") (hm : X.mg "isinstance" = none) (hgc : Gl X cs) (hp : PE X a (tVar i)) (h : σ[i]? = some (some (.ref p.1))) (hx : ExP X.mg B p er) (ht : IsT X.K X.mg er.cls cs z)
    (hdb : (cs == ("__debug__" : Str)) = false := by decide) (hs : starEach (a :: [.Name cs p2]) X.env = (false, eval a X.env) :: starEach [.Name cs p2] X.env := by rfl) (hs2 : St1 X (.Name cs p2) := by rfl) (hpl : (backTo pos (starEach [.Name cs p2] X.env)).any (·.1) = false := by rfl) :
    EvB X E own B H σ (.Call (.Name "isinstance" q) [a, .Name cs p2] [] pos) rBool z := fun B1 H1 S1 e1 e2 Q k => by
  obtain ⟨C1, D1, m1, m2, T, hk⟩ := ht
  exact WE.of (pe_callB (cr_isX (er := er) IB C) hg hm (by decide +kernel) (pa_cons hp (pa_cons (pe_gref hgc m2 hdb) pa_nil hs2) hs) (he := hs) (hpl := hpl)) ⟨.ref p.1, h, C1, D1, z, rfl, m1, T, (hx.mono e1).mono S1.bh.ex, hk, k _ B1 H1 S1 (Ex.refl _) (Ex.refl _) rfl⟩

/-! ### try: .., except c as n: .. -/
theorem s_try {ρ' : Type} {x : Str} {np p' : Pos} {c : Value} {b₀ : Stmt} {suite : List Stmt} {mb : Res (ρ' ⊕ τ)} {mh : Err → Res (ρ' ⊕ τ)} {kr : ρ' → Res ρ} {kn : τ → Res ρ} {l : List Str} (TX : Tp X) (C : Cok X k) (hi : X.N[i]? = some n) (hln : X.env.kindOf n = some .local) (hc : Names X x c) (S0 : Stt E own B H)
    (F : Fin P NoErr ((mb.catch (hdl l mh)).bind (sel kr kn)))
    (hx : ∀ cn, l.contains cn = true → ∃ C, X.mg cn = some (.ref C) ∧ PySem.W.exmOne X.K (.ref C) c = some true)
    (Inv : τ → L2.St → Own → Hp → Prop)
    (hb : ∀ (X' : Cx) (Q : τ → Prop) (Er : Err → Prop), Tr X X' → Cok X' k → XOk X' E own B σ Er → Fin (sel (fun u => Fin P NoErr (kr u)) Q) Er mb → WSs X' body { nx := TurnE E B Q Inv, rt := D.rt, bk := fun _ _ => False, ct := fun _ _ => False } σ H)
    (hs : ∀ (X' : Cx) (p : Addr × Obj) (er : Err), Tr X X' → Hok X' k p → ∀ B' H' (Q : τ → Prop), Stt E own B' H' → Ex B B' → ExP X'.mg B' p er → l.contains er.cls = true → Fin (sel (fun u => Fin P NoErr (kr u)) Q) NoErr (mh er) →
      WSs X' (b₀ :: suite) { nx := fun σ2 H2 => TurnE E B' Q Inv (σ2.set i none) H2, rt := D.rt, bk := fun _ _ => False, ct := fun _ _ => False } (σ.set i (some (.ref p.1))) H')
    (hd : ∀ a σ2 own2 B2 H2, Inv a σ2 own2 B2 → Stt E own2 B2 H2 → Ex B B2 → Fin P NoErr (kn a) → WSs X rest D σ2 H2) :
    WSs X (.Try body [.ExceptHandler (some (.Name x np)) (some n) (b₀ :: suite) p'] [] [] pos :: rest) D σ H := by
  have F1 := Fin.catch (Fin.bind F)
  have fq : ∀ {r : Res (ρ' ⊕ τ)} {Er : Err → Prop}, Fin (fun a => Fin P NoErr (sel kr kn a)) Er r → Fin (sel (fun u => Fin P NoErr (kr u)) (fun a => Fin P NoErr (kn a))) Er r := fun h => h.mono (fun a _ z => by cases a <;> exact z) fun _ z => z
  have nx : ∀ {σ2 : L2.St} {H2 : Hp} {B1 : Hp}, Ex B B1 → TurnE E B1 (fun a => Fin P NoErr (kn a)) Inv σ2 H2 → WSs X rest D σ2 H2 := fun {σ2 H2 B1} x0 ⟨a, own2, B2, h1, h2, h3, h4⟩ => hd a σ2 own2 B2 H2 h4 h2 (x0.trans h3) h1
  refine WSs.cons (L2N.ps_try_as (tb := fun W D σ H => ∀ pn xe, L2N.Takes (X.tr pn xe) W → PassesOwn (model X.prog X.w) X.A X.env xe → WSs (X.tr pn xe) body D σ H)
    (ts := fun a cls d D σ H => ∀ oe pn, L2N.Zn cls d oe → (∃ vs, oe.data = .fields vs) → WSs (X.suite a ((a, oe) :: pn)) (b₀ :: suite) D σ H) (Wout := fun _ _ _ _ => False)
    TX.st TX.fr C.nd hi hln hc tk_no (fun W pn xe tk po => ⟨fun pins s σ H D I h => h pn xe tk po pins s I⟩) (fun a oe cls d pn hz hf => ⟨fun pins s σ H D I h => h oe pn hz hf pins s I⟩)) ?_
  intro pn xe tk po
  refine WSs.ends (hb (X.tr pn xe) (fun a => Fin P NoErr (kn a)) _ ⟨rfl, rfl, rfl, rfl, rfl, rfl, rfl, rfl⟩ ⟨C.calm, C.nd, C.room, po⟩ ⟨_, tk, fun e he cls dd B' H' S' x' r => ?_⟩ (fq F1)) ⟨fun σ2 H2 z => nx (Ex.refl _) z, fun _ _ z => z, fun _ _ z => z.elim, fun _ _ z => z.elim⟩
  have he' : l.contains e.cls = true ∧ Fin (fun a => Fin P NoErr (sel kr kn a)) NoErr (mh e) := by
    unfold hdl at he
    by_cases q : l.contains e.cls = true
    · rw [if_pos q] at he
      exact ⟨q, he⟩
    · rw [if_neg q] at he
      exact he.elim
  obtain ⟨C1, m1, k1⟩ := hx _ he'.1
  obtain ⟨C2, m2, k2⟩ := r.c
  have m2' : X.mg e.cls = some (.ref C2) := m2
  rw [m1] at m2'
  cases m2'
  subst k2
  refine ⟨true, k1, fun _ a na oe pn2 hz hf => ?_, fun z => by cases z⟩
  have h2 := hs (X.suite a ((a, oe) :: pn2)) (a, oe) e ⟨rfl, rfl, rfl, rfl, rfl, rfl, rfl, rfl⟩ ⟨C.nd, ⟨C.room.dp, C.room.un⟩, ⟨rfl, by obtain ⟨vs, hv⟩ := hf; exact ⟨vs, hv, hz.2.2 vs hv⟩⟩, List.mem_cons_self .., PassesOwn.never⟩ B' H' (fun a => Fin P NoErr (kn a)) S' x' ⟨_, _, hz, hf, ⟨⟨C1, m1, rfl⟩, r.f⟩⟩ he'.1 (fq he'.2)
  exact WSs.ends h2 ⟨fun σ2 H2 z => nx x' z, fun _ _ z => z, fun _ _ z => z.elim, fun _ _ z => z.elim⟩
end

/-! ### the law's tables: the classes that come, whom they are beneath -/
def IsAll (K : PySem.W.Frag) (mg : MG) (RL : List Str) (D : Str) (L : List Str) : Prop := ∀ cn, RL.contains cn = true → IsT K mg cn D (L.contains cn)
/-- .. beneath a class of the language -/
def IsTB (K : PySem.W.Frag) (mg : MG) (cn : Str) (T : String) (b : Bool) : Prop := ∃ C, mg cn = some (.ref C) ∧ IsK K C ∧ PySem.W.kitOne K (.ref C) (.type T) = some b
def IsAllB (K : PySem.W.Frag) (mg : MG) (RL : List Str) (T : Str) (T2 : String) (L : List Str) : Prop := mg T = none ∧ ∀ cn, RL.contains cn = true → IsTB K mg cn T2 (L.contains cn)
/-- what an except clause with the class x takes -/
def ExAll (K : PySem.W.Frag) (mg : MG) (l : List Str) (x : Str) : Prop := ∃ C, mg x = some (.ref C) ∧ ∀ cn, l.contains cn = true → ∃ A, mg cn = some (.ref A) ∧ PySem.W.exmOne K (.ref A) (.ref C) = some true
section
variable {K : PySem.W.Frag} {mg : MG} {RL L : List Str} {c D x : Str} {Q : Str → Prop}
theorem all_cons (h : Q c) (r : ∀ cn, RL.contains cn = true → Q cn) : ∀ cn, (c :: RL).contains cn = true → Q cn := fun cn z => by
  rcases List.mem_cons.mp (List.contains_iff_mem.mp z) with e | e
  · rw [e]
    exact h
  · exact r cn (List.contains_iff_mem.mpr e)
theorem all_nil : ∀ cn, ([] : List Str).contains cn = true → Q cn := fun cn z => by cases z
end
theorem kit_cl {K : PySem.W.Frag} {t : Value} {D : Addr} {b : Bool} (h2 : PySem.W.isClsIn K D = true) (h3 : PySem.W.typeIn K (.ref D) = some (.type "type")) (h4 : PySem.W.subIn K t (.ref D) = some b) : PySem.W.kitCls K t (.ref D) = some b := by
  have e : ((PySem.W.clsIn K D).isSome && PySem.W.typeIn K (.ref D) == some (.type "type")) = true := by
    rw [show (PySem.W.clsIn K D).isSome = true from h2, h3] <;> rfl
  unfold PySem.W.kitCls
  dsimp only
  rw [if_pos e]
  exact h4
theorem kit_ref {K : PySem.W.Frag} {C D : Addr} {b : Bool} (h2 : PySem.W.isClsIn K D = true) (h3 : PySem.W.typeIn K (.ref D) = some (.type "type")) (h4 : PySem.W.subIn K (.ref C) (.ref D) = some b) (hn : (Value.ref C == Value.ref D) = false) : PySem.W.kitOne K (.ref C) (.ref D) = some b := by
  unfold PySem.W.kitOne
  rw [hn, if_neg Bool.false_ne_true]
  exact kit_cl h2 h3 h4
theorem kit_self {K : PySem.W.Frag} {C : Addr} : PySem.W.kitOne K (.ref C) (.ref C) = some true := by
  unfold PySem.W.kitOne
  rw [if_pos (beq_self_eq_true _)]
theorem kit_typ {K : PySem.W.Frag} {C : Addr} {T : String} {b : Bool} (h1 : PySem.W.kitMeta T = true) (h4 : PySem.W.subIn K (.ref C) (.type T) = some b) : PySem.W.kitOne K (.ref C) (.type T) = some b := by
  have hn : (Value.ref C == Value.type T) = false := by
    rw [beq_eq_false_iff_ne]
    exact fun z => nomatch z
  unfold PySem.W.kitOne
  rw [hn, if_neg Bool.false_ne_true]
  unfold PySem.W.kitCls
  dsimp only
  rw [if_pos h1]
  exact h4
theorem exm_of {K : PySem.W.Frag} {C D : Addr} {b : Bool} (h1 : PySem.W.subIn K (.ref D) (.type "BaseException") = some true) (h2 : PySem.W.isClsIn K D = true) (h3 : PySem.W.typeIn K (.ref D) = some (.type "type")) (h4 : PySem.W.subIn K (.ref C) (.ref D) = some b) : PySem.W.exmOne K (.ref C) (.ref D) = some b := by
  have e : (PySem.W.subIn K (.ref D) (.type "BaseException") == some true) = true := by rw [h1] <;> rfl
  unfold PySem.W.exmOne
  rw [if_pos e]
  exact kit_cl h2 h3 h4
theorem Tr.isB {X X' : Cx} (t : Tr X X') (h : IsB X.K) : IsB X'.K := by rw [t.K]; exact h
theorem Tr.isA {X X' : Cx} {RL L : List Str} {D : Str} (t : Tr X X') (h : IsAll X.K X.mg RL D L) : IsAll X'.K X'.mg RL D L := by rw [t.K, t.mg]; exact h
theorem Tr.isAB {X X' : Cx} {RL L : List Str} {D : Str} {D2 : String} (t : Tr X X') (h : IsAllB X.K X.mg RL D D2 L) : IsAllB X'.K X'.mg RL D D2 L := by rw [t.K, t.mg]; exact h
theorem Tr.exA {X X' : Cx} {RL : List Str} {D : Str} (t : Tr X X') (h : ExAll X.K X.mg RL D) : ExAll X'.K X'.mg RL D := by rw [t.K, t.mg]; exact h
theorem Tr.rz {X X' : Cx} {D : Str} (t : Tr X X') (h : Rz X.K X.mg D) : Rz X'.K X'.mg D := by rw [t.K, t.mg]; exact h
theorem Tr.mkt {X X' : Cx} {k : Nat} {n : Str} {CT : Addr} {ps : List Str} {sp : Sp} (t : Tr X X') (G : MkT X k n CT ps sp) : MkT X' k n CT ps sp := by
  unfold MkT
  rw [t.pr, t.w, t.K, t.mg, t.base]
  exact G
theorem Tr.tt {X X' : Cx} {C : Addr} (t : Tr X X') (h : TabTxt X.K C) : TabTxt X'.K C := by rw [t.K]; exact h
section
variable {X : Cx} {E : Ent} {own new own' : Own} {B H B' H' : Hp} {σ : L2.St} {α β γ τ ρ δ : Type} {R : Rel α} {S : Rel β} {T : Rel γ} {e a b c o it : Expr} {x : α} {y : β} {q pos pos' apos : Pos} {i j k k0 : Nat} {z w : Bool} {xs : List α} {es : List Expr} {p : Addr × Obj}
variable {n m : Str} {rest body other : List Stmt} {D : Ends} {P : ρ → Prop} {Er : Err → Prop} {ps : List Str} {A : AR} {er : Err}
def rIsXB (K : PySem.W.Frag) (mg : MG) (p : Addr × Obj) (er : Err) : List V → Hp → VK → Prop := fun xs H Q => ∃ (D : Addr) (T : String) (b : Bool), xs = [.ref p.1, .ty T] ∧ mg er.cls = some (.ref D) ∧ IsK K D ∧ ExP mg H p er ∧ PySem.W.kitOne K (.ref D) (.type T) = some b ∧ Q (.bl b) H
theorem cr_isXB (IB : IsB X.K) (C : Hok X k0 p) : CallR X (.builtin "isinstance") (rIsXB X.K X.mg p er) := by
  intro pins s σ H xs us Q I r h
  obtain ⟨D, Tn, b, rfl, hmg, T, hx, hk, q⟩ := h
  cases r with
  | cons rx rr =>
    cases rr with
    | cons rt rr =>
      cases rr
      cases rx
      cases rt
      obtain ⟨cls, d, h1, h2, ⟨⟨C2, c1, c2⟩, h4⟩⟩ := hx
      have eD : C2 = D := by
        rw [hmg] at c1
        cases c1
        rfl
      subst eD
      obtain ⟨od, J, _⟩ := instAt_of (I.hok) (I.pin p (List.mem_append.mpr (.inl C.mem))).1 h1 h2 c2 h4
      exact PySem.W.kia_one (PySem.W.kitx_exc T.hcl T.hga T.hgt T.hsub T.ha IB.hn IB.ht T.hm) I.kIn J hk (fun z => nomatch z) fun tk => ⟨.bl b, H, I.kept (t' := tk) fun _ _ z => z, rfl, q⟩
theorem ev_isXB {cs : Str} {cn : String} {p2 : Pos} {z : Bool} (IB : IsB X.K) (C : Hok X k0 p) (hg : Gl X "isinstance") (hm : X.mg "isinstance" = none) (hgc : Gl X cs) (hmc : X.mg cs = none) (hv : bootBuiltins cs = some (.type cn)) (hp : PE X a (tVar i)) (h : σ[i]? = some (some (.ref p.1))) (hx : ExP X.mg B p er) (ht : IsTB X.K X.mg er.cls cn z)
    (hn : cs ≠ "__name__" := by decide) (hdb : (cs == ("__debug__" : Str)) = false := by decide) (hs : starEach (a :: [.Name cs p2]) X.env = (false, eval a X.env) :: starEach [.Name cs p2] X.env := by rfl) (hs2 : St1 X (.Name cs p2) := by rfl) (hpl : (backTo pos (starEach [.Name cs p2] X.env)).any (·.1) = false := by rfl) :
    EvB X E own B H σ (.Call (.Name "isinstance" q) [a, .Name cs p2] [] pos) rBool z := fun B1 H1 S1 e1 e2 Q k => by
  obtain ⟨C1, m1, T, hk⟩ := ht
  exact WE.of (pe_callB (cr_isXB (er := er) IB C) hg hm (by decide +kernel) (pa_cons hp (pa_cons (pe_bltn (v := .ty cn) hgc hmc hv rfl hn hdb) pa_nil hs2) hs) (he := hs) (hpl := hpl)) ⟨.ref p.1, h, C1, cn, z, rfl, m1, T, (hx.mono e1).mono S1.bh.ex, hk, k _ B1 H1 S1 (Ex.refl _) (Ex.refl _) rfl⟩
theorem s_tryN {ρ' : Type} {x : Str} {np p' : Pos} {b₀ : Stmt} {suite : List Stmt} {mb : Res (ρ' ⊕ τ)} {mh : Err → Res (ρ' ⊕ τ)} {kr : ρ' → Res ρ} {kn : τ → Res ρ} {l : List Str} (TX : Tp X) (C : Cok X k) (L : Slot X i n) (hln : X.env.kindOf n = some .local) (EA : ExAll X.K X.mg l x) (hg : Gl X x) (S0 : Stt E own B H)
    (F : Fin P NoErr ((mb.catch (hdl l mh)).bind (sel kr kn)))
    (Inv : τ → L2.St → Own → Hp → Prop)
    (hb : ∀ (X' : Cx) (Q : τ → Prop) (Er : Err → Prop), Tr X X' → Cok X' k → XOk X' E own B σ Er → Fin (sel (fun u => Fin P NoErr (kr u)) Q) Er mb → WSs X' body { nx := TurnE E B Q Inv, rt := D.rt, bk := fun _ _ => False, ct := fun _ _ => False } σ H)
    (hs : ∀ (X' : Cx) (p : Addr × Obj) (er : Err), Tr X X' → Hok X' k p → ∀ B' H' (Q : τ → Prop), Stt E own B' H' → Ex B B' → ExP X'.mg B' p er → l.contains er.cls = true → Fin (sel (fun u => Fin P NoErr (kr u)) Q) NoErr (mh er) →
      WSs X' (b₀ :: suite) { nx := fun σ2 H2 => TurnE E B' Q Inv (σ2.set i none) H2, rt := D.rt, bk := fun _ _ => False, ct := fun _ _ => False } (σ.set i (some (.ref p.1))) H')
    (hd : ∀ a σ2 own2 B2 H2, Inv a σ2 own2 B2 → Stt E own2 B2 H2 → Ex B B2 → Fin P NoErr (kn a) → WSs X rest D σ2 H2) (hdb : (x == ("__debug__" : Str)) = false := by decide) :
    WSs X (.Try body [.ExceptHandler (some (.Name x np)) (some n) (b₀ :: suite) p'] [] [] pos :: rest) D σ H := by
  obtain ⟨Cc, m, q⟩ := EA
  exact s_try TX C L.ix hln ⟨hg, hdb, .inl m⟩ S0 F q Inv hb hs hd
end
theorem Scp.kind {X : Cx} {N : List Str} {sc : Scope} {t : List (Str × NameKind)} {x : Str} {kd : NameKind} (V : Scp X N sc) (h : nmOk sc t = true) (j : Nat) (hj : t[j]? = some (x, kd) := by rfl) : X.env.kindOf x = some kd := by
  obtain ⟨q1, _⟩ := nmOk.at h hj
  show X.env.scope.names.lookup x = _
  rw [V.sc, q1]
theorem Res.sure_ok {α β : Type} {m : Res α} {f : α → Res β} {y : β} (h : m.sure.bind f = .ok y) : ∃ x, m = .ok x ∧ f x = .ok y := by
  cases m with
  | ok x => exact ⟨x, rfl, h⟩
  | err e => cases h
  | stuck => cases h
end Sg

namespace Sg
open PySem PySem.Spec PyProof.Rows L2

/-! ### classes with an own __init__ of one field -/
/-- the base class's text -/
structure FeK (K : PySem.W.Frag) (CF : Addr) : Prop where
  sg : PySem.W.specialIn K (.ref CF) "__getattribute__" = some (some (.builtin "type.__getattribute__"))
  rd : PySem.W.readsIn K CF (.type "type") = true
  fc : PySem.W.findCls K (.ref CF) (.type "type") "__init__" = some (.val (.builtin "ValueError.__init__"))
section
variable {X : Cx} {σ : L2.St} {H : Hp} {es : List Expr} {e : Expr} {p p1 p2 pos : Pos} {ta : TA}
theorem pe_feI {pl : Sem Bool} {n : Str} {CF : Addr} (FK : FeK X.K CF) (hg : Gl X n) (hm : X.mg n = some (.ref CF)) (hdb : (n == ("__debug__" : Str)) = false) (ha : PA X (e :: es) ta)
    (hc : eval (.Call (.Attribute (.Name n p1) "__init__" p2) (e :: es) [] pos) X.env = (do
      let ov ← eval (.Name n p1) X.env
      standAt p2.atName
      let (f, first) ← holding [ov] (getMethod ov "__init__" pl)
      callWith pos f first (backTo pos (starEach (e :: es) X.env)) (backToKw pos (keywordEach [] X.env))) := by rfl)
    (he : starEach (e :: es) X.env = (false, eval e X.env) :: starEach es X.env := by rfl) (hpl : (backTo pos (starEach es X.env)).any (·.1) = false := by rfl) :
    PE X (.Call (.Attribute (.Name n p1) "__init__" p2) (e :: es) [] pos) (tVeI X.K ta) := by
  constructor
  intro pins s σ H Q I h
  refine PySem.W.methodCall_KW (ld_glob I hg hm ?_ hdb) hc
  refine PySem.W.method_cls I.kIn FK.sg (PySem.W.cls_value I.kIn FK.rd FK.fc (by decide +kernel) ?_)
  refine PyProof.Rows.callWith_method1 (thn (ha.run pos pins _ σ H _ (I.tok _) h) fun us s2 hh => ?_) he hpl
  obtain ⟨vs, H1, I1, r1, a, C, ws, ev, hl, T, ea, q⟩ := hh
  subst ev
  cases r1 with
  | @cons _ u0 _ ur ra rw' =>
    cases (show u0 = Value.ref a from ra)
    refine oinit_ok T I1 ea ?_ fun s' J => ⟨.non, H1, J, rfl, q⟩
    have := Paired.length rw'
    rw [sizeLine_eq]
    omega
end
/-- what such an __init__ does -/
def SpE1 (f : Str) : Sp := fun vs H Q _ => ∃ (a C : Addr) (K : PySem.W.Frag) (v : V), vs = [.ref a, v] ∧ OexC K C ∧ PySem.W.findIn K (.ref C) f = some none ∧ H a = some (exo a C none) ∧
  ∀ dx, H dx = none → dx ≠ a → Q .non (upd (upd H dx (exd dx [(f, v)])) a (exo a C (some dx)))
/-- the promise with the written part of the text -/
def SpE (K : PySem.W.Frag) (f : Str) : Sp := fun vs H Q _ => ∃ (a C : Addr) (v : V), vs = [.ref a, v] ∧ OexC K C ∧ PySem.W.findIn K (.ref C) f = some none ∧ H a = some (exo a C none) ∧
  ∀ dx, H dx = none → dx ≠ a → Q .non (upd (upd H dx (exd dx [(f, v)])) a (exo a C (some dx)))
section
variable {P : Program} {w : World} {K : PySem.W.Frag} {mg : Str → Option Value} {base : Heap}
/-- def __init__(self, x): Base.__init__(self, text); self.f = x -/
theorem ini_ok {qual fl an msg : Str} {st : Stmt} {f CF : Addr} {fd : FuncData} {k j : Nat} {p0 p1 p2 p3 p4 p5 p6 p7 p8 p9 : Pos} (F : Fun K "__init__" qual st f fd) (S : FnScope ["self", an] ["self", an] (defScope st)) (tb : nmOk (defScope st) [("self", .local), (an, .local), ("FormError", .globalImplicit)] = true)
    (hb : defBody st = [.Expr (.Call (.Attribute (.Name "FormError" p0) "__init__" p1) [.Name "self" p2, .Constant (.str msg) j p3] [] p4) p5, .Assign [.Attribute (.Name "self" p6) fl p7] (.Name an p8) p9])
    (FK : FeK K CF) (hm : mg "FormError" = some (.ref CF))
    (hc : ∀ env : Env, ∃ pl : Sem Bool, eval (.Call (.Attribute (.Name "FormError" p0) "__init__" p1) [.Name "self" p2, .Constant (.str msg) j p3] [] p4) env = (do
      let ov ← eval (.Name "FormError" p0) env
      standAt p1.atName
      let (f, first) ← holding [ov] (getMethod ov "__init__" pl)
      callWith p4 f first (backTo p4 (starEach [.Name "self" p2, .Constant (.str msg) j p3] env)) (backToKw p4 (keywordEach [] env)))) : FnOk P w K mg base CX0 (k + 1) f fd ["self", an] (SpE K fl) := by
  refine F.ok S (fun vs H Q E h => ?_) (fun cdv A outer s H vs Q E hr h => ?_)
  · obtain ⟨a, C, v, rfl, _⟩ := h
    rfl
  obtain ⟨a, C, v, rfl, T, hno, ea, q⟩ := h
  have V : Scp ((cxOf CX0 P w K mg base ["self", an] qual (defScope st) f cdv A outer s H E).nox) ["self", an] (defScope st) := ⟨rfl, rfl⟩
  have hs : ∀ pq, PE _ (.Name "self" pq) (tVar 0) := fun pq => V.var (pos := pq) tb 0 0
  have hx : ∀ pq, PE _ (.Name an pq) (tVar 1) := fun pq => V.var (pos := pq) tb 1 1
  obtain ⟨pl, hpl⟩ := hc ((cxOf CX0 P w K mg base ["self", an] qual (defScope st) f cdv A outer s H E).nox).env
  rw [hb]
  refine ⟨_, pss_cons (ps_expr (pe_feI (pl := pl) (hc := hpl) FK (V.gl tb 2) hm (by decide) (pa_cons (hs _) (pa_cons pe_str pa_nil)))) (pss_cons (ps_ost (hs _) (hx _)) pss_nil), ?_⟩
  refine ⟨.ref a, rfl, a, C, [.str msg], rfl, Nat.le_of_ble_eq_true rfl, T, ea, ?_⟩
  exact ⟨v, rfl, .ref a, rfl, a, C, rfl, T, hno, .inl ⟨ea, fun dx hd hn => q dx hd hn⟩⟩
end
/-- C(v), a class with such an __init__: its context is None -/
theorem pmkN {X : Cx} {CX : CXT} {x : Str} {e : Expr} {es : List Expr} {ta : TA} {p pos : Pos} {C fI : Addr} {k : Nat} {fd : FuncData} {ps : List Str} {sp : Sp} (T : OexC X.K C) (iC : PySem.W.findIn X.K (.ref C) "__init__" = some (some (.ref fI))) (tI : PySem.W.typeIn X.K (.ref fI) = some (.type "function"))
    (F1 : FnOk X.prog X.w X.K X.mg X.base CX k fI fd ps sp) (hr : Room (k + 1) X.A) (hb : Binds X.K fd ps []) (hx : Passes CX X (fun _ _ _ => False)) (hg : Gl X x) (hm : X.mg x = some (.ref C)) (ha : PA X (e :: es) ta)
    (hdb : (x == ("__debug__" : Str)) = false) (he : starEach (e :: es) X.env = (false, eval e X.env) :: starEach es X.env := by rfl) (hpl : (backTo pos (starEach es X.env)).any (·.1) = false := by rfl) :
    L2N.PMk X (.Call (.Name x p) (e :: es) [] pos) (tMkO C sp [] ta) := by
  intro pins s σ H Q I h
  have TC := T.cls
  obtain ⟨nm, q, N, bs, bm, sn, sub, ab, col, dd, k0, k1, k2, k3, k5, hC, hbm⟩ := TC
  refine wpAny_Call_Name_kw (ld_glob I hg hm (PySem.W.callWith_K (h₀ := X.base) I.ok.mod.kin T.kC (thn (ha.run pos pins s σ H _ I h) fun us s1 hh => ?_) he hpl) hdb)
  obtain ⟨vs, H1, I1, r1, hz, q1⟩ := hh
  refine ⟨I1.kIn, ?_⟩
  obtain ⟨hp, g, dr, tk, os⟩ := s1
  show wpAny _ _ (call (.ref C) us) _ _ _
  have up : hp.objs.size ≤ hp.objs.size + 1 := Nat.le_succ _
  have free : H1 (hp.objs.size + 1) = none := I1.hok.fresh up
  have keeps : ∀ b o, hp.get? b = some o → ((hp.push (PySem.W.kdv_tup us)).push (PySem.HandSPX.excO C hp.objs.size)).get? b = some o := fun b o z => Heap.get?_push_of_some _ (Heap.get?_push_of_some _ z)
  have made : ((hp.push (PySem.W.kdv_tup us)).push (PySem.HandSPX.excO C hp.objs.size)).get? (hp.objs.size + 1) = some (PySem.HandSPX.excO C hp.objs.size) := by heap_get
  have I2 := I1.laid (t' := tk) (a := hp.objs.size + 1) (o := exo (hp.objs.size + 1) C none) keeps up (exo_ok made)
  have hq := q1 (hp.objs.size + 1) free
  rw [List.append_nil] at hq
  have rv2 : Vals (V.ref (hp.objs.size + 1) :: vs) (Value.ref (hp.objs.size + 1) :: us) := .cons rfl r1
  have len2 : (Value.ref (hp.objs.size + 1) :: us ++ []).length = ps.length := by
    rw [List.append_nil, ← rv2.length]
    exact F1.len _ _ _ _ hq
  have small : us.length ≤ sizeLine := by
    have := Paired.length r1
    rw [sizeLine_eq]
    omega
  have bnd := hb _ (Value.ref (hp.objs.size + 1) :: us) I2.kIn len2
  rw [List.append_nil] at bnd
  have run := F1.run _ X.stack _ _ ⟨Value.ref (hp.objs.size + 1) :: us, []⟩ (Value.ref (hp.objs.size + 1) :: us) _ _ (fun _ _ _ => False) (hr.make C us []) (I2.env0.make C us []) bnd rv2 hq
  refine wpAny_call (PySem.HandSPX.call_own F.excBase_ValueError (fun Y => PySem.HandSPX.refsVE_contains Y bm hbm) (I1.kIn _ _ hC) (PySem.W.looks_findIn I1.kIn iC) (fun self => PySem.W.bind_fn I1.kIn self tI) small (codeAny_mono run fun r s' hr' => ?_))
  cases r with
  | error er => exact hx pins σ _ _ er s' I2 hr'
  | ok fl =>
    cases fl with
    | brk => exact hr'.elim
    | cont => exact hr'.elim
    | next => exact hr'.elim
    | ret u =>
      obtain ⟨v, H2, os2, bare2, un2, hok2, rv, ev, d, fs, ea, ed, hd1, q2⟩ := hr'
      cases ev
      obtain ⟨h2, g2, d2, t2, os'⟩ := s'
      obtain ⟨t0, G, J, kG, ge, hoe, na⟩ := mk_end0 (d2 := d2) (t2 := t2) I1 up keeps un2 hok2 os2 bare2 ea ed hd1
      exact ⟨rv, hp.objs.size + 1, _, _, ⟨G, g2, d2, t2, os'⟩, _, .ref C, some d, rfl, J, kG, ge, hoe, ⟨rfl, rfl, fun vs hv => by cases hv; rfl⟩, rfl, rfl, na, rfl, bare2, raises_own T.exC T.tyC, q2⟩
/-- a class with an __init__ of the field f -/
def RzI (P : Program) (w : World) (K : PySem.W.Frag) (mg : MG) (base : Heap) (c f : Str) (ps : List Str) : Prop := ∃ (C fI : Addr) (fd : FuncData), mg c = some (.ref C) ∧ OexC K C ∧ PySem.W.findIn K (.ref C) "__init__" = some (some (.ref fI)) ∧ PySem.W.typeIn K (.ref fI) = some (.type "function") ∧ PySem.W.findIn K (.ref C) f = some none ∧
  FnOk P w K mg base CX0 1 fI fd ps (SpE K f) ∧ Binds K fd ps []
theorem Tr.rzi {X X' : Cx} {c f : Str} {ps : List Str} (t : Tr X X') (h : RzI X.prog X.w X.K X.mg X.base c f ps) : RzI X'.prog X'.w X'.K X'.mg X'.base c f ps := by
  rw [t.pr, t.w, t.K, t.mg, t.base]
  exact h
section
variable {X : Cx} {E : Ent} {own new own' : Own} {B H B' H' : Hp} {σ : L2.St} {α β γ τ ρ δ : Type} {R : Rel α} {S : Rel β} {T : Rel γ} {e a b c o it : Expr} {x : α} {y : β} {q pos pos' apos : Pos} {i j k k0 : Nat} {z w : Bool} {xs : List α} {es : List Expr} {p : Addr × Obj}
variable {n m : Str} {rest body other : List Stmt} {D : Ends} {P : ρ → Prop} {Er : Err → Prop} {ps : List Str} {A : AR} {er : Err}
theorem s_raise1 {cn f : Str} {u : Int} {p1 p3 : Pos} (XO : XOk X E own B σ Er) (C : Cok X k) (hk : 2 ≤ k) (hz : RzI X.prog X.w X.K X.mg X.base cn f ps) (hg : Gl X cn) (S0 : Stt E own B H) (he : EvB X E own B H σ e rInt u) (hE : Er ⟨cn, [(f, .int u)]⟩) (hdb : (cn == ("__debug__" : Str)) = false := by decide)
    (hs : starEach (e :: []) X.env = (false, eval e X.env) :: starEach [] X.env := by rfl) : WSs X (.Raise (some (.Call (.Name cn p1) [e] [] p3)) none pos :: rest) D σ H := by
  obtain ⟨W, tk, hW⟩ := XO
  obtain ⟨C0, fI, fd, m1, T, iC, tI, hno, F1, hb⟩ := hz
  refine WSs.cons (L2N.ps_raise C.calm tk (pmkN T iC tI F1 (C.room.mono hk) hb (fun _ _ _ _ _ _ _ z => z.elim) hg m1 (pa_cons peW pa_nil hs) hdb hs)) (he B H S0 (Ex.refl _) (Ex.refl _) _ fun v B2 H2 S2 e1 _ r => ⟨Nat.le_of_ble_eq_true rfl, fun a ha => ?_⟩)
  have r : v = .int u := r
  subst r
  refine ⟨a, C0, .int u, rfl, T, hno, upd_same, fun dx hd hn => ⟨rfl, dx, [(f, .int u)], upd_same, by rw [upd_ne hn, upd_same], by rw [← hd, upd_ne hn], ?_⟩⟩
  have hd2 : H2 dx = none := by rw [← hd, upd_ne hn]
  have eH : upd (del (upd (upd (upd H2 a (exo a C0 none)) dx (exd dx [(f, V.int u)])) a (exo a C0 (some dx))) a) dx (.xd [(f, V.int u)]) = upd H2 dx (.xd [(f, V.int u)]) := by
    funext y
    by_cases hy : y = dx
    · rw [hy, upd_same, upd_same]
    · rw [upd_ne hy, upd_ne hy]
      by_cases ha' : y = a
      · rw [ha', del_same, ha]
      · rw [del_ne ha', upd_ne ha', upd_ne hy, upd_ne ha']
  rw [eH]
  exact hW _ hE _ _ _ _ (S2.lay hd2) (e1.trans (S2.layB hd2).ex) ⟨⟨C0, m1, rfl⟩, .inr ⟨dx, [(f, .int u)], rfl, upd_same, .cons ⟨rfl, rfl⟩ .nil⟩⟩

/-! ### its fields -/
def fldI (e : Err) (f : Str) : Option Int := match e.fs.lookup f with
  | some (.int i) => some i
  | _ => none
/-- no class that comes has the field's name for itself -/
def NoFld (K : PySem.W.Frag) (mg : MG) (RL : List Str) (f : Str) : Prop := ∀ cn, RL.contains cn = true → ∃ C, mg cn = some (.ref C) ∧ IsK K C ∧ PySem.W.findIn K (.ref C) f = some none
theorem Tr.noFld {X X' : Cx} {RL : List Str} {D : Str} (t : Tr X X') (h : NoFld X.K X.mg RL D) : NoFld X'.K X'.mg RL D := by rw [t.K, t.mg]; exact h
theorem fld_look {Bq : Hp} {f : Str} {u : Int} : ∀ {fv : List (Str × V)} {fs : List (Str × ED)}, Paired (fun (p : Str × V) (q : Str × ED) => p.1 = q.1 ∧ EDv Bq p.2 q.2) fv fs → fs.lookup f = some (.int u) → fv.lookup f = some (.int u)
  | _, _, .nil, h => by cases h
  | _, _, .cons (a := a) (b := b) h r, hl => by
    obtain ⟨a1, a2⟩ := a
    obtain ⟨b1, b2⟩ := b
    obtain ⟨h1, h2⟩ := h
    have h1 : a1 = b1 := h1
    subst h1
    rw [List.lookup_cons] at hl ⊢
    cases q : f == a1 with
    | true =>
      rw [q] at hl
      cases hl
      exact congrArg some h2
    | false =>
      rw [q] at hl
      exact fld_look r hl
theorem ev_fldI {f : Str} {u : Int} {pn : Pos} {RL : List Str} (C : Hok X k0 p) (hp : PE X a (tVar i)) (h : σ[i]? = some (some (.ref p.1))) (hx : ExP X.mg B p er) (hl : RL.contains er.cls = true) (NF : NoFld X.K X.mg RL f) (hf : fldI er f = some u) (hb : attributeBase a f X.env (eval a X.env) = eval a X.env := by rfl) :
    EvB X E own B H σ (.Attribute a f pn) rInt u := fun B1 H1 S1 e1 e2 Q k2 => by
  have PEx : PE X (.Attribute a f pn) (fun σ H Q => (∃ v, σ[i]? = some (some v) ∧ v = .ref p.1) ∧ ExP X.mg H p er ∧ Q (.int u) H) := by
    constructor
    intro pins s σ H Q I hh
    obtain ⟨⟨v, h1, rfl⟩, h2, h3⟩ := hh
    refine attr_of hb (thn (hp.run pins s σ H (fun v H' => v = .ref p.1 ∧ H' = H) I ⟨_, h1, rfl, rfl⟩) fun w s1 hw => ?_)
    obtain ⟨v, H1, I1, rv, rfl, rfl⟩ := hw
    cases (show w = Value.ref p.1 from rv)
    obtain ⟨D0, m1, T, hno⟩ := NF _ hl
    obtain ⟨cls, d, q1, q2, ⟨⟨C2, c1, c2⟩, q4⟩⟩ := h2
    rw [m1] at c1
    cases c1
    obtain ⟨od, J, hod⟩ := instAt_of I1.hok (I1.pin p (List.mem_append.mpr (.inl C.mem))).1 q1 q2 c2 q4
    have hlk : er.fs.lookup f = some (.int u) := by
      unfold fldI at hf
      split at hf
      · rename_i i hi
        cases hf
        exact hi
      · cases hf
    rcases hod with ⟨z1, _, _⟩ | ⟨dx, ob, fv, mA, z1, z2, z3, z4, z5, z6⟩
    · rw [z1] at hlk
      cases hlk
    · have hlv := fld_look z6 hlk
      have := z5 f
      rw [hlv] at this
      obtain ⟨u2, hu2, ru2⟩ := RelO.some_of (v := V.int u) (o := mA f) this
      subst z2
      exact HandSPX.exc_get I1.kIn J T.hga T.hgt T.hsub (PySem.W.findObj_own T.hdC hno rfl (by rw [z4, hu2])) (handed_of ru2) ⟨.int u, _, I1.tok _, ru2, h3⟩
  exact WE.of PEx ⟨⟨_, h, rfl⟩, (hx.mono e1).mono S1.bh.ex, k2 _ B1 H1 S1 (Ex.refl _) (Ex.refl _) rfl⟩

/-! ### isinstance of it, a tuple of classes asked for -/
/-- their names, their classes -/
def IsAllT (K : PySem.W.Frag) (mg : MG) (RL Ds : List Str) (L : List Str) : Prop := ∃ cs : List Addr, Paired (fun (d : Str) (c : Addr) => mg d = some (.ref c)) Ds cs ∧ ∀ cn, RL.contains cn = true → ∃ C, mg cn = some (.ref C) ∧ IsK K C ∧ PySem.W.kitAny K (.ref C) (cs.map Value.ref) = some (L.contains cn)
theorem Tr.isAT {X X' : Cx} {RL L D : List Str} (t : Tr X X') (h : IsAllT X.K X.mg RL D L) : IsAllT X'.K X'.mg RL D L := by rw [t.K, t.mg]; exact h
theorem kany_t {K : PySem.W.Frag} {t c : Value} {r : List Value} (h : PySem.W.kitOne K t c = some true) : PySem.W.kitAny K t (c :: r) = some true := by
  unfold PySem.W.kitAny
  rw [h]
theorem kany_f {K : PySem.W.Frag} {t c : Value} {r : List Value} {b : Bool} (h : PySem.W.kitOne K t c = some false) (g : PySem.W.kitAny K t r = some b) : PySem.W.kitAny K t (c :: r) = some b := by
  unfold PySem.W.kitAny
  rw [h]
  exact g
end
end Sg

namespace Sg
open PySem PySem.Spec PyProof.Rows L2

/-! ### any(a list) while an exception is handled -/
section
variable {prog : Program} {w : World} {A : Around} {E : Value → Shared → Prop} {s : Shared}
theorem hot_list_end {it l x1 : Addr} {i : Nat} {items : Array Value} {Q : Option Value → Shared → Prop} (hot : HotX.HotAt A x1 s.heap) (hne : x1 ≠ it) (hit : s.heap.IsListIter it l i) (hl : s.heap.IsList l items) (hx : items[i]? = none)
    (hQ : ∀ h', Heap.ExtBut it s.heap h' → Q none { s with heap := h' }) : wpAny (model prog w) A (pyNext (.ref it)) Q E s := by
  obtain ⟨hh, o1, vs1, g1, d1, c1⟩ := hot
  obtain ⟨ol, hol, _, nl, hdl⟩ := hl
  have hit0 := hit
  obtain ⟨o, ho, hc, hd⟩ := hit
  unfold pyNext
  refine wpAny_bind (wpAny_attempt (wpAny_callSpecial?_slot (name := Str.ofString "__next__") hit0.typeIs slot_listiter_next (wpAny_call_entry slot_listiter_next hit0.typeIs entry_listiter_next ?_ (args_listiter_next _))))
  show wpAny _ _ (field (.ref it) 0 >>= _) _ _ s
  refine wpAny_bind (wpAny_field ho hd (x := .ref l) rfl ?_)
  show wpAny _ _ (if (Value.ref l == Value.none) = true then _ else _) _ _ s
  have hln : (Value.ref l == Value.none) = false := rfl
  rw [hln, if_neg Bool.false_ne_true]
  show wpAny _ _ (field (.ref it) 1 >>= _) _ _ s
  refine wpAny_bind (wpAny_field ho hd (x := .int i 0) rfl ?_)
  show wpAny _ _ (seqItems? (.ref l) >>= _) _ _ s
  refine wpAny_bind (wpAny_seqItems hol hdl ?_)
  simp only [Int.toNat_natCast, hx]
  have g2 : (s.heap.update it (Obj.mapFields (·.setIfInBounds 0 Value.none))).get? x1 = some o1 := (Heap.get?_update_other _ _ (Ne.symm hne)).trans g1
  refine wpAny_bind (wpAny_rule (wpAny_bind (wpAny_setField ho hd (by simp) ?_)))
  show wpAny _ _ (newExc (.type "StopIteration") [] >>= _) _ _ _
  refine wpAny_bind ?_
  simp only [newExc, newTuple]
  refine wpAny_bind (wpAny_newObj_type ?_ (by size_fits))
  refine wpAny_bind (m := firstArgMember _ _) (wpAny_of_eq (a := Value.none) (by first | rfl | (simp only [firstArgMember]; rfl)) ?_)
  refine wpAny_newObj_type ?_ (by size_fits)
  refine HotX.raiseNew_hot ⟨hh, o1, vs1, Heap.get?_push_of_some _ (Heap.get?_push_of_some _ g2), d1, c1⟩ (Nat.ne_of_lt (Heap.lt_size (Heap.get?_push_of_some _ g2))) (Heap.get?_push_size _ rfl) rfl (by first | (simp; done) | (simp; omega) | (simp only [Array.size_append]; simp; omega)) ?_
  refine wpAny_bind (wpAny_isInstance (T := "StopIteration") (b := true) ⟨_, Heap.get?_update_self _ (Heap.get?_push_size _ rfl) rfl, rfl⟩ isSubtype_stop (wpAny_pure (hQ _ fun b u hb e => ?_)))
  have e2 : (s.heap.update it (Obj.mapFields (·.setIfInBounds 0 Value.none))).get? b = some u := (Heap.get?_update_other _ _ (Ne.symm hb)).trans e
  rw [Heap.get?_update_other _ _ (Nat.ne_of_gt (Heap.lt_size (Heap.get?_push_of_some _ e2)))]
  exact Heap.get?_push_of_some _ (Heap.get?_push_of_some _ e2)
theorem walks_hot {p : Addr × Obj} (hot : L2H.Hot1 A p) (I ax : Addr) (hne : ax ≠ I) (hp : p.1 ≠ I) (items : Array Value) :
    Walks prog w A I [I, ax, p.1] [I] items.size (fun i v => items[i]? = some v) (fun i h => (h.IsListIter I ax i ∧ h.IsList ax items) ∧ h.get? p.1 = some p.2) where
  sub := fun b hb => by simp at hb; simp [hb]
  frame := fun _ _ _ st hk => ⟨⟨st.1.1.at fun o e => hk I (by simp) o e, st.1.2.at fun o e => hk ax (by simp) o e⟩, hk p.1 (by simp) _ st.2⟩
  item := fun i s Q E hi st hQ => by
    refine wpAny_pyNext_list_item st.1.1 st.1.2 (x := items[i]) (by simp [hi]) fun h' hit' hs' => ?_
    exact hQ _ h' s.toks (by simp [hi]) ⟨⟨hit', st.1.2.extBut hs'.extBut hne⟩, hs'.extBut _ _ hp st.2⟩ fun b o hb e => hs'.extBut b o (fun h => hb (by simp [h])) e
  done := fun s Q E st hQ => by
    obtain ⟨hh, vs, e1, e2⟩ := hot
    exact hot_list_end ⟨hh, p.2, vs, st.2, e1, e2⟩ hp st.1.1 st.1.2 (by simp) fun h' he' => hQ h' s.toks fun b o hb e => he' b o (fun h => hb (by simp [h])) e
  self := fun _ _ _ _ st hQ => wpAny_pyIter_listiter st.1.1 hQ
end
section
variable {X : Cx} {E : Ent} {own new own' : Own} {B H B' H' : Hp} {σ : L2.St} {α β γ τ ρ δ : Type} {R : Rel α} {S : Rel β} {T : Rel γ} {e a b c o it : Expr} {x : α} {y : β} {q pos pos' apos : Pos} {i j k k0 : Nat} {z w : Bool} {xs : List α} {es : List Expr} {p : Addr × Obj}
variable {n m : Str} {rest body other : List Stmt} {D : Ends} {P : ρ → Prop} {Er : Err → Prop} {ps : List Str} {A : AR} {er : Err}
theorem cr_anyH (C : Hok X k p) : CallR X (.builtin "any") (L2.rAny X.K) := by
  intro pins s σ H vs us Q I r h
  obtain ⟨ax, bs, rfl, hs, q⟩ := h
  obtain ⟨its, rv, hl, _⟩ := I.list hs
  rw [Vals.ref1 r]
  have hb := rv.bls
  have P1 := I.pin p (List.mem_append.mpr (.inl C.mem))
  refine call_any_walk (iter_any hl.isList fun s₂ e2 st hne => ?_)
  subst e2
  have hp : p.1 ≠ s.heap.objs.size := Nat.ne_of_lt (Heap.lt_size P1.1)
  refine ⟨_, _, _, _, _, _, _, rfl, walks_hot (A := X.A.in1) (p := p) ⟨C.hot.1, C.hot.2⟩ _ ax hne hp its.toArray, ⟨st, Heap.get?_push_of_some _ P1.1⟩, truth_bools hb, fun h' tk hk => ?_⟩
  refine ⟨.bl _, H, I.kept fun b o eo => hk b o (fun hmem => ?_) (Heap.get?_push_of_some _ eo), ?_, q⟩
  · rw [List.mem_singleton] at hmem
    exact absurd (hmem ▸ Heap.lt_size eo) (Nat.lt_irrefl _)
  · show Value.bool _ = Value.bool _
    rw [← L2.any_range, hb, List.size_toArray, List.length_map]
theorem ev_anyH {bs : List Bool} (C : Hok X k p) (hg : Gl X "any") (hm : X.mg "any" = none) (ha : EvB X E own B H σ a (rLst rBool) bs) (hs : St1 X a := by rfl) : EvB X E own B H σ (.Call (.Name "any" q) [a] [] pos) rBool (bs.any id) :=
  ev_b1 (f := fun l => List.any l id) (pe_callB (cr_anyH C) hg hm (by decide +kernel) (pa1 hs) (he := hs)) ha fun H1 v Q h k => by
    obtain ⟨p, vs, h1, h2, h3⟩ := h
    rw [bls_rel h3] at h2
    exact ⟨p, _, by rw [h1], .inl h2, k _ rfl⟩

/-! ### isinstance(e, (A, B, ..)) -/
/-- a class by its name -/
def rCls (mg : MG) : Rel Str := ⟨fun _ v d => ∃ C, mg d = some (.ref C) ∧ v = .ref C, fun _ h => h⟩
theorem ee_cls {d : Str} (hg : Gl X d) (hm : ∃ C, X.mg d = some (.ref C)) (hdb : (d == ("__debug__" : Str)) = false := by decide) : EvE X E own B H σ (.Name d q) (rCls X.mg) d := fun B1 H1 S1 e1 e2 Q k => by
  obtain ⟨C, hm⟩ := hm
  exact WE.of (pe_gref hg hm hdb) (k _ B1 H1 S1 (Ex.refl _) (Ex.refl _) ⟨C, hm, rfl⟩)
def rIsXT (K : PySem.W.Frag) (mg : MG) (p : Addr × Obj) (er : Err) : List V → Hp → VK → Prop := fun xs H Q => ∃ (D tp : Addr) (cs : List Addr) (b : Bool), xs = [.ref p.1, .ref tp] ∧ H tp = some (.tup (cs.map V.ref)) ∧ mg er.cls = some (.ref D) ∧ IsK K D ∧ ExP mg H p er ∧ PySem.W.kitAny K (.ref D) (cs.map Value.ref) = some b ∧ Q (.bl b) H
theorem refs_val : ∀ {cs : List Addr} {its : List Value}, Vals (cs.map V.ref) its → its = cs.map Value.ref
  | [], _, .nil => rfl
  | c :: cs, _, .cons (b := u) h r => by
    have h : u = Value.ref c := h
    rw [h, refs_val r]
    rfl
theorem cr_isXT (IB : IsB X.K) (C : Hok X k0 p) : CallR X (.builtin "isinstance") (rIsXT X.K X.mg p er) := by
  intro pins s σ H xs us Q I r h
  obtain ⟨D, tp, cs, b, rfl, ht, hmg, T, hx, hk, q⟩ := h
  cases r with
  | cons rx rr =>
    cases rr with
    | cons rt rr =>
      cases rr
      cases rx
      cases rt
      obtain ⟨cls, d, h1, h2, ⟨⟨C2, c1, c2⟩, h4⟩⟩ := hx
      have eD : C2 = D := by
        rw [hmg] at c1
        cases c1
        rfl
      subst eD
      obtain ⟨od, J, _⟩ := instAt_of (I.hok) (I.pin p (List.mem_append.mpr (.inl C.mem))).1 h1 h2 c2 h4
      obtain ⟨its, rv, ⟨o, g, hc, n, hd⟩, _⟩ := I.tuple (SqT.of ht)
      have ei := refs_val rv
      obtain ⟨oc, odd, oda, osl⟩ := o
      dsimp only at hc hd
      subst hc hd ei
      exact PySem.W.kia_tup (PySem.W.kitx_exc T.hcl T.hga T.hgt T.hsub T.ha IB.hn IB.ht T.hm) I.kIn J g hk (fun z => nomatch z) fun tk => ⟨.bl b, H, I.kept (t' := tk) fun _ _ z => z, rfl, q⟩
theorem cls_refs {mg : MG} {Hq : Hp} {Ds : List Str} {cs : List Addr} {vs : List V} (h1 : Paired (fun (d : Str) (c : Addr) => mg d = some (.ref c)) Ds cs) (h2 : Paired ((rCls mg).r Hq) vs Ds) : vs = cs.map V.ref := by
  induction h1 generalizing vs with
  | nil => cases h2; rfl
  | cons a r ih =>
    cases h2 with
    | cons b s =>
      obtain ⟨C, m, e⟩ := b
      rw [a] at m
      cases m
      rw [e, ih s]
      rfl
theorem ev_isXT {te : Expr} {Ds : List Str} {RL L : List Str} (IB : IsB X.K) (C : Hok X k0 p) (hg : Gl X "isinstance") (hm : X.mg "isinstance" = none) (hp : PE X a (tVar i)) (h : σ[i]? = some (some (.ref p.1))) (hx : ExP X.mg B p er) (hl : RL.contains er.cls = true) (IT : IsAllT X.K X.mg RL Ds L) (ht : EvE X E own B H σ te (rTup (rCls X.mg)) Ds)
    (hs : starEach (a :: [te]) X.env = (false, eval a X.env) :: starEach [te] X.env := by rfl) (hs2 : St1 X te := by rfl) (hpl : (backTo pos (starEach [te] X.env)).any (·.1) = false := by rfl) :
    EvB X E own B H σ (.Call (.Name "isinstance" q) [a, te] [] pos) rBool (L.contains er.cls) := fun B1 H1 S1 e1 e2 Q k => by
  obtain ⟨cs, hcs, IT⟩ := IT
  obtain ⟨D1, m1, T, hk⟩ := IT _ hl
  refine WE.of (pe_callB (cr_isXT (er := er) IB C) hg hm (by decide +kernel) (pa_cons hp (pa_cons peW pa_nil hs2) hs) (he := hs) (hpl := hpl)) ⟨.ref p.1, h, ht B1 H1 S1 e1 e2 _ fun v B2 H2 S2 e3 e4 r => ?_⟩
  obtain ⟨tp, vs, rfl, r2, r3⟩ := r
  have ev := cls_refs hcs r3
  subst ev
  exact ⟨D1, tp, cs, _, rfl, S2.bh _ _ r2, m1, T, (hx.mono (e1.trans e3)).mono S2.bh.ex, hk, k _ B2 H2 S2 e3 e4 rfl⟩
end
/-! ### a, b = x, y -/
theorem Scp.bk {X : Cx} {N : List Str} {sc : Scope} (V : Scp X N sc) (hk : sc.kind = .function) : X.env.blockKind = .function := by
  unfold Env.blockKind
  rw [V.sc, hk]
  rfl
def notStar : Expr → Bool
  | .Starred .. => false
  | _ => true
theorem sw_par {X : Cx} {x y : Str} {a b : Expr} {px py pt pt2 : Pos} {kt k2 : Nat} (hk : X.env.blockKind = .function) (hx : X.env.kindOf x = some .local) (hy : X.env.kindOf y = some .local) (hl : (py.line == px.line) = true) (hn : [x, y].eraseDups.length = 2)
    (ha : notStar a = true) (hb : notStar b = true) (hf : [a, b].all (foldedForSure 8) = false) (hc : [a, b].all (constantsAlone 8) = false) : swappedStores [.Tuple [.Name x px, .Name y py] kt pt] (.Tuple [a, b] k2 pt2) X.env = pure (some [x, y]) := by
  have e1 : (if (X.env.kindOf x == some .local && px.line == px.line) = true then some x else none) = some x := if_pos (by rw [hx]; simp)
  have e2 : (if (X.env.kindOf y == some .local && py.line == px.line) = true then some y else none) = some y := if_pos (by rw [hy, hl]; rfl)
  have h1 : (([Expr.Name x px, Expr.Name y py].filterMap fun | .Name id pos => if (X.env.kindOf id == some .local && pos.line == px.line) = true then some id else none | _ => none) : List Str) = [x, y] := by
    simp only [List.filterMap_cons, List.filterMap_nil, e1, e2]
  have h2 : ([a, b].any fun | .Starred .. => true | _ => false) = false := by
    have n1 : ∀ e : Expr, notStar e = true → (match e with | .Starred .. => true | _ => false) = false := fun e h => by
      cases e <;> first | rfl | cases h
    simp only [List.any_cons, List.any_nil, Bool.or_false, Bool.or_eq_false_iff]
    exact ⟨n1 a ha, n1 b hb⟩
  unfold swappedStores
  dsimp only
  split
  · rename_i h
    rw [hk] at h
    simp at h
  · split
    · rename_i h
      exact absurd (h2.symm.trans h) Bool.false_ne_true
    · split
      · rename_i h
        have h : ((([Expr.Name x px, Expr.Name y py].filterMap fun | .Name id pos => if (X.env.kindOf id == some .local && pos.line == px.line) = true then some id else none | _ => none) : List Str).length != 2 || (([Expr.Name x px, Expr.Name y py].filterMap fun | .Name id pos => if (X.env.kindOf id == some .local && pos.line == px.line) = true then some id else none | _ => none) : List Str).eraseDups.length != (([Expr.Name x px, Expr.Name y py].filterMap fun | .Name id pos => if (X.env.kindOf id == some .local && pos.line == px.line) = true then some id else none | _ => none) : List Str).length) = true := h
        rw [h1, hn] at h
        simp at h
      · split
        · rename_i h
          exact absurd (hf.symm.trans h) Bool.false_ne_true
        · split
          · rename_i h
            exact absurd (hc.symm.trans h) Bool.false_ne_true
          · exact congrArg (fun z => (pure (some z) : Sem (Option (List Str)))) h1
section
variable {X : Cx} {E : Ent} {own : Own} {B H : Hp} {σ : L2.St} {α β : Type} {R : Rel α} {S : Rel β} {a b : Expr} {x : α} {y : β} {pos : Pos} {k : Nat} {rest : List Stmt} {D : Ends}
theorem s_par {n1 n2 : Str} {i1 i2 : Nat} {p1 p2 tp p3 : Pos} {kk k2 : Nat} (C : Cok X k) (L1 : Slot X i1 n1) (L2' : Slot X i2 n2) (hne : i1 ≠ i2) (hx : X.env.kindOf n1 = some .local) (hy : X.env.kindOf n2 = some .local) (S0 : Stt E own B H) (ha : EvE X E own B H σ a R x) (hb : EvE X E own B H σ b S y)
    (hw : swappedStores [.Tuple [.Name n1 p1, .Name n2 p2] kk tp] (.Tuple [a, b] k2 p3) X.env = pure (some [n1, n2]))
    (kt : ∀ v w B' H', Stt E own B' H' → Ex B B' → R.r B' v x → S.r B' w y → WSs X rest D ((σ.set i1 (some v)).set i2 (some w)) H')
    (hs : swapsWithSole [.Tuple [.Name n1 p1, .Name n2 p2] kk tp] (.Tuple [a, b] k2 p3) pos.line X.env = pure false := by rfl) (hs1 : starEach (a :: [b]) X.env = (false, eval a X.env) :: starEach [b] X.env := by rfl) (hs2 : St1 X b := by rfl) :
    WSs X (.Assign [.Tuple [.Name n1 p1, .Name n2 p2] kk tp] (.Tuple [a, b] k2 p3) pos :: rest) D σ H :=
  WSs.cons (ps_par C.calm C.nd L1.ix L2'.ix hne hx hy (pa_cons peW (pa_cons peW pa_nil hs2) hs1) hw hs) (ha B H S0 (Ex.refl _) (Ex.refl _) _ fun v B2 H2 S2 e1 e2 r => hb B2 H2 S2 e1 e2 _ fun w B3 H3 S3 e3 e4 s =>
    ⟨v, w, rfl, kt v w B3 H3 S3 (e1.trans e3) (R.mono e3 r) s⟩)
end
end Sg

namespace Sg
open PySem PySem.Spec PyProof.Rows L2
/-! ### sorted(list of tuples) -/
/-- things that are tuples of data, all of one shape -/
class EncS {α : Type} (R : Rel α) where
  enc : α → PyData
  rd : ∀ {X : Cx} {pins : List (Addr × Obj)} {σ : L2.St} {H : Hp} {s : Shared} {v : V} {x : α} {u : Value}, Inv X pins σ H s → R.r H v x → RelV v u → Reads s.heap u (enc x) []
  dp : ∀ x, (enc x).depth ≤ 2
  al : ∀ x y, PySem.W.alike (enc x) (enc y) = true
  tp : ∀ x, ∃ d l, enc x = .tuple (d :: l)
section
variable {α : Type} {R : Rel α}
instance [EncR R] : EncS (rPr rInt R) where
  enc := fun q => .tuple [.int q.1, EncR.enc R q.2]
  rd := fun {X pins σ H s v x u} I r ru => by
    obtain ⟨p, a, b, rfl, hp, ha, hb⟩ := r
    obtain rfl : u = Value.ref p := ru
    obtain ⟨_, its, rv, o, ho, hc, n, hd⟩ := (show ObjOk X.prog X.w H s.heap p (.tup [a, b]) from I.hok p _ hp)
    refine Reads.tuple ho hc hd ?_
    cases rv with
    | cons r1 rs =>
      cases rs with
      | cons r2 rn =>
        cases rn
        have ha : _ = _ := ha
        subst ha
        obtain ⟨t, rfl⟩ := r1
        exact ReadsAll.cons (as := []) (bs := []) (.int _ _) (ReadsAll.cons (as := []) (bs := []) (EncR.rd I hb r2) .nil)
  dp := fun q => by
    show (PyData.tuple [.int q.1, EncR.enc R q.2]).depth ≤ 2
    have := EncR.dp (R := R) q.2
    rw [PyData.depth, PyData.depthAll, PyData.depthAll, PyData.depthAll, PyData.depth]
    omega
  al := fun x y => by
    show PySem.W.alike (.tuple [.int x.1, EncR.enc R x.2]) (.tuple [.int y.1, EncR.enc R y.2]) = true
    rw [PySem.W.alike, PySem.W.alikeAll, PySem.W.alikeAll, EncR.al]
    rfl
  tp := fun q => ⟨_, _, rfl⟩
instance : EncS (rT3 rInt rInt rInt) where
  enc := fun q => .tuple [.int q.1, .int q.2.1, .int q.2.2]
  rd := fun {X pins σ H s v x u} I r ru => by
    obtain ⟨p, a, b, c, rfl, hp, ha, hb, hc'⟩ := r
    obtain rfl : u = Value.ref p := ru
    obtain ⟨_, its, rv, o, ho, hc, n, hd⟩ := (show ObjOk X.prog X.w H s.heap p (.tup [a, b, c]) from I.hok p _ hp)
    refine Reads.tuple ho hc hd ?_
    cases rv with
    | cons r1 rs =>
      cases rs with
      | cons r2 rn =>
        cases rn with
        | cons r3 rm =>
          cases rm
          have ha : _ = _ := ha
          have hb : _ = _ := hb
          have hc' : _ = _ := hc'
          subst ha hb hc'
          obtain ⟨t, rfl⟩ := r1
          obtain ⟨t2, rfl⟩ := r2
          obtain ⟨t3, rfl⟩ := r3
          exact ReadsAll.cons (as := []) (bs := []) (.int _ _) (ReadsAll.cons (as := []) (bs := []) (.int _ _) (ReadsAll.cons (as := []) (bs := []) (.int _ _) .nil))
  dp := fun q => by
    show (PyData.tuple [.int q.1, .int q.2.1, .int q.2.2]).depth ≤ 2
    simp [PyData.depth, PyData.depthAll]
  al := fun x y => by
    show PySem.W.alike (.tuple [.int x.1, .int x.2.1, .int x.2.2]) (.tuple [.int y.1, .int y.2.1, .int y.2.2]) = true
    simp [PySem.W.alike, PySem.W.alikeAll]
  tp := fun q => ⟨_, _, rfl⟩
/-- the order of such things -/
def leS (R : Rel α) [EncS R] (a b : α) : Bool := PySem.W.dataLe false (EncS.enc R) a b
def rSortL (R : Rel α) [EncS R] : List V → Hp → VK → Prop := fun xs H Q => ∃ (l : Addr) (vs : List V) (es : List α), xs = [.ref l] ∧ Rd H l (.lst vs) ∧ Paired (R.r H) vs es ∧
  ∀ (l2 : Addr) (ws : List (V × α)), H l2 = none → ws.map (·.2) = es.mergeSort (leS R) → (∀ z ∈ ws, R.r H z.1 z.2) → Q (.ref l2) (upd H l2 (.lst (ws.map (·.1))))
end
section
variable {X : Cx}
theorem each_pairs {α : Type} {P : V → α → Prop} : ∀ {vs : List V} {us : List Value} {xs : List α}, Vals vs us → Paired P vs xs → PySem.W.EachIs (fun u (b : V × α) => RelV b.1 u ∧ P b.1 b.2) us (vs.zip xs)
  | _, _, _, .nil, .nil => .nil
  | _, _, _, .cons r rs, .cons p ps => .cons ⟨r, p⟩ (each_pairs rs ps)
theorem each_fst {α : Type} {P : V → α → Prop} : ∀ {us : List Value} {ps : List (V × α)}, PySem.W.EachIs (fun u (b : V × α) => RelV b.1 u ∧ P b.1 b.2) us ps → Vals (ps.map (·.1)) us ∧ ∀ z ∈ ps, P z.1 z.2
  | _, _, .nil => ⟨.nil, fun z h => nomatch h⟩
  | _, _, .cons r rs => by
    obtain ⟨h1, h2⟩ := each_fst rs
    refine ⟨.cons r.1 h1, fun z hz => ?_⟩
    rcases List.mem_cons.mp hz with rfl | hz
    · exact r.2
    · exact h2 z hz
theorem cr_sortL {α : Type} (R : Rel α) [EncS R] (hu : X.A.units + 64 < cLine) : CallR X (.builtin "sorted") (rSortL R) := by
  intro pins s σ H xs us Q I r hq
  obtain ⟨l, vs, es, rfl, hl, hp, q⟩ := hq
  obtain rfl := Vals.ref1 r
  obtain ⟨its, rvs, pl, hz⟩ := I.list (.inl hl)
  have l1 := plen hp
  obtain ⟨z1, z2, z3⟩ := paired_zip hp
  have lz : (vs.zip es).length = vs.length := by rw [List.length_zip]; omega
  refine PySem.W.sorted_data (bs := vs.zip es) (enc := fun b => EncS.enc R b.2) (R := fun u b => RelV b.1 u ∧ R.r H b.1 b.2) pl.isList (each_pairs rvs hp) ((each_pairs rvs hp).mono fun u b h => ⟨[], EncS.rd I h.2 h.1⟩) (PySem.W.AllAlike.of fun b b' => EncS.al _ _) (PySem.W.Sortable.tuples fun b => EncS.tp _) (by rw [lz]; omega) (fun b _ => ?_) fun out ho eo => ?_
  · have := EncS.dp (R := R) b.2
    show X.A.units + 2 + _ < _
    omega
  · have pm : ((vs.zip es).mergeSort (PySem.W.dataLe false fun b => EncS.enc R b.2)).Perm (vs.zip es) := List.mergeSort_perm _ _
    have ms : ((vs.zip es).mergeSort (PySem.W.dataLe false fun b => EncS.enc R b.2)).map (·.2) = es.mergeSort (leS R) := by
      refine (List.map_mergeSort (r := PySem.W.dataLe false fun b : V × α => EncS.enc R b.2) (s := leS R) (f := fun b : V × α => b.2) fun a _ b _ => rfl).trans ?_
      rw [z2]
    obtain ⟨hv, hR⟩ := each_fst eo
    generalize (vs.zip es).mergeSort (PySem.W.dataLe false fun b => EncS.enc R b.2) = ws at hv hR pm ms
    obtain ⟨c, hc⟩ := PyProof.Rows.sortedAll_at s.heap its out.toArray
    have k1 : ∀ b o, s.heap.get? b = some o → (PyProof.Rows.sortedAll s.heap its out.toArray).get? b = some o := fun _ _ => PyProof.Rows.sortedAll_old
    generalize PyProof.Rows.sortedAll s.heap its out.toArray = hF at hc k1
    have I1 : Inv X pins σ H { s with heap := hF, toks := s.toks } := I.kept (t' := s.toks) k1
    have nl : H (s.heap.objs.size + 1) = none := I.hok.fresh (Nat.le_succ _)
    have hlen : (ws.map (·.1)).length ≤ sizeLine := by
      have := pm.length_eq
      rw [List.length_map]
      omega
    have I4 := I1.take (h' := hF) (t' := s.toks) (o := .lst (ws.map (·.1))) (fun b ob _ e => e) (I.fpOk (b := s.heap.objs.size + 1) (Nat.le_succ _) nl) ⟨hlen, out, c, hv, hc⟩
    exact ⟨.ref (s.heap.objs.size + 1), _, I4, rfl, q _ ws nl ms hR⟩
end
section
variable {X : Cx} {E : Ent} {own : Own} {B H : Hp} {σ : L2.St} {α : Type} {R : Rel α} {a o : Expr} {p pos ap cp : Pos} {xs : List α} {i k : Nat} {rest : List Stmt} {D : Ends}
theorem el_sortS [EncS R] [Imm R] (hu : X.A.units + 64 < cLine) (hg : Gl X "sorted") (hm : X.mg "sorted" = none) (ha : EvB X E own B H σ a (rLst R) xs) (hs : St1 X a := by rfl) : EvL X E own B H σ (.Call (.Name "sorted" p) [a] [] pos) R (xs.mergeSort (leS R)) :=
  el_b1 (pe_callB (cr_sortL R hu) hg hm (by decide +kernel) (pa1 hs) (he := hs)) ha fun H1 v Q h k => by
    obtain ⟨l, vs, rfl, h2, h3⟩ := h
    refine ⟨l, vs, xs, rfl, h2, h3, fun l2 ws hn hw hr => ?_⟩
    have := paired_of hr
    rw [hw] at this
    exact k l2 (ws.map (·.1)) hn this
/-- x[j].clear(), x a list of one's own lists -/
theorem s_clearOL {apos : Pos} {q qj : Addr} {vs us : List V} {jj : Int} {kk} {pp pos' : Pos} (S0 : Stt E own B H) (ha : PE X o (tVar i)) (h : σ[i]? = some (some (.ref q))) (hq : (q, HO.lst vs) ∈ own) (hv : atI vs jj = some (.ref qj)) (hk : own[k]? = some (qj, .lst us))
    (kt : ∀ H', Stt E (own.set k (qj, .lst [])) B H' → WSs X rest D σ H')
    (t : BmT0 X (.Subscript o (.Constant (.int jj) kk pp) pos') "clear" apos p := by exact ⟨rfl, rfl⟩) (hw : swapsWith (.Call (.Attribute (.Subscript o (.Constant (.int jj) kk pp) pos') "clear" apos) [] [] p) none pos.line X.env = pure false := by rfl) :
    WSs X (.Expr (.Call (.Attribute (.Subscript o (.Constant (.int jj) kk pp) pos') "clear" apos) [] [] p) pos :: rest) D σ H :=
  WSs.cons (ps_expr (pe_bm0 PySem.F.plainAttrs_list PySem.F.slot_list_clear PySem.F.type_list_clear mt_clear (pe_ix ix_list ha pe_int (fun _ _ => rfl)) t.1 t.2) hw) (by
    have hj := (S0.ow _ (getE hk)).2.2
    refine ⟨.ref q, h, q, vs, jj, .ref qj, rfl, rfl, SqL.of (S0.ow _ hq).2.2, hv, .inl ⟨rfl, _, SqL.of hj⟩, qj, us, rfl, rfl, hj, kt _ (S0.put hk fun ys z => by cases z)⟩)
end
end Sg

namespace Sg
open PySem PySem.Spec PyProof.Rows L2
/-! ### lists of three unlike things -/
section
variable {α β γ δ : Type} {R : Rel α} {S : Rel β} {T : Rel γ}
def rH3 (R : Rel α) (S : Rel β) (T : Rel γ) : Rel (α × β × γ) := ⟨fun H v x => ∃ p a b c, v = .ref p ∧ Rd H p (.lst [a, b, c]) ∧ R.r H a x.1 ∧ S.r H b x.2.1 ∧ T.r H c x.2.2, fun e h => by
  obtain ⟨p, a, b, c, h1, h2, h3, h4, h5⟩ := h
  exact ⟨p, a, b, c, h1, e.rdL h2, R.mono e h3, S.mono e h4, T.mono e h5⟩⟩
instance : NN (rH3 R S T) := ⟨fun ⟨p, a, b, c, h1, _⟩ => by rw [h1]; exact fun q => by cases q⟩
instance : TyR (rH3 R S T) "list" := ⟨fun {K H v x} h => by
  obtain ⟨q, a, b, c, h1, h2 | ⟨ob, h2⟩, h3⟩ := h
  · rw [h1]; exact .base (.lst h2)
  · rw [h1]; exact .base (.frz h2)⟩
instance {K : PySem.W.Frag} [D : DatK K R] [F : DatK K S] [G : DatK K T] : DatK K (rH3 R S T) := ⟨fun x => .list [D.d x.1, F.d x.2.1, G.d x.2.2], fun h => by
    obtain ⟨p, a, b, c, h1, h2, h3, h4, h5⟩ := h
    rw [h1]
    exact .lst (.inl h2) (.cons (D.rd h3) (.cons (F.rd h4) (.cons (G.rd h5) .nil))), fun x => by
    show (PyData.canLay0 (D.d x.1) && (PyData.canLay0 (F.d x.2.1) && (PyData.canLay0 (G.d x.2.2) && true))) = true
    rw [D.lay, F.lay, G.lay] <;> rfl, max D.n (max F.n G.n) + 1, fun x => by
    show max (PyData.depth (D.d x.1)) (max (PyData.depth (F.d x.2.1)) (max (PyData.depth (G.d x.2.2)) 0)) + 1 ≤ max D.n (max F.n G.n) + 1
    have h1 := D.dep x.1
    have h2 := F.dep x.2.1
    have h3 := G.dep x.2.2
    omega, fun x y => by
    show (PyData.eqv (D.d x.1) (D.d y.1) && (PyData.eqv (F.d x.2.1) (F.d y.2.1) && (PyData.eqv (G.d x.2.2) (G.d y.2.2) && true))) = true ↔ _
    rw [Bool.and_eq_true, Bool.and_eq_true, Bool.and_true, D.eq, F.eq, G.eq]
    exact ⟨fun h => Prod.ext h.1 (Prod.ext h.2.1 h.2.2), fun h => by rw [h]; exact ⟨rfl, rfl, rfl⟩⟩⟩
instance {K : PySem.W.Frag} [DatK K R] [DatK K S] [DatK K T] : NonD K (rH3 R S T) := ⟨fun _ h => by cases h⟩
/-- a value as it is -/
def rV : Rel V := ⟨fun _ v x => v = x, fun _ h => h⟩
instance : Imm rV := ⟨fun _ h => h⟩
theorem pV {H : Hp} : ∀ vs : List V, Paired (rV.r H) vs vs
  | [] => .nil
  | v :: r => .cons rfl (pV r)
theorem pV_eq {H : Hp} : ∀ {vs us : List V}, Paired (rV.r H) vs us → vs = us
  | _, _, .nil => rfl
  | _, _, .cons h t => by rw [show _ = _ from h, pV_eq t]
/-- the thing at a place of a list -/
def rIx (vs : List V) : Rel Nat := ⟨fun _ v i => vs[i]? = some v, fun _ h => h⟩
theorem pIx3 {H : Hp} {a b c : V} : Paired ((rIx [a, b, c]).r H) [a, b, c] [0, 1, 2] := .cons rfl (.cons rfl (.cons rfl .nil))
def OwnL (own : Own) (v : V) (us : List V) : Prop := ∃ q, v = V.ref q ∧ (q, HO.lst us) ∈ own
theorem OwnL.cons {own : Own} {v : V} {us : List V} {z : Addr × HO} (h : OwnL own v us) : OwnL (z :: own) v us := by
  obtain ⟨q, h1, h2⟩ := h
  exact ⟨q, h1, List.mem_cons_of_mem _ h2⟩
theorem ownL_up {own : Own} {vs : List V} {uss : List (List V)} {z : Addr × HO} (h : Paired (OwnL own) vs uss) : Paired (OwnL (z :: own)) vs uss := pimp h fun _ _ q => q.cons
end
section
variable {X : Cx} {E : Ent} {own : Own} {B H : Hp} {σ : L2.St} {α β γ : Type} {R : Rel α} {S : Rel β} {T : Rel γ} {a b c e o : Expr} {x : α} {y : β} {u : γ} {p pos ap cp : Pos} {xs : List α} {ys : List β} {zs : List γ} {i k : Nat} {rest : List Stmt} {D : Ends}
theorem ee_h3 (ha : EvE X E own B H σ a R x) (hb : EvE X E own B H σ b S y) (hc : EvE X E own B H σ c T u) (hs1 : starEach (a :: [b, c]) X.env = (false, eval a X.env) :: starEach [b, c] X.env := by rfl) (hs2 : starEach (b :: [c]) X.env = (false, eval b X.env) :: starEach [c] X.env := by rfl) (hs3 : St1 X c := by rfl) : EvE X E own B H σ (.List [a, b, c] pos) (rH3 R S T) (x, y, u) := fun B1 H1 S1 e1 e2 Q k =>
  WE.of (pe_lst (pa_cons peW (pa_cons peW (pa_cons peW pa_nil hs3) hs2) hs1)) (ha B1 H1 S1 e1 e2 _ fun v B2 H2 S2 e3 e4 r => hb B2 H2 S2 (e1.trans e3) (e2.trans e4) _ fun w B3 H3 S3 e5 e6 s => hc B3 H3 S3 ((e1.trans e3).trans e5) ((e2.trans e4).trans e6) _ fun w2 B4 H4 S4 e7 e8 t =>
    ⟨by show 3 ≤ sizeLine; decide, fun p hp => by
      have S5 := S4.alloc hp (o := .lst [v, w, w2]) fun ys z => by cases z
      have n := (S5.ow _ (List.mem_cons_self ..)).2.1
      have xk := (Sx.new n (o := HO.lst [v, w, w2])).ex
      exact k (.ref p) _ _ S5.keep (((e3.trans e5).trans e7).trans xk) (((e4.trans e6).trans e8).trans (Sx.new hp).ex) ⟨p, v, w, w2, rfl, Rd.of upd_same, R.mono ((e5.trans e7).trans xk) r, S.mono (e7.trans xk) s, T.mono xk t⟩⟩)
/-- a list of one's own lists, looked at -/
theorem ev_olH3 {q q0 q1 q2 : Addr} {us vs ws : List V} (hp : PE X o (tVar i)) (h : σ[i]? = some (some (.ref q))) (hk : (q, HO.lst [.ref q0, .ref q1, .ref q2]) ∈ own) (h0 : (q0, HO.lst us) ∈ own) (r0 : Paired (R.r B) us xs) (h1 : (q1, HO.lst vs) ∈ own) (r1 : Paired (S.r B) vs ys) (h2 : (q2, HO.lst ws) ∈ own) (r2 : Paired (T.r B) ws zs) : EvB X E own B H σ o (rH3 (rLst R) (rLst S) (rLst T)) (xs, ys, zs) := fun B1 H1 S1 e1 e2 Q kq => by
  have up := e1.trans S1.bh.ex
  exact WE.of hp ⟨.ref q, h, kq _ B1 H1 S1 (Ex.refl _) (Ex.refl _) ⟨q, _, _, _, rfl, Rd.of (S1.ow _ hk).2.2, ⟨q0, us, rfl, Rd.of (S1.ow _ h0).2.2, pimp r0 fun _ _ z => R.mono up z⟩, ⟨q1, vs, rfl, Rd.of (S1.ow _ h1).2.2, pimp r1 fun _ _ z => S.mono up z⟩, ⟨q2, ws, rfl, Rd.of (S1.ow _ h2).2.2, pimp r2 fun _ _ z => T.mono up z⟩⟩⟩
/-- one of one's own lists, by its place -/
theorem ev_ownV {v : V} {j : Nat} {vs : List V} {uss : List (List V)} {us : List V} (hp : PE X o (tVar i)) (h : σ[i]? = some (some v)) (hv : vs[j]? = some v) (hu : uss[j]? = some us) (hr : Paired (OwnL own) vs uss) : EvB X E own B H σ o (rLst rV) us := fun B1 H1 S1 e1 e2 Q kq => by
  obtain ⟨us', h2, q, rfl, hm⟩ := L2.paired_get hr hv
  rw [hu] at h2
  cases h2
  exact WE.of hp ⟨.ref q, h, kq _ B1 H1 S1 (Ex.refl _) (Ex.refl _) ⟨q, us, rfl, Rd.of (S1.ow _ hm).2.2, pV us⟩⟩
theorem rH3_ofV {v : V} {us vs ws : List V} (r : (rLst (rLst rV)).r B v [us, vs, ws]) (r0 : Paired (R.r B) us xs) (r1 : Paired (S.r B) vs ys) (r2 : Paired (T.r B) ws zs) : (rH3 (rLst R) (rLst S) (rLst T)).r B v (xs, ys, zs) := by
  obtain ⟨p, as, rfl, h1, h2⟩ := r
  cases h2 with
  | cons a1 t1 =>
    cases t1 with
    | cons a2 t2 =>
      cases t2 with
      | cons a3 t3 =>
        cases t3
        obtain ⟨p1, s1, rfl, g1, f1⟩ := a1
        obtain ⟨p2, s2, rfl, g2, f2⟩ := a2
        obtain ⟨p3, s3, rfl, g3, f3⟩ := a3
        rw [pV_eq f1] at g1
        rw [pV_eq f2] at g2
        rw [pV_eq f3] at g3
        exact ⟨p, _, _, _, rfl, h1, ⟨p1, us, rfl, g1, r0⟩, ⟨p2, vs, rfl, g2, r1⟩, ⟨p3, ws, rfl, g3, r2⟩⟩
theorem ee_ofV3 {us vs ws : List V} (hl : EvL X E own B H σ e (rLst rV) [us, vs, ws]) (r0 : Paired (R.r B) us xs) (r1 : Paired (S.r B) vs ys) (r2 : Paired (T.r B) ws zs) : EvE X E own B H σ e (rH3 (rLst R) (rLst S) (rLst T)) (xs, ys, zs) := fun B1 H1 S1 e1 e2 Q k => hl.toE B1 H1 S1 e1 e2 _ fun v B2 H2 S2 e3 e4 r =>
  k _ B2 H2 S2 e3 e4 (rH3_ofV r (pimp r0 fun _ _ z => R.mono (e1.trans e3) z) (pimp r1 fun _ _ z => S.mono (e1.trans e3) z) (pimp r2 fun _ _ z => T.mono (e1.trans e3) z))
/-- x[j].append(e), x a list of one's own lists -/
theorem s_appendOL {apos : Pos} {q qj : Addr} {vs us : List V} {jj : Int} {kk} {pp pos' : Pos} (S0 : Stt E own B H) (ha : PE X o (tVar i)) (h : σ[i]? = some (some (.ref q))) (hq : (q, HO.lst vs) ∈ own) (hv : atI vs jj = some (.ref qj)) (hk : own[k]? = some (qj, .lst us)) (r : Paired (R.r B) us xs) (he : EvE X E own B H σ e R x) (hz : xs.length < sizeLine)
    (kt : ∀ v B' H', Stt E (own.set k (qj, .lst (us ++ [v]))) B' H' → Ex B B' → Paired (R.r B') (us ++ [v]) (xs ++ [x]) → WSs X rest D σ H')
    (t : BmT X (.Subscript o (.Constant (.int jj) kk pp) pos') "append" apos [] e p := by exact ⟨rfl, rfl, rfl, rfl, rfl⟩) (hs : St1 X e := by rfl) (hw : swapsWith (.Call (.Attribute (.Subscript o (.Constant (.int jj) kk pp) pos') "append" apos) [e] [] p) none pos.line X.env = pure false := by rfl) :
    WSs X (.Expr (.Call (.Attribute (.Subscript o (.Constant (.int jj) kk pp) pos') "append" apos) [e] [] p) pos :: rest) D σ H :=
  WSs.cons (ps_expr (pe_bm PySem.F.plainAttrs_list PySem.F.slot_list_append PySem.F.type_list_append mt_append (pe_ix ix_list ha pe_int (fun _ _ => rfl)) (pa1 hs) t.1 t.2.1 t.2.2.1 t.2.2.2.1 t.2.2.2.2) hw) ⟨.ref q, h, q, vs, jj, .ref qj, rfl, rfl, SqL.of (S0.ow _ hq).2.2, hv, .inl ⟨rfl, _, SqL.of (S0.ow _ (List.mem_of_getElem? hk)).2.2⟩, he B H S0 (Ex.refl _) (Ex.refl _) _ fun v B2 H2 S2 e1 e2 rv => by
    have hj := (S2.ow _ (List.mem_of_getElem? hk)).2.2
    refine ⟨qj, us, v, rfl, rfl, hj, by rw [plen r]; exact hz, ?_⟩
    exact kt v B2 _ (S2.put hk fun ys z => by cases z) e1 (psnoc (pimp r fun _ _ z => R.mono e1 z) rv)⟩
/-- isinstance of a thing that may be None -/
theorem ev_isiO {x : Option α} {tn cn : String} {cs : Str} {p2 : Pos} [ty : TyR R tn] (hg : Gl X "isinstance") (hm : X.mg "isinstance" = none) (hgc : Gl X cs) (hmc : X.mg cs = none) (hv : bootBuiltins cs = some (.type cn)) (ha : EvB X E own B H σ a (rOpt R) x) (hk : kitB tn cn = some true) (hk0 : kitB "NoneType" cn = some false)
    (hn : cs ≠ "__name__" := by decide) (hd : (cs == ("__debug__" : Str)) = false := by decide)
    (hs : starEach (a :: [.Name cs p2]) X.env = (false, eval a X.env) :: starEach [.Name cs p2] X.env := by rfl) (hs2 : St1 X (.Name cs p2) := by rfl) (hpl : (backTo pos (starEach [.Name cs p2] X.env)).any (·.1) = false := by rfl) :
    EvB X E own B H σ (.Call (.Name "isinstance" p) [a, .Name cs p2] [] pos) rBool x.isSome := fun B1 H1 S1 e1 e2 Q k =>
  WE.of (pe_callB call_isi hg hm (by decide +kernel) (pa_cons peW (pa_cons (pe_bltn (v := .ty cn) hgc hmc hv rfl hn hd) pa_nil hs2) hs) (he := hs) (hpl := hpl)) (ha B1 H1 S1 e1 e2 _ fun v B2 H2 S2 e3 e4 r => by
    cases x with
    | none => exact ⟨v, .ty cn, .type "NoneType", .type cn, false, rfl, .ty cn, by rw [show v = .non from r]; exact .base .non, kit_ty hk0, k _ B2 H2 S2 e3 e4 rfl⟩
    | some y => exact ⟨v, .ty cn, .type tn, .type cn, true, rfl, .ty cn, ty.ty (show v ≠ .non ∧ R.r H2 v y from r).2, kit_ty hk, k _ B2 H2 S2 e3 e4 rfl⟩)
end
theorem Res.of_inj {α : Type} {o : Option α} {x : α} (h : Res.of o = .ok x) : o = some x := by
  cases o with
  | none => cases h
  | some y => cases h; rfl
end Sg

namespace Sg
open PySem PySem.Spec PyProof.Rows L2
/-! ### texts -/
/-- a number, written -/
def strI (n : Int) : Str := toString n
def chS (c : Nat) : Str := ⟨#[c]⟩
/-- one sign of a text -/
def rCh : Rel Nat := ⟨fun _ v c => v = .str ⟨#[c]⟩, fun _ h => h⟩
instance : Imm rCh := ⟨fun _ h => h⟩
instance : NN rCh := ⟨fun h => by rw [show _ = _ from h]; exact fun q => by cases q⟩
instance : TyR rCh "str" := ⟨fun {K H v x} h => by rw [show v = .str ⟨#[x]⟩ from h]; exact .base (.str _)⟩
def insI {α : Type} (xs : List α) (i : Int) (x : α) : List α := xs.take i.toNat ++ [x] ++ xs.drop i.toNat
theorem strs_rel {H1 : Hp} : ∀ {vs : List V} {ss : List Str}, Paired (rStr.r H1) vs ss → vs = ss.map V.str
  | _, _, .nil => rfl
  | _, _, .cons h t => by rw [List.map_cons, ← strs_rel t, show _ = _ from h]
theorem strs_pair {H1 : Hp} : ∀ ss : List Str, Paired (rStr.r H1) (ss.map V.str) ss
  | [] => .nil
  | s :: r => .cons rfl (strs_pair r)
theorem papp2 {α β : Type} {F : α → β → Prop} : ∀ {a : List α} {b : List β} {c : List α} {d : List β}, Paired F a b → Paired F c d → Paired F (a ++ c) (b ++ d)
  | _, _, _, _, .nil, h => h
  | _, _, _, _, .cons r t, h => .cons r (papp2 t h)
section
variable {X : Cx} {E : Ent} {own : Own} {B H : Hp} {σ : L2.St} {α β γ : Type} {R : Rel α} {S : Rel β} {T : Rel γ} {a b c e o it : Expr} {x : α} {y : β} {p pos pos' ap cp apos : Pos} {xs : List α} {ys : List β} {i k j : Nat} {n : Str} {rest body : List Stmt} {D : Ends}
theorem ev_chS {d : Nat} (h : EvB X E own B H σ a rCh d) : EvB X E own B H σ a rStr (chS d) := h
theorem ev_strI {d : Int} (hg : Gl X "str") (hm : X.mg "str" = none) (ha : EvB X E own B H σ a rInt d) (hz : d.natAbs.log2 < 1920) (hs : St1 X a := by rfl) : EvB X E own B H σ (.Call (.Name "str" p) [a] [] pos) rStr (strI d) :=
  ev_b1 (f := strI) (pe_callTy call_str_int hg hm (by decide +kernel) (pa1 hs) (he := hs)) ha fun H1 v Q h k => ⟨d, by rw [show v = .int d from h], hz, k _ rfl⟩
theorem ev_intS {s : Str} {d : Int} (hg : Gl X "int") (hm : X.mg "int" = none) (ha : EvB X E own B H σ a rStr s) (hd : PySem.intText? s = some d) (hz : s.length ≤ 640) (hs : St1 X a := by rfl) : EvB X E own B H σ (.Call (.Name "int" p) [a] [] pos) rInt d :=
  ev_b1 (f := fun _ : Str => d) (pe_callTy call_int_str hg hm (by decide +kernel) (pa1 hs) (he := hs)) ha fun H1 v Q h k => ⟨s, d, by rw [show v = .str s from h], hd, hz, k _ rfl⟩
theorem ev_lenS {s : Str} (hg : Gl X "len") (hm : X.mg "len" = none) (ha : EvB X E own B H σ a rStr s) (hz : s.length ≤ sizeLine) (hs : St1 X a := by rfl) : EvB X E own B H σ (.Call (.Name "len" p) [a] [] pos) rInt (s.length : Int) :=
  ev_b1 (f := fun s : Str => (s.length : Int)) (pe_callB call_len_str hg hm PySem.boot_len (pa1 hs) (he := hs)) ha fun H1 v Q h k => ⟨s, by rw [show v = .str s from h], hz, k _ rfl⟩
theorem ev_catS {s t : Str} (ha : EvB X E own B H σ a rStr s) (hb : EvB X E own B H σ b rStr t) (hz : s.length + t.length ≤ sizeLine) : EvB X E own B H σ (.BinOp a .Add b pos) rStr (s ++ t) := fun B1 H1 S1 e1 e2 Q k =>
  WE.of (pe_op (show OpR X (binaryOp .Add) _ from op_add_str) peW peW) (ha B1 H1 S1 e1 e2 _ fun v B2 H2 S2 e3 e4 r => hb B2 H2 S2 (e1.trans e3) (e2.trans e4) _ fun w B3 H3 S3 e5 e6 r' => ⟨s, t, r, r', hz, k _ B3 H3 S3 (e3.trans e5) (e4.trans e6) rfl⟩)
theorem ev_join {s : Str} {ss : List Str} (ho : EvB X E own B H σ o rStr s) (ha : EvB X E own B H σ a (rLst rStr) ss) (hz : (ss.map (·.length)).sum + ss.length * s.length ≤ 16777216)
    (hs : starEach [a] X.env = [(false, eval a X.env)] := by rfl) (hbase : attributeBase o "join" X.env (eval o X.env) = eval o X.env := by rfl) (hline : (ap.endLine == cp.line) = true := by rfl) : EvB X E own B H σ (.Call (.Attribute o "join" ap) [a] [] cp) rStr (Txt.join s ss) := fun B1 H1 S1 e1 e2 Q k =>
  WE.of (pe_join peW peW hs hbase hline) (ho B1 H1 S1 e1 e2 _ fun v B2 H2 S2 e3 e4 r => ⟨⟨s, r⟩, ha B2 H2 S2 (e1.trans e3) (e2.trans e4) _ fun w B3 H3 S3 e5 e6 r' => by
    obtain ⟨l, vs, h1, h2, h3⟩ := r'
    rw [strs_rel h3] at h2
    exact ⟨s, l, ss, r, by rw [h1], .inl (.inl h2), hz, k _ B3 H3 S3 (e3.trans e5) (e4.trans e6) rfl⟩⟩)
theorem el_split {s t : Str} (ho : EvB X E own B H σ o rStr s) (ha : EvB X E own B H σ a rStr t) (ht : (t.length == 0) = false) (hz : s.length + 2 ≤ sizeLine)
    (hs : starEach [a] X.env = [(false, eval a X.env)] := by rfl) (hbase : attributeBase o "split" X.env (eval o X.env) = eval o X.env := by rfl) (hline : (ap.endLine == cp.line) = true := by rfl) : EvL X E own B H σ (.Call (.Attribute o "split" ap) [a] [] cp) rStr (Txt.split s t) := fun B1 H1 S1 e1 e2 Q k =>
  WE.of (pe_split peW peW hs hbase hline) (ho B1 H1 S1 e1 e2 _ fun v B2 H2 S2 e3 e4 r => ⟨⟨s, r⟩, ha B2 H2 S2 (e1.trans e3) (e2.trans e4) _ fun w B3 H3 S3 e5 e6 r' =>
    ⟨s, t, r, by rw [show w = .str t from r'], ht, hz, fun q hq => k q _ B3 _ (S3.alloc hq fun ys z => by cases z) (e3.trans e5) ((e4.trans e6).trans (Sx.new hq).ex) (strs_pair _)⟩⟩)
theorem ev_ixS {s : Str} {q : Int} {d : Nat} (ho : EvB X E own B H σ o rStr s) (ha : EvB X E own B H σ a rInt q) (hz : s.length ≤ sizeLine) (hx : atI s.cps.toList q = some d) (hs : PlainIx a := by exact fun _ _ => rfl) : EvB X E own B H σ (.Subscript o a pos) rCh d := fun B1 H1 S1 e1 e2 Q k =>
  WE.of (pe_ix ix_str peW peW hs) (ho B1 H1 S1 e1 e2 _ fun v B2 H2 S2 e3 e4 r => ha B2 H2 S2 (e1.trans e3) (e2.trans e4) _ fun w B3 H3 S3 e5 e6 r' => ⟨s, q, d, r, r', hz, hx, k _ B3 H3 S3 (e3.trans e5) (e4.trans e6) rfl⟩)
theorem ev_inCh {d : Nat} {s : Str} (ha : EvB X E own B H σ a rCh d) (ho : EvB X E own B H σ o rStr s) (hm : behindInMarks .In o = false := by rfl) : EvB X E own B H σ (.Compare a [.In] [o] pos) rBool (decide (d ∈ s.cps.toList)) :=
  ev_cmp op_in_sign ha ho hm fun H1 v w Q h1 h2 k => ⟨d, s, h1, h2, k⟩
theorem et_inCh {d : Nat} {s : Str} (ha : EvB X E own B H σ a rCh d) (ho : EvB X E own B H σ o rStr s) (hm : behindInMarks .In o = false := by rfl) : EvT X E own B H σ (.Compare a [.In] [o] pos) (decide (d ∈ s.cps.toList)) :=
  et_cmp op_in_sign ha ho hm fun H1 v w Q h1 h2 k => ⟨d, s, h1, h2, k⟩
theorem ev_ninCh {d : Nat} {s : Str} (ha : EvB X E own B H σ a rCh d) (ho : EvB X E own B H σ o rStr s) (hm : behindInMarks .NotIn o = false := by rfl) : EvB X E own B H σ (.Compare a [.NotIn] [o] pos) rBool (!decide (d ∈ s.cps.toList)) :=
  ev_cmp op_notIn_sign ha ho hm fun H1 v w Q h1 h2 k => ⟨d, s, h1, h2, k⟩
theorem et_ninCh {d : Nat} {s : Str} (ha : EvB X E own B H σ a rCh d) (ho : EvB X E own B H σ o rStr s) (hm : behindInMarks .NotIn o = false := by rfl) : EvT X E own B H σ (.Compare a [.NotIn] [o] pos) (!decide (d ∈ s.cps.toList)) :=
  et_cmp op_notIn_sign ha ho hm fun H1 v w Q h1 h2 k => ⟨d, s, h1, h2, k⟩
/-- the signs of a text -/
theorem walk_str {s : Str} : Walk E KoT B (Its s) rCh s.cps.toList := by
  refine ⟨fun i own' B' H' S' e k hi => ?_, fun i own' B' H' S' e k hi => ?_, fun i own' B' H' v H'' d S' e k hd hy => ?_⟩
  · show i < s.cps.size
    rw [Array.length_toList] at hi
    exact hi
  · show s.cps.size ≤ i
    rw [Array.length_toList] at hi
    exact hi
  · obtain ⟨e1, d', h1, rfl⟩ := hy
    subst e1
    rw [Array.getElem?_toList, h1] at hd
    cases hd
    exact ⟨B', S', Ex.refl _, Ex.refl _, rfl⟩
theorem ei_str {s : Str} {tg : Expr} (he : EvB X E own B H σ e rStr s) (hz : s.cps.toList.length ≤ sizeLine) : EvI X E own B H σ tg e rCh KoT s.cps.toList := ⟨_, pi_str (te := WE X e) peW, fun B1 H1 S e1 e2 Q k => he B1 H1 S e1 e2 _ fun v B2 H2 S2 e3 e4 r => ⟨s, r, k _ B2 H2 S2 e3 e4 walk_str hz⟩⟩
theorem s_augS {s t : Str} (C : Cok X k) (L : Slot X i n) (S0 : Stt E own B H) (h : σ[i]? = some (some (.str s))) (he : EvB X E own B H σ e rStr t) (hz : s.length + t.length ≤ sizeLine)
    (q : ∀ B' H', Stt E own B' H' → Ex B B' → WSs X rest D (σ.set i (some (.str (s ++ t)))) H') : WSs X (.AugAssign (.Name n pos') .Add e pos :: rest) D σ H :=
  WSs.cons (ps_aug C.nd L.ix L.loc peW (show PIp X .Add _ from iop_add_str) L.hf) ⟨_, h, he B H S0 (Ex.refl _) (Ex.refl _) _ fun v B2 H2 S2 e1 _ r => ⟨s, t, rfl, r, hz, q B2 H2 S2 e1⟩⟩
/-- xs.pop(), the item let go -/
theorem s_popX {q : Addr} {vs : List V} (S0 : Stt E own B H) (ha : PE X a (tVar i)) (h : σ[i]? = some (some (.ref q))) (hk : own[k]? = some (q, .lst vs)) (r : Paired (R.r B) vs xs) (hx : xs.getLast? = some x)
    (kt : ∀ H', Stt E (own.set k (q, .lst vs.dropLast)) B H' → Paired (R.r B) vs.dropLast xs.dropLast → WSs X rest D σ H')
    (t : BmT0 X a "pop" apos p := by exact ⟨rfl, rfl⟩) (hw : swapsWith (.Call (.Attribute a "pop" apos) [] [] p) none pos.line X.env = pure false := by rfl) :
    WSs X (.Expr (.Call (.Attribute a "pop" apos) [] [] p) pos :: rest) D σ H :=
  WSs.cons (ps_expr (pe_bm0 PySem.F.plainAttrs_list PySem.F.slot_list_pop PySem.F.type_list_pop mt_pop ha t.1 t.2) hw) (by
    have hq := (S0.ow _ (getE hk)).2.2
    rw [List.getLast?_eq_getElem?] at hx
    have hl := plen r
    obtain ⟨v, hv⟩ : ∃ v, vs[vs.length - 1]? = some v := by
      have := (List.getElem?_eq_some_iff.mp hx).1
      exact ⟨_, List.getElem?_eq_getElem (by omega)⟩
    refine ⟨.ref q, h, .inl ⟨rfl, _, SqL.of hq⟩, q, vs, v, rfl, rfl, hq, hv, kt _ (S0.put hk fun ys z => by cases z) ?_⟩
    rw [List.dropLast_eq_take, List.dropLast_eq_take, ← hl]
    exact ptake _ r)
/-- xs.insert(i, e) -/
theorem s_insert {q : Addr} {vs : List V} {d : Int} (S0 : Stt E own B H) (ha : PE X a (tVar i)) (h : σ[i]? = some (some (.ref q))) (hk : own[k]? = some (q, .lst vs)) (r : Paired (R.r B) vs xs) (hb : EvB X E own B H σ b rInt d) (he : EvE X E own B H σ e R x) (hz : xs.length < sizeLine ∧ 0 ≤ d ∧ d < 2 ^ 63)
    (kt : ∀ v B' H', Stt E (own.set k (q, .lst (insI vs d v))) B' H' → Ex B B' → Paired (R.r B') (insI vs d v) (insI xs d x) → WSs X rest D σ H')
    (t1 : attributeBase a "insert" X.env (eval a X.env) = eval a X.env := by rfl)
    (t2 : ((backTo p (starEach (b :: [e]) X.env)).all (fun x => !x.1) && (backToKw p (keywordEach [] X.env)).all (fun x => x.1.isSome) && decide ((b :: [e]).length + ([] : List Keyword).length + (if ([] : List Keyword).isEmpty then 0 else 1) < 30)) = true := by rfl)
    (t3 : (apos.endLine == p.line) = true := by rfl) (t4 : starEach (b :: [e]) X.env = (false, eval b X.env) :: starEach [e] X.env := by rfl) (t5 : (backTo p (starEach [e] X.env)).any (·.1) = false := by rfl) (hs : St1 X e := by rfl)
    (hw : swapsWith (.Call (.Attribute a "insert" apos) [b, e] [] p) none pos.line X.env = pure false := by rfl) :
    WSs X (.Expr (.Call (.Attribute a "insert" apos) [b, e] [] p) pos :: rest) D σ H :=
  WSs.cons (ps_expr (pe_bm PySem.F.plainAttrs_list PySem.F.slot_list_insert PySem.F.type_list_insert mt_insert ha (pa_cons peW (pa1 hs) t4) t1 t2 t3 t4 t5) hw) ⟨.ref q, h, .inl ⟨rfl, _, SqL.of (S0.ow _ (List.mem_of_getElem? hk)).2.2⟩, hb B H S0 (Ex.refl _) (Ex.refl _) _ fun v B2 H2 S2 e1 e2 rv => he B2 H2 S2 e1 e2 _ fun w B3 H3 S3 e3 e4 rw' => by
    have hq := (S3.ow _ (List.mem_of_getElem? hk)).2.2
    have rv : v = .int d := rv
    have r3 := pimp r fun _ _ z => R.mono (e1.trans e3) z
    refine ⟨q, vs, d, w, rfl, by rw [rv], hq, by rw [plen r]; exact hz.1, hz.2.1, hz.2.2, ?_⟩
    exact kt w B3 _ (S3.put hk fun ys z => by cases z) (e1.trans e3) (papp2 (papp2 (ptake _ r3) (.cons rw' .nil)) (pdrop _ r3))⟩
end
end Sg

namespace Sg
open PySem PySem.Spec PyProof.Rows L2
/-! ### enumerate(list, start=c) -/
def IteS (K : PySem.W.Frag) (a : Addr) (c : Int) : It where
  go := fun i H => ∃ (us : List V) (u : V), SqL K H a us ∧ us[i]? = some u
  yld := fun i H v H' => ∃ T u, v = .ref T ∧ H T = none ∧ H' = upd H T (.tup [.int (c + (i : Int)), u]) ∧ ∀ us, SqL K H a us → us[i]? = some u
  stop := fun i H => ∃ us : List V, SqL K H a us ∧ us.length ≤ i
theorem enum_ne {h : Heap} {e it l : Addr} {c : Int} {old : Value} {items : Array Value} (he : IsEnum h e it c old) (hl : h.IsList l items) : e ≠ l := fun z => by
  subst z
  obtain ⟨o, h1, h2, _⟩ := hl
  have he := Option.some.inj (h1.symm.trans he)
  rw [he] at h2
  injection h2 with h2
  exact absurd h2 (by decide)
theorem liter_ne {h : Heap} {it l : Addr} {i : Nat} {items : Array Value} (he : h.IsListIter it l i) (hl : h.IsList l items) : l ≠ it := fun z => by
  subst z
  obtain ⟨o1, g1, g2, _⟩ := he
  obtain ⟨o2, g4, g5, _⟩ := hl
  have e := Option.some.inj (g1.symm.trans g4)
  rw [e, g5] at g2
  injection g2 with g2
  exact absurd g2 (by decide)
/-- an iterator that stands at its end -/
theorem draws_end {prog : Program} {w : World} {A : Around} (hh : A.handled = none) {it l : Addr} {items : Array Value} {i : Nat} (hn : items[i]? = none) :
    Draws prog w A it [it, l] i (fun _ _ => True) (fun j h => j = i ∧ h.IsListIter it l i ∧ h.IsList l items) where
  live := fun _ _ st => let ⟨o, ho, _⟩ := st.2.1; ⟨o, ho⟩
  frame := fun _ _ _ st hk => ⟨st.1, st.2.1.at fun o e => hk it (List.mem_cons_self ..) o e, st.2.2.at fun o e => hk l (List.mem_cons_of_mem _ (List.mem_cons_self ..)) o e⟩
  item := fun j s Q E hj st hQ => absurd st.1 (Nat.ne_of_lt hj)
  done := fun s Q E st hE => wpAny_nextOf_list_end hh st.2.1 st.2.2 hn hE
theorem turn_enumS {P : Program} {w : World} {K : PySem.W.Frag} {elts : List Expr} {kk : Nat} {tpos : Pos} (a e it : Addr) (c : Int) :
    Turn P w K (.Tuple elts kk tpos) (IteS K a c) [e, it] e (fun i h => (∃ old, IsEnum h e it (c + (i : Int)) old) ∧ h.IsListIter it a i ∧ e ≠ it) where
  mem := List.mem_cons_self ..
  obj := fun i h st b hb => by
    obtain ⟨⟨old, q1⟩, ⟨o, q2, q3, q4⟩, q5⟩ := st
    rcases List.mem_cons.mp hb with z | z
    · rw [z]
      exact ⟨_, q1, fun v q => nomatch q⟩
    · exact ⟨o, by rw [List.mem_singleton.mp z]; exact q2, fun v q => by rw [q4] at q; cases q⟩
  keep := fun i h h' st kp => by
    obtain ⟨⟨old, q1⟩, q2, q3⟩ := st
    exact ⟨⟨old, kp e (List.mem_cons_self ..) _ q1⟩, q2.at fun o q => kp it (List.mem_cons_of_mem _ (List.mem_cons_self ..)) o q, q3⟩
  item := by
    intro X hP hw hK hc i pins s σ H Er I hf st hg
    subst hP hw hK
    obtain ⟨⟨old, q1⟩, q2, q3⟩ := st
    obtain ⟨us, u, hq, hu⟩ := hg
    obtain ⟨its, rvs, pl, hz⟩ := I.list hq
    obtain ⟨uv, hv, ru⟩ := rvs.get hu
    have ela : e ≠ a := enum_ne q1 pl.isList
    have ila : a ≠ it := liter_ne q2 pl.isList
    have lt1 : e < s.heap.objs.size := Heap.lt_size q1
    have lt2 : it < s.heap.objs.size := by
      obtain ⟨o1, g1, _⟩ := q2
      exact Heap.lt_size g1
    have D := Draws.list (prog := X.prog) (w := X.w) (A := X.A.in1) (show X.A.in1.handled = none from I.ok.hd hc) it a ila its.toArray
    have hi : i < its.toArray.size := by
      have := (List.getElem?_eq_some_iff.mp hv).1
      rw [List.size_toArray]
      exact this
    refine wpAny_pyNext_enum_itemC D q1 ⟨q2, pl.isList⟩ hi q3 (fun z => ?_) fun x h' tk hx ho hst hT hsz hk => ?_
    · rcases List.mem_cons.mp z with z | z
      · exact q3 z
      · exact ela (List.mem_singleton.mp z)
    have ex : x = uv := by
      have hx : its.toArray[i]? = some x := hx
      rw [List.getElem?_toArray, hv] at hx
      exact (Option.some.inj hx).symm
    subst ex
    refine ⟨_, rfl, wpAny_letOwnedTupleGo_enum (s := { s with heap := h', toks := tk + 1 }) ho fun h'' g1 sb => ?_⟩
    have hT2 : h''.get? s.heap.objs.size = some { cls := .type "tuple", data := .seq #[.int (c + (i : Int)) tk, x] } := (sb.2 _ (Nat.ne_of_gt lt1)).trans hT
    have nw : ObjOk X.prog X.w (upd H s.heap.objs.size (.tup [.int (c + (i : Int)), u])) h'' s.heap.objs.size (.tup [.int (c + (i : Int)), u]) :=
      ⟨Nat.le_of_ble_eq_true rfl, [.int (c + (i : Int)) tk, x], .cons ⟨_, rfl⟩ (.cons ru .nil), ⟨_, hT2, rfl, _, rfl⟩⟩
    have I2 : Inv X pins σ (upd H s.heap.objs.size (.tup [.int (c + (i : Int)), u])) { s with heap := h'', toks := tk + 1 } :=
      I.turnedNew (ch := [e, it]) (fun b ob hb q => (sb.2 b (fun z => hb (by simp [z]))).trans (hk b ob (fun z => hb (by simp [z])) (fun z => hb (by simp [z])) q)) hf (Nat.le_refl _) nw
    refine ⟨.ref s.heap.objs.size, _, I2, rfl, ⟨_, u, rfl, I.hok.fresh (Nat.le_refl _), rfl, fun zs hzs => by rw [I.list_inj hzs hq]; exact hu⟩, ⟨⟨x, ?_⟩, hst.1.at fun o q => (sb.2 it (Ne.symm q3)).trans q, q3⟩, fun b hb => ?_⟩
    · rw [show c + ((i + 1 : Nat) : Int) = c + (i : Int) + 1 by omega]
      exact g1
    · have lb : b < s.heap.objs.size := by
        rcases List.mem_cons.mp hb with z | z
        · rw [z]; exact lt1
        · rw [List.mem_singleton.mp z]; exact lt2
      rw [upd_ne (Nat.ne_of_lt lb)]
      exact (hf b hb).1
  done := by
    intro X hP hw hK hc i pins s σ H Er I hf st hg
    subst hP hw hK
    obtain ⟨⟨old, q1⟩, q2, q3⟩ := st
    obtain ⟨us, hq, hu⟩ := hg
    obtain ⟨its, rvs, pl, hz⟩ := I.list hq
    obtain ⟨f0, f1, f2, f3, f4, f5⟩ := hf it (List.mem_cons_of_mem _ (List.mem_cons_self ..))
    have ll := rvs.length
    have ila : a ≠ it := liter_ne q2 pl.isList
    have hnone : its.toArray[i]? = none := by
      rw [List.getElem?_toArray]
      exact List.getElem?_eq_none (by omega)
    have ela : e ≠ a := enum_ne q1 pl.isList
    exact wpAny_pyNext_enum_endD (draws_end (A := X.A.in1) (show X.A.in1.handled = none from I.ok.hd hc) hnone) q1 ⟨rfl, q2, pl.isList⟩ fun h' eb => ⟨rfl, I.turned (t' := s.toks) (fun b o hb q => eb b o hb q) f0 f1 f3 f4 f5⟩
  self := fun A i s Q Er st h => by
    obtain ⟨⟨old, q1⟩, _⟩ := st
    exact wpAny_pyIter_enum q1 h
/-- a class of the language called with keywords -/
theorem cw_typeK {M : PySem.Model} {A : Around} {Er : Value → Shared → Prop} {s : Shared} {pos : Pos} {T : String} {first : List Value} {args : List (Bool × Sem Value)} {kws : List (Option Str × Sem Value)} {Q : Value → Shared → Prop} (hplain : args.any (·.1) = false) (hk : kws.any (·.1.isNone) = false)
    (h : wpAny M A (evalArgs (.type T) true args kws) (fun a s₁ => wpAny M A (call (.type T) (first ++ a.pos) a.kw) Q Er s₁) Er s) :
    wpAny M A (callWith pos (.type T) first args kws) Q Er s := by
  unfold callWith
  refine wpAny_bind (wpAny_holding (wpAny_mono h (fun a s2 h2 => wpAny_bind (wpAny_standAt ?_)) fun _ _ x => x))
  simp only [hplain, hk, Bool.or_false]
  refine wpAny_bind (wpAny_pure ?_)
  exact wpAny_bind (wpAny_mono h2 (fun r s3 hr => wpAny_bind (wpAny_holding (wpAny_point (wpAny_pure hr)))) fun _ _ x => x)
def iEnumS (K : PySem.W.Frag) (c : Int) (ta : TA) : TI := fun σ H R => ta σ H fun vs H1 => ∃ a us, vs = [.ref a] ∧ SqL K H1 a us ∧ R (IteS K a c) H1
theorem pi_enumS {X : Cx} {e : Expr} {ta : TA} {p pos tpos kp kpos : Pos} {elts : List Expr} {kk k2 : Nat} {c : Int} (hg : Gl X "enumerate") (hm : X.mg "enumerate" = none) (ha : PA X [e] ta) (hc : -(2 ^ 63) ≤ c ∧ c < 2 ^ 63)
    (hs : starEach [e] X.env = (false, eval e X.env) :: starEach [] X.env := by rfl) (hpl : (backTo pos (starEach [e] X.env)).any (·.1) = false := by rfl)
    (hall : (backToKw pos (keywordEach [⟨some "start", .Constant (.int c) k2 kp, kpos⟩] X.env)).all (·.1.isSome) = true := by rfl) (hnone : (backToKw pos (keywordEach [⟨some "start", .Constant (.int c) k2 kp, kpos⟩] X.env)).any (·.1.isNone) = false := by rfl) (hks : (backToKw pos (keywordEach [⟨some "start", .Constant (.int c) k2 kp, kpos⟩] X.env)).filterMap (·.1) = [Str.ofString "start"] := by rfl) :
    PI X (.Tuple elts kk tpos) (.Call (.Name "enumerate" p) [e] [⟨some "start", .Constant (.int c) k2 kp, kpos⟩] pos) (iEnumS X.K c ta) := by
  refine ⟨fun pins s σ H R I h => ?_⟩
  refine wpAny_Call_Name_kw (ld_blt I hg hm boot_enumerate (cw_typeK hpl hnone (evalArgs_kw2 hall (thn (ha.run pos pins s σ H _ I h) fun us s1 hh => ?_) hs)) (by decide) (by decide))
  obtain ⟨vs, H1, I1, r1, a, ws, ex, hq, q⟩ := hh
  subst ex
  refine thn ((pk_cons (pe_int (i := c)) pk_nil).run pos pins s1 σ H1 (fun zs H2 => zs = [.int c] ∧ H2 = H1) I1 ⟨rfl, rfl⟩) fun ks s2 hh => ?_
  obtain ⟨zs, H2, I2, r2, rfl, rfl⟩ := hh
  rw [hks]
  cases r1 with
  | cons r rr =>
    cases rr
    cases r
    cases r2 with
    | cons r3 rr3 =>
      cases rr3
      obtain ⟨t, rfl⟩ := r3
      obtain ⟨its, rvs, pl, hz⟩ := I2.list hq
      refine enum_begins_start (begins_list a its.toArray) pl.isList hc.1 hc.2 fun h' he hit hsz hk => wpAny_pyIter_enum he ?_
      have I3 : Inv X pins σ H2 { s2 with heap := h' } := I2.kept (t' := s2.toks) hk
      refine ⟨s2.heap.objs.size + 1, [s2.heap.objs.size + 1, s2.heap.objs.size], _, _, H2, rfl, I3, turn_enumS a (s2.heap.objs.size + 1) s2.heap.objs.size c, ⟨⟨.none, ?_⟩, ⟨_, hit, rfl, rfl⟩, Nat.succ_ne_self _⟩, fun b hb => ?_, q⟩
      · show IsEnum h' _ _ (c + ((0 : Nat) : Int)) _
        rw [show c + ((0 : Nat) : Int) = c by omega]
        exact he
      · have hle : s2.heap.objs.size ≤ b := by
          rcases List.mem_cons.mp hb with z | z
          · rw [z]; exact Nat.le_succ _
          · rw [List.mem_singleton.mp z]; exact Nat.le_refl _
        exact I2.fpOk hle (I2.hok.fresh hle)
section
variable {X : Cx} {E : Ent} {own : Own} {B H : Hp} {σ : L2.St} {α : Type} {R : Rel α} {a : Expr} {p pos tpos kp kpos : Pos} {xs : List α} {kk k2 : Nat} {c : Int} {tgs : List Expr}
theorem walk_enumS {q : Addr} {vs : List V} {Ko : Own → Prop} {K : PySem.W.Frag} (hl : ∀ own' B' H', Stt E own' B' H' → Ex B B' → Ko own' → Rd H' q (.lst vs)) (r : Paired (R.r B) vs xs) : Walk E Ko B (IteS K q c) (rPr rInt R) (enumI c xs) := by
  refine ⟨fun i own' B' H' S' e k hi => ?_, fun i own' B' H' S' e k hi => ⟨vs, .inl (hl own' B' H' S' e k), by rw [enumI_len] at hi; rw [plen r]; exact hi⟩, fun i own' B' H' v H'' x S' e k hx hy => ?_⟩
  · have h2 : i < vs.length := by rw [plen r, ← enumI_len c xs]; exact hi
    exact ⟨vs, vs[i], .inl (hl own' B' H' S' e k), List.getElem?_eq_getElem h2⟩
  · obtain ⟨T, u, h1, h2, h3, h4⟩ := hy
    subst h3
    obtain ⟨x', hx', rx⟩ := L2.paired_get r (h4 vs (.inl (hl own' B' H' S' e k)))
    rw [enumI_at hx'] at hx
    cases hx
    exact ⟨_, S'.lay h2, (S'.layB h2).ex, (Sx.new h2).ex, T, .int (c + (i : Int)), u, h1, upd_same, rfl, R.mono (e.trans (S'.layB h2).ex) rx⟩
theorem ei_enumS (hg : Gl X "enumerate") (hm : X.mg "enumerate" = none) (hc : -(2 ^ 63) ≤ c ∧ c < 2 ^ 63) (he : EvE X E own B H σ a (rLst R) xs) (hs : St1 X a := by rfl) (hpl : (backTo pos (starEach [a] X.env)).any (·.1) = false := by rfl)
    (hall : (backToKw pos (keywordEach [⟨some "start", .Constant (.int c) k2 kp, kpos⟩] X.env)).all (·.1.isSome) = true := by rfl) (hnone : (backToKw pos (keywordEach [⟨some "start", .Constant (.int c) k2 kp, kpos⟩] X.env)).any (·.1.isNone) = false := by rfl) (hks : (backToKw pos (keywordEach [⟨some "start", .Constant (.int c) k2 kp, kpos⟩] X.env)).filterMap (·.1) = [Str.ofString "start"] := by rfl) :
    EvI X E own B H σ (.Tuple tgs kk tpos) (.Call (.Name "enumerate" p) [a] [⟨some "start", .Constant (.int c) k2 kp, kpos⟩] pos) (rPr rInt R) KoT (enumI c xs) := ⟨_, pi_enumS hg hm (pa1 hs) hc hs hpl hall hnone hks, fun B1 H1 S e1 e2 Q k => WE.sz (he B1 H1 S e1 e2 _ fun v B2 H2 S2 e3 e4 r sz => by
  obtain ⟨q, vs, h1, h2, h3⟩ := r
  subst h1
  exact ⟨q, vs, rfl, .inl (S2.bh.ex.rdL h2), k _ B2 H2 S2 e3 e4 (walk_enumS (fun own' B' H' S' e' _ => S'.bh.ex.rdL (e'.rdL h2)) h3) (by rw [enumI_len, ← plen h3]; exact sz.1 _ _ (S2.bh.ex.rdL h2))⟩)⟩
end
end Sg

namespace Sg
open PySem PySem.Spec PyProof.Rows L2
/-! ### data with texts, compared -/
class DatP (K : PySem.W.Frag) {α : Type} (R : Rel α) where
  d : α → PyData
  rd : ∀ {H : Hp} {v : V} {x : α}, R.r H v x → Dp K H v (d x)
  pl : ∀ x, (d x).plain = true
  n : Nat
  dep : ∀ x, (d x).depth ≤ n
  eq : ∀ x y, PyData.eqv (d x) (d y) = true ↔ x = y
section
variable {K : PySem.W.Frag} {α β γ : Type} {R : Rel α} {S : Rel β} {T : Rel γ}
instance : DatP K rInt := ⟨PyData.int, fun h => by rw [h]; exact .int _, fun _ => rfl, 0, fun _ => Nat.le_refl _, fun x y => by simp [PyData.eqv]⟩
instance : DatP K rBool := ⟨PyData.bool, fun h => by rw [h]; exact .bl _, fun _ => rfl, 0, fun _ => Nat.le_refl _, fun x y => by simp [PyData.eqv]⟩
instance : DatP K rStr := ⟨PyData.str, fun h => by rw [h]; exact .str _, fun _ => rfl, 0, fun _ => Nat.le_refl _, fun x y => by simp [PyData.eqv]⟩
theorem dppAll [D : DatP K R] {H : Hp} : ∀ {vs : List V} {xs : List α}, Paired (R.r H) vs xs → DpAll K H vs (xs.map D.d)
  | _, _, .nil => .nil
  | _, _, .cons h t => .cons (D.rd h) (dppAll t)
theorem plpAll [D : DatP K R] : ∀ xs : List α, PyData.plainAll (xs.map D.d) = true
  | [] => rfl
  | x :: r => by rw [List.map_cons, PyData.plainAll, D.pl, plpAll r]; rfl
theorem deppAll [D : DatP K R] : ∀ xs : List α, PyData.depthAll (xs.map D.d) ≤ D.n
  | [] => Nat.zero_le _
  | x :: r => by
    rw [List.map_cons, PyData.depthAll]
    exact Nat.max_le.mpr ⟨D.dep x, deppAll r⟩
theorem eqpAll [D : DatP K R] : ∀ xs ys : List α, PyData.eqvAll (xs.map D.d) (ys.map D.d) = true ↔ xs = ys
  | [], [] => by simp [PyData.eqvAll]
  | [], y :: r => by simp [PyData.eqvAll]
  | x :: r, [] => by simp [PyData.eqvAll]
  | x :: r, y :: q => by rw [List.map_cons, List.map_cons, PyData.eqvAll, Bool.and_eq_true, D.eq, eqpAll r q, List.cons.injEq]
instance [D : DatP K R] : DatP K (rLst R) := ⟨fun xs => .list (xs.map D.d), fun h => by
  obtain ⟨p, vs, h1, h2, h3⟩ := h
  rw [h1]
  exact .lst (.inl h2) (dppAll h3), fun xs => plpAll xs, D.n + 1, fun xs => Nat.succ_le_succ (deppAll xs), fun x y => eqpAll x y⟩
instance [D : DatP K R] : DatP K (rTup R) := ⟨fun xs => .tuple (xs.map D.d), fun h => by
  obtain ⟨p, vs, h1, h2, h3⟩ := h
  rw [h1]
  exact .tup (SqT.of h2) (dppAll h3), fun xs => plpAll xs, D.n + 1, fun xs => Nat.succ_le_succ (deppAll xs), fun x y => eqpAll x y⟩
instance [D : DatP K R] [F : DatP K S] : DatP K (rPr R S) := ⟨fun x => .tuple [D.d x.1, F.d x.2], fun h => by
  obtain ⟨p, a, b, h1, h2, h3, h4⟩ := h
  rw [h1]
  exact .tup (SqT.of h2) (.cons (D.rd h3) (.cons (F.rd h4) .nil)), fun x => by
    show (PyData.plain (D.d x.1) && (PyData.plain (F.d x.2) && true)) = true
    rw [D.pl, F.pl] <;> rfl, max D.n F.n + 1, fun x => by
    show max (PyData.depth (D.d x.1)) (max (PyData.depth (F.d x.2)) 0) + 1 ≤ max D.n F.n + 1
    have := D.dep x.1
    have := F.dep x.2
    omega, fun x y => by
    show (PyData.eqv (D.d x.1) (D.d y.1) && (PyData.eqv (F.d x.2) (F.d y.2) && true)) = true ↔ _
    rw [Bool.and_eq_true, Bool.and_true, D.eq, F.eq]
    exact ⟨fun h => Prod.ext h.1 h.2, fun h => by rw [h]; exact ⟨rfl, rfl⟩⟩⟩
instance [D : DatP K R] [F : DatP K S] [G : DatP K T] : DatP K (rT3 R S T) := ⟨fun x => .tuple [D.d x.1, F.d x.2.1, G.d x.2.2], fun h => by
  obtain ⟨p, a, b, c, h1, h2, h3, h4, h5⟩ := h
  rw [h1]
  exact .tup (SqT.of h2) (.cons (D.rd h3) (.cons (F.rd h4) (.cons (G.rd h5) .nil))), fun x => by
    show (PyData.plain (D.d x.1) && (PyData.plain (F.d x.2.1) && (PyData.plain (G.d x.2.2) && true))) = true
    rw [D.pl, F.pl, G.pl] <;> rfl, max D.n (max F.n G.n) + 1, fun x => by
    show max (PyData.depth (D.d x.1)) (max (PyData.depth (F.d x.2.1)) (max (PyData.depth (G.d x.2.2)) 0)) + 1 ≤ max D.n (max F.n G.n) + 1
    have := D.dep x.1
    have := F.dep x.2.1
    have := G.dep x.2.2
    omega, fun x y => by
    show (PyData.eqv (D.d x.1) (D.d y.1) && (PyData.eqv (F.d x.2.1) (F.d y.2.1) && (PyData.eqv (G.d x.2.2) (G.d y.2.2) && true))) = true ↔ _
    rw [Bool.and_eq_true, Bool.and_eq_true, Bool.and_true, D.eq, F.eq, G.eq]
    exact ⟨fun h => Prod.ext h.1 (Prod.ext h.2.1 h.2.2), fun h => by rw [h]; exact ⟨rfl, rfl, rfl⟩⟩⟩
end
def rEqP (K : PySem.W.Frag) (f : Bool → Bool) : R2 := fun x y H Q => ∃ d e, Dp K H x d ∧ Dp K H y e ∧ d.plain = true ∧ e.plain = true ∧ d.depth ≤ 64 ∧ Q (.bl (f (PyData.eqv d e))) H
section
variable {X : Cx} {α : Type} {R : Rel α}
theorem op_eqP (hu : X.A.units + 64 < cLine) : OpR X (compareOp .Eq) (rEqP X.K id) := by
  intro pins s σ H x y v u Q I rx ry h
  obtain ⟨d, e, hd, he, sd, se, hn, q⟩ := h
  obtain ⟨as, r1⟩ := Dp.reads I d x v hd rx
  obtain ⟨bs, r2⟩ := Dp.reads I e y u he ry
  exact SeqAt.eq_plain r1 r2 sd se (by omega) ⟨.bl _, H, I, rfl, q⟩
theorem op_neP (hu : X.A.units + 64 < cLine) : OpR X (compareOp .NotEq) (rEqP X.K not) := by
  intro pins s σ H x y v u Q I rx ry h
  obtain ⟨d, e, hd, he, sd, se, hn, q⟩ := h
  obtain ⟨as, r1⟩ := Dp.reads I d x v hd rx
  obtain ⟨bs, r2⟩ := Dp.reads I e y u he ry
  exact SeqAt.ne_plain r1 r2 sd se (by omega) ⟨.bl _, H, I, rfl, q⟩
theorem eqv_decP [DecidableEq α] [D : DatP X.K R] (x y : α) : PyData.eqv (D.d x) (D.d y) = decide (x = y) := by
  rw [Bool.eq_iff_iff, D.eq, decide_eq_true_iff]
theorem c_eqP [DecidableEq α] [D : DatP X.K R] (hu : X.A.units + 64 < cLine) (h : D.n ≤ 64 := by exact Nat.le_of_ble_eq_true rfl) : CmpR X .Eq R R (fun x y => decide (x = y)) :=
  ⟨⟨_, op_eqP hu, fun x y _ v w _ h1 h2 k => ⟨_, _, D.rd h1, D.rd h2, D.pl x, D.pl y, Nat.le_trans (D.dep x) h, by show _; rw [eqv_decP]; exact k⟩⟩, fun b => nomark b⟩
theorem c_neP [DecidableEq α] [D : DatP X.K R] (hu : X.A.units + 64 < cLine) (h : D.n ≤ 64 := by exact Nat.le_of_ble_eq_true rfl) : CmpR X .NotEq R R (fun x y => !decide (x = y)) :=
  ⟨⟨_, op_neP hu, fun x y _ v w _ h1 h2 k => ⟨_, _, D.rd h1, D.rd h2, D.pl x, D.pl y, Nat.le_trans (D.dep x) h, by show _; rw [eqv_decP]; exact k⟩⟩, fun b => nomark b⟩
end
/-! ### rules: an instance of two fields -/
structure Rul where
  heads : List (Int × Str)
  sides : List (Bool × List Str × List Str)
  deriving DecidableEq
abbrev rSide : Rel (Bool × List Str × List Str) := rT3 rBool (rLst rStr) (rLst rStr)
def rulF (d1 d2 : V) : List (Str × V) := [("heads", d1), ("sides", d2)]
def rRul (C : Addr) : Rel Rul := ⟨fun H v t => ∃ a dx d1 d2, v = .ref a ∧ H a = some (.ins C dx (rulF d1 d2)) ∧ (rDI rStr).r H d1 t.heads ∧ (rLst rSide).r H d2 t.sides,
  fun e ⟨a, dx, d1, d2, h1, h2, h3, h4⟩ => ⟨a, dx, d1, d2, h1, e.ins h2, Rel.mono _ e h3, Rel.mono _ e h4⟩⟩
instance {C : Addr} : NN (rRul C) := ⟨fun ⟨a, dx, d1, d2, h1, _⟩ => by rw [h1]; exact fun q => by cases q⟩
theorem rulF_no {m : Str} (h : [("heads" : Str), "sides"].all (fun x => !(m == x)) = true) (d1 d2 : V) : (rulF d1 d2).lookup m = none := by
  simp only [List.all_cons, List.all_nil, Bool.and_eq_true, Bool.not_eq_true', Bool.and_true] at h
  obtain ⟨h1, h2⟩ := h
  unfold rulF
  rw [List.lookup_cons, h1, List.lookup_cons, h2]
  rfl
theorem insRul {C : Addr} {m : Str} (h : [("heads" : Str), "sides"].all (fun x => !(m == x)) = true) : InsOf C m (rRul C) := fun r => by
  obtain ⟨a, dx, d1, d2, h1, h2, _⟩ := r
  exact ⟨a, dx, _, h1, h2, rulF_no h _ _⟩
theorem fldHeads {C : Addr} : FldOf C "heads" (rRul C) (rDI rStr) Rul.heads := ⟨fun r => by
  obtain ⟨a, dx, d1, d2, h1, h2, h3, h4⟩ := r
  exact ⟨a, dx, _, d1, h1, h2, rfl, h3⟩⟩
theorem fldSides {C : Addr} : FldOf C "sides" (rRul C) (rLst rSide) Rul.sides := ⟨fun r => by
  obtain ⟨a, dx, d1, d2, h1, h2, h3, h4⟩ := r
  exact ⟨a, dx, _, d2, h1, h2, rfl, h4⟩⟩
/-- the class of rules in the written part -/
structure RulTxt (K : PySem.W.Frag) (CR : Addr) : Prop where
  cls : Cls K CR
  n_heads : NoAttr K CR "heads"
  n_sides : NoAttr K CR "sides"
/-- what __init__ of rules promises -/
def kRul (CR a dx : Addr) : Ent → VK → Rul → Prop := fun E Q t => ∀ d1 d2 B H, Stt E [(a, .ins CR dx (rulF d1 d2))] B H → (rDI rStr).r B d1 t.heads → (rLst rSide).r B d2 t.sides → Q .non H
def SpInitR {δ : Type} (CR : Addr) (args : δ → AR) (f : δ → Res Rul) : Sp := fun vs H Q _ => ∃ B H0 d a dx us, vs = .ref a :: us ∧ H = upd H0 a (.ins CR dx []) ∧ H0 a = none ∧ Sx B H0 ∧ Tx H0 B ∧ (args d).r us B H0 ∧ Fin (kRul CR a dx ⟨B, H0⟩ Q) NoErr (f d)
/-! rows of rules as told: of a kind, or of two sides -/
abbrev RowT := (Str × List (Option Int)) ⊕ (Bool × List Str × List Str)
abbrev rKin : Rel (Str × List (Option Int)) := rPr rStr (rLst (rOpt rInt))
def rRow : Rel RowT := ⟨fun H v x => match x with
  | .inl y => rKin.r H v y
  | .inr z => rSide.r H v z, fun {H H' v x} e h => by
  cases x with
  | inl y => exact Rel.mono rKin e h
  | inr z => exact Rel.mono rSide e h⟩
instance : NN rRow := ⟨fun {H v x} h => by
  cases x with
  | inl y => exact NN.nn (R := rKin) h
  | inr z => exact NN.nn (R := rSide) h⟩
def lenRow : RowT → Int
  | .inl _ => 2
  | .inr _ => 3
def rowL : RowT → Option (Str × List (Option Int))
  | .inl y => some y
  | .inr _ => none
def rowR : RowT → Option (Bool × List Str × List Str)
  | .inl _ => none
  | .inr y => some y
/-- the first place of a thing -/
def ixOf {α : Type} [DecidableEq α] : List α → α → Option Int
  | [], _ => none
  | y :: ys, x => if y = x then some 0 else (ixOf ys x).map (· + 1)
theorem ixOf_at {α : Type} [DecidableEq α] {x : α} : ∀ {ys : List α} {j : Int}, ixOf ys x = some j → ∃ k : Nat, j = k ∧ ys[k]? = some x ∧ ∀ m, m < k → ∀ z, ys[m]? = some z → z ≠ x
  | [], j, h => by cases h
  | y :: ys, j, h => by
    unfold ixOf at h
    by_cases hy : y = x
    · rw [if_pos hy] at h
      cases h
      exact ⟨0, rfl, by rw [hy]; rfl, fun m hm => absurd hm (Nat.not_lt_zero _)⟩
    · rw [if_neg hy, Option.map_eq_some_iff] at h
      obtain ⟨i, h1, rfl⟩ := h
      obtain ⟨k, rfl, h2, h3⟩ := ixOf_at h1
      refine ⟨k + 1, rfl, h2, fun m hm z hz => ?_⟩
      cases m with
      | zero =>
        cases hz
        exact hy
      | succ m => exact h3 m (by omega) z hz
theorem strs_flat (ss : List Str) : (ss.map V.str).all flatV = true := by
  rw [List.all_eq_true]
  intro v hv
  obtain ⟨s, _, rfl⟩ := List.mem_map.mp hv
  rfl
/-- a tuple of texts that stands in the written part -/
def GTup (K : PySem.W.Frag) (mg : MG) (n : Str) (ws : List Str) : Prop := ∃ t o its k, mg n = some (.ref t) ∧ K.lookup t = some o ∧ o.cls = .type "tuple" ∧ o.data = .seq its k ∧ its.size ≤ sizeLine ∧ Vals (ws.map V.str) its.toList
/-- one's own class: what isinstance asks -/
structure InsC (K : PySem.W.Frag) (mg : MG) (n : Str) (C : Addr) : Prop where
  m : mg n = some (.ref C)
  cls : Cls K C
  ha : PySem.W.findIn K (.ref C) "__class__" = some (some (.builtin "object.__class__"))
  hn : PySem.W.specialIn K (.builtin "object.__class__") "__get__" = some (some (.builtin "getset_descriptor.__get__"))
  htk : PySem.W.takesIn K (.builtin "object.__class__") = some true
  hm : PySem.W.mroIn K C (.type "object") = some true
def InsR {α : Type} (C : Addr) (R : Rel α) : Prop := ∀ {H : Hp} {v : V} {x : α}, R.r H v x → ∃ a dx fs, v = .ref a ∧ H a = some (.ins C dx fs)
theorem rul_ins {C : Addr} : InsR C (rRul C) := fun r => by
  obtain ⟨a, dx, d1, d2, h1, h2, _⟩ := r
  exact ⟨a, dx, _, h1, h2⟩
theorem tab_ins {C : Addr} : InsR C (rTab C) := fun r => by
  obtain ⟨a, dx, d1, d2, d3, d4, h1, h2, _⟩ := r
  exact ⟨a, dx, _, h1, h2⟩
section
variable {X : Cx}
/-- l.count(x), flat items -/
def rCntV (K : PySem.W.Frag) : V → List V → Hp → VK → Prop := fun x xs H Q => ∃ (p : Addr) (ys : List V) (y : V), x = .ref p ∧ xs = [y] ∧ SqL K H p ys ∧ flatV y = true ∧ ys.all flatV = true ∧ Q (.int (ys.countP fun z => eqV z y : Nat)) H
theorem cnt_vals {y : V} (fy : flatV y = true) : ∀ {ys : List V} {us : List Value}, Vals ys us → ys.all flatV = true → us.countP (eqU y) = ys.countP fun z => eqV z y
  | _, _, .nil, _ => rfl
  | _, _, .cons r t, f => by
    rw [List.all_cons, Bool.and_eq_true] at f
    rw [List.countP_cons, List.countP_cons, cnt_vals fy t f.2, eqU_of r f.1]
theorem mt_cntV : MtR X "list.count" (rCntV X.K) := by
  intro pins s σ H x xs v us Q I rx rxs h
  obtain ⟨p, ys, y, rfl, rfl, hs, fy, fys, q⟩ := h
  cases rx
  obtain ⟨u, rfl, ru⟩ := rxs.one
  obtain ⟨its, rv, ⟨⟨cls, dd, data, sl⟩, n, ho, hc, hdn, hd⟩, hlen⟩ := I.list hs
  simp only at hc hd
  subst hc hd
  refine call_meets PySem.F.slot_list_count ⟨_, ho, rfl⟩ PySem.F.entry_list_count (PySem.F.args_list_count_2 _ _)
    (SeqAt.list_countAt p its.toArray n dd sl u (eqU y)) ⟨ho, fun z hz => mem_eqAt ru fy rv fys z (by simpa using hz), ?_⟩
  have ec : its.toArray.toList.countP (eqU y) = ys.countP fun z => eqV z y := cnt_vals fy rv fys
  rw [ec]
  exact ⟨.int (ys.countP fun z => eqV z y : Nat), H, I.tok _, ⟨s.toks, rfl⟩, q⟩
/-! d.values() -/
def vvO (p d : Addr) : HO := .ext fun h => h.IsValuesView p d
theorem vvO_ok {P : Program} {w : World} {H : Hp} {h : Heap} {p d : Addr} (e : h.get? p = some { cls := .type "dict_values", data := .fields #[.ref d] }) : ObjOk P w H h p (vvO p d) :=
  ⟨⟨_, e, rfl, rfl⟩, ⟨_, e⟩, fun h1 h2 ⟨o, ho, r⟩ k => ⟨o, k o ho, r⟩⟩
def rVv : V → List V → Hp → VK → Prop := fun x xs H Q => ∃ (d : Addr) (ws : List (Key × V)), x = .ref d ∧ xs = [] ∧ Rd H d (.dK ws) ∧ ∀ p, H p = none → Q (.ref p) (upd H p (vvO p d))
theorem mt_vv : MtR X "dict.values" rVv := by
  intro pins s σ H x xs v us Q I rx rxs hr
  obtain ⟨d, ws, rfl, rfl, hd, q⟩ := hr
  cases rx
  cases rxs
  obtain ⟨_, lo, vs, _, dd⟩ := dk_rd I.hok hd
  refine PySem.call_meetsIn F.slot_dict_values dd.typeIs F.entry_dict_values (F.args_dict_values_1 _) (meets_dict_values (mixKind X.prog X.w) d lo) ⟨⟨vs, dd⟩, ?_⟩
  exact ⟨.ref s.heap.objs.size, _, I.laid (t' := s.toks) (fun b u e => Heap.get?_push_of_some _ e) (Nat.le_refl _) (vvO_ok (Heap.get?_push_size _ rfl)), rfl, q _ (I.hok.fresh (Nat.le_refl _))⟩
theorem pe_vv {o : Expr} {te : TE} {ap cp : Pos} (he : PE X o te) (hb : attributeBase o "values" X.env (eval o X.env) = eval o X.env := by rfl) (hl : (ap.endLine == cp.line) = true := by rfl) : PE X (.Call (.Attribute o "values" ap) [] [] cp) (fun σ H Q => te σ H fun x H1 => rVv x [] H1 Q) := by
  refine ⟨fun pins s σ H Q I hq => ?_⟩
  refine wpAny_Call_method (T := "dict") (id := "dict.values") hb rfl hl F.plainAttrs_dict F.slot_dict_values F.type_dict_values (thn (he.run pins s σ H _ I hq) fun u s1 ⟨x, H1, I1, rx, hv⟩ => ?_)
  obtain ⟨d, ws, rfl, h2, hd, h3⟩ := hv
  obtain rfl : u = Value.ref d := rx
  obtain ⟨_, lo, vs, _, dd⟩ := dk_rd I1.hok hd
  exact ⟨dd.typeIs, dd.mapOf.noDict, Calls.callWith_builtin rfl (PySem.evalArgs_none (mt_vv pins s1 σ H1 (.ref d) [] (.ref d) [] Q I1 rfl .nil ⟨d, ws, rfl, h2, hd, h3⟩))⟩
def rListVv : List V → Hp → VK → Prop := fun xs H Q => ∃ (p d : Addr) (ws : List (Key × V)), xs = [.ref p] ∧ H p = some (vvO p d) ∧ Rd H d (.dK ws) ∧ ∀ l, H l = none → Q (.ref l) (upd H l (.lst (ws.map (·.2))))
theorem vals_seconds : ∀ {ws : List (Key × V)} {vs : List (Key × Value)} {us : List Value}, us = vs.map (·.2) → Paired (fun (w : Key × V) (v : Key × Value) => RelV w.2 v.2) ws vs → Vals (ws.map (·.2)) us
  | _, _, _, e, .nil => by subst e; exact .nil
  | _, _, _, e, .cons h t => by subst e; exact .cons h (vals_seconds rfl t)
theorem cr_listVv (hc : X.calm = true) : CallR X (.type "list") rListVv := by
  intro pins s σ H xs us Q I r hq
  obtain ⟨p, d, ws, rfl, hp, hd, q⟩ := hq
  obtain rfl := Vals.ref1 r
  have view : s.heap.IsValuesView p d := (show ObjOk X.prog X.w H s.heap p (vvO p d) from I.hok p _ hp).1
  obtain ⟨zl, lo, vs, rel, dd⟩ := dk_rd I.hok hd
  obtain ⟨ep, hat⟩ := dd.dictAt
  have l1 : ws.length = vs.length := Paired.length rel
  refine PySem.W.kdl_call (PySem.W.kdl_values (knd := mixKind X.prog X.w) (kvs := vs) (ep := ep)) (I.ok.hd hc) ⟨view, hat⟩ (by omega) fun h' tk acc c hk hD hacc => ?_
  have I2 : Inv X pins σ H { s with heap := h', toks := tk } := I.kept (t' := tk) hk
  have nl := I.hok.fresh (Nat.le_refl s.heap.objs.size)
  have ea : acc.toList = vs.map (·.2) := PySem.W.kdl_vals_eq (kvs := vs) acc.toList (by rw [Array.length_toList]; exact hacc.1) fun j v e => hacc.2 j v (by rw [← Array.getElem?_toList]; exact e)
  refine ⟨.ref s.heap.objs.size, _, I2.take (h' := h') (t' := tk) (o := .lst (ws.map (·.2))) (fun b ob _ e => e) (I.fpOk (b := s.heap.objs.size) (Nat.le_refl _) nl) ⟨by rw [List.length_map]; exact zl, acc.toList, c, vals_seconds ea (pimp rel fun _ _ z => z.2), by rw [Array.toArray_toList]; exact hD⟩, rfl, q _ nl⟩
end
section
variable {X Xb : Cx} {E : Ent} {own new own' : Own} {B H B' H' : Hp} {σ : L2.St} {α β γ δ τ ρ ρ' : Type} {R : Rel α} {S : Rel β} {T : Rel γ} {U : Rel δ} {e a b c d o it tg : Expr} {x : α} {y : β} {p pos pos' ap cp apos : Pos} {i j k k0 : Nat} {z w : Bool} {xs : List α} {ys : List β} {es : List Expr}
variable {n m f : Str} {rest body other : List Stmt} {D : Ends} {P : ρ → Prop} {Er : Err → Prop} {CR : Addr}
theorem ee_makeR {ps : List Str} {args : δ → AR} {g : δ → Res Rul} {d : δ} {r : Rul} (C : Cok X k0) (G : MkT X k n CR ps (SpInitR CR args g)) (hk : k + 1 ≤ k0) (hg : Gl X n) (ha : EvAs X E own B H σ (e :: es) (args d)) (hm : g d = .ok r)
    (hdb : (n == ("__debug__" : Str)) = false := by rfl) (hst : starEach (e :: es) X.env = (false, eval e X.env) :: starEach es X.env := by rfl) (hpl : (backTo pos (starEach es X.env)).any (·.1) = false := by rfl) : EvE X E own B H σ (.Call (.Name n p) (e :: es) [] pos) (rRul CR) r := fun B1 H1 S1 e1 e2 Q kq => by
  obtain ⟨f, fd, M, F, hmg, hb⟩ := G
  refine WE.of (pe_make (dvs := []) (ds := []) M F (C.room.mono hk) hg hmg hb .nil pass0 paW hdb hst hpl) (ha B1 H1 S1 e1 e2 _ fun vs B2 H2 S2 e3 e4 ra => ?_)
  intro x dx hx hdx hne
  rw [List.append_nil]
  have S3 : Stt E own (upd B2 dx (.own x)) (upd H2 dx (.own x)) := S2.lay hdx
  have hx3 : upd H2 dx (.own x) x = none := by rw [upd_ne hne.symm]; exact hx
  refine ⟨upd B2 dx (.own x), upd H2 dx (.own x), d, x, dx, vs, rfl, rfl, hx3, S3.bh, S3.tu, (args d).mono (S2.layB hdx).ex (Sx.new hdx).ex ra, Fin.eq hm fun d1 d2 B4 H4 T h1 h2 => ⟨rfl, ?_⟩⟩
  have S4 := S3.call T
  have nB := (S4.ow _ (List.mem_cons_self ..)).2.1
  have eB := (Sx.new (o := .ins CR dx (rulF d1 d2)) nB).ex
  exact kq (.ref x) _ H4 S4.keep (e3.trans (((S2.layB hdx).ex.trans T.b0.ex).trans eB)) (e4.trans ((Sx.new hdx).ex.trans T.h0.ex)) ⟨x, dx, d1, d2, rfl, upd_same, Rel.mono _ eB h1, Rel.mono _ eB h2⟩
theorem ev_lenRow {x : RowT} (hg : Gl X "len") (hm : X.mg "len" = none) (ha : EvB X E own B H σ a rRow x) (hs : St1 X a := by rfl) : EvB X E own B H σ (.Call (.Name "len" p) [a] [] pos) rInt (lenRow x) :=
  ev_b1 (f := lenRow) (pe_callB call_len_seq hg hm PySem.boot_len (pa1 hs) (he := hs)) ha fun H1 v Q h k => by
    cases x with
    | inl y =>
      obtain ⟨p, vs, h1, h2, h3⟩ := lenPr.l (show rKin.r H1 v y from h)
      exact ⟨p, vs, by rw [h1], .inr (SqT.of h2), k _ (by rw [h3]; rfl)⟩
    | inr y =>
      obtain ⟨p, vs, h1, h2, h3⟩ := lenT3.l (show rSide.r H1 v y from h)
      exact ⟨p, vs, by rw [h1], .inr (SqT.of h2), k _ (by rw [h3]; rfl)⟩
theorem rowL_eq {x : RowT} {y : Str × List (Option Int)} (h : rowL x = some y) : x = .inl y := by
  cases x with
  | inl z => cases h; rfl
  | inr z => cases h
theorem rowR_eq {x : RowT} {y : Bool × List Str × List Str} (h : rowR x = some y) : x = .inr y := by
  cases x with
  | inl z => cases h
  | inr z => cases h; rfl
theorem ee_rowL {x : RowT} {y : Str × List (Option Int)} (h : EvE X E own B H σ e rRow x) (q : rowL x = some y) : EvE X E own B H σ e rKin y := by
  rw [rowL_eq q] at h
  exact h
theorem ee_rowR {x : RowT} {y : Bool × List Str × List Str} (h : EvE X E own B H σ e rRow x) (q : rowR x = some y) : EvE X E own B H σ e rSide y := by
  rw [rowR_eq q] at h
  exact h
theorem ee_inl {x : Str × List (Option Int)} (h : EvE X E own B H σ e rKin x) : EvE X E own B H σ e rRow (.inl x) := h
theorem ee_inr {x : Bool × List Str × List Str} (h : EvE X E own B H σ e rSide x) : EvE X E own B H σ e rRow (.inr x) := h
theorem ee_inlO {x : Option (Str × List (Option Int))} (h : EvE X E own B H σ e (rOpt rKin) x) : EvE X E own B H σ e (rOpt rRow) (x.map Sum.inl) := by
  cases x with
  | none => exact h
  | some y => exact h
theorem ee_inrO {x : Option (Bool × List Str × List Str)} (h : EvE X E own B H σ e (rOpt rSide) x) : EvE X E own B H σ e (rOpt rRow) (x.map Sum.inr) := by
  cases x with
  | none => exact h
  | some y => exact h
/-- list(TEXTS) -/
theorem el_listGT {ws : List Str} {p2 : Pos} (G : GTup X.K X.mg n ws) (hg : Gl X "list") (hm : X.mg "list" = none) (hgn : Gl X n) (hd : (n == ("__debug__" : Str)) = false := by rfl) (hs : St1 X (.Name n p2) := by rfl) : EvL X E own B H σ (.Call (.Name "list" p) [.Name n p2] [] pos) rStr ws := fun B1 H1 S1 e1 e2 Q k => by
  obtain ⟨t, o, its, kk, h1, h2, h3, h4, h5, h6⟩ := G
  refine WE.of (pe_callTy call_list_of hg hm (by decide +kernel) (pa_cons (pe_gref hgn h1 hd) pa_nil hs) (he := hs)) ?_
  exact ⟨t, ws.map V.str, rfl, .inr (.inr ⟨o, its, kk, h2, h3, h4, h5, h6⟩), fun l hl => k l _ B1 _ (S1.alloc hl fun ys z => by cases z) (Ex.refl _) (Sx.new hl).ex (strs_pair _)⟩
/-- isinstance(x, one's own class) -/
theorem ev_isC {C : Addr} {cs : Str} {p2 : Pos} (IC : InsC X.K X.mg cs C) (hR : InsR C R) (hg : Gl X "isinstance") (hm : X.mg "isinstance" = none) (hgc : Gl X cs) (ha : EvB X E own B H σ a R x) (hdb : (cs == ("__debug__" : Str)) = false := by decide)
    (hs : starEach (a :: [.Name cs p2]) X.env = (false, eval a X.env) :: starEach [.Name cs p2] X.env := by rfl) (hs2 : St1 X (.Name cs p2) := by rfl) (hpl : (backTo pos (starEach [.Name cs p2] X.env)).any (·.1) = false := by rfl) :
    EvB X E own B H σ (.Call (.Name "isinstance" p) [a, .Name cs p2] [] pos) rBool true := fun B1 H1 S1 e1 e2 Q k =>
  WE.of (pe_callB call_isi hg hm (by decide +kernel) (pa_cons peW (pa_cons (pe_gref hgc IC.m hdb) pa_nil hs2) hs) (he := hs) (hpl := hpl)) (ha B1 H1 S1 e1 e2 _ fun v B2 H2 S2 e3 e4 r => by
    obtain ⟨q, dx, fs, h1, h2⟩ := hR r
    exact ⟨v, .ref C, .ref C, .ref C, true, rfl, .own C, by rw [h1]; exact .base (.ins h2 IC.cls IC.ha IC.hn IC.htk IC.hm), kit_self, k _ B2 H2 S2 e3 e4 rfl⟩)
/-- l.count(a text), l.index(a text) -/
theorem cnt_strs (s : Str) : ∀ ss : List Str, ((ss.map V.str).countP fun z => eqV z (V.str s)) = ss.count s
  | [] => rfl
  | t :: r => by
    rw [List.map_cons, List.countP_cons, cnt_strs s r, List.count_cons]
    rfl
theorem ev_cntS {s : Str} {ss : List Str} (ho : EvB X E own B H σ o (rLst rStr) ss) (ha : EvB X E own B H σ a rStr s)
    (hbase : attributeBase o "count" X.env (eval o X.env) = eval o X.env := by rfl)
    (hfew : ((backTo cp (starEach [a] X.env)).all (fun x => !x.1) && (backToKw cp (keywordEach [] X.env)).all (fun x => x.1.isSome) && decide ([a].length + ([] : List Keyword).length + (if ([] : List Keyword).isEmpty then 0 else 1) < 30)) = true := by rfl)
    (hline : (ap.endLine == cp.line) = true := by rfl) (hs : starEach [a] X.env = (false, eval a X.env) :: starEach [] X.env := by rfl) (hpl : (backTo cp (starEach [] X.env)).any (·.1) = false := by rfl) :
    EvB X E own B H σ (.Call (.Attribute o "count" ap) [a] [] cp) rInt (ss.count s : Nat) := fun B1 H1 S1 e1 e2 Q k =>
  WE.of (pe_bm PySem.F.plainAttrs_list PySem.F.slot_list_count PySem.F.type_list_count mt_cntV peW (pa_cons peW pa_nil hs) hbase hfew hline hs hpl) (ho B1 H1 S1 e1 e2 _ fun v B2 H2 S2 e3 e4 r => by
    obtain ⟨q, vs, rfl, h2, h3⟩ := r
    refine ⟨.inl ⟨rfl, vs, .inl h2⟩, ha B2 H2 S2 (e1.trans e3) (e2.trans e4) _ fun w B3 H3 S3 e5 e6 r2 => ?_⟩
    have r2 : w = .str s := r2
    subst r2
    rw [strs_rel h3] at h2
    exact ⟨q, _, _, rfl, rfl, .inl (e6.rdL h2), rfl, strs_flat _, by rw [cnt_strs]; exact k _ B3 H3 S3 (e3.trans e5) (e4.trans e6) rfl⟩)
theorem ev_ixOfS {s : Str} {ss : List Str} {d : Int} (ho : EvB X E own B H σ o (rLst rStr) ss) (ha : EvB X E own B H σ a rStr s) (hd : ixOf ss s = some d)
    (hbase : attributeBase o "index" X.env (eval o X.env) = eval o X.env := by rfl)
    (hfew : ((backTo cp (starEach [a] X.env)).all (fun x => !x.1) && (backToKw cp (keywordEach [] X.env)).all (fun x => x.1.isSome) && decide ([a].length + ([] : List Keyword).length + (if ([] : List Keyword).isEmpty then 0 else 1) < 30)) = true := by rfl)
    (hline : (ap.endLine == cp.line) = true := by rfl) (hs : starEach [a] X.env = (false, eval a X.env) :: starEach [] X.env := by rfl) (hpl : (backTo cp (starEach [] X.env)).any (·.1) = false := by rfl) :
    EvB X E own B H σ (.Call (.Attribute o "index" ap) [a] [] cp) rInt d := fun B1 H1 S1 e1 e2 Q k =>
  WE.of (pe_bm PySem.F.plainAttrs_list PySem.F.slot_list_index PySem.F.type_list_index mt_index peW (pa_cons peW pa_nil hs) hbase hfew hline hs hpl) (ho B1 H1 S1 e1 e2 _ fun v B2 H2 S2 e3 e4 r => by
    obtain ⟨q, vs, rfl, h2, h3⟩ := r
    refine ⟨.inl ⟨rfl, vs, .inl h2⟩, ha B2 H2 S2 (e1.trans e3) (e2.trans e4) _ fun w B3 H3 S3 e5 e6 r2 => ?_⟩
    have r2 : w = .str s := r2
    subst r2
    rw [strs_rel h3] at h2
    obtain ⟨j, rfl, g1, g2⟩ := ixOf_at hd
    refine ⟨q, _, _, j, .str s, rfl, rfl, .inl (e6.rdL h2), rfl, strs_flat _, by rw [List.getElem?_map, g1]; rfl, by show (s == s) = true; exact beq_self_eq_true s, fun mm z hm hz => ?_, k _ B3 H3 S3 (e3.trans e5) (e4.trans e6) rfl⟩
    rw [List.getElem?_map, Option.map_eq_some_iff] at hz
    obtain ⟨t, g3, rfl⟩ := hz
    show (t == s) = false
    exact beq_false_of_ne (g2 mm hm t g3))
def absI (i : Int) : Int := if i < 0 then -i else i
theorem ev_abs {d : Int} (hg : Gl X "abs") (hm : X.mg "abs" = none) (ha : EvB X E own B H σ a rInt d) (hs : St1 X a := by rfl) : EvB X E own B H σ (.Call (.Name "abs" p) [a] [] pos) rInt (absI d) :=
  ev_b1 (f := absI) (pe_callB call_abs hg hm (by decide +kernel) (pa1 hs) (he := hs)) ha fun H1 v Q h k => ⟨d, by rw [show v = .int d from h], k _ rfl⟩
theorem ee_none {kk} : EvE X E own B H σ (.Constant .none kk pos) (rOpt R) none := fun B1 H1 S1 e1 e2 Q k => WE.of pe_non (k .non B1 H1 S1 (Ex.refl _) (Ex.refl _) rfl)
theorem ee_fld {CA : Addr} {pr : α → β} (cls : Cls X.K CA) (na : NoAttr X.K CA f) (F : FldOf CA f R S pr) (ho : EvE X E own B H σ o R x) (hb : attributeBase o f X.env (eval o X.env) = eval o X.env := by rfl) : EvE X E own B H σ (.Attribute o f pos) S (pr x) := fun B1 H1 S1 e1 e2 Q q =>
  WE.of (pe_fld peW hb) (ho B1 H1 S1 e1 e2 _ fun v B2 H2 S2 e3 e4 r => by
    obtain ⟨a, dx, fs, u, h1, h2, h3, h4⟩ := F.g r
    exact ⟨a, CA, dx, fs, u, h1, S2.bh _ _ h2, cls, na, h3, q u B2 H2 S2 e3 e4 h4⟩)
theorem ee_meth0 {ps : List Str} {args : δ → AR} {g : δ → Res ρ} {RR : Rel ρ} {d : δ} {r : ρ} {CA : Addr} {pl : Sem Bool} (C : Cok X k0) (cls : Cls X.K CA) (G : MCal X k CA m ps (SpA args (kE RR) g)) (hk : k ≤ k0) (ho : EvB X E own B H σ o R x) (hi : InsOf CA m R) (hA : args d = aC R x aN) (hm : g d = .ok r)
    (ht : eval (.Call (.Attribute o m apos) [] [] pos) X.env = (do
      let ov ← eval o X.env
      standAt apos.atName
      let (f, first) ← holding [ov] (getMethod ov m pl)
      callWith pos f first (backTo pos (starEach [] X.env)) (backToKw pos (keywordEach [] X.env))) := by rfl) : EvE X E own B H σ (.Call (.Attribute o m apos) [] [] pos) RR r := fun B1 H1 S1 e1 e2 Q q => by
  obtain ⟨fa, fd, F, hM, hb⟩ := G
  refine WE.of (pe_meth0 (pl := pl) peW cls hM F (C.room.mono hk) hb .nil pass0 ht) (ho B1 H1 S1 e1 e2 _ fun v B2 H2 S2 e3 e4 r => ?_)
  obtain ⟨a, dx, fs, h1, h2, h3⟩ := hi r
  exact ⟨a, dx, fs, h1, h2, h3, B2, d, S2.bh, S2.tu, by rw [hA]; exact ⟨v, [], rfl, r, rfl⟩, kE_call S2 hm fun p B4 H4 S4 e7 e8 r => q p B4 H4 S4 (e3.trans e7) (e4.trans e8) r⟩
theorem ee_meth0K {ps : List Str} {args : δ → AR} {g : δ → Res ρ} {RR : Rel ρ} {d : δ} {r : ρ} {CA : Addr} {pl : Sem Bool} (C : Cok X k0) (cls : Cls X.K CA) (G : MCal X k CA m ps (SpA args (kE RR) g)) (hk : k ≤ k0) (ho : EvE X E own B H σ o R x) (hi : InsOf CA m R) (hA : args d = aK R x aN) (hm : g d = .ok r)
    (ht : eval (.Call (.Attribute o m apos) [] [] pos) X.env = (do
      let ov ← eval o X.env
      standAt apos.atName
      let (f, first) ← holding [ov] (getMethod ov m pl)
      callWith pos f first (backTo pos (starEach [] X.env)) (backToKw pos (keywordEach [] X.env))) := by rfl) : EvE X E own B H σ (.Call (.Attribute o m apos) [] [] pos) RR r := fun B1 H1 S1 e1 e2 Q q => by
  obtain ⟨fa, fd, F, hM, hb⟩ := G
  refine WE.of (pe_meth0 (pl := pl) peW cls hM F (C.room.mono hk) hb .nil pass0 ht) (ho B1 H1 S1 e1 e2 _ fun v B2 H2 S2 e3 e4 r => ?_)
  obtain ⟨a, dx, fs, h1, h2, h3⟩ := hi r
  exact ⟨a, dx, fs, h1, S2.bh _ _ h2, h3, B2, d, S2.bh, S2.tu, by rw [hA]; exact ⟨v, [], rfl, r, rfl⟩, kE_call S2 hm fun p B4 H4 S4 e7 e8 r => q p B4 H4 S4 (e3.trans e7) (e4.trans e8) r⟩
theorem ee_methK {ps : List Str} {A : AR} {args : δ → AR} {g : δ → Res ρ} {RR : Rel ρ} {d : δ} {r : ρ} {CA : Addr} {pl : Sem Bool} (C : Cok X k0) (cls : Cls X.K CA) (G : MCal X k CA m ps (SpA args (kE RR) g)) (hk : k ≤ k0) (ho : EvE X E own B H σ o R x) (hi : InsOf CA m R) (ha : EvAs X E own B H σ (e :: es) A) (hA : args d = aK R x A) (hm : g d = .ok r)
    (hst : starEach (e :: es) X.env = (false, eval e X.env) :: starEach es X.env := by rfl) (hpl : (backTo pos (starEach es X.env)).any (·.1) = false := by rfl)
    (ht : eval (.Call (.Attribute o m apos) (e :: es) [] pos) X.env = (do
      let ov ← eval o X.env
      standAt apos.atName
      let (f, first) ← holding [ov] (getMethod ov m pl)
      callWith pos f first (backTo pos (starEach (e :: es) X.env)) (backToKw pos (keywordEach [] X.env))) := by rfl) : EvE X E own B H σ (.Call (.Attribute o m apos) (e :: es) [] pos) RR r := fun B1 H1 S1 e1 e2 Q q => by
  obtain ⟨fa, fd, F, hM, hb⟩ := G
  refine WE.of (pe_meth (pl := pl) peW cls hM F (C.room.mono hk) hb .nil pass0 paW hst hpl ht) (ho B1 H1 S1 e1 e2 _ fun v B2 H2 S2 e3 e4 r => ?_)
  obtain ⟨a, dx, fs, h1, h2, h3⟩ := hi r
  refine ⟨a, dx, fs, h1, S2.bh _ _ h2, h3, ha B2 H2 S2 (e1.trans e3) (e2.trans e4) _ fun vs B3 H3 S3 e5 e6 q2 => ?_⟩
  rw [List.append_nil]
  exact ⟨B3, d, S3.bh, S3.tu, by rw [hA]; exact ⟨v, vs, rfl, R.mono e5 r, q2⟩, kE_call S3 hm fun v B4 H4 S4 e7 e8 r => q v B4 H4 S4 ((e3.trans e5).trans e7) ((e4.trans e6).trans e8) r⟩
theorem el_listRM {p2 pos2 : Pos} (hc : X.calm = true) (hg : Gl X "list") (hm : X.mg "list" = none) (hg2 : Gl X "reversed") (hm2 : X.mg "reversed" = none) (ha : EvM X E own B H σ a R xs) (hs : St1 X a := by rfl)
    (hs2 : starEach [.Call (.Name "reversed" p2) [a] [] pos2] X.env = (false, eval (.Call (.Name "reversed" p2) [a] [] pos2) X.env) :: starEach [] X.env := by rfl) : EvL X E own B H σ (.Call (.Name "list" p) [.Call (.Name "reversed" p2) [a] [] pos2] [] pos) R xs.reverse := fun B1 H1 S1 e1 e2 Q k =>
  WE.of (pe_listRev hc hg hm hg2 hm2 peW hs hs2) (ha B1 H1 S1 e1 e2 _ fun q vs B2 H2 S2 e3 e4 h2 h3 =>
    ⟨q, vs, rfl, .inl (.inl h2), fun l hl => k l _ B2 _ (S2.alloc hl fun ys z => by cases z) e3 (e4.trans (Sx.new hl).ex) (prev h3)⟩)
/-- list(d.values()) -/
theorem el_listVals {kvs : List (Int × α)} (hc : X.calm = true) (hg : Gl X "list") (hm : X.mg "list" = none) (ho : EvE X E own B H σ o (rDI R) kvs)
    (hb : attributeBase o "values" X.env (eval o X.env) = eval o X.env := by rfl) (hl : (ap.endLine == cp.line) = true := by rfl) (hs : St1 X (.Call (.Attribute o "values" ap) [] [] cp) := by rfl) : EvL X E own B H σ (.Call (.Name "list" p) [.Call (.Attribute o "values" ap) [] [] cp] [] pos) R (kvs.map (·.2)) := fun B1 H1 S1 e1 e2 Q k => by
  refine WE.of (pe_callTy (cr_listVv hc) hg hm (by decide +kernel) (pa_cons (pe_vv peW hb hl) pa_nil hs) (he := hs)) (ho B1 H1 S1 e1 e2 _ fun v B2 H2 S2 e3 e4 r => ?_)
  obtain ⟨d, ws, rfl, h2, h3⟩ := r
  refine ⟨d, ws, rfl, rfl, S2.bh.ex.dK h2, fun q hq => ?_⟩
  have x3 : Ex H2 (upd H2 q (vvO q d)) := (Sx.new hq).ex
  have S3 := S2.alloc hq (o := vvO q d) fun ys z => by cases z
  refine ⟨q, d, ws, rfl, upd_same, x3.dK (S2.bh.ex.dK h2), fun l hl => ?_⟩
  have S5 := (S3.alloc hl (o := .lst (ws.map (·.2))) fun ys z => by cases z).swap.drop
  refine k l _ _ _ S5 e3 ((e4.trans x3).trans (Sx.new hl).ex) ?_
  have : ∀ {ws : List (Key × V)} {kvs : List (Int × α)}, pI R B2 ws kvs → Paired (R.r B2) (ws.map (·.2)) (kvs.map (·.2)) := by
    intro ws kvs h
    induction h with
    | nil => exact .nil
    | cons h t ih => exact .cons h.2 ih
  exact this h3
end
section
variable {P : Program} {w : World} {K : PySem.W.Frag} {mg : Str → Option Value} {base : Heap}
theorem initR_ok {x qual : Str} {st : Stmt} {f : Addr} {fd : FuncData} {N ps : List Str} {k : Nat} {δ : Type} {CR : Addr} {args : δ → AR} {g : δ → Res Rul} (F : Fun K x qual st f fd) (S : FnScope N ps (defScope st)) (hl : ∀ d vs B H, (args d).r vs B H → vs.length + 1 = ps.length)
    (body : ∀ X : Cx, X.prog = P → X.w = w → X.K = K → X.mg = mg → X.base = base → Cok X k → Scp X N (defScope st) → (∀ x, X.fn x = true) → ∀ B H0 a dx us d (Q : VK), H0 a = none → Sx B H0 → Tx H0 B → (args d).r us B H0 → Fin (kRul CR a dx ⟨B, H0⟩ Q) NoErr (g d) →
      WSs X (defBody st) { nx := fun _ H' => Q .non H', rt := Q } (start N (.ref a :: us)) (upd H0 a (.ins CR dx []))) : FnOk P w K mg base CX0 (k + 1) f fd ps (SpInitR CR args g) := by
  refine F.ok S (fun vs H Q E h => ?_) (fun cdv A outer s H vs Q E hr h => ?_)
  · obtain ⟨B, H0, d, a, dx, us, rfl, _, _, _, _, h3, _⟩ := h
    exact hl d us B H0 h3
  · obtain ⟨B, H0, d, a, dx, us, rfl, rfl, h0, h1, h2, h3, h4⟩ := h
    exact ⟨_, pssW, body ((cxOf CX0 P w K mg base N qual (defScope st) f cdv A outer s _ E).nox) rfl rfl rfl rfl rfl ⟨rfl, S.nd, hr, PassesOwn.never⟩ ⟨rfl, rfl⟩ (fun _ => rfl) B H0 a dx us d Q h0 h1 h2 h3 h4⟩
end
/-! ### numbers of bounded size -/
instance {i j : Int} : Decidable (CMulX i j) := by unfold CMulX; infer_instance
section
variable {X : Cx} {E : Ent} {own : Own} {B H : Hp} {σ : L2.St} {a b : Expr} {pos : Pos} {i j : Int}
theorem ev_mulX (ha : EvB X E own B H σ a rInt i) (hb : EvB X E own B H σ b rInt j) (hc : CMulX i j) : EvB X E own B H σ (.BinOp a .Mult b pos) rInt (i * j) := ev_op op_mulX ha hb (rI_ok hc)
end
def spLawB : Sp := fun vs H Q _ => ∃ (a : Addr) (ns : List Int), vs = [.ref a] ∧ Rd H a (.lst (ns.map V.int)) ∧ ns.length ≤ 63 ∧ (∀ z ∈ ns, Builtin.Int.intBits z ≤ 1048576) ∧ ∀ H', Q (.bl true) H'
theorem fn_lawB {P : Program} {w : World} {K : PySem.W.Frag} {mg : Str → Option Value} {base : Heap} {k : Nat} {f : Addr} {fd : FuncData} {p : Str} {m : List Int → Res Bool}
    {args : List Int → AR} (F : FnOk P w K mg base CX0 k f fd [p] (SpA args (kE rBool) m)) (h : ∀ ns : List Int, ns.length ≤ 63 → (∀ z ∈ ns, Builtin.Int.intBits z ≤ 1048576) → m ns = .ok true) (ha : ∀ (H : Hp) (v : V) (ns : List Int), (rLst rInt).r H v ns → (args ns).r [v] H H := by exact fun H v ns h => ⟨_, _, rfl, h, rfl⟩) : FnOk P w K mg base CX0 k f fd [p] spLawB := by
  refine F.imp fun vs H Q E hs => ?_
  obtain ⟨a, ns, rfl, hr, hl, hb, hq⟩ := hs
  refine ⟨H, ns, Sx.refl _, fun _ _ e => e, ha _ _ _ ⟨a, _, rfl, hr, ints_rel' ns⟩, ?_⟩
  rw [h ns hl hb]
  intro v B2 H2 _ r
  rw [show v = .bl true from r]
  exact hq H2
theorem walk_lawB {l : PySem.W.OpenLaw} {q : Program} {loose : List Str} {XP : (Str → Option Value) → Heap → Prop} {YP : World → Heap → Prop} {d : DefRec} {K : Params → PySem.W.Frag} {k : Nat} {p : Str} (hn : l.most = some 63) (hdf : d.params.defaults = []) (hr : Room k callerA)
    (hY : ∀ (w : World) (h : Heap), YP w h → (K w.params).In h) (hN : ∀ w : World, noLst (K w.params) = true)
    (F : ∀ (w : World) (mg : Str → Option Value) (fa : Addr) (h : Heap), (K w.params).In h → h.Ns mainGlobals mg → mg d.name = some (.ref fa) →
      ∃ fd : FuncData, (∀ (s : Shared) (u : Value), BindsTo s fd ⟨[u], []⟩ [(p, u)]) ∧ ∀ base : Heap, (K w.params).In base → base.Ns mainGlobals mg → FnOk l.prog w (K w.params) mg base CX0 k fa fd [p] spLawB) :
    PySem.W.WalkO q loose XP YP l.row.toRowW d [] (fun f vs => PySem.call f vs) :=
  L2.walk_ofB (n := 63) (k := k) (x := p) (CX := fun _ => CX0) (sp := fun _ => spLawB) hn (by decide) hdf hr hY F (fun w _ a ns hl hb _ hS => ⟨a, ns, rfl, by
    rcases hS with h | ⟨o, its, n, h1, h2, _⟩
    · exact h
    · exact (noLst.out (hN w) h1 h2).elim, hl, hb, fun _ => rfl⟩) fun _ _ _ _ _ z => z
end Sg

namespace Sg
open PySem PySem.Spec PyProof.Rows L2
/-! ### a text again and again -/
@[irreducible] def repS (s : Str) (n : Int) : Str := ⟨(List.replicate n.toNat s.cps).foldl (· ++ ·) #[]⟩
def CRep (s : Str) (n : Int) : Prop := 2 ≤ n ∧ n ≤ 16777216 ∧ 1 ≤ s.length ∧ s.length * n.toNat ≤ 16777216
instance {s : Str} {n : Int} : Decidable (CRep s n) := by unfold CRep; infer_instance
theorem rep_size (s : Str) : ∀ (k : Nat) (a : Array Nat), ((List.replicate k s.cps).foldl (· ++ ·) a).size = a.size + k * s.cps.size
  | 0, a => by simp
  | k + 1, a => by
    rw [List.replicate_succ, List.foldl_cons, rep_size s k, Array.size_append, Nat.succ_mul]
    omega
theorem rep_len (s : Str) (n : Int) : (repS s n).length = n.toNat * s.length := by
  unfold repS
  show ((List.replicate n.toNat s.cps).foldl (· ++ ·) #[]).size = _
  rw [rep_size]
  show 0 + _ = _
  rw [Nat.zero_add]
  rfl
section
variable {X : Cx}
theorem op_mul_str : OpR X (binaryOp .Mult) (fun x y H Q => ∃ s n, x = .str s ∧ y = .int n ∧ CRep s n ∧ Q (.str (repS s n)) H) := by
  intro pins s σ H x y v u Q I rx ry h
  obtain ⟨z, n, rfl, rfl, ⟨c1, c2, c3, c4⟩, q⟩ := h
  obtain ⟨t, rfl⟩ := rx
  obtain ⟨t', rfl⟩ := ry
  have hn : ¬ n < 1 := by omega
  have hw : (n == 1 || z.length == 0) = false := by
    rw [Bool.or_eq_false_iff]
    exact ⟨beq_false_of_ne (by omega), beq_false_of_ne (by omega)⟩
  refine PySem.P.mul_str (by rw [decide_eq_false (by omega), decide_eq_false (by omega)]; rfl) (fun _ _ z1 => ?_) (fun _ _ => ?_) ?_
  · have h1 : (z.length : Int) * n ≤ 2 ^ 63 - 1 := by
      have e : ((z.length * n.toNat : Nat) : Int) = (z.length : Int) * n := by
        rw [Int.natCast_mul, Int.toNat_of_nonneg (by omega)]
      omega
    have h2 := (Int.le_ediv_iff_mul_le (show 0 < n by omega)).mpr h1
    omega
  · show decide (z.length * n.toNat > sizeLine) = false
    exact decide_eq_false (by rw [sizeLine_eq]; omega)
  · rw [if_neg hn, if_neg (by rw [hw]; decide)]
    have := rep_len z n
    unfold repS at q this
    refine ⟨?_, .str _, H, I.tok _, ⟨_, rfl⟩, q⟩
    rw [Nat.mul_comm] at this
    rw [sizeLine_eq]
    refine Nat.le_trans (Nat.le_of_eq this) ?_
    exact c4
end
/-! ### a whole number or a text -/
def rIS : Rel (Int ⊕ Str) := ⟨fun _ v x => v = match x with | .inl i => .int i | .inr s => .str s, fun _ h => h⟩
instance : Imm rIS := ⟨fun _ h => h⟩
instance : NN rIS := ⟨fun {H v x} h => by
  rw [show v = _ from h]
  cases x <;> exact fun q => by cases q⟩
def isD : Int ⊕ Str → PyData
  | .inl i => .int i
  | .inr s => .str s
instance {K : PySem.W.Frag} : DatP K rIS := ⟨isD, fun {H v x} h => by
    rw [show v = _ from h]
    cases x
    · exact .int _
    · exact .str _, fun x => by cases x <;> rfl, 0, fun x => by cases x <;> exact Nat.le_refl _, fun x y => by
    cases x <;> cases y <;> simp [isD, PyData.eqv]⟩
instance {K : PySem.W.Frag} : DatP K rCh := ⟨fun c => .str ⟨#[c]⟩, fun {H v x} h => by
    rw [show v = _ from h]
    exact .str _, fun x => rfl, 0, fun x => Nat.le_refl _, fun x y => by
    simp [PyData.eqv]⟩
instance : Flat rBool := ⟨fun h => by rw [show _ = _ from h]; rfl, fun h h' => by
  rw [show _ = _ from h, show _ = _ from h']
  show (_ == _) = _
  rw [Bool.eq_iff_iff]
  simp⟩
/-- of none a class of one's own -/
structure InsN (K : PySem.W.Frag) (C : Addr) : Prop where
  ic : PySem.W.isClsIn K C = true
  it : PySem.W.typeIn K (.ref C) = some (.type "type")
  sn : PySem.W.subIn K (.type "NoneType") (.ref C) = some false
section
variable {X : Cx} {E : Ent} {own : Own} {B H : Hp} {σ : L2.St} {α : Type} {R : Rel α} {a b o e : Expr} {x : α} {p pos ap cp : Pos} {xs : List α} {i : Int} {s : Str}
theorem ev_repS (ha : EvB X E own B H σ a rStr s) (hb : EvB X E own B H σ b rInt i) (hc : CRep s i) : EvB X E own B H σ (.BinOp a .Mult b pos) rStr (repS s i) := fun B1 H1 S1 e1 e2 Q k =>
  WE.of (pe_op op_mul_str peW peW) (ha B1 H1 S1 e1 e2 _ fun v B2 H2 S2 e3 e4 r => hb B2 H2 S2 (e1.trans e3) (e2.trans e4) _ fun w B3 H3 S3 e5 e6 r' => ⟨s, i, r, r', hc, k _ B3 H3 S3 (e3.trans e5) (e4.trans e6) rfl⟩)
theorem ev_cutS {lo hi : Option Expr} {l u : Option Int} (ho : EvB X E own B H σ o rStr s) (hl : EvP X E own B H σ lo l) (hu : EvP X E own B H σ hi u) (hz : s.length ≤ sizeLine) : EvB X E own B H σ (.Subscript o (.Slice lo hi none p) pos) rStr (cutS s l u) := fun B1 H1 S1 e1 e2 Q k => by
  obtain ⟨tl, pl, hl⟩ := hl
  obtain ⟨tu, pu, hu⟩ := hu
  exact WE.of (pe_slice sl_str peW pl pu) (ho B1 H1 S1 e1 e2 _ fun v B2 H2 S2 e3 e4 r => hl B2 H2 S2 (e1.trans e3) (e2.trans e4) _ fun B3 H3 S3 e5 e6 => hu B3 H3 S3 ((e1.trans e3).trans e5) ((e2.trans e4).trans e6) _ fun B4 H4 S4 e7 e8 =>
    ⟨s, r, hz, k _ B4 H4 S4 ((e3.trans e5).trans e7) ((e4.trans e6).trans e8) rfl⟩)
theorem tl_cutS (z : Str) (l u : Option Int) : TL.tl (cutS z l u) = cut (TL.tl z) l u := by
  have e : (TL.tl z).length = z.length := (TL.len_tl z).symm
  unfold cut
  rw [e]
  rfl
theorem ev_isL (h : EvB X E own B H σ a rInt i) : EvB X E own B H σ a rIS (.inl i) := h
theorem ev_isR (h : EvB X E own B H σ a rStr s) : EvB X E own B H σ a rIS (.inr s) := h
theorem ev_isCO {x : Option α} {C : Addr} {cs : Str} {p2 : Pos} (IC : InsC X.K X.mg cs C) (IN : InsN X.K C) (hR : InsR C R) (hg : Gl X "isinstance") (hm : X.mg "isinstance" = none) (hgc : Gl X cs) (ha : EvB X E own B H σ a (rOpt R) x) (hdb : (cs == ("__debug__" : Str)) = false := by decide)
    (hs : starEach (a :: [.Name cs p2]) X.env = (false, eval a X.env) :: starEach [.Name cs p2] X.env := by rfl) (hs2 : St1 X (.Name cs p2) := by rfl) (hpl : (backTo pos (starEach [.Name cs p2] X.env)).any (·.1) = false := by rfl) :
    EvB X E own B H σ (.Call (.Name "isinstance" p) [a, .Name cs p2] [] pos) rBool x.isSome := fun B1 H1 S1 e1 e2 Q k =>
  WE.of (pe_callB call_isi hg hm (by decide +kernel) (pa_cons peW (pa_cons (pe_gref hgc IC.m hdb) pa_nil hs2) hs) (he := hs) (hpl := hpl)) (ha B1 H1 S1 e1 e2 _ fun v B2 H2 S2 e3 e4 r => by
    cases x with
    | none => exact ⟨v, .ref C, .type "NoneType", .ref C, false, rfl, .own C, by rw [show v = .non from r]; exact .base .non, by
        show (if (Value.type "NoneType" == Value.ref C) = true then some true else PySem.W.kitCls X.K (.type "NoneType") (.ref C)) = some false
        rw [if_neg (by show ¬ (false = true); exact Bool.false_ne_true)]
        exact kit_cl IN.ic IN.it IN.sn, k _ B2 H2 S2 e3 e4 rfl⟩
    | some y =>
      obtain ⟨q, dx, fs, h1, h2⟩ := hR (show v ≠ .non ∧ R.r H2 v y from r).2
      exact ⟨v, .ref C, .ref C, .ref C, true, rfl, .own C, by rw [h1]; exact .base (.ins h2 IC.cls IC.ha IC.hn IC.htk IC.hm), kit_self, k _ B2 H2 S2 e3 e4 rfl⟩)
theorem cnt_flat [DecidableEq α] [Flat R] {H1 : Hp} {v : V} {x : α} (hx : R.r H1 v x) : ∀ {vs : List V} {xs : List α}, Paired (R.r H1) vs xs → vs.all flatV = true ∧ (vs.countP fun z => eqV z v) = xs.count x
  | _, _, .nil => ⟨rfl, rfl⟩
  | _, _, .cons (a := w) (b := y) h t => by
    obtain ⟨h1, h2⟩ := cnt_flat hx t
    refine ⟨by rw [List.all_cons, Flat.f h, h1] <;> rfl, ?_⟩
    rw [List.countP_cons, h2, Flat.eq h hx, List.count_cons]
    by_cases q : y = x
    · subst q; simp
    · simp [q]
theorem ev_cntF [DecidableEq α] [Flat R] (ho : EvB X E own B H σ o (rLst R) xs) (ha : EvB X E own B H σ a R x)
    (hbase : attributeBase o "count" X.env (eval o X.env) = eval o X.env := by rfl)
    (hfew : ((backTo cp (starEach [a] X.env)).all (fun x => !x.1) && (backToKw cp (keywordEach [] X.env)).all (fun x => x.1.isSome) && decide ([a].length + ([] : List Keyword).length + (if ([] : List Keyword).isEmpty then 0 else 1) < 30)) = true := by rfl)
    (hline : (ap.endLine == cp.line) = true := by rfl) (hs : starEach [a] X.env = (false, eval a X.env) :: starEach [] X.env := by rfl) (hpl : (backTo cp (starEach [] X.env)).any (·.1) = false := by rfl) :
    EvB X E own B H σ (.Call (.Attribute o "count" ap) [a] [] cp) rInt (xs.count x : Nat) := fun B1 H1 S1 e1 e2 Q k =>
  WE.of (pe_bm PySem.F.plainAttrs_list PySem.F.slot_list_count PySem.F.type_list_count mt_cntV peW (pa_cons peW pa_nil hs) hbase hfew hline hs hpl) (ho B1 H1 S1 e1 e2 _ fun v B2 H2 S2 e3 e4 r => by
    obtain ⟨q, vs, rfl, h2, h3⟩ := r
    refine ⟨.inl ⟨rfl, vs, .inl h2⟩, ha B2 H2 S2 (e1.trans e3) (e2.trans e4) _ fun w B3 H3 S3 e5 e6 r2 => ?_⟩
    obtain ⟨f1, f2⟩ := cnt_flat r2 (pimp h3 fun _ _ z => R.mono e6 z)
    exact ⟨q, vs, w, rfl, rfl, .inl (e6.rdL h2), Flat.f r2, f1, by rw [f2]; exact k _ B3 H3 S3 (e3.trans e5) (e4.trans e6) rfl⟩)
theorem pget2 {α β : Type} {F : α → β → Prop} : ∀ {l₁ : List α} {l₂ : List β}, Paired F l₁ l₂ → ∀ (j : Nat), (∀ y, l₂[j]? = some y → ∃ x, l₁[j]? = some x ∧ F x y) ∧ ∀ x, l₁[j]? = some x → ∃ y, l₂[j]? = some y ∧ F x y
  | _, _, .nil, j => ⟨fun y h => (by cases h), fun y h => (by cases h)⟩
  | _, _, .cons h t, 0 => ⟨fun y e => (by cases e; exact ⟨_, rfl, h⟩), fun y e => (by cases e; exact ⟨_, rfl, h⟩)⟩
  | _, _, .cons h t, j + 1 => pget2 t j
theorem ev_ixOfF [DecidableEq α] [Flat R] {d : Int} (ho : EvB X E own B H σ o (rLst R) xs) (ha : EvB X E own B H σ a R x) (hd : ixOf xs x = some d)
    (hbase : attributeBase o "index" X.env (eval o X.env) = eval o X.env := by rfl)
    (hfew : ((backTo cp (starEach [a] X.env)).all (fun x => !x.1) && (backToKw cp (keywordEach [] X.env)).all (fun x => x.1.isSome) && decide ([a].length + ([] : List Keyword).length + (if ([] : List Keyword).isEmpty then 0 else 1) < 30)) = true := by rfl)
    (hline : (ap.endLine == cp.line) = true := by rfl) (hs : starEach [a] X.env = (false, eval a X.env) :: starEach [] X.env := by rfl) (hpl : (backTo cp (starEach [] X.env)).any (·.1) = false := by rfl) :
    EvB X E own B H σ (.Call (.Attribute o "index" ap) [a] [] cp) rInt d := fun B1 H1 S1 e1 e2 Q k =>
  WE.of (pe_bm PySem.F.plainAttrs_list PySem.F.slot_list_index PySem.F.type_list_index mt_index peW (pa_cons peW pa_nil hs) hbase hfew hline hs hpl) (ho B1 H1 S1 e1 e2 _ fun v B2 H2 S2 e3 e4 r => by
    obtain ⟨q, vs, rfl, h2, h3⟩ := r
    refine ⟨.inl ⟨rfl, vs, .inl h2⟩, ha B2 H2 S2 (e1.trans e3) (e2.trans e4) _ fun w B3 H3 S3 e5 e6 r2 => ?_⟩
    have h3 := pimp h3 fun _ _ z => R.mono e6 z
    obtain ⟨f1, _⟩ := cnt_flat r2 h3
    obtain ⟨j, rfl, g1, g2⟩ := ixOf_at hd
    obtain ⟨u, hu, ru⟩ := (pget2 h3 j).1 _ g1
    refine ⟨q, vs, w, j, u, rfl, rfl, .inl (e6.rdL h2), Flat.f r2, f1, hu, by rw [Flat.eq ru r2]; exact decide_eq_true rfl, fun mm z hm hz => ?_, k _ B3 H3 S3 (e3.trans e5) (e4.trans e6) rfl⟩
    obtain ⟨y, hy, ry⟩ := (pget2 h3 mm).2 _ hz
    rw [Flat.eq ry r2]
    exact decide_eq_false (g2 mm hm y hy))
end
section
variable {X X' : Cx}
theorem Tr.tr {C : Addr} (t : Tr X X') (h : RulTxt X.K C) : RulTxt X'.K C := by rw [t.K]; exact h
theorem Tr.gtu {n : Str} {ws : List Str} (t : Tr X X') (h : GTup X.K X.mg n ws) : GTup X'.K X'.mg n ws := by rw [t.K, t.mg]; exact h
theorem Tr.isC {n : Str} {C : Addr} (t : Tr X X') (h : InsC X.K X.mg n C) : InsC X'.K X'.mg n C := by rw [t.K, t.mg]; exact h
theorem Tr.isN {C : Addr} (t : Tr X X') (h : InsN X.K C) : InsN X'.K C := by rw [t.K]; exact h
end
end Sg

namespace Sg
open PySem PySem.Spec PyProof.Rows L2
/-! ### steps: a word and a place, or a sign besides -/
abbrev StT := (Str × Int) ⊕ (Str × Int × Int)
abbrev rSt2 : Rel (Str × Int) := rPr rStr rInt
abbrev rSt3 : Rel (Str × Int × Int) := rT3 rStr rInt rInt
def rSt : Rel StT := ⟨fun H v x => match x with
  | .inl y => rSt2.r H v y
  | .inr z => rSt3.r H v z, fun {H H' v x} e h => by
  cases x with
  | inl y => exact Rel.mono rSt2 e h
  | inr z => exact Rel.mono rSt3 e h⟩
instance : Imm rSt := ⟨fun {H H' v x} e h => by
  cases x with
  | inl y => exact Imm.imm (R := rSt2) e h
  | inr z => exact Imm.imm (R := rSt3) e h⟩
instance : NN rSt := ⟨fun {H v x} h => by
  cases x with
  | inl y => exact NN.nn (R := rSt2) h
  | inr z => exact NN.nn (R := rSt3) h⟩
instance : TyR rSt "tuple" := ⟨fun {K H v x} h => by
  cases x with
  | inl y => exact TyR.ty (R := rSt2) h
  | inr z => exact TyR.ty (R := rSt3) h⟩
def stW : StT → Str
  | .inl y => y.1
  | .inr y => y.1
def stA : StT → Int
  | .inl y => y.2
  | .inr y => y.2.1
def stX : StT → Option Int
  | .inl _ => none
  | .inr y => some y.2.2
def lenSt : StT → Int
  | .inl _ => 2
  | .inr _ => 3
def stD : StT → PyData
  | .inl y => .tuple [.str y.1, .int y.2]
  | .inr y => .tuple [.str y.1, .int y.2.1, .int y.2.2]
instance {K : PySem.W.Frag} : DatP K rSt := ⟨stD, fun {H v x} h => by
    cases x with
    | inl y => exact DatP.rd (K := K) (R := rSt2) (x := y) h
    | inr y => exact DatP.rd (K := K) (R := rSt3) (x := y) h, fun x => by cases x <;> rfl, 1, fun x => by cases x <;> exact Nat.le_refl _, fun x y => by
    cases x with
    | inl a =>
      cases y with
      | inl b =>
        have := DatP.eq (K := K) (R := rSt2) a b
        exact this.trans ⟨fun e => by rw [e], fun e => Sum.inl.inj e⟩
      | inr b => simp [stD, PyData.eqv, PyData.eqvAll]
    | inr a =>
      cases y with
      | inl b => simp [stD, PyData.eqv, PyData.eqvAll]
      | inr b =>
        have := DatP.eq (K := K) (R := rSt3) a b
        exact this.trans ⟨fun e => by rw [e], fun e => Sum.inr.inj e⟩⟩
section
variable {X : Cx} {E : Ent} {own : Own} {B H : Hp} {σ : L2.St} {a o : Expr} {p pos : Pos} {x : StT} {i : Int}
theorem ev_stL {y : Str × Int} (h : EvB X E own B H σ a rSt2 y) : EvB X E own B H σ a rSt (.inl y) := h
theorem ev_stR {y : Str × Int × Int} (h : EvB X E own B H σ a rSt3 y) : EvB X E own B H σ a rSt (.inr y) := h
theorem ev_st0 {kk} {pp : Pos} (ho : EvB X E own B H σ o rSt x) : EvB X E own B H σ (.Subscript o (.Constant (.int 0) kk pp) pos) rStr (stW x) := by
  cases x with
  | inl y => exact ev_fst (R := rStr) (S := rInt) (q := y) ho
  | inr y => exact ev_t30 (R := rStr) (S := rInt) (T := rInt) (q := y) ho
theorem ev_st1 {kk} {pp : Pos} (ho : EvB X E own B H σ o rSt x) : EvB X E own B H σ (.Subscript o (.Constant (.int 1) kk pp) pos) rInt (stA x) := by
  cases x with
  | inl y => exact ev_snd (R := rStr) (S := rInt) (q := y) ho
  | inr y => exact ev_t31 (R := rStr) (S := rInt) (T := rInt) (q := y) ho
theorem ev_st2 {kk} {pp : Pos} (ho : EvB X E own B H σ o rSt x) (hx : stX x = some i) : EvB X E own B H σ (.Subscript o (.Constant (.int 2) kk pp) pos) rInt i := by
  cases x with
  | inl y => cases hx
  | inr y =>
    cases hx
    exact ev_t32 (R := rStr) (S := rInt) (T := rInt) (q := y) ho
theorem ev_lenSt (hg : Gl X "len") (hm : X.mg "len" = none) (ha : EvB X E own B H σ a rSt x) (hs : St1 X a := by rfl) : EvB X E own B H σ (.Call (.Name "len" p) [a] [] pos) rInt (lenSt x) :=
  ev_b1 (f := lenSt) (pe_callB call_len_seq hg hm PySem.boot_len (pa1 hs) (he := hs)) ha fun H1 v Q h k => by
    cases x with
    | inl y =>
      obtain ⟨p, vs, h1, h2, h3⟩ := lenPr.l (show rSt2.r H1 v y from h)
      exact ⟨p, vs, by rw [h1], .inr (SqT.of h2), k _ (by rw [h3]; rfl)⟩
    | inr y =>
      obtain ⟨p, vs, h1, h2, h3⟩ := lenT3.l (show rSt3.r H1 v y from h)
      exact ⟨p, vs, by rw [h1], .inr (SqT.of h2), k _ (by rw [h3]; rfl)⟩
end
end Sg

namespace Sg
open PySem PySem.Spec PyProof.Rows L2 HotX
/-! ### a list comprehension over range(n) while an exception is handled -/
/-- the range's turns, the handled exception among the pins -/
structure TurnQ (Pg : Program) (wd : World) (Kf : PySem.W.Frag) (tg : Expr) (J : It) (fp : List Addr) (it : Addr) (tn : Nat → Heap → Prop) : Prop where
  ob : ∀ j h, tn j h → ∀ b ∈ fp, ∃ o, h.get? b = some o ∧ ∀ v, o.data ≠ .cell v
  kp : ∀ j h h2, tn j h → (∀ b ∈ fp, ∀ o, h.get? b = some o → h2.get? b = some o) → tn j h2
  itm : ∀ (Y : Cx), Y.prog = Pg → Y.w = wd → Y.K = Kf → ∀ (j : Nat) (pl : List (Addr × Obj)) (t : Shared) (σ : L2.St) (H : Hp) (Ex : Value → Shared → Prop), Inv Y pl σ H t → (∀ b ∈ fp, FpOk Y pl H b) → tn j t.heap → J.go j H →
    wpAny (model Pg wd) Y.A (pyNext (.ref it)) (fun r t1 => ∃ u, r = some u ∧
      wpAny (model Pg wd) Y.A (letOwnedTupleGo tg (.ref it) u) (fun _ t2 => ∃ x H2, Inv Y pl σ H2 t2 ∧ RelV x u ∧ J.yld j H x H2 ∧ tn (j + 1) t2.heap ∧ ∀ b ∈ fp, H2 b = none) Ex t1) Ex t
  fin : ∀ (Y : Cx), Y.prog = Pg → Y.w = wd → Y.K = Kf → ∀ (j : Nat) (pl : List (Addr × Obj)) (p : Addr × Obj) (t : Shared) (σ : L2.St) (H : Hp) (Ex : Value → Shared → Prop), L2H.Hot1 Y.A p → p ∈ pl → Inv Y pl σ H t → (∀ b ∈ fp, FpOk Y pl H b) → tn j t.heap → J.stop j H →
    wpAny (model Pg wd) Y.A (pyNext (.ref it)) (fun r t1 => r = none ∧ Inv Y pl σ H t1) Ex t
  slf : ∀ (A : Around) (j : Nat) (t : Shared) (Q Ex : Value → Shared → Prop), tn j t.heap → Q (.ref it) t → wpAny (model Pg wd) A (pyIter (.ref it)) Q Ex t
theorem turnQ_range {Pg : Program} {wd : World} {Kf : PySem.W.Frag} {tg : Expr} (it : Addr) (lo : Int) (n : Nat) : TurnQ Pg wd Kf tg (Itr lo n) [it] it (fun j h => IsRangeIter h it (lo + (j : Nat) * 1) ((n : Int) - (j : Nat)) 1) := by
  constructor
  · intro j h st b hb
    obtain rfl : b = it := by simpa using hb
    refine ⟨_, st, fun v z => ?_⟩
    exact Data.noConfusion (show Data.fields _ = Data.cell v from z)
  · intro j h h2 st k
    exact k it (by simp) _ st
  · intro Y e1 e2 e3 j pl t σ H Ex I hf st hg
    subst e1 e2 e3
    have fo := hf it (by simp)
    have lt : j < n := hg
    refine wpAny_pyNext_range_item st (by omega) fun hp st' sb => ?_
    have go2 : IsRangeIter hp it (lo + ((j + 1 : Nat) : Int) * 1) ((n : Int) - ((j + 1 : Nat) : Int)) 1 := by
      rw [show lo + ((j + 1 : Nat) : Int) * 1 = lo + ((j : Nat) : Int) * 1 + 1 by omega, show (n : Int) - ((j + 1 : Nat) : Int) = (n : Int) - ((j : Nat) : Int) - 1 by omega]
      exact st'
    have I2 : Inv Y pl σ H { t with heap := hp, toks := t.toks + 1 } := I.turned (fun b o hb e => (sb.2 b hb).trans e) fo.1 fo.2.1 fo.2.2.2.1 fo.2.2.2.2.1 fo.2.2.2.2.2
    exact ⟨_, rfl, go_of (s := { t with heap := hp, toks := t.toks + 1 }) (n := "range_iterator") go2 rfl rfl (by decide) ⟨.int (lo + j), H, I2, ⟨t.toks, by rw [Int.mul_one]⟩, ⟨rfl, rfl⟩, go2, fun b hb => (hf b hb).1⟩⟩
  · intro Y e1 e2 e3 j pl p t σ H Ex hot hp I hf st hg
    subst e1 e2 e3
    have fo := hf it (by simp)
    obtain ⟨hh, v1, d1, c1⟩ := hot
    have hat : HotAt Y.A p.1 t.heap := ⟨hh, p.2, v1, (I.pin p (List.mem_append_right _ hp)).1, d1, c1⟩
    have le : n ≤ j := hg
    exact pyNext_range_end_hot hat st (by omega) fun hp2 eb => ⟨rfl, I.turned (t' := t.toks) (fun b o _ e => eb b o e) fo.1 fo.2.1 fo.2.2.2.1 fo.2.2.2.2.1 fo.2.2.2.2.2⟩
  · exact fun _ _ _ _ _ st h => wpAny_pyIter_rangeiter st h
def PieQ (X : Cx) (pl : List (Addr × Obj)) (σ : L2.St) (tg : Expr) (R : It → Hp → Prop) (v : Value) (t : Shared) : Prop :=
  ∃ (it : Addr) (fp : List Addr) (tn : Nat → Heap → Prop) (J : It) (H2 : Hp), v = .ref it ∧ Inv X pl σ H2 t ∧ TurnQ X.prog X.w X.K tg J fp it tn ∧ tn 0 t.heap ∧ (∀ b ∈ fp, FpOk X pl H2 b) ∧ R J H2
structure PIQ (X : Cx) (tg iter : Expr) (wi : TI) : Prop where
  run : ∀ (pl : List (Addr × Obj)) (t : Shared) (σ : L2.St) (H : Hp) (R : It → Hp → Prop), Inv X pl σ H t → wi σ H R →
    wpAny (model X.prog X.w) X.A (eval iter X.env) (fun v t1 => wpAny (model X.prog X.w) X.A (pyIter v) (PieQ X pl σ tg R) X.xe t1) X.xe t
section
variable {X : Cx} {tg : Expr}
theorem rangeQ {pl : List (Addr × Obj)} {σ : L2.St} {H : Hp} {t : Shared} {R : It → Hp → Prop} {Er : Value → Shared → Prop} {lo hi : Int} {u1 u2 u3 : Tok} {tk : Nat} (I : Inv X pl σ H t) (l1 : -(2 ^ 62) ≤ lo) (l2 : lo < 2 ^ 62) (l3 : -(2 ^ 62) ≤ hi) (l4 : hi < 2 ^ 62)
    (q : R (Itr lo (hi - lo).toNat) H) : wpAny (model X.prog X.w) X.A (pyIter (.ref t.heap.objs.size)) (PieQ X pl σ tg R) Er { t with heap := t.heap.push { cls := .type "range", data := .fields #[.int lo u1, .int hi u2, .int 1 u3] }, toks := tk } := by
  refine wpAny_pyIter_range (IsRange.new ..) (small_one l1 l2 l3 l4) ?_
  have J1 : Inv X pl σ H { t with heap := t.heap.push { cls := .type "range", data := .fields #[.int lo u1, .int hi u2, .int 1 u3] }, toks := tk } := I.kept fun b o e => Heap.get?_push_of_some _ e
  generalize hn : (t.heap.push { cls := .type "range", data := .fields #[.int lo u1, .int hi u2, .int 1 u3] }).objs.size = nw at *
  refine ⟨nw, [nw], _, _, H, rfl, J1.kept (t' := tk) fun b o e => Heap.get?_push_of_some _ e, turnQ_range _ lo (hi - lo).toNat, ?_, fun b hb => ?_, q⟩
  · have z2 : (((hi - lo).toNat : Nat) : Int) - ((0 : Nat) : Int) = Builtin.Range.rangeSize lo hi 1 := by
      rw [rangeSize_one]
      split <;> omega
    show IsRangeIter _ _ (lo + ((0 : Nat) : Int) * 1) ((((hi - lo).toNat : Nat) : Int) - ((0 : Nat) : Int)) 1
    rw [show lo + ((0 : Nat) : Int) * 1 = lo by simp, z2, ← hn]
    exact Heap.get?_push_size _ rfl
  · obtain rfl : b = nw := by simpa using hb
    have le : ({ t with heap := t.heap.push { cls := .type "range", data := .fields #[.int lo u1, .int hi u2, .int 1 u3] }, toks := tk } : Shared).heap.objs.size ≤ b := Nat.le_of_eq hn
    exact J1.fpOk le (J1.hok.fresh le)
theorem piQ_range {a : Expr} {ta : TA} {p pos : Pos} (hg : Gl X "range") (hm : X.mg "range" = none) (ha : PA X [a] ta) (hs : starEach [a] X.env = [(false, eval a X.env)] := by rfl) : PIQ X tg (.Call (.Name "range" p) [a] [] pos) (iRng1 ta) := by
  constructor
  intro pl t σ H R I h
  refine Call_ (ld_blt I hg hm boot_range (PyProof.Rows.callWith_type1 (thn (ha.run pos pl t σ H _ I h) fun us t1 ⟨vs, H1, J1, r1, j, e, q1, q2, q⟩ => ?_) hs rfl))
  subst e
  cases r1 with
  | cons r rr =>
    cases rr
    obtain ⟨tt, rfl⟩ := r
    exact call_range_1 (rangeQ J1 (by omega) (by omega) q1 q2 (by simpa using q))
end
section
variable {X : Cx}
theorem pe_lcQ {p : Addr × Obj} {elt tg iter : Expr} {ifs : List Expr} {scope : Scope} {nm : List (Str × Nat)} {pos : Pos} {wi : TI} {g : TG} {tt : TT} {te : TE} (hot : L2H.Hot1 X.A p) (hpn : p ∈ X.pn) (nd : X.N.Nodup) (hi : PIQ X tg iter wi) (ok : BlkOk X.N X.env.scope scope nm)
    (bg : ∀ (s : Shared) (H : Hp) (C : Addr) (cl : List (Str × Addr)) (fp : List Addr), PG (X.blk s H scope (compEnvC scope cl C X.env) fp) tg g) (bt : ∀ (s : Shared) (H : Hp) (C : Addr) (cl : List (Str × Addr)) (fp : List Addr), PTs (X.blk s H scope (compEnvC scope cl C X.env) fp) ifs tt)
    (be : ∀ (s : Shared) (H : Hp) (C : Addr) (cl : List (Str × Addr)) (fp : List Addr), PE (X.blk s H scope (compEnvC scope cl C X.env) fp) elt te) (hs : ∀ x, foldedSetIterable iter X.env x = pure x := by intro _; rfl) :
    PE X (.ListComp elt [⟨tg, iter, ifs, 0⟩] scope pos) (tLc wi g tt te (nm.map (·.2))) := by
  constructor
  intro pins s σ H Q I h
  rw [eval_ListComp]
  have caught : ∀ y ∈ scope.names, y.2 = .free → ∃ c, X.env.cells.lookup y.1 = some c := by
    intro y hy e
    rcases ok.free y hy e with k | k
    · exact I.ok.has _ (.inl k)
    · exact I.ok.has _ (.inr k)
  refine wpAny_comprehension_free (use := none) rfl hs (closure_ok caught) ok.kind (fun y hy e => by rw [ok.uniq y hy, e]) (thn (hi.run pins s σ H _ I h) fun xv s1 hx => thn hx fun itv s2 h2 => ?_)
  obtain ⟨it, fp, tn, J, H2, rfl, I2, T, st2, f2, q⟩ := h2
  refine wpAny_newObj_type (newEnv_comp ?_) (by show 0 ≤ sizeLine; decide)
  generalize hL : s2.heap.objs.size = L
  have nL : H2 L = none := I2.hok.fresh (Nat.le_of_eq hL)
  obtain ⟨W, ⟨m0, w0⟩, turn⟩ := q L nL
  generalize hs3 : ({ s2 with heap := s2.heap.push { cls := .type "list", data := .seq ([] : List Value).toArray } } : Shared) = s3
  have I3 : Inv X pins σ (upd H2 L (.lst [])) s3 := by
    subst hs3
    refine I2.laid (t' := s2.toks) (fun b o e => Heap.get?_push_of_some _ e) (Nat.le_of_eq hL) ⟨Nat.zero_le _, [], 0, .nil, ?_⟩
    subst hL
    exact Heap.get?_push_size _ rfl
  have hp3 : s3.heap = s2.heap.push { cls := .type "list", data := .seq ([] : List Value).toArray } := by rw [← hs3]
  have small : ∀ b ∈ fp, b < s2.heap.objs.size := by
    intro b hb
    obtain ⟨o, e, _⟩ := T.ob _ _ st2 b hb
    exact Heap.lt_size e
  have f3 : ∀ b ∈ fp, FpOk X pins (upd H2 L (.lst [])) b ∧ b < s3.heap.objs.size := by
    intro b hb
    have lt := small b hb
    refine ⟨⟨?_, (f2 b hb).2⟩, by rw [hp3, Heap.size_push]; exact Nat.lt_succ_of_lt lt⟩
    rw [upd_ne (hL ▸ Nat.ne_of_lt lt)]
    exact (f2 b hb).1
  have st3 : tn 0 s3.heap := T.kp _ _ _ st2 fun b _ o e => by rw [hp3]; exact Heap.get?_push_of_some _ e
  have I4 := block_start I3 ok nd f3
  have ip := I3.pin p (List.mem_append_left _ hpn)
  have pg := bg s3 (upd H2 L (.lst [])) s3.heap.objs.size (cellsFrom (s3.heap.objs.size + 1) scope.names (cloFrom X.env.cells scope.names [])) fp
  have pt := bt s3 (upd H2 L (.lst [])) s3.heap.objs.size (cellsFrom (s3.heap.objs.size + 1) scope.names (cloFrom X.env.cells scope.names [])) fp
  have pe := be s3 (upd H2 L (.lst [])) s3.heap.objs.size (cellsFrom (s3.heap.objs.size + 1) scope.names (cloFrom X.env.cells scope.names [])) fp
  show codeAny _ _ (.compStart (.ListComp elt [⟨tg, iter, ifs, 0⟩] scope pos) 0 (.ref it) (.ref L) (compEnvC scope (cellsFrom (s3.heap.objs.size + 1) scope.names (cloFrom X.env.cells scope.names [])) s3.heap.objs.size X.env)) (compPost (model X.prog X.w) X.A X.xe none (EP X pins σ Q) (.ref L) s3.heap.objs.size) { s3 with heap := pushCells (s3.heap.push { cls := .type "dict", data := .dict #[] }) scope.names }
  have f3n : ∀ b ∈ fp, (upd H2 L (.lst [])) b = none := fun b hb => (f3 b hb).1.1
  generalize hce : compEnvC scope (cellsFrom (s3.heap.objs.size + 1) scope.names (cloFrom X.env.cells scope.names [])) s3.heap.objs.size X.env = ce at I4 pg pt pe ⊢
  have cL : ce.locals = s3.heap.objs.size := by subst hce; rfl
  generalize hH3 : upd H2 L (.lst []) = H3 at I3 I4 pg pt pe w0 f3n f3 ip
  generalize hs4 : ({ s3 with heap := pushCells (s3.heap.push { cls := .type "dict", data := .dict #[] }) scope.names } : Shared) = s4 at I4 ⊢
  have k34 : ∀ b o, s3.heap.get? b = some o → s4.heap.get? b = some o := fun b o e => by rw [← hs4]; exact pushCells_keeps _ _ _ _ (Heap.get?_push_of_some _ e)
  have st4 : tn 0 s4.heap := T.kp _ _ _ st3 fun b _ o e => k34 b o e
  -- the handled exception is no object of the block's
  have npL : p.1 ≠ ce.locals := by
    rw [cL]
    exact Nat.ne_of_lt (Heap.lt_size ip.1)
  have npF : p.1 ∉ (X.blk s3 H3 scope ce fp).fs := fun hm => by
    rcases List.mem_cons.mp (I3.stkSub p.1 hm) with z | z
    · exact ip.2.2.1 z
    · exact ip.2.2.2.1 z
  have I4p : Inv (X.blk s3 H3 scope ce fp) [p] (wipe σ (nm.map (·.2))) H3 s4 := I4.pins_of fun q hq => by
    obtain rfl : q = p := by simpa using hq
    exact ⟨k34 _ _ ip.1, ip.2.1, npL, npF, ip.2.2.2.2⟩
  have stat : ∀ {σ' : L2.St} {H' : Hp} {s' : Shared}, Inv (X.blk s3 H3 scope ce fp) [p] σ' H' s' → (∀ b ∈ fp, H' b = none) → ∀ b ∈ fp, FpOk (X.blk s3 H3 scope ce fp) [p] H' b := by
    intro σ' H' s' I' hn b hb
    refine ⟨hn b hb, (I'.ok.exf b hb).1, I'.ok.exfs b hb, .inl hb, fun x c e => (I'.ok.exf b hb).2 x c e, fun q hq => ?_⟩
    obtain rfl : q = p := by simpa using (show q ∈ ([] : List (Addr × Obj)) ++ [p] from hq)
    exact (f3 b hb).1.2.2.2.2.2 q (List.mem_append_left _ hpn)
  have loop : codeAny (model X.prog X.w) X.A (.compLoop (.ListComp elt [⟨tg, iter, ifs, 0⟩] scope pos) 0 (.ref it) (.ref L) ce) (compPost (model X.prog X.w) X.A X.xe none (EP X pins σ Q) (.ref L) s3.heap.objs.size) s4 := by
    refine compLoop_any (fun n s' => ∃ j H', Inv (X.blk s3 H3 scope ce fp) [p] (wipe σ (nm.map (·.2))) H' s' ∧ tn j s'.heap ∧ (∀ b ∈ fp, H' b = none) ∧ W j n H') ?_ m0 ⟨0, H3, I4p, st4, f3n, w0⟩
    rintro n s5 ⟨j, H5, I5, st5, n5, w5⟩
    rcases turn j n H5 w5 with ⟨stop, qq⟩ | ⟨go, Nx, hNx, step⟩
    · refine thnF (T.fin (X.blk s3 H3 scope ce fp) rfl rfl rfl j [p] p s5 _ H5 (fun _ _ => False) hot (by simp) I5 (stat I5 n5) st5 stop) fun r s6 ⟨hr, I6⟩ => ?_
      subst hr
      have I7 : Inv X pins σ H5 s6 := I3.call' (ch := fp) I6.os I6.base I6.hok I6.bare fun b hb => ⟨(f3 b hb).1.2.2.2.1, (f3 b hb).1.2.1, (f3 b hb).1.2.2.2.2.1, (f3 b hb).1.2.2.2.2.2⟩
      have nC : H5 s3.heap.objs.size = none := cL ▸ (show H5 ce.locals = none from I6.free)
      obtain ⟨m, hn, _⟩ := I6.loc
      have hn : s6.heap.Ns s3.heap.objs.size m := cL ▸ (show s6.heap.Ns ce.locals m from hn)
      obtain ⟨g0, g1, g2, g3, g4, g5⟩ := I3.fpOk (Nat.le_refl _) nC
      exact ⟨m, hn, fun h'' sb => ⟨.ref L, H5, I7.turned (t' := s6.toks) (fun b o hb e => (sb.2 b hb).trans e) g0 g1 g3 g4 g5, rfl, qq⟩⟩
    · refine thnF (T.itm (X.blk s3 H3 scope ce fp) rfl rfl rfl j [p] s5 _ H5 (fun _ _ => False) I5 (stat I5 n5) st5 go) fun r s6 ⟨u, hr, h6⟩ => ?_
      subst hr
      refine thnF h6 fun _ s7 ⟨x, H7, I7, r7, y7, st7, n7⟩ => ?_
      have I7q := I7.pinned (stat I7 n7) (T.ob _ _ st7)
      refine thnF (pg.run _ s7 _ H7 x u _ I7q r7 (step x H7 y7)) fun _ s8 ⟨σ8, H8, I8, hw8, q8⟩ => ?_
      refine thnF (pt.run _ s8 σ8 H8 _ I8 q8) fun b s9 ⟨H9, I9, q9⟩ => ?_
      have close : ∀ {s' : Shared} {H' : Hp}, Inv (X.blk s3 H3 scope ce fp) ([p] ++ pinsAt fp s7.heap) σ8 H' s' → Nx H' → ∃ m, m < n ∧ ∃ j H', Inv (X.blk s3 H3 scope ce fp) [p] (wipe σ (nm.map (·.2))) H' s' ∧ tn j s'.heap ∧ (∀ b ∈ fp, H' b = none) ∧ W j m H' := by
        intro s' H' I' nx
        obtain ⟨m2, hm2, w2⟩ := hNx H' nx
        have stay : ∀ b ∈ fp, ∀ o, s7.heap.get? b = some o → s'.heap.get? b = some o ∧ H' b = none := by
          intro b hb o e
          have z := I'.pin (b, o) (List.mem_append_right _ (List.mem_append_right _ (mem_pinsAt hb e)))
          exact ⟨z.1, z.2.1⟩
        refine ⟨m2, hm2, j + 1, H', (I'.unpinned (pins := [p])).weak (by rw [← hw8, wipe_length]) (fun i v e => ?_), T.kp _ _ _ st7 fun b hb o e => (stay b hb o e).1, fun b hb => ?_, w2⟩
        · rw [← hw8] at e
          exact (wipe_some e).1
        · obtain ⟨o, e, _⟩ := T.ob _ _ st7 b hb
          exact (stay b hb o e).2
      cases b with
      | false =>
        simp only [Bool.false_eq_true, if_false] at q9 ⊢
        exact close I9 q9
      | true =>
        simp only [if_true] at q9 ⊢
        refine thnF (pe.run _ s9 σ8 H9 _ I9 q9) fun z s10 ⟨yv, H10, I10, r10, acc, hD10, hz10, nx⟩ => ?_
        exact app_ok (X := X.blk s3 H3 scope ce fp) I10 hD10 hz10 r10 fun s11 I11 => close I11 nx
  exact codeAny_compStart_list loop (T.slf X.A 0 _ _ _ st4 loop)
end
section
variable {X Xb : Cx} {E : Ent} {own : Own} {B H : Hp} {σ : L2.St} {α β : Type} {S : Rel β} {elt a tg : Expr} {p2 p3 pos : Pos} {k j : Nat} {ys : List β} {n : Str} {scope : Scope} {p : Addr × Obj} {hi : Int}
theorem tg_nameQ {R : Rel α} (nd : X.N.Nodup) (L : Slot X j n) : TgOk X E (.Name n pos) R (tN j R) := ⟨_, pg_name (i := j) nd L.ix L.loc L.hf, fun own B H v x σ S r Q k => k _ ⟨v, r, rfl⟩⟩
theorem Hok.hu64 (C : Hok X k p) : X.A.units + 64 < cLine := by
  have u := C.room.un
  omega
theorem Blk.nd (h : Blk X scope Xb) (C : Hok X k p) : Xb.N.Nodup := by
  obtain ⟨s, H, Cc, cl, fp, rfl⟩ := h
  exact C.nd
/-- [elt for i in range(n) if ..], as a value -/
theorem el_lcQ {cm : Int → Res Bool} {fm : Int → Res β} {ifs : List Expr} {ownN : List (Str × Nat)} {Tg : Int → Hp → L2.St → L2.St → Prop} (C : Hok X k p) (ok : BlkOk X.N X.env.scope scope ownN) (hg : Gl X "range") (hmr : X.mg "range" = none) (ha : EvB X E own B H σ a rInt hi) (hz : -8000000 ≤ hi ∧ hi ≤ 8000000)
    (ht : ∀ Xb, Blk X scope Xb → TgOk Xb E tg rInt Tg) (hm : mfM cm fm (rangeI 0 hi) = .ok ys)
    (hc : ∀ Xb x σ2 acc Dd B3 H3 b, Blk X scope Xb → Stt E ((Dd, .lst acc) :: own) B3 H3 → Ex B B3 → Tg x B3 (wipe σ (ownN.map (·.2))) σ2 → cm x = .ok b → EvTs Xb E ((Dd, .lst acc) :: own) B3 H3 σ2 ifs b)
    (he : ∀ Xb x y σ2 acc Dd B3 H3, Blk X scope Xb → Stt E ((Dd, .lst acc) :: own) B3 H3 → Ex B B3 → Tg x B3 (wipe σ (ownN.map (·.2))) σ2 → cm x = .ok true → fm x = .ok y → EvE Xb E ((Dd, .lst acc) :: own) B3 H3 σ2 elt S y)
    (hwp : ∀ x B3 σ2, Tg x B3 (wipe σ (ownN.map (·.2))) σ2 → wipe σ2 (ownN.map (·.2)) = wipe σ (ownN.map (·.2)))
    (hup : ∀ x B3 B4 σ2, Tg x B3 (wipe σ (ownN.map (·.2))) σ2 → Ex B3 B4 → Tg x B4 (wipe σ (ownN.map (·.2))) σ2)
    (hs : St1 X a := by rfl) (hs' : starEach [a] X.env = [(false, eval a X.env)] := by rfl)
    (hf : ∀ x, foldedSetIterable (.Call (.Name "range" p2) [a] [] p3) X.env x = pure x := by intro _; rfl) : EvL X E own B H σ (.ListComp elt [⟨tg, .Call (.Name "range" p2) [a] [] p3, ifs, 0⟩] scope pos) S ys := fun B1 H1 S1 e1 e2 Q k => by
  refine WE.of (pe_lcQ C.hot C.mem C.nd (piQ_range hg hmr (pa1 hs) hs') ok (fun s H Cc cl fp => ⟨fun pins s' σ H' v u Q I r h => h _ ⟨s, H, Cc, cl, fp, rfl⟩ pins s' u I r⟩) (fun s H Cc cl fp => ⟨fun pins s' σ H' Q I h => h _ ⟨s, H, Cc, cl, fp, rfl⟩ pins s' I⟩) (fun s H Cc cl fp => ⟨fun pins s' σ H' Q I h => h _ ⟨s, H, Cc, cl, fp, rfl⟩ pins s' I⟩) (g := gB X scope tg) (tt := ttB X scope ifs) (te := teB X scope elt) hf) ?_
  refine ha B1 H1 S1 e1 e2 _ fun v B2 H2 S2 e3 e4 r => ⟨hi, by rw [show v = .int hi from r], by omega, by omega, ?_⟩
  have q := walk_range (E := E) (B := B2) (lo := 0) (hi := hi)
  rw [Int.sub_zero] at q
  exact lc_read S2 q (by rw [rangeI_len, sizeLine_eq]; omega) (fun _ _ => trivial) ht hm (fun Xb x σ2 acc Dd B3 H3 b hX S3 e5 => hc Xb x σ2 acc Dd B3 H3 b hX S3 ((e1.trans e3).trans e5)) (fun Xb x y σ2 acc Dd B3 H3 hX S3 e5 => he Xb x y σ2 acc Dd B3 H3 hX S3 ((e1.trans e3).trans e5)) hwp hup
    fun p us B3 H3 S3 e5 e6 r => k p us B3 H3 S3 (e3.trans e5) (e4.trans e6) r
end
end Sg

namespace Sg
open PySem PySem.Spec PyProof.Rows L2
/-! ### defs that change what they get -/
def less (H : Hp) (ps : List Addr) : Hp := fun a => if a ∈ ps then none else H a
def Ows (io : Own) (B H : Hp) : Prop := (io.map (·.1)).Nodup ∧ ∀ q ∈ io, B q.1 = none ∧ H q.1 = some q.2
section
variable {E : Ent} {own new io rest : Own} {B H B' H' : Hp} {ps : List Addr} {p : Addr} {o : HO}
theorem less_in (h : p ∈ ps) : less H ps p = none := if_pos h
theorem less_out (h : p ∉ ps) : less H ps p = H p := if_neg h
theorem less_some (h : less H ps p = some o) : p ∉ ps ∧ H p = some o := by
  by_cases q : p ∈ ps
  · rw [less_in q] at h
    cases h
  · rw [less_out q] at h
    exact ⟨q, h⟩
theorem less_none (h : less H ps p = none) : p ∈ ps ∨ H p = none := by
  by_cases q : p ∈ ps
  · exact .inl q
  · rw [less_out q] at h
    exact .inr h
theorem Stt.enterIO (b : Sx B H) (t : Tx H B) (o : Ows io B H) : Stt ⟨B, less H (io.map (·.1))⟩ io B H :=
  ⟨Sx.refl _, fun a u e => (less_some e).2, b, t, fun _ _ e => .inl e, fun q hq => ⟨less_in (List.mem_map.mpr ⟨q, hq, rfl⟩), o.2 q hq⟩, o.1⟩
theorem Stt.ows (S : Stt E (io ++ rest) B H) : Ows io B H := by
  have n := S.nd
  rw [List.map_append] at n
  exact ⟨(List.nodup_append.mp n).1, fun q hq => (S.ow q (List.mem_append_left _ hq)).2⟩
/-- behind a call that changes what it got -/
theorem Stt.callIO (S : Stt E (io ++ rest) B H) (T : Stt ⟨B, less H (io.map (·.1))⟩ new B' H') : Stt E (new ++ rest) B' H' := by
  have nd := S.nd
  rw [List.map_append] at nd
  have dis : ∀ q ∈ rest, q.1 ∉ io.map (·.1) := fun q hq z => (List.nodup_append.mp nd).2.2 _ z _ (List.mem_map.mpr ⟨q, hq, rfl⟩) rfl
  have ioN : ∀ a, a ∈ io.map (·.1) → E.H0 a = Option.none := fun a ha => by
    obtain ⟨q, hq, rfl⟩ := List.mem_map.mp ha
    exact (S.ow q (List.mem_append_left _ hq)).1
  have hN : ∀ a, less H (io.map (·.1)) a = Option.none → E.H0 a = Option.none := fun a h => by
    rcases less_none h with h | h
    · exact ioN a h
    · exact S.h0.free h
  refine ⟨S.b0.trans T.b0, fun a u e => T.h0 a u ?_, T.bh, T.tu, fun a u e => ?_, fun q hq => ?_, ?_⟩
  · show less H (io.map (·.1)) a = some u
    rw [less_out fun z => by rw [ioN a z] at e; cases e]
    exact S.h0 a u e
  · rcases T.fr a u e with h | h
    · exact S.fr a u h
    · exact .inr (hN a h)
  · rcases List.mem_append.mp hq with hq | hq
    · obtain ⟨h1, h2, h3⟩ := T.ow q hq
      exact ⟨hN _ h1, h2, h3⟩
    · obtain ⟨h1, h2, h3⟩ := S.ow q (List.mem_append_right _ hq)
      have hl : less H (io.map (·.1)) q.1 = some q.2 := (less_out (dis q hq)).trans h3
      refine ⟨h1, ?_, T.h0 _ _ hl⟩
      cases e : B' q.1 with
      | none => rfl
      | some u =>
        rcases T.fr _ _ e with z | z
        · have z' : B q.1 = some u := z
          rw [h2] at z'
          cases z'
        · have z' : less H (io.map (·.1)) q.1 = Option.none := z
          rw [hl] at z'
          cases z'
  · rw [List.map_append]
    refine List.nodup_append.mpr ⟨T.nd, (List.nodup_append.mp nd).2.1, fun a ha b hb e => ?_⟩
    subst e
    obtain ⟨q, hq, e1⟩ := List.mem_map.mp ha
    obtain ⟨r, hr, e2⟩ := List.mem_map.mp hb
    have h1 : less H (io.map (·.1)) q.1 = Option.none := (T.ow q hq).1
    rw [e1, ← e2, less_out (dis r hr), (S.ow r (List.mem_append_right _ hr)).2.2] at h1
    cases h1
end
/-- an argument that is changed: the k-th one of these -/
def aI (k : Nat) (io : Own) (A : AR) : AR := ⟨fun vs B H => ∃ p r, vs = .ref p :: r ∧ (io.map (·.1))[k]? = some p ∧ A.r r B H, fun b e ⟨p, r, h1, h2, h3⟩ => ⟨p, r, h1, h2, A.mono b e h3⟩⟩
/-- the promise of a def that changes what it gets: what is handed back, and what stands there then -/
def SpIO {δ τ τ' ρ : Type} (ar : δ → Own → AR) (SH : Own → Hp → τ → Prop) (SH' : Own → Hp → τ' → Prop) (R : Rel ρ) (f : δ → τ → Res (ρ × τ')) : Sp := fun vs H Q _ => ∃ B d io x, Sx B H ∧ Tx H B ∧ Ows io B H ∧ SH io B x ∧ (ar d io).r vs B H ∧
  Fin (fun r => ∀ v io' B' H', Stt ⟨B, less H (io.map (·.1))⟩ io' B' H' → io'.map (·.1) = io.map (·.1) → R.r B' v r.1 → SH' io' B' r.2 → Q v H') NoErr (f d x)
section
variable {X : Cx} {E : Ent} {own new own' io rest' : Own} {B H B' H' : Hp} {σ : L2.St} {α β γ τ τ' ρ δ : Type} {R : Rel α} {S : Rel β} {T : Rel γ} {e a b c o it : Expr} {x : α} {y : β} {p pos pos' apos : Pos} {i j k k0 : Nat} {z w : Bool} {xs : List α} {es : List Expr}
variable {n m : Str} {rest body other : List Stmt} {D : Ends} {P : ρ → Prop} {Er : Err → Prop} {ps : List Str} {A : AR}
variable {ar : δ → Own → AR} {SH : Own → Hp → τ → Prop} {SH' : Own → Hp → τ' → Prop} {RR : Rel ρ} {f : δ → τ → Res (ρ × τ')} {vs : List V} {Q : VK}
theorem io_sp {r : ρ × τ'} {t : τ} {d : δ} (S1 : Stt E (io ++ rest') B H) (hx : SH io B t) (ha : (ar d io).r vs B H) (hm : f d t = .ok r)
    (k : ∀ v io' B' H', Stt E (io' ++ rest') B' H' → Ex B B' → io'.map (·.1) = io.map (·.1) → RR.r B' v r.1 → SH' io' B' r.2 → Q v H') : SpIO ar SH SH' RR f (vs ++ []) H Q E0 := by
  rw [List.append_nil]
  exact ⟨B, d, io, t, S1.bh, S1.tu, S1.ows, hx, ha, Fin.eq hm fun v io' B2 H2 T e r1 r2 => k v io' B2 H2 (S1.callIO T) T.b0.ex e r1 r2⟩
theorem we_call {sp : Sp} (C : Cok X k0) (G : Cal X k n ps sp) (hk : k ≤ k0) (hg : Gl X n) (ha : WA X (e :: es) σ H fun vs H2 => sp (vs ++ []) H2 Q E0)
    (hdb : (n == ("__debug__" : Str)) = false := by rfl) (he : starEach (e :: es) X.env = (false, eval e X.env) :: starEach es X.env := by rfl) (hpl : (backTo pos (starEach es X.env)).any (·.1) = false := by rfl) : WE X (.Call (.Name n p) (e :: es) [] pos) σ H Q :=
  WE.of (pe_cal C G hk hg hdb he hpl) ha
theorem wa_nil {Q : List V → Hp → Prop} (h : Q [] H) : WA X [] σ H Q := WA.of pa_nil h
theorem wa_cons {Q : List V → Hp → Prop} (h : WE X e σ H fun v H2 => WA X es σ H2 fun vs H3 => Q (v :: vs) H3) (hs : starEach (e :: es) X.env = (false, eval e X.env) :: starEach es X.env := by rfl) : WA X (e :: es) σ H Q := WA.of (pa_cons peW paW hs) h
theorem we_name {v : V} (hp : PE X e (tVar i)) (h : σ[i]? = some (some v)) (q : Q v H) : WE X e σ H Q := WE.of hp ⟨v, h, q⟩
/-- a tuple, what stands in it first -/
theorem we_tup {Q : VK} {x1} (h : WA X es σ H fun vs H2 => vs.length ≤ sizeLine ∧ ∀ p, H2 p = none → Q (.ref p) (upd H2 p (.tup vs))) : WE X (.Tuple es x1 pos) σ H Q := WE.of (pe_tup paW) h
/-! rows -/
theorem s_dropW (h : WE X e σ H fun _ H2 => WSs X rest D σ H2) (hs : swapsWith e none pos.line X.env = pure false := by rfl) : WSs X (.Expr e pos :: rest) D σ H := WSs.cons (ps_expr peW hs) h
theorem s_asgW (C : Cok X k) (L : Slot X i n) (h : WE X e σ H fun v H2 => WSs X rest D (σ.set i (some v)) H2) (hs : swapsWith e (some (.Name n pos')) pos.line X.env = pure false := by rfl) : WSs X (.Assign [.Name n pos'] e pos :: rest) D σ H := WSs.cons (ps_set C.nd L.ix L.loc peW hs L.hf) h
theorem s_retW (h : WE X e σ H D.rt) : WSs X (.Return (some e) pos :: rest) D σ H := WSs.cons (ps_ret peW) h
theorem s_retWN (h : D.rt .non H) : WSs X (.Return none pos :: rest) D σ H := WSs.cons ps_retN h
theorem ee_w (S0 : Stt E own B H) (he : EvE X E own B H σ e R x) (q : ∀ v B' H', Stt E own B' H' → Ex B B' → R.r B' v x → Q v H') : WE X e σ H Q := he B H S0 (Ex.refl _) (Ex.refl _) _ fun v B2 H2 S2 e1 _ r => q v B2 H2 S2 e1 r
end
/-! ### a def's promise from its body -/
section
variable {P : Program} {w : World} {K : PySem.W.Frag} {mg : Str → Option Value} {base : Heap}
theorem fun_okS {x qual : Str} {st : Stmt} {f : Addr} {fd : FuncData} {N ps : List Str} {k : Nat} {sp : Sp} (F : Fun K x qual st f fd) (S : FnScope N ps (defScope st)) (hl : ∀ vs H Q E, sp vs H Q E → vs.length = ps.length)
    (body : ∀ X : Cx, X.prog = P → X.w = w → X.K = K → X.mg = mg → X.base = base → Cok X k → Scp X N (defScope st) → (∀ x, X.fn x = true) → ∀ H vs (Q : VK) E, sp vs H Q E →
      WSs X (defBody st) { nx := fun _ H' => Q .non H', rt := Q } (start N vs) H) : FnOk P w K mg base CX0 (k + 1) f fd ps sp := by
  refine F.ok S hl (fun cdv A outer s H vs Q E hr h => ?_)
  exact ⟨_, pssW, body ((cxOf CX0 P w K mg base N qual (defScope st) f cdv A outer s H E).nox) rfl rfl rfl rfl rfl ⟨rfl, S.nd, hr, PassesOwn.never⟩ ⟨rfl, rfl⟩ (fun _ => rfl) H vs Q E h⟩
end
end Sg

namespace Sg
open PySem PySem.Spec PyProof.Rows L2
/-! ### things of two kinds -/
mutual
def dtag : PyData → List Nat
  | .none => [3]
  | .bool _ => [1]
  | .int _ => [1]
  | .str _ => [2]
  | .list _ => [4]
  | .dict _ => [6]
  | .tuple xs => 5 :: dtags xs
def dtags : List PyData → List Nat
  | [] => [0]
  | x :: r => dtag x ++ dtags r
end
mutual
theorem eqv_tag : ∀ a b : PyData, PyData.eqv a b = true → dtag a = dtag b
  | .tuple xs, .tuple ys, h => by
    have h' : PyData.eqvAll xs ys = true := by simpa [PyData.eqv] using h
    show 5 :: dtags xs = 5 :: dtags ys
    rw [eqv_tags xs ys h']
  | .none, b, h => by cases b <;> first | rfl | simp [PyData.eqv] at h
  | .bool _, b, h => by cases b <;> first | rfl | simp [PyData.eqv] at h
  | .int _, b, h => by cases b <;> first | rfl | simp [PyData.eqv] at h
  | .str _, b, h => by cases b <;> first | rfl | simp [PyData.eqv] at h
  | .list _, b, h => by cases b <;> first | rfl | simp [PyData.eqv] at h
  | .dict _, b, h => by cases b <;> first | rfl | simp [PyData.eqv] at h
  | .tuple _, .none, h => by simp [PyData.eqv] at h
  | .tuple _, .bool _, h => by simp [PyData.eqv] at h
  | .tuple _, .int _, h => by simp [PyData.eqv] at h
  | .tuple _, .str _, h => by simp [PyData.eqv] at h
  | .tuple _, .list _, h => by simp [PyData.eqv] at h
  | .tuple _, .dict _, h => by simp [PyData.eqv] at h
theorem eqv_tags : ∀ xs ys : List PyData, PyData.eqvAll xs ys = true → dtags xs = dtags ys
  | [], [], _ => rfl
  | [], y :: r, h => by simp [PyData.eqvAll] at h
  | x :: r, [], h => by simp [PyData.eqvAll] at h
  | x :: r, y :: q, h => by
    rw [PyData.eqvAll, Bool.and_eq_true] at h
    show dtag x ++ dtags r = dtag y ++ dtags q
    rw [eqv_tag x y h.1, eqv_tags r q h.2]
end
section
variable {K : PySem.W.Frag} {α β γ : Type} {R : Rel α} {S : Rel β} {T : Rel γ}
/-- of which kinds the data are -/
class DTg (K : PySem.W.Frag) {α : Type} (R : Rel α) [D : DatP K R] where
  ts : List (List Nat)
  ok : ∀ x, dtag (D.d x) ∈ ts
instance : DTg K rInt := ⟨[[1]], fun _ => List.mem_singleton.mpr rfl⟩
instance : DTg K rBool := ⟨[[1]], fun _ => List.mem_singleton.mpr rfl⟩
instance : DTg K rStr := ⟨[[2]], fun _ => List.mem_singleton.mpr rfl⟩
instance [DatP K R] : DTg K (rLst R) := ⟨[[4]], fun _ => List.mem_singleton.mpr rfl⟩
instance [D : DatP K R] [F : DatP K S] [P : DTg K R] [Q : DTg K S] : DTg K (rPr R S) := ⟨P.ts.flatMap fun a => Q.ts.map fun b => 5 :: (a ++ (b ++ [0])), fun x => List.mem_flatMap.mpr ⟨_, P.ok x.1, List.mem_map.mpr ⟨_, Q.ok x.2, rfl⟩⟩⟩
instance : DTg K rSt := ⟨[[5, 2, 1, 0], [5, 2, 1, 1, 0]], fun x => by cases x <;> simp [DatP.d, stD, dtag, dtags]⟩
def rUn (R : Rel α) (S : Rel β) : Rel (α ⊕ β) := ⟨fun H v x => match x with
  | .inl y => R.r H v y
  | .inr z => S.r H v z, fun {H H' v x} e h => by
  cases x with
  | inl y => exact R.mono e h
  | inr z => exact S.mono e h⟩
instance [Imm R] [Imm S] : Imm (rUn R S) := ⟨fun {H H' v x} e h => by
  cases x with
  | inl y => exact Imm.imm (R := R) e h
  | inr z => exact Imm.imm (R := S) e h⟩
instance [NN R] [NN S] : NN (rUn R S) := ⟨fun {H v x} h => by
  cases x with
  | inl y => exact NN.nn (R := R) h
  | inr z => exact NN.nn (R := S) h⟩
instance {R : Hp → Rel α} {S : Hp → Rel β} [AntiN R] [AntiN S] : AntiN (fun B => rUn (R B) (S B)) := ⟨fun {Bo B H v x} e h => by
  cases x with
  | inl y => exact AntiN.an (RR := R) e h
  | inr z => exact AntiN.an (RR := S) e h⟩
instance {R : Hp → Rel α} [AntiN R] : AntiN (fun B => rOpt (R B)) := ⟨fun {Bo B H v x} e h => by
  cases x with
  | none => exact h
  | some y => exact ⟨h.1, AntiN.an (RR := R) e h.2⟩⟩
/-- data of one kind or the other, never alike -/
@[reducible] def datUn [D : DatP K R] [F : DatP K S] [P : DTg K R] [Q : DTg K S] (hd : (P.ts.all fun t => !(Q.ts.contains t)) = true) : DatP K (rUn R S) where
  d := fun x => match x with
    | .inl y => D.d y
    | .inr z => F.d z
  rd := fun {H v x} h => by
    cases x with
    | inl y => exact D.rd h
    | inr z => exact F.rd h
  pl := fun x => by
    cases x with
    | inl y => exact D.pl y
    | inr z => exact F.pl z
  n := max D.n F.n
  dep := fun x => by
    cases x with
    | inl y => exact Nat.le_trans (D.dep y) (Nat.le_max_left _ _)
    | inr z => exact Nat.le_trans (F.dep z) (Nat.le_max_right _ _)
  eq := fun x y => by
    have dis : ∀ (a : α) (b : β), dtag (D.d a) ≠ dtag (F.d b) := fun a b e => by
      have h1 := List.all_eq_true.mp hd _ (P.ok a)
      rw [e] at h1
      have h2 : Q.ts.contains (dtag (F.d b)) = true := List.contains_iff_mem.mpr (Q.ok b)
      rw [h2] at h1
      cases h1
    cases x with
    | inl a =>
      cases y with
      | inl b => exact (D.eq a b).trans ⟨fun e => by rw [e], fun e => Sum.inl.inj e⟩
      | inr b => exact ⟨fun e => absurd (eqv_tag _ _ e) (dis a b), fun e => by cases e⟩
    | inr a =>
      cases y with
      | inl b => exact ⟨fun e => absurd (eqv_tag _ _ e).symm (dis b a), fun e => by cases e⟩
      | inr b => exact (F.eq a b).trans ⟨fun e => by rw [e], fun e => Sum.inr.inj e⟩
@[reducible] def tgUn [D : DatP K R] [F : DatP K S] [P : DTg K R] [Q : DTg K S] (hd : (P.ts.all fun t => !(Q.ts.contains t)) = true) : @DTg K _ (rUn R S) (datUn hd) := @DTg.mk K _ (rUn R S) (datUn hd) (P.ts ++ Q.ts) fun x => by
  cases x with
  | inl y => exact List.mem_append_left _ (P.ok y)
  | inr z => exact List.mem_append_right _ (Q.ok z)
@[reducible] def datOpt [D : DatP K R] [P : DTg K R] (hd : (!(P.ts.contains [3])) = true) : DatP K (rOpt R) where
  d := fun x => match x with
    | none => .none
    | some y => D.d y
  rd := fun {H v x} h => by
    cases x with
    | none =>
      have h' : v = .non := h
      rw [h']
      exact .non
    | some y => exact D.rd h.2
  pl := fun x => by
    cases x with
    | none => rfl
    | some y => exact D.pl y
  n := D.n
  dep := fun x => by
    cases x with
    | none => exact Nat.zero_le _
    | some y => exact D.dep y
  eq := fun x y => by
    have dis : ∀ a : α, dtag (D.d a) ≠ [3] := fun a e => by
      have h2 : P.ts.contains (dtag (D.d a)) = true := List.contains_iff_mem.mpr (P.ok a)
      rw [e] at h2
      rw [h2] at hd
      cases hd
    cases x with
    | none =>
      cases y with
      | none => exact ⟨fun _ => rfl, fun _ => rfl⟩
      | some b => exact ⟨fun e => absurd (eqv_tag _ _ e).symm (dis b), fun e => by cases e⟩
    | some a =>
      cases y with
      | none => exact ⟨fun e => absurd (eqv_tag _ _ e) (dis a), fun e => by cases e⟩
      | some b => exact (D.eq a b).trans ⟨fun e => by rw [e], fun e => Option.some.inj e⟩
@[reducible] def tgOpt [D : DatP K R] [P : DTg K R] (hd : (!(P.ts.contains [3])) = true) : @DTg K _ (rOpt R) (datOpt hd) := @DTg.mk K _ (rOpt R) (datOpt hd) ([3] :: P.ts) fun x => by
  cases x with
  | none => exact List.mem_cons_self ..
  | some y => exact List.mem_cons_of_mem _ (P.ok y)
/-- what is less known -/
class Fgt {α : Type} (R S : Rel α) : Prop where
  f : ∀ {H : Hp} {v : V} {x : α}, R.r H v x → S.r H v x
instance : Fgt R R := ⟨fun h => h⟩
instance {Bo : Hp} {R : Rel α} : Fgt (rLstN Bo R) (rLst R) := ⟨fun h => rLstN.forget h⟩
instance {R R' : Rel α} {S S' : Rel β} [Fgt R R'] [Fgt S S'] : Fgt (rUn R S) (rUn R' S') := ⟨fun {H v x} h => by
  cases x with
  | inl y => exact Fgt.f (R := R) h
  | inr z => exact Fgt.f (R := S) h⟩
instance {R R' : Rel α} [Fgt R R'] : Fgt (rOpt R) (rOpt R') := ⟨fun {H v x} h => by
  cases x with
  | none => exact h
  | some y => exact ⟨h.1, Fgt.f h.2⟩⟩
instance {R R' : Rel α} {S S' : Rel β} [Fgt R R'] [Fgt S S'] : Fgt (rPr R S) (rPr R' S') := ⟨fun ⟨p, a, b, h1, h2, h3, h4⟩ => ⟨p, a, b, h1, h2, Fgt.f h3, Fgt.f h4⟩⟩
instance {R R' : Rel α} {S S' : Rel β} {T T' : Rel γ} [Fgt R R'] [Fgt S S'] [Fgt T T'] : Fgt (rT3 R S T) (rT3 R' S' T') := ⟨fun ⟨p, a, b, c, h1, h2, h3, h4, h5⟩ => ⟨p, a, b, c, h1, h2, Fgt.f h3, Fgt.f h4, Fgt.f h5⟩⟩
instance {R R' : Rel α} [Fgt R R'] : Fgt (rLst R) (rLst R') := ⟨fun ⟨p, vs, h1, h2, h3⟩ => ⟨p, vs, h1, h2, pimp h3 fun _ _ z => Fgt.f z⟩⟩
end
section
variable {X : Cx} {E : Ent} {own : Own} {B H : Hp} {σ : L2.St} {α β : Type} {R R' : Rel α} {S : Rel β} {e : Expr} {x : α} {y : β} {xs : List α}
theorem ev_fg [Fgt R R'] (h : EvB X E own B H σ e R x) : EvB X E own B H σ e R' x := fun B1 H1 S1 e1 e2 Q k => h B1 H1 S1 e1 e2 Q fun v B2 H2 S2 e3 e4 r => k v B2 H2 S2 e3 e4 (Fgt.f r)
theorem ee_fg [Fgt R R'] (h : EvE X E own B H σ e R x) : EvE X E own B H σ e R' x := fun B1 H1 S1 e1 e2 Q k => h B1 H1 S1 e1 e2 Q fun v B2 H2 S2 e3 e4 r => k v B2 H2 S2 e3 e4 (Fgt.f r)
theorem ev_unL (h : EvB X E own B H σ e R x) : EvB X E own B H σ e (rUn R S) (.inl x) := h
theorem ev_unR (h : EvB X E own B H σ e S y) : EvB X E own B H σ e (rUn R S) (.inr y) := h
theorem ee_unL (h : EvE X E own B H σ e R x) : EvE X E own B H σ e (rUn R S) (.inl x) := h
theorem ee_unR (h : EvE X E own B H σ e S y) : EvE X E own B H σ e (rUn R S) (.inr y) := h
def unL {α β : Type} : α ⊕ β → Option α
  | .inl x => some x
  | .inr _ => none
def unR {α β : Type} : α ⊕ β → Option β
  | .inl _ => none
  | .inr y => some y
theorem ev_ofL {z : α ⊕ β} (h : EvB X E own B H σ e (rUn R S) z) (q : unL z = some x) : EvB X E own B H σ e R x := by
  cases z with
  | inl a => cases q; exact h
  | inr b => cases q
theorem ev_ofR {z : α ⊕ β} (h : EvB X E own B H σ e (rUn R S) z) (q : unR z = some y) : EvB X E own B H σ e S y := by
  cases z with
  | inl a => cases q
  | inr b => cases q; exact h
theorem ee_ofL {z : α ⊕ β} (h : EvE X E own B H σ e (rUn R S) z) (q : unL z = some x) : EvE X E own B H σ e R x := by
  cases z with
  | inl a => cases q; exact h
  | inr b => cases q
theorem ee_ofR {z : α ⊕ β} (h : EvE X E own B H σ e (rUn R S) z) (q : unR z = some y) : EvE X E own B H σ e S y := by
  cases z with
  | inl a => cases q
  | inr b => cases q; exact h
end
end Sg

namespace Sg
open PySem PySem.Spec PyProof.Rows L2
/-! ### tuples joined and cut -/
def EvTu (X : Cx) (E : Ent) (own : Own) (B H : Hp) (σ : L2.St) (e : Expr) (F : Hp → List V → Prop) : Prop := ∀ B1 H1, Stt E own B1 H1 → Ex B B1 → Ex H H1 → ∀ Q : VK,
  (∀ q ws B2 H2, Stt E own B2 H2 → Ex B1 B2 → Ex H1 H2 → B2 q = some (.tup ws) → F B2 ws → Q (.ref q) H2) → WE X e σ H1 Q
structure MonF (F : Hp → List V → Prop) : Prop where
  m : ∀ (B B' : Hp) (ws : List V), Ex B B' → F B ws → F B' ws
def stVs : StT → List V
  | .inl y => [.str y.1, .int y.2]
  | .inr y => [.str y.1, .int y.2.1, .int y.2.2]
section
variable {X : Cx} {E : Ent} {own : Own} {B H : Hp} {σ : L2.St} {α β : Type} {R : Rel α} {S : Rel β} {a b e o : Expr} {x : α} {y : β} {xs ys : List α} {F G : Hp → List V → Prop} {p pos pos' : Pos} {l u : Option Int} {lo hi : Option Expr}
theorem tu_cut (mF : MonF F) (ho : EvTu X E own B H σ o F) (hl : EvP X E own B H σ lo l) (hu : EvP X E own B H σ hi u) : EvTu X E own B H σ (.Subscript o (.Slice lo hi none p) pos) (fun B ws => ∃ zs, F B zs ∧ ws = cutV zs l u) := fun B1 H1 S1 e1 e2 Q k => by
  obtain ⟨tl, pl, hl⟩ := hl
  obtain ⟨tu, pu, hu⟩ := hu
  refine WE.of (pe_slice sl_tupA peW pl pu) (ho B1 H1 S1 e1 e2 _ fun q ws B2 H2 S2 e3 e4 hq hF => hl B2 H2 S2 (e1.trans e3) (e2.trans e4) _ fun B3 H3 S3 e5 e6 => hu B3 H3 S3 ((e1.trans e3).trans e5) ((e2.trans e4).trans e6) _ fun B4 H4 S4 e7 e8 => ?_)
  have hq4 : B4 q = some (.tup ws) := (e5.trans e7).tup hq
  have hF4 := mF.m _ _ _ (e5.trans e7) hF
  refine ⟨q, ws, rfl, SqT.of (S4.bh _ _ hq4), fun hw => ?_, fun _ p np => ?_⟩
  · refine k q ws B4 H4 S4 ((e3.trans e5).trans e7) ((e4.trans e6).trans e8) hq4 ⟨ws, hF4, ?_⟩
    unfold cutV
    rw [hw.1, hw.2, List.drop_zero, Nat.sub_zero, List.take_length]
  · exact k p _ _ _ (S4.lay np) (((e3.trans e5).trans e7).trans (S4.layB np).ex) (((e4.trans e6).trans e8).trans (Sx.new np).ex) upd_same ⟨ws, mF.m _ _ _ (S4.layB np).ex hF4, rfl⟩
theorem tu_cat (mF : MonF F) (mG : MonF G) (ha : EvTu X E own B H σ a F) (hb : EvTu X E own B H σ b G) (hz : ∀ B xs ys, F B xs → G B ys → xs.length + ys.length ≤ sizeLine) : EvTu X E own B H σ (.BinOp a .Add b pos) (fun B ws => ∃ xs ys, F B xs ∧ G B ys ∧ ws = xs ++ ys) := fun B1 H1 S1 e1 e2 Q k => by
  refine WE.of (pe_op op_catA peW peW) (ha B1 H1 S1 e1 e2 _ fun q ws B2 H2 S2 e3 e4 hq hF => hb B2 H2 S2 (e1.trans e3) (e2.trans e4) _ fun q2 us B3 H3 S3 e5 e6 hq2 hG => ?_)
  have hq3 : B3 q = some (.tup ws) := e5.tup hq
  have hF3 := mF.m _ _ _ e5 hF
  refine ⟨q, q2, ws, us, rfl, rfl, SqT.of (S3.bh _ _ hq3), SqT.of (S3.bh _ _ hq2), hz _ _ _ hF3 hG, fun h0 => ?_, fun _ h0 => ?_, fun _ _ p np => ?_⟩
  · exact k q2 us B3 H3 S3 (e3.trans e5) (e4.trans e6) hq2 ⟨ws, us, hF3, hG, by rw [h0]; rfl⟩
  · exact k q ws B3 H3 S3 (e3.trans e5) (e4.trans e6) hq3 ⟨ws, us, hF3, hG, by rw [h0, List.append_nil]⟩
  · exact k p _ _ _ (S3.lay np) ((e3.trans e5).trans (S3.layB np).ex) ((e4.trans e6).trans (Sx.new np).ex) upd_same ⟨ws, us, mF.m _ _ _ (S3.layB np).ex hF3, mG.m _ _ _ (S3.layB np).ex hG, rfl⟩
theorem tu_tup [Imm R] (h : EvB X E own B H σ o (rTup R) xs) : EvTu X E own B H σ o (fun B ws => Paired (R.r B) ws xs) := fun B1 H1 S1 e1 e2 Q k => h.toE B1 H1 S1 e1 e2 _ fun v B2 H2 S2 e3 e4 r => by
  obtain ⟨q, ws, rfl, h2, h3⟩ := r
  exact k q ws B2 H2 S2 e3 e4 h2 h3
theorem tu_st {z : StT} (h : EvB X E own B H σ o rSt z) : EvTu X E own B H σ o (fun _ ws => ws = stVs z) := fun B1 H1 S1 e1 e2 Q k => h.toE B1 H1 S1 e1 e2 _ fun v B2 H2 S2 e3 e4 r => by
  cases z with
  | inl y =>
    obtain ⟨q, c, d, rfl, h2, h3, h4⟩ := r
    have h3 : c = .str y.1 := h3
    have h4 : d = .int y.2 := h4
    subst h3
    subst h4
    exact k q _ B2 H2 S2 e3 e4 h2 rfl
  | inr y =>
    obtain ⟨q, c, d, f, rfl, h2, h3, h4, h5⟩ := r
    have h3 : c = .str y.1 := h3
    have h4 : d = .int y.2.1 := h4
    have h5 : f = .int y.2.2 := h5
    subst h3
    subst h4
    subst h5
    exact k q _ B2 H2 S2 e3 e4 h2 rfl
theorem tu_one {x1} (he : EvE X E own B H σ e R x) (hs : St1 X e := by rfl) : EvTu X E own B H σ (.Tuple [e] x1 pos) (fun B ws => ∃ v, ws = [v] ∧ R.r B v x) := fun B1 H1 S1 e1 e2 Q k =>
  WE.of (pe_tup (pa1 hs)) (he B1 H1 S1 e1 e2 _ fun v B2 H2 S2 e3 e4 r => ⟨by show 1 ≤ sizeLine; decide, fun p hp => k p [v] _ _ (S2.lay hp) (e3.trans (S2.layB hp).ex) (e4.trans (Sx.new hp).ex) upd_same ⟨v, rfl, R.mono (S2.layB hp).ex r⟩⟩)
theorem ee_tu (h : EvTu X E own B H σ e F) (hr : ∀ B q ws, B q = some (.tup ws) → F B ws → R.r B (.ref q) x) : EvE X E own B H σ e R x := fun B1 H1 S1 e1 e2 Q k => h B1 H1 S1 e1 e2 _ fun q ws B2 H2 S2 e3 e4 hq hF => k _ B2 H2 S2 e3 e4 (hr _ _ _ hq hF)
theorem mon_pd : MonF (fun B ws => Paired (R.r B) ws xs) := ⟨fun _ _ _ e h => pimp h fun _ _ z => R.mono e z⟩
theorem mon_c {us : List V} : MonF (fun _ ws => ws = us) := ⟨fun _ _ _ _ h => h⟩
theorem mon_1 : MonF (fun B ws => ∃ v, ws = [v] ∧ R.r B v x) := ⟨fun _ _ _ e ⟨v, h1, h2⟩ => ⟨v, h1, R.mono e h2⟩⟩
theorem mon_cut (mF : MonF F) : MonF (fun B ws => ∃ zs, F B zs ∧ ws = cutV zs l u) := ⟨fun _ _ _ e ⟨zs, h1, h2⟩ => ⟨zs, mF.m _ _ _ e h1, h2⟩⟩
theorem mon_cat (mF : MonF F) (mG : MonF G) : MonF (fun B ws => ∃ xs ys, F B xs ∧ G B ys ∧ ws = xs ++ ys) := ⟨fun _ _ _ e ⟨a, b, h1, h2, h3⟩ => ⟨a, b, mF.m _ _ _ e h1, mG.m _ _ _ e h2, h3⟩⟩
/-- t + u, t[l:u] of tuples of one kind -/
theorem ee_catT [Imm R] (ha : EvB X E own B H σ a (rTup R) xs) (hb : EvB X E own B H σ b (rTup R) ys) (hz : xs.length + ys.length ≤ sizeLine) : EvE X E own B H σ (.BinOp a .Add b pos) (rTup R) (xs ++ ys) :=
  ee_tu (tu_cat (mon_pd (R := R) (xs := xs)) (mon_pd (R := R) (xs := ys)) (tu_tup ha) (tu_tup hb) fun B us vs h1 h2 => by rw [plen h1, plen h2]; exact hz) fun B q ws hq ⟨us, vs, h1, h2, h3⟩ => ⟨q, ws, rfl, hq, by rw [h3]; exact pappend h1 h2⟩
theorem ee_cutT [Imm R] (ho : EvB X E own B H σ o (rTup R) xs) (hl : EvP X E own B H σ lo l) (hu : EvP X E own B H σ hi u) : EvE X E own B H σ (.Subscript o (.Slice lo hi none p) pos) (rTup R) (cut xs l u) :=
  ee_tu (tu_cut (mon_pd (R := R) (xs := xs)) (tu_tup ho) hl hu) fun B q ws hq ⟨zs, h1, h2⟩ => ⟨q, ws, rfl, hq, by rw [h2]; exact pcut l u h1⟩
/-- a step with another place -/
def stSet (z : StT) (k : Int) : StT := match z with
  | .inl y => .inl (y.1, k)
  | .inr y => .inr (y.1, k, y.2.2)
theorem ee_stSet {z : StT} {k : Int} {o2 : Expr} {c1 c2} {p1 p2 p3 p4 p5 p6 p7 p8 : Pos} {x1} (h1 : EvB X E own B H σ o rSt z) (he : EvB X E own B H σ e rInt k) (h2 : EvB X E own B H σ o2 rSt z) (hs : St1 X e := by rfl) :
    EvE X E own B H σ (.BinOp (.BinOp (.Subscript o (.Slice none (some (.Constant (.int 1) c1 p1)) none p2) p3) .Add (.Tuple [e] x1 p4) p5) .Add (.Subscript o2 (.Slice (some (.Constant (.int 2) c2 p6)) none none p7) p8) pos) rSt (stSet z k) := by
  have t1 := tu_cut (p := p2) (pos := p3) mon_c (tu_st h1) ep_n (ep_s (ev_i (i := 1) (j := c1) (pos := p1)))
  have t2 := tu_cut (p := p7) (pos := p8) mon_c (tu_st h2) (ep_s (ev_i (i := 2) (j := c2) (pos := p6))) ep_n
  have t3 := tu_one (x1 := x1) (pos := p4) he.toE hs
  have c1' : cutV (stVs z) none (some 1) = [.str (stW z)] := by cases z <;> rfl
  have c2' : cutV (stVs z) (some 2) none = (match stX z with
    | none => []
    | some q => [V.int q]) := by cases z <;> rfl
  refine ee_tu (tu_cat (mon_cat (mon_cut mon_c) mon_1) (mon_cut mon_c) (tu_cat (mon_cut mon_c) mon_1 t1 t3 fun B us vs g1 g2 => ?_) t2 fun B us vs g1 g2 => ?_) fun B q ws hq hF => ?_
  · obtain ⟨_, rfl, rfl⟩ := g1
    obtain ⟨_, rfl, _⟩ := g2
    rw [c1']
    show 2 ≤ sizeLine
    decide
  · obtain ⟨_, _, ⟨_, rfl, rfl⟩, ⟨_, rfl, _⟩, rfl⟩ := g1
    obtain ⟨_, rfl, rfl⟩ := g2
    rw [c1', c2']
    refine Nat.le_trans (m := 3) ?_ (by decide)
    cases z <;> exact Nat.le_of_ble_eq_true rfl
  · obtain ⟨_, _, ⟨_, _, ⟨_, rfl, rfl⟩, ⟨v, rfl, hv⟩, rfl⟩, ⟨_, rfl, rfl⟩, rfl⟩ := hF
    have hv : v = .int k := hv
    subst hv
    rw [c1', c2'] at hq
    cases z with
    | inl y => exact ⟨q, .str y.1, .int k, rfl, hq, rfl, rfl⟩
    | inr y => exact ⟨q, .str y.1, .int k, .int y.2.2, rfl, hq, rfl, rfl, rfl⟩
end
end Sg

namespace Sg
open PySem PySem.Spec PyProof.Rows L2
/-! ### something newer than a mark is owned again -/
theorem thaw1 {E : Ent} {own own' : Own} {Bo Ho B H : Hp} {q : Addr} {vs : List V} (So : Stt E own' Bo Ho) (hx : Ex Bo B) (S : Stt E own B H) (hq : B q = some (.lst vs)) (hn : Bo q = none) : ∃ B', Stt E ((q, .lst vs) :: own) B' H ∧ Ex Bo B' ∧ Tx B B' := by
  have hH0 : E.H0 q = none := by
    rcases S.fr q _ hq with h | h
    · rw [So.b0 _ _ h] at hn
      cases hn
    · exact h
  have hH := S.bh _ _ hq
  obtain ⟨B', S', x1, x2, x3⟩ := stt_reset (us := vs) So hx S hq hn
  have eH : upd H q (.lst vs) = H := by
    funext a
    by_cases ha : a = q
    · rw [ha, upd_same, hH]
    · rw [upd_ne ha]
  rw [eH] at S'
  have hB' : B' q = none := by
    cases e : B' q with
    | none => rfl
    | some o =>
      have := S'.bh _ _ e
      rw [hH] at this
      cases this
      exact absurd e (x3 q vs hn)
  refine ⟨B', ⟨S'.b0, S'.h0, S'.bh, S'.tu, S'.fr, fun z hz => ?_, ?_⟩, x1, x2⟩
  · rcases List.mem_cons.mp hz with rfl | hz
    · exact ⟨hH0, hB', hH⟩
    · exact S'.ow z hz
  · refine List.nodup_cons.mpr ⟨upd_nd fun z hz w => ?_, S'.nd⟩
    have := (S.ow z hz).2.1
    rw [w, hq] at this
    cases this
section
variable {α β : Type} {R : Rel α} {S : Rel β} {Bo B : Hp} {v : V}
theorem newOptL {z : Option (List α ⊕ β)} {y : List α ⊕ β} {l : List α} (h : (rOpt (rUn (rLstN Bo R) S)).r B v z) (h1 : z = some y) (h2 : unL y = some l) : ∃ q us, v = .ref q ∧ B q = some (.lst us) ∧ Bo q = none ∧ Paired (R.r B) us l := by
  subst h1
  cases y with
  | inl a =>
    cases h2
    exact h.2
  | inr b => cases h2
theorem optUnL {H : Hp} {z : Option α} (h : (rOpt R).r H v z) : (rOpt (rUn R S)).r H v (z.map Sum.inl) := by
  cases z with
  | none => exact h
  | some y => exact h
end
section
variable {X : Cx} {E : Ent} {own : Own} {B H : Hp} {σ : L2.St} {α β : Type} {R : Rel α} {S : Rel β} {e : Expr} {z : Option α} {y : Option β}
theorem ev_optUL (h : EvB X E own B H σ e (rOpt R) z) : EvB X E own B H σ e (rOpt (rUn R S)) (z.map Sum.inl) := fun B1 H1 S1 e1 e2 Q k => h B1 H1 S1 e1 e2 Q fun v B2 H2 S2 e3 e4 r => k v B2 H2 S2 e3 e4 (optUnL r)
end
end Sg

namespace Sg
open PySem PySem.Spec PyProof.Rows L2
/-! ### many things newer than a mark are owned again, and changed -/
def Lsts (io : Own) : Prop := ∀ z ∈ io, ∃ us, z.2 = HO.lst us
def Jk (qs : List Addr) (io : Own) : Prop := io.map (·.1) = qs ∧ Lsts io
theorem gather {H : Hp} : ∀ (qs : List Addr), (∀ q ∈ qs, ∃ us, H q = some (.lst us)) → ∃ io : Own, (io.map (·.1)).Nodup ∧ Lsts io ∧ (∀ z ∈ io, z.1 ∈ qs ∧ H z.1 = some z.2) ∧ ∀ q ∈ qs, q ∈ io.map (·.1)
  | [], _ => ⟨[], List.nodup_nil, fun z h => (by cases h), fun z h => (by cases h), fun q h => (by cases h)⟩
  | q :: qs, h => by
    obtain ⟨io, h1, h2, h3, h4⟩ := gather qs fun z hz => h z (List.mem_cons_of_mem _ hz)
    by_cases hq : q ∈ io.map (·.1)
    · refine ⟨io, h1, h2, fun z hz => ⟨List.mem_cons_of_mem _ (h3 z hz).1, (h3 z hz).2⟩, fun z hz => ?_⟩
      rcases List.mem_cons.mp hz with rfl | hz
      · exact hq
      · exact h4 z hz
    · obtain ⟨us, hu⟩ := h q (List.mem_cons_self ..)
      refine ⟨(q, .lst us) :: io, List.nodup_cons.mpr ⟨hq, h1⟩, fun z hz => ?_, fun z hz => ?_, fun z hz => ?_⟩
      · rcases List.mem_cons.mp hz with rfl | hz
        · exact ⟨us, rfl⟩
        · exact h2 z hz
      · rcases List.mem_cons.mp hz with rfl | hz
        · exact ⟨List.mem_cons_self .., hu⟩
        · exact ⟨List.mem_cons_of_mem _ (h3 z hz).1, (h3 z hz).2⟩
      · rcases List.mem_cons.mp hz with rfl | hz
        · exact List.mem_cons_self ..
        · exact List.mem_cons_of_mem _ (h4 z hz)
/-- what stays known when all is let go of that is newer than a mark, but tuples -/
def bkTo (Bo B : Hp) : Hp := fun x => match Bo x with
  | some _ => B x
  | none => match B x with
    | some (.tup ys) => some (.tup ys)
    | _ => none
section
variable {Bo B : Hp} {a q : Addr} {o : HO} {ys vs : List V}
theorem bkTo_in (h : bkTo Bo B a = some o) : B a = some o := by
  unfold bkTo at h
  cases hb : Bo a with
  | some u =>
    rw [hb] at h
    exact h
  | none =>
    rw [hb] at h
    cases hv : B a with
    | none => rw [hv] at h; cases h
    | some u =>
      rw [hv] at h
      cases u with
      | tup ys => exact h
      | _ => cases h
theorem bkTo_tup (h : B a = some (.tup ys)) : bkTo Bo B a = some (.tup ys) := by
  unfold bkTo
  cases hb : Bo a with
  | some u => exact h
  | none => rw [h]
theorem bkTo_old (hb : Bo a = some o) : bkTo Bo B a = B a := by
  unfold bkTo
  rw [hb]
theorem bkTo_lst (h : B q = some (.lst vs)) (hn : Bo q = none) : bkTo Bo B q = none := by
  unfold bkTo
  rw [hn, h]
end
theorem thawN {E : Ent} {own own' : Own} {Bo Ho B H : Hp} (So : Stt E own' Bo Ho) (hx : Ex Bo B) (S : Stt E own B H) (qs : List Addr) (hq : ∀ q ∈ qs, Bo q = none ∧ ∃ us, B q = some (.lst us)) : ∃ B' io, Stt E (io ++ own) B' H ∧ Ex Bo B' ∧ Tx B B' ∧ Lsts io ∧ (∀ q ∈ qs, q ∈ io.map (·.1)) ∧ ∀ z ∈ io, z.1 ∈ qs := by
  obtain ⟨io, h1, h2, h3, h4⟩ := gather (H := B) qs fun q h => (hq q h).2
  have hH0 : ∀ q us, Bo q = none → B q = some (.lst us) → E.H0 q = none := fun q us hn hb => by
    rcases S.fr q _ hb with h | h
    · rw [So.b0 _ _ h] at hn
      cases hn
    · exact h
  refine ⟨bkTo Bo B, io, ⟨fun a o e => ?_, S.h0, fun a o e => S.bh a o (bkTo_in e), fun a ys e => bkTo_tup (S.tu a ys e), fun a o e => S.fr a o (bkTo_in e), fun z hz => ?_, ?_⟩, fun a o e => ?_, fun a ys e => bkTo_tup e, h2, h4, fun z hz => (h3 z hz).1⟩
  · rw [bkTo_old (So.b0 a o e)]
    exact S.b0 a o e
  · rcases List.mem_append.mp hz with hz | hz
    · obtain ⟨q1, q2⟩ := h3 z hz
      obtain ⟨n1, us, n2⟩ := hq _ q1
      exact ⟨hH0 _ _ n1 n2, bkTo_lst n2 n1, S.bh _ _ q2⟩
    · obtain ⟨q1, q2, q3⟩ := S.ow z hz
      refine ⟨q1, ?_, q3⟩
      cases e : bkTo Bo B z.1 with
      | none => rfl
      | some u => rw [bkTo_in e] at q2; cases q2
  · rw [List.map_append]
    refine List.nodup_append.mpr ⟨h1, S.nd, fun x hx y hy e => ?_⟩
    subst e
    obtain ⟨z, hz, e1⟩ := List.mem_map.mp hx
    obtain ⟨w, hw, e2⟩ := List.mem_map.mp hy
    have hb := (S.ow w hw).2.1
    rw [e2, ← e1, ((hq _ (h3 z hz).1).2).choose_spec] at hb
    cases hb
  · obtain ⟨o', q1, q2⟩ := hx a o e
    exact ⟨o', by rw [bkTo_old e]; exact q1, q2⟩
section
variable {X : Cx} {E : Ent} {own own' io : Own} {B H B' H' Bo Ho : Hp} {σ : L2.St} {α β γ : Type} {R : Rel α} {S : Rel β} {T : Rel γ} {e a b c it : Expr} {x : α} {y : β} {z : γ} {p pos pos' apos : Pos} {i j k k0 : Nat} {xs : List α}
variable {n m : Str} {rest body : List Stmt} {D : Ends} {qs : List Addr}
/-- for x in a list of one's own: things within are changed -/
theorem s_forJn {J : Nat → Own → Prop} {tn : Str} {tp : Pos} {q : Addr} {vs : List V} (C : Cok X k0) (L : Slot X j tn) (J0 : J 0 io) (S0 : Stt E (io ++ own) B H) (hp : PE X it (tVar i)) (h : σ[i]? = some (some (.ref q))) (hk : (q, HO.lst vs) ∈ own) (hj : j < σ.length)
    (hb : ∀ i' v, vs[i']? = some v → ∀ io1 B1 H1 (D1 : Ends), J i' io1 → Stt E (io1 ++ own) B1 H1 → Ex B B1 → (∀ io2 B2 H2, J (i' + 1) io2 → Stt E (io2 ++ own) B2 H2 → Ex B1 B2 → D1.nx (σ.set j (some v)) H2) → WSs X body D1 (σ.set j (some v)) H1)
    (kt : ∀ jv io1 B1 H1, J vs.length io1 → Stt E (io1 ++ own) B1 H1 → Ex B B1 → WSs X rest D (σ.set j jv) H1)
    (hf : ∀ x, foldedSetIterable it X.env x = pure x := by intro _; rfl) : WSs X (.For (.Name tn tp) it body [] pos :: rest) D σ H := by
  have hl0 : ∀ {io1 : Own} {B1 H1 : Hp}, Stt E (io1 ++ own) B1 H1 → H1 q = some (.lst vs) := fun S1 => (S1.ow _ (List.mem_append_right _ hk)).2.2
  refine WSs.cons (ps_for C.own C.calm (pi_list (tl := WE X it) peW) (pg_name (i := j) C.nd L.ix L.loc L.hf) pssW hf) (WE.of hp ⟨_, h, q, rfl, ⟨vs, SqL.of (hl0 S0)⟩, ?_⟩)
  refine ⟨fun i' mm σ' H' => mm = vs.length - i' ∧ i' ≤ vs.length ∧ (∃ v, σ' = σ.set j v) ∧ ∃ io1 B1, J i' io1 ∧ Stt E (io1 ++ own) B1 H' ∧ Ex B B1, ⟨vs.length, rfl, Nat.zero_le _, ⟨σ[j], (List.set_getElem_self hj).symm⟩, io, B, J0, S0, Ex.refl _⟩, ?_⟩
  rintro i' mm σ' H' ⟨rfl, hi, ⟨v0, rfl⟩, io1, B1, J1, S1, e1⟩
  have hl := hl0 S1
  by_cases hlt : i' < vs.length
  · refine .inr ⟨⟨vs, vs[i'], SqL.of hl, List.getElem?_eq_getElem hlt⟩, fun σ2 H2 => (∃ v, σ2 = σ.set j v) ∧ ∃ io2 B2, J (i' + 1) io2 ∧ Stt E (io2 ++ own) B2 H2 ∧ Ex B B2, fun σ2 H2 ⟨q1, q2⟩ => ⟨vs.length - (i' + 1), by omega, rfl, hlt, q1, q2⟩, fun v H'' hy => ?_⟩
    obtain ⟨e2, hv⟩ := hy
    subst e2
    have hv1 := hv _ (SqL.of hl)
    rw [List.getElem?_eq_getElem hlt] at hv1
    have hv2 : v = vs[i'] := (Option.some.inj hv1).symm
    subst hv2
    show WSs X body _ ((σ.set j v0).set j (some vs[i'])) H''
    rw [List.set_set]
    exact hb i' _ (List.getElem?_eq_getElem hlt) io1 B1 H'' _ J1 S1 e1 fun io2 B2 H2 J2 S2 e3 => ⟨⟨_, rfl⟩, io2, B2, J2, S2, e1.trans e3⟩
  · have hi2 : i' = vs.length := by omega
    subst hi2
    exact .inl ⟨⟨vs, SqL.of hl, Nat.le_refl _⟩, kt v0 io1 B1 H' J1 S1 e1⟩
theorem s_forJk {tn : Str} {tp : Pos} {q : Addr} {vs : List V} (C : Cok X k0) (L : Slot X j tn) (J0 : Jk qs io) (S0 : Stt E (io ++ own) B H) (hp : PE X it (tVar i)) (h : σ[i]? = some (some (.ref q))) (hk : (q, HO.lst vs) ∈ own) (hj : j < σ.length)
    (hb : ∀ v ∈ vs, ∀ io1 B1 H1 (D1 : Ends), Jk qs io1 → Stt E (io1 ++ own) B1 H1 → Ex B B1 → (∀ io2 B2 H2, Jk qs io2 → Stt E (io2 ++ own) B2 H2 → Ex B1 B2 → D1.nx (σ.set j (some v)) H2) → WSs X body D1 (σ.set j (some v)) H1)
    (kt : ∀ jv io1 B1 H1, Jk qs io1 → Stt E (io1 ++ own) B1 H1 → Ex B B1 → WSs X rest D (σ.set j jv) H1)
    (hf : ∀ x, foldedSetIterable it X.env x = pure x := by intro _; rfl) : WSs X (.For (.Name tn tp) it body [] pos :: rest) D σ H :=
  s_forJn (J := fun _ => Jk qs) C L J0 S0 hp h hk hj (fun i' v hv => hb v (List.mem_of_getElem? hv)) kt hf
theorem Jk.at {v : Addr} (J : Jk qs io) (h : v ∈ qs) : ∃ (k : Nat) (us : List V), io[k]? = some (v, HO.lst us) := by
  rw [← J.1] at h
  obtain ⟨z, hz, e⟩ := List.mem_map.mp h
  obtain ⟨k, hk⟩ := List.mem_iff_getElem?.mp hz
  obtain ⟨us, hu⟩ := J.2 z hz
  exact ⟨k, us, by rw [hk, ← e, ← hu]⟩
theorem Jk.set {v : Addr} {us ws : List V} (J : Jk qs io) (h : io[k]? = some (v, HO.lst us)) : Jk qs (io.set k (v, .lst ws)) := by
  refine ⟨by rw [set_fst h]; exact J.1, fun z hz => ?_⟩
  rcases List.mem_or_eq_of_mem_set hz with hz | rfl
  · exact J.2 z hz
  · exact ⟨ws, rfl⟩
theorem set_app {β : Type} {l r : List β} {z w : β} {k : Nat} (h : l[k]? = some w) : (l ++ r).set k z = l.set k z ++ r := by
  have := (List.getElem?_eq_some_iff.mp h).1
  exact List.set_append_left _ _ this
theorem get_app {β : Type} {l r : List β} {w : β} {k : Nat} (h : l[k]? = some w) : (l ++ r)[k]? = some w := by
  rw [List.getElem?_append_left (List.getElem?_eq_some_iff.mp h).1]
  exact h
/-- for x in xs: x.clear(), lists newer than a mark -/
theorem s_forClr1 {tn : Str} {tp px pm pa pe : Pos} {q : Addr} {vs : List V} {xss : List (List α)} (C : Cok X k0) (L : Slot X j tn) (hn : PE X (.Name tn px) (tVar j)) (So : Stt E own' Bo Ho) (hx : Ex Bo B) (S0 : Stt E own B H) (hp : PE X it (tVar i)) (h : σ[i]? = some (some (.ref q))) (hk : (q, HO.lst vs) ∈ own) (hj : j < σ.length) (r : Paired ((rLstN Bo R).r B) vs xss)
    (kt : ∀ jv B1 H1, Stt E own B1 H1 → Ex Bo B1 → Tx B B1 → WSs X rest D (σ.set j jv) H1)
    (hf : ∀ x, foldedSetIterable it X.env x = pure x := by intro _; rfl) (t : BmT0 X (.Name tn px) "clear" pm pa := by exact ⟨rfl, rfl⟩) (hw : swapsWith (.Call (.Attribute (.Name tn px) "clear" pm) [] [] pa) none pe.line X.env = pure false := by rfl) :
    WSs X (.For (.Name tn tp) it [.Expr (.Call (.Attribute (.Name tn px) "clear" pm) [] [] pa) pe] [] pos :: rest) D σ H := by
  have lead : ∀ v ∈ vs, ∃ a, v = V.ref a ∧ Bo a = none ∧ ∃ us, B a = some (.lst us) := fun v hv => by
    obtain ⟨k, hk⟩ := List.mem_iff_getElem?.mp hv
    obtain ⟨xs, _, a, us, h1, h2, h3, _⟩ := L2.paired_get r hk
    exact ⟨a, h1, h3, us, h2⟩
  have hq : ∀ a ∈ vs.filterMap (fun v => match v with | .ref a => some a | _ => none), Bo a = none ∧ ∃ us, B a = some (.lst us) := fun a ha => by
    obtain ⟨v, hv, e⟩ := List.mem_filterMap.mp ha
    obtain ⟨a', rfl, h1, h2⟩ := lead v hv
    cases e
    exact ⟨h1, h2⟩
  obtain ⟨B', io, S1, x1, x2, l1, l2, _⟩ := thawN So hx S0 _ hq
  refine s_forJk (qs := io.map (·.1)) C L ⟨rfl, l1⟩ S1 hp h hk hj (fun v hv io1 B1 H1 D1 J1 S2 e2 nx => ?_) (fun jv io1 B1 H1 J1 S2 e2 => kt jv B1 H1 S2.drops (x1.trans e2) (Tx.trans x2 (Ex.tx e2))) hf
  obtain ⟨a, rfl, _, _⟩ := lead v hv
  obtain ⟨kk, us, hkk⟩ := J1.at (l2 a (List.mem_filterMap.mpr ⟨_, hv, rfl⟩))
  refine s_clear (R := rV) (vs := us) (xs := us) S2 hn (List.getElem?_set_self hj) (get_app hkk) (pV us) (fun H3 S3 _ => WSs.nil ?_) t hw
  rw [set_app hkk] at S3
  exact nx _ _ _ (J1.set hkk) S3 (Ex.refl _)
/-- for x in xs: x[1].clear() -/
theorem s_forClr2 {tn : Str} {tp px pm pa pe p1 p2 : Pos} {c1} {q : Addr} {vs : List V} {xss : List (β × List α)} (C : Cok X k0) (L : Slot X j tn) (hn : PE X (.Name tn px) (tVar j)) (So : Stt E own' Bo Ho) (hx : Ex Bo B) (S0 : Stt E own B H) (hp : PE X it (tVar i)) (h : σ[i]? = some (some (.ref q))) (hk : (q, HO.lst vs) ∈ own) (hj : j < σ.length) (r : Paired ((rPr S (rLstN Bo R)).r B) vs xss)
    (kt : ∀ jv B1 H1, Stt E own B1 H1 → Ex Bo B1 → Tx B B1 → WSs X rest D (σ.set j jv) H1)
    (hf : ∀ x, foldedSetIterable it X.env x = pure x := by intro _; rfl) (t : BmT0 X (.Subscript (.Name tn px) (.Constant (.int 1) c1 p1) p2) "clear" pm pa := by exact ⟨rfl, rfl⟩) (hw : swapsWith (.Call (.Attribute (.Subscript (.Name tn px) (.Constant (.int 1) c1 p1) p2) "clear" pm) [] [] pa) none pe.line X.env = pure false := by rfl) :
    WSs X (.For (.Name tn tp) it [.Expr (.Call (.Attribute (.Subscript (.Name tn px) (.Constant (.int 1) c1 p1) p2) "clear" pm) [] [] pa) pe] [] pos :: rest) D σ H := by
  have lead : ∀ v ∈ vs, ∃ t v0 a, v = V.ref t ∧ B t = some (.tup [v0, .ref a]) ∧ Bo a = none ∧ ∃ us, B a = some (.lst us) := fun v hv => by
    obtain ⟨k, hk⟩ := List.mem_iff_getElem?.mp hv
    obtain ⟨xs, _, t, v0, v1, h1, h2, _, a, us, h3, h4, h5, _⟩ := L2.paired_get r hk
    subst h3
    exact ⟨t, v0, a, h1, h2, h5, us, h4⟩
  have hq : ∀ a ∈ vs.filterMap (fun v => match v with | .ref t => (match B t with | some (.tup [_, .ref a]) => some a | _ => none) | _ => none), Bo a = none ∧ ∃ us, B a = some (.lst us) := fun a ha => by
    obtain ⟨v, hv, e⟩ := List.mem_filterMap.mp ha
    obtain ⟨t, v0, a', rfl, h0, h1, h2⟩ := lead v hv
    have e : (match B t with | some (.tup [_, .ref a]) => some a | _ => none) = some a := e
    rw [h0] at e
    cases e
    exact ⟨h1, h2⟩
  obtain ⟨B', io, S1, x1, x2, l1, l2, _⟩ := thawN So hx S0 _ hq
  refine s_forJk (qs := io.map (·.1)) C L ⟨rfl, l1⟩ S1 hp h hk hj (fun v hv io1 B1 H1 D1 J1 S2 e2 nx => ?_) (fun jv io1 B1 H1 J1 S2 e2 => kt jv B1 H1 S2.drops (x1.trans e2) (Tx.trans x2 (Ex.tx e2))) hf
  obtain ⟨tt, v0, a, rfl, h0, _, _⟩ := lead v hv
  obtain ⟨kk, us, hkk⟩ := J1.at (l2 a (List.mem_filterMap.mpr ⟨_, hv, by show (match B tt with | some (.tup [_, .ref a]) => some a | _ => none) = _; rw [h0]⟩))
  have ht1 : H1 tt = some (.tup [v0, .ref a]) := S2.bh _ _ (e2.tup (x2 _ _ h0))
  have hq1 := (S2.ow _ (getE (get_app hkk))).2.2
  refine WSs.cons (ps_expr (pe_bm0 PySem.F.plainAttrs_list PySem.F.slot_list_clear PySem.F.type_list_clear mt_clear (pe_ix ix_tup hn pe_int (fun _ _ => rfl)) t.1 t.2) hw) ⟨.ref tt, List.getElem?_set_self hj, tt, [v0, .ref a], 1, .ref a, rfl, rfl, SqT.of ht1, rfl, .inl ⟨rfl, _, SqL.of hq1⟩, a, us, rfl, rfl, hq1, WSs.nil ?_⟩
  have S3 := S2.put (o' := HO.lst []) (get_app hkk) fun ys z => by cases z
  rw [set_app hkk] at S3
  exact nx _ _ _ (J1.set hkk) S3 (Ex.refl _)
end
end Sg

namespace Sg
open PySem PySem.Spec PyProof.Rows L2
/-! ### lists of three unlike things: written, turned, read -/
section
variable {α β γ : Type} {R R' : Rel α} {S S' : Rel β} {T T' : Rel γ}
instance [Fgt R R'] [Fgt S S'] [Fgt T T'] : Fgt (rH3 R S T) (rH3 R' S' T') := ⟨fun ⟨p, a, b, c, h1, h2, h3, h4, h5⟩ => ⟨p, a, b, c, h1, h2, Fgt.f h3, Fgt.f h4, Fgt.f h5⟩⟩
instance {R : Hp → Rel α} {S : Hp → Rel β} {T : Hp → Rel γ} [AntiN R] [AntiN S] [AntiN T] : AntiN (fun B => rH3 (R B) (S B) (T B)) := ⟨fun e ⟨p, a, b, c, h1, h2, h3, h4, h5⟩ => ⟨p, a, b, c, h1, h2, AntiN.an (RR := R) e h3, AntiN.an (RR := S) e h4, AntiN.an (RR := T) e h5⟩⟩
/-- some list -/
def rIsL : Rel Unit := ⟨fun H v _ => ∃ q us, v = V.ref q ∧ Rd H q (.lst us), fun e ⟨q, us, h1, h2⟩ => ⟨q, us, h1, e.rdL h2⟩⟩
instance : TyR rIsL "list" := ⟨fun {K H v x} h => by
  obtain ⟨q, us, h1, h2 | ⟨ob, h2⟩⟩ := h
  · rw [h1]; exact .base (.lst h2)
  · rw [h1]; exact .base (.frz h2)⟩
/-- what is some list -/
class IsLs {α : Type} (R : Rel α) : Prop where
  l : ∀ {H : Hp} {v : V} {x : α}, R.r H v x → rIsL.r H v ()
instance : IsLs (rLst R) := ⟨fun ⟨p, vs, h1, h2, _⟩ => ⟨p, vs, h1, h2⟩⟩
instance {Bo : Hp} : IsLs (rLstN Bo R) := ⟨fun ⟨p, vs, h1, h2, _⟩ => ⟨p, vs, h1, Rd.of h2⟩⟩
theorem isL3 [IsLs R] [IsLs S] [IsLs T] {B : Hp} {a b c : V} {x : α} {y : β} {z : γ} (h1 : R.r B a x) (h2 : S.r B b y) (h3 : T.r B c z) : Paired (rIsL.r B) [a, b, c] [(), (), ()] := .cons (IsLs.l h1) (.cons (IsLs.l h2) (.cons (IsLs.l h3) .nil))
end
section
variable {X : Cx} {E : Ent} {own own' : Own} {B H B' H' Bo Ho : Hp} {σ : L2.St} {α β γ : Type} {R : Rel α} {S : Rel β} {T : Rel γ} {e a b c o it : Expr} {x : α} {y : β} {z : γ} {p pos pos' apos : Pos} {i j k : Nat} {xs : List α} {ys : List β} {zs : List γ}
variable {n m : Str} {rest body : List Stmt} {D : Ends}
/-- t[0], t[1], t[2] -/
theorem ev_h30 {q : α × β × γ} {kk} {pp : Pos} (ho : EvB X E own B H σ o (rH3 R S T) q) : EvB X E own B H σ (.Subscript o (.Constant (.int 0) kk pp) pos) R q.1 := fun B1 H1 S1 e1 e2 Q k =>
  WE.of (pe_ix ix_list peW pe_int (fun _ _ => rfl)) (ho B1 H1 S1 e1 e2 _ fun v B2 H2 S2 e3 e4 ⟨l, c, d, f, h1, h2, h3, h4, h5⟩ => ⟨l, [c, d, f], 0, c, h1, rfl, .inl h2, rfl, k c B2 H2 S2 e3 e4 h3⟩)
theorem ev_h31 {q : α × β × γ} {kk} {pp : Pos} (ho : EvB X E own B H σ o (rH3 R S T) q) : EvB X E own B H σ (.Subscript o (.Constant (.int 1) kk pp) pos) S q.2.1 := fun B1 H1 S1 e1 e2 Q k =>
  WE.of (pe_ix ix_list peW pe_int (fun _ _ => rfl)) (ho B1 H1 S1 e1 e2 _ fun v B2 H2 S2 e3 e4 ⟨l, c, d, f, h1, h2, h3, h4, h5⟩ => ⟨l, [c, d, f], 1, d, h1, rfl, .inl h2, rfl, k d B2 H2 S2 e3 e4 h4⟩)
theorem ev_h32 {q : α × β × γ} {kk} {pp : Pos} (ho : EvB X E own B H σ o (rH3 R S T) q) : EvB X E own B H σ (.Subscript o (.Constant (.int 2) kk pp) pos) T q.2.2 := fun B1 H1 S1 e1 e2 Q k =>
  WE.of (pe_ix ix_list peW pe_int (fun _ _ => rfl)) (ho B1 H1 S1 e1 e2 _ fun v B2 H2 S2 e3 e4 ⟨l, c, d, f, h1, h2, h3, h4, h5⟩ => ⟨l, [c, d, f], 2, f, h1, rfl, .inl h2, rfl, k f B2 H2 S2 e3 e4 h5⟩)
theorem Rd.ex {B H : Hp} (b : Sx B H) {p : Addr} {u : HO} (h : Rd B p u) : Rd H p u := h.imp (b _ _) fun ⟨o, q⟩ => ⟨o, b _ _ q⟩
theorem ee_h30 {q : α × β × γ} {kk} {pp : Pos} (ho : EvE X E own B H σ o (rH3 R S T) q) : EvE X E own B H σ (.Subscript o (.Constant (.int 0) kk pp) pos) R q.1 := fun B1 H1 S1 e1 e2 Q k =>
  WE.of (pe_ix ix_list peW pe_int (fun _ _ => rfl)) (ho B1 H1 S1 e1 e2 _ fun v B2 H2 S2 e3 e4 ⟨l, c, d, f, h1, h2, h3, h4, h5⟩ => ⟨l, [c, d, f], 0, c, h1, rfl, .inl (Rd.ex S2.bh h2), rfl, k c B2 H2 S2 e3 e4 h3⟩)
theorem ee_h31 {q : α × β × γ} {kk} {pp : Pos} (ho : EvE X E own B H σ o (rH3 R S T) q) : EvE X E own B H σ (.Subscript o (.Constant (.int 1) kk pp) pos) S q.2.1 := fun B1 H1 S1 e1 e2 Q k =>
  WE.of (pe_ix ix_list peW pe_int (fun _ _ => rfl)) (ho B1 H1 S1 e1 e2 _ fun v B2 H2 S2 e3 e4 ⟨l, c, d, f, h1, h2, h3, h4, h5⟩ => ⟨l, [c, d, f], 1, d, h1, rfl, .inl (Rd.ex S2.bh h2), rfl, k d B2 H2 S2 e3 e4 h4⟩)
theorem ee_h32 {q : α × β × γ} {kk} {pp : Pos} (ho : EvE X E own B H σ o (rH3 R S T) q) : EvE X E own B H σ (.Subscript o (.Constant (.int 2) kk pp) pos) T q.2.2 := fun B1 H1 S1 e1 e2 Q k =>
  WE.of (pe_ix ix_list peW pe_int (fun _ _ => rfl)) (ho B1 H1 S1 e1 e2 _ fun v B2 H2 S2 e3 e4 ⟨l, c, d, f, h1, h2, h3, h4, h5⟩ => ⟨l, [c, d, f], 2, f, h1, rfl, .inl (Rd.ex S2.bh h2), rfl, k f B2 H2 S2 e3 e4 h5⟩)
/-- x = [a, b, c], the list one's own -/
theorem s_asgOH (C : Cok X k) (L : Slot X i n) (S0 : Stt E own B H) (ha : EvE X E own B H σ a R x) (hb : EvE X E own B H σ b S y) (hc : EvE X E own B H σ c T z)
    (q : ∀ p u v w B' H', Stt E ((p, .lst [u, v, w]) :: own) B' H' → Ex B B' → R.r B' u x → S.r B' v y → T.r B' w z → WSs X rest D (σ.set i (some (.ref p))) H')
    (h1 : starEach (a :: [b, c]) X.env = (false, eval a X.env) :: starEach [b, c] X.env := by rfl) (h2 : starEach (b :: [c]) X.env = (false, eval b X.env) :: starEach [c] X.env := by rfl) (h3 : St1 X c := by rfl)
    (hs : swapsWith (.List [a, b, c] pos') (some (.Name n p)) pos.line X.env = pure false := by rfl) : WSs X (.Assign [.Name n p] (.List [a, b, c] pos') pos :: rest) D σ H :=
  WSs.cons (ps_set C.nd L.ix L.loc (pe_lst (pa_cons peW (pa_cons peW (pa_cons peW pa_nil h3) h2) h1)) hs L.hf) (ha B H S0 (Ex.refl _) (Ex.refl _) _ fun u B2 H2 S2 e1 e2 r1 => hb B2 H2 S2 e1 e2 _ fun v B3 H3 S3 e3 e4 r2 => hc B3 H3 S3 (e1.trans e3) (e2.trans e4) _ fun w B4 H4 S4 e5 e6 r3 =>
    ⟨by show 3 ≤ sizeLine; decide, fun pp hp => q pp u v w B4 _ (S4.alloc hp fun ys z => by cases z) ((e1.trans e3).trans e5) (R.mono (e3.trans e5) r1) (S.mono e5 r2) r3⟩)
theorem ev_oh {q : Addr} {u v w : V} (hp : PE X e (tVar i)) (h : σ[i]? = some (some (.ref q))) (hk : (q, HO.lst [u, v, w]) ∈ own) (r1 : R.r B u x) (r2 : S.r B v y) (r3 : T.r B w z) : EvB X E own B H σ e (rH3 R S T) (x, y, z) := fun B1 H1 S1 e1 e2 Q kq => by
  have up := e1.trans S1.bh.ex
  exact WE.of hp ⟨.ref q, h, kq _ B1 H1 S1 (Ex.refl _) (Ex.refl _) ⟨q, u, v, w, rfl, Rd.of (S1.ow _ hk).2.2, R.mono up r1, S.mono up r2, T.mono up r3⟩⟩
theorem oh_keep {q : Addr} {u v w : V} (S0 : Stt E own B H) (hk : own[k]? = some (q, .lst [u, v, w])) (r1 : R.r B u x) (r2 : S.r B v y) (r3 : T.r B w z) : ∃ B', Stt E (own.eraseIdx k) B' H ∧ Ex B B' ∧ (rH3 R S T).r B' (.ref q) (x, y, z) := by
  have e := (Sx.new (o := .lst [u, v, w]) (S0.ow _ (getE hk)).2.1).ex
  exact ⟨_, S0.keepAt hk, e, q, u, v, w, rfl, Rd.of upd_same, R.mono e r1, S.mono e r2, T.mono e r3⟩
end
/-! ### a list of three lists, all new since a mark, is changed by a def -/
section
variable {α β γ : Type} {R R' : Rel α} {S S' : Rel β} {T T' : Rel γ} {Bo : Hp}
def rH3N (Bo : Hp) (R : Rel α) (S : Rel β) (T : Rel γ) : Rel (α × β × γ) := ⟨fun H v x => ∃ p a b c, v = .ref p ∧ H p = some (.lst [a, b, c]) ∧ Bo p = none ∧ R.r H a x.1 ∧ S.r H b x.2.1 ∧ T.r H c x.2.2, fun e ⟨p, a, b, c, h1, h2, h0, h3, h4, h5⟩ => ⟨p, a, b, c, h1, e.lst h2, h0, R.mono e h3, S.mono e h4, T.mono e h5⟩⟩
instance [Fgt R R'] [Fgt S S'] [Fgt T T'] : Fgt (rH3N Bo R S T) (rH3 R' S' T') := ⟨fun ⟨p, a, b, c, h1, h2, _, h3, h4, h5⟩ => ⟨p, a, b, c, h1, Rd.of h2, Fgt.f h3, Fgt.f h4, Fgt.f h5⟩⟩
instance {R : Hp → Rel α} {S : Hp → Rel β} {T : Hp → Rel γ} [AntiN R] [AntiN S] [AntiN T] : AntiN (fun B => rH3N B (R B) (S B) (T B)) := ⟨fun e ⟨p, a, b, c, h1, h2, h0, h3, h4, h5⟩ => ⟨p, a, b, c, h1, h2, e.back h0, AntiN.an (RR := R) e h3, AntiN.an (RR := S) e h4, AntiN.an (RR := T) e h5⟩⟩
instance : NN (rH3N Bo R S T) := ⟨fun ⟨p, a, b, c, h1, _⟩ => by rw [h1]; exact fun q => by cases q⟩
end
section
variable {X : Cx} {E : Ent} {own own' : Own} {B H B' H' Bo Ho : Hp} {σ : L2.St} {α β γ : Type} {R : Rel α} {S : Rel β} {T : Rel γ} {e a b c o it : Expr} {x : α} {y : β} {z : γ} {p pos pos' apos : Pos} {i j k k0 : Nat}
variable {n m : Str} {rest body : List Stmt} {D : Ends} {ps : List Str}
theorem ev_isl3 [IsLs R] [IsLs S] [IsLs T] {q : α × β × γ} (h : EvB X E own B H σ e (rH3 R S T) q) : EvB X E own B H σ e (rLst rIsL) [(), (), ()] := fun B1 H1 S1 e1 e2 Q k => h B1 H1 S1 e1 e2 Q fun v B2 H2 S2 e3 e4 ⟨p, a, b, c, h1, h2, h3, h4, h5⟩ => k v B2 H2 S2 e3 e4 ⟨p, [a, b, c], h1, h2, isL3 h3 h4 h5⟩
theorem ee_isl3 [IsLs R] [IsLs S] [IsLs T] {q : α × β × γ} (h : EvE X E own B H σ e (rH3 R S T) q) : EvE X E own B H σ e (rLst rIsL) [(), (), ()] := fun B1 H1 S1 e1 e2 Q k => h B1 H1 S1 e1 e2 Q fun v B2 H2 S2 e3 e4 ⟨p, a, b, c, h1, h2, h3, h4, h5⟩ => k v B2 H2 S2 e3 e4 ⟨p, [a, b, c], h1, h2, isL3 h3 h4 h5⟩
theorem ee_any (h : EvE X E own B H σ e R x) : EvE X E own B H σ e rAny () := fun B1 H1 S1 e1 e2 Q k => h B1 H1 S1 e1 e2 Q fun v B2 H2 S2 e3 e4 _ => k v B2 H2 S2 e3 e4 trivial
theorem oh_keepN {q : Addr} {u v w : V} (hx : Ex Bo B) (S0 : Stt E own B H) (hk : own[k]? = some (q, .lst [u, v, w])) (r1 : R.r B u x) (r2 : S.r B v y) (r3 : T.r B w z) : ∃ B', Stt E (own.eraseIdx k) B' H ∧ Ex B B' ∧ (rH3N Bo R S T).r B' (.ref q) (x, y, z) := by
  have n := (S0.ow _ (getE hk)).2.1
  have e := (Sx.new (o := .lst [u, v, w]) n).ex
  exact ⟨_, S0.keepAt hk, e, q, u, v, w, rfl, upd_same, hx.back n, R.mono e r1, S.mono e r2, T.mono e r3⟩
theorem Stt.perm (S : Stt E own B H) (h : own.Perm own') : Stt E own' B H := ⟨S.b0, S.h0, S.bh, S.tu, S.fr, fun z hz => S.ow z (h.mem_iff.mpr hz), (h.map _).nodup_iff.mp S.nd⟩
/-- lists with room for three more -/
def Room (m : Nat) (io : Own) : Prop := ∀ z ∈ io, ∃ us : List V, z.2 = HO.lst us ∧ us.length + 3 ≤ sizeLine + m
theorem thaw3 {v : V} {x : List (Int × Int) × List (Int × List Int) × List Int} (So : Stt E own' Bo Ho) (hx : Ex Bo B) (S : Stt E own B H) (r : (rH3N Bo (rLstN Bo (rPr rInt rInt)) (rLstN Bo (rPr rInt (rTup rInt))) (rLstN Bo rInt)).r B v x) (hz3 : x.1.length + 3 ≤ sizeLine ∧ x.2.1.length + 3 ≤ sizeLine ∧ x.2.2.length + 3 ≤ sizeLine) :
    ∃ p q0 q1 q2 io B', v = .ref p ∧ Stt E (((p, .lst [.ref q0, .ref q1, .ref q2]) :: io) ++ own) B' H ∧ Ex Bo B' ∧ Tx B B' ∧ Room 0 io ∧ q0 ∈ io.map (·.1) ∧ q1 ∈ io.map (·.1) ∧ q2 ∈ io.map (·.1) := by
  obtain ⟨xa, xb, xc⟩ := x
  obtain ⟨p, a, b, c, rfl, hp, hpn, ⟨q0, u0, rfl, h0, n0, r0⟩, ⟨q1, u1, rfl, h1, n1, r1⟩, ⟨q2, u2, rfl, h2, n2, r2⟩⟩ := r
  replace r0 : Paired _ u0 xa := r0
  replace r1 : Paired _ u1 xb := r1
  replace r2 : Paired _ u2 xc := r2
  have hq : ∀ q ∈ [p, q0, q1, q2], Bo q = none ∧ ∃ us, B q = some (.lst us) := by
    intro q hq
    rcases List.mem_cons.mp hq with rfl | hq
    · exact ⟨hpn, _, hp⟩
    rcases List.mem_cons.mp hq with rfl | hq
    · exact ⟨n0, _, h0⟩
    rcases List.mem_cons.mp hq with rfl | hq
    · exact ⟨n1, _, h1⟩
    rcases List.mem_cons.mp hq with rfl | hq
    · exact ⟨n2, _, h2⟩
    · cases hq
  obtain ⟨B', io, S1, x1, x2, l1, l2, l3⟩ := thawN So hx S _ hq
  have val : ∀ z ∈ io, H z.1 = some z.2 := fun z hz => (S1.ow z (List.mem_append_left _ hz)).2.2
  obtain ⟨⟨p', u⟩, hm, e⟩ := List.mem_map.mp (l2 p (List.mem_cons_self ..))
  have e : p' = p := e
  subst e
  have hu : u = .lst [.ref q0, .ref q1, .ref q2] := by
    have := val _ hm
    rw [S.bh _ _ hp] at this
    exact (Option.some.inj this).symm
  subst hu
  have ne0 : q0 ≠ p' := fun e => by
    subst e
    rw [hp] at h0
    cases h0
    cases r0 with
    | cons h _ =>
      obtain ⟨t, a, b, e1, e2, _⟩ := h
      cases e1
      rw [hp] at e2
      cases e2
  have ne1 : q1 ≠ p' := fun e => by
    subst e
    rw [hp] at h1
    cases h1
    cases r1 with
    | cons h h' =>
      cases h' with
      | cons h _ =>
        obtain ⟨t, a, b, e1, e2, _⟩ := h
        cases e1
        rw [hp] at e2
        cases e2
  have ne2 : q2 ≠ p' := fun e => by
    subst e
    rw [hp] at h2
    cases h2
    cases r2 with
    | cons h _ => cases (show _ = _ from h)
  obtain ⟨s, t, rfl⟩ := List.append_of_mem hm
  have inn : ∀ q, q ∈ [p', q0, q1, q2] → q ≠ p' → q ∈ (s ++ t).map (·.1) := fun q hq hn => by
    obtain ⟨z, hz, e⟩ := List.mem_map.mp (l2 q hq)
    rcases List.mem_append.mp hz with hz | hz
    · exact List.mem_map.mpr ⟨z, List.mem_append_left _ hz, e⟩
    rcases List.mem_cons.mp hz with rfl | hz
    · exact absurd e.symm hn
    · exact List.mem_map.mpr ⟨z, List.mem_append_right _ hz, e⟩
  refine ⟨p', q0, q1, q2, s ++ t, B', rfl, S1.perm (List.perm_middle.append_right own), x1, x2, fun z hz => ?_, inn q0 (by simp) ne0, inn q1 (by simp) ne1, inn q2 (by simp) ne2⟩
  have hz' : z ∈ s ++ (p', HO.lst [.ref q0, .ref q1, .ref q2]) :: t := by
    rcases List.mem_append.mp hz with h | h
    · exact List.mem_append_left _ h
    · exact List.mem_append_right _ (List.mem_cons_of_mem _ h)
  obtain ⟨us, hus⟩ := l1 z hz'
  refine ⟨us, hus, ?_⟩
  have v1 := val z hz'
  rw [hus] at v1
  have l4 := l3 z hz'
  rcases List.mem_cons.mp l4 with e | l4
  · rw [e, S.bh _ _ hp] at v1
    cases v1
    show 6 ≤ sizeLine
    decide
  rcases List.mem_cons.mp l4 with e | l4
  · rw [e, S.bh _ _ h0] at v1
    cases v1
    rw [plen r0]
    exact hz3.1
  rcases List.mem_cons.mp l4 with e | l4
  · rw [e, S.bh _ _ h1] at v1
    cases v1
    rw [plen r1]
    exact hz3.2.1
  rcases List.mem_cons.mp l4 with e | l4
  · rw [e, S.bh _ _ h2] at v1
    cases v1
    rw [plen r2]
    exact hz3.2.2
  · cases l4
def SpChg : Sp := fun vs H Q _ => ∃ (B : Hp) (p q0 q1 q2 : Addr) (io : Own) (n : Int), vs = [.ref p, .int n] ∧ Sx B H ∧ Tx H B ∧ Ows ((p, .lst [.ref q0, .ref q1, .ref q2]) :: io) B H ∧ Room 0 io ∧ q0 ∈ io.map (·.1) ∧ q1 ∈ io.map (·.1) ∧ q2 ∈ io.map (·.1) ∧
  ∀ io' B' H', Stt ⟨B, less H (((p, HO.lst [.ref q0, .ref q1, .ref q2]) :: io).map (·.1))⟩ io' B' H' → Q .non H'
theorem s_chg3 {x : List (Int × Int) × List (Int × List Int) × List Int} {w : Int} (C : Cok X k0) (G : Cal X k n ps SpChg) (hk : k ≤ k0) (hg : Gl X n) (So : Stt E own' Bo Ho) (hx : Ex Bo B) (S0 : Stt E own B H) (ha : EvE X E own B H σ a (rH3N Bo (rLstN Bo (rPr rInt rInt)) (rLstN Bo (rPr rInt (rTup rInt))) (rLstN Bo rInt)) x) (hb : EvB X E own B H σ b rInt w) (hz : x.1.length + 3 ≤ sizeLine ∧ x.2.1.length + 3 ≤ sizeLine ∧ x.2.2.length + 3 ≤ sizeLine)
    (kt : ∀ B' H', Stt E own B' H' → Ex Bo B' → Tx B B' → WSs X rest D σ H')
    (hdb : (n == ("__debug__" : Str)) = false := by rfl) (he : starEach (a :: [b]) X.env = (false, eval a X.env) :: starEach [b] X.env := by rfl) (he2 : starEach (b :: []) X.env = (false, eval b X.env) :: starEach [] X.env := by rfl) (hpl : (backTo pos (starEach [b] X.env)).any (·.1) = false := by rfl) (hs : swapsWith (.Call (.Name n p) [a, b] [] pos) none pos'.line X.env = pure false := by rfl) :
    WSs X (.Expr (.Call (.Name n p) [a, b] [] pos) pos' :: rest) D σ H :=
  s_dropW (we_call C G hk hg (wa_cons (ha B H S0 (Ex.refl _) (Ex.refl _) _ fun v B2 H2 S2 e1 e2 r => wa_cons (hb B2 H2 S2 e1 e2 _ fun u B3 H3 S3 e3 e4 ru => wa_nil (by
    have ru : u = .int w := ru
    subst ru
    obtain ⟨p, q0, q1, q2, io, B4, rfl, S4, x1, x2, l, m0, m1, m2⟩ := thaw3 So (hx.trans (e1.trans e3)) S3 ((rH3N _ _ _ _).mono e3 r) hz
    refine ⟨B4, p, q0, q1, q2, io, w, rfl, S4.bh, S4.tu, S4.ows, l, m0, m1, m2, fun io' B5 H5 T => ?_⟩
    exact kt B5 H5 (S4.callIO T).drops (x1.trans T.b0.ex) (Tx.trans (Tx.trans (e1.trans e3).tx x2) T.b0.ex.tx))) he2) he) hdb he hpl) hs
/-- x.append(e), x among the lists with room -/
theorem room_at {qs : List Addr} {m : Nat} {q : Addr} {io : Own} (J : io.map (·.1) = qs ∧ Room m io) (hq : q ∈ qs) : ∃ (k : Nat) (us : List V), io[k]? = some (q, HO.lst us) ∧ us.length + 3 ≤ sizeLine + m := by
  rw [← J.1] at hq
  obtain ⟨z, hz, e⟩ := List.mem_map.mp hq
  obtain ⟨k, hk⟩ := List.mem_iff_getElem?.mp hz
  obtain ⟨us, hu, hlen⟩ := J.2 z hz
  exact ⟨k, us, by rw [hk, ← e, ← hu], hlen⟩
theorem room_set {qs : List Addr} {m m' : Nat} {q : Addr} {us ws : List V} {io : Own} (J : io.map (·.1) = qs ∧ Room m io) (hm : m ≤ m') (hk : io[k]? = some (q, HO.lst us)) (hw : ws.length + 3 ≤ sizeLine + m') : (io.set k (q, HO.lst ws)).map (·.1) = qs ∧ Room m' (io.set k (q, HO.lst ws)) := by
  refine ⟨by rw [set_fst hk]; exact J.1, fun z hz => ?_⟩
  rcases List.mem_or_eq_of_mem_set hz with hz | rfl
  · obtain ⟨us, h1, h2⟩ := J.2 z hz
    exact ⟨us, h1, by omega⟩
  · exact ⟨_, rfl, hw⟩
theorem app_room {qs : List Addr} {mm : Nat} {q : Addr} {io : Own} (S2 : Stt E (io ++ own) B H) (ha : PE X a (tVar i)) (h : σ[i]? = some (some (.ref q))) (J : io.map (·.1) = qs ∧ Room mm io) (hq : q ∈ qs) (hm : mm < 3) (he : EvE X E (io ++ own) B H σ e rAny ())
    (nx : ∀ io3 B3 H3, (io3.map (·.1) = qs ∧ Room (mm + 1) io3) → Stt E (io3 ++ own) B3 H3 → Ex B B3 → D.nx σ H3)
    (t : BmT X a "append" apos [] e p := by exact ⟨rfl, rfl, rfl, rfl, rfl⟩) (hs : St1 X e := by rfl) (hw : swapsWith (.Call (.Attribute a "append" apos) [e] [] p) none pos.line X.env = pure false := by rfl) :
    WSs X (.Expr (.Call (.Attribute a "append" apos) [e] [] p) pos :: []) D σ H := by
  obtain ⟨k, us, hk, hlen⟩ := room_at J hq
  refine s_append (R := rAny) (xs := us.map fun _ => ()) S2 ha h (get_app hk) (pAny us) he (by rw [List.length_map]; omega) (fun v B3 H3 S3 e3 _ => WSs.nil ?_) t hs hw
  rw [set_app hk] at S3
  exact nx _ B3 H3 (room_set J (Nat.le_succ _) hk (by rw [List.length_append]; show us.length + 1 + 3 ≤ _; omega)) S3 e3
end
end Sg

namespace Sg
open PySem PySem.Spec PyProof.Rows L2
/-! ### plain laws -/
section
variable {α β τ ρ : Type}
theorem ok_bind (a : α) (f : α → Res β) : (Res.ok a).bind f = f a := rfl
theorem of_some {a : α} {f : α → Res β} {o : Option α} (h : o = some a) : (Res.of o).bind f = f a := by rw [h]; rfl
theorem need_pos {c : Prop} [Decidable c] {m : Res α} (h : c) : Res.need c m = m := by unfold Res.need; rw [if_pos h]
theorem bind_eq {m : Res α} {a : α} {f : α → Res β} (h : m = .ok a) : m.bind f = f a := by rw [h]; rfl
theorem forM_inv {step : τ → α → Res τ} (I : List α → τ → Prop) : ∀ (xs pre : List α) (a : τ), I pre a → (∀ pr x po a, pre ++ xs = pr ++ x :: po → I pr a → ∃ a', step a x = .ok a' ∧ I (pr ++ [x]) a') → ∃ a', forM step xs a = .ok a' ∧ I (pre ++ xs) a'
  | [], pre, a, h, _ => ⟨a, rfl, by rw [List.append_nil]; exact h⟩
  | x :: r, pre, a, h, hs => by
    obtain ⟨a', e, h'⟩ := hs pre x r a rfl h
    obtain ⟨a2, e2, h2⟩ := forM_inv I r (pre ++ [x]) a' h' fun pr y po b eq hb => hs pr y po b (by rw [← eq, List.append_assoc]; rfl) hb
    refine ⟨a2, ?_, by rw [List.append_assoc] at h2; exact h2⟩
    unfold forM
    rw [e]
    exact e2
theorem forM_inv0 {step : τ → α → Res τ} {xs : List α} {a : τ} (I : List α → τ → Prop) (h : I [] a) (hs : ∀ pr x po a, xs = pr ++ x :: po → I pr a → ∃ a', step a x = .ok a' ∧ I (pr ++ [x]) a') : ∃ a', forM step xs a = .ok a' ∧ I xs a' := by
  obtain ⟨a', e, q⟩ := forM_inv I xs [] a h fun pr x po a eq => hs pr x po a (by simpa using eq)
  exact ⟨a', e, by simpa using q⟩
theorem forR_inv {step : τ → α → Res (ρ ⊕ τ)} (I : List α → τ → Prop) : ∀ (xs pre : List α) (a : τ), I pre a → (∀ pr x po a, pre ++ xs = pr ++ x :: po → I pr a → ∃ a', step a x = .ok (.inr a') ∧ I (pr ++ [x]) a') → ∃ a', forR step xs a = .ok (.inr a') ∧ I (pre ++ xs) a'
  | [], pre, a, h, _ => ⟨a, rfl, by rw [List.append_nil]; exact h⟩
  | x :: r, pre, a, h, hs => by
    obtain ⟨a', e, h'⟩ := hs pre x r a rfl h
    obtain ⟨a2, e2, h2⟩ := forR_inv I r (pre ++ [x]) a' h' fun pr y po b eq hb => hs pr y po b (by rw [← eq, List.append_assoc]; rfl) hb
    refine ⟨a2, ?_, by rw [List.append_assoc] at h2; exact h2⟩
    unfold forR
    rw [e]
    exact e2
theorem forR_all {step : τ → α → Res (ρ ⊕ τ)} {a : τ} : ∀ {xs : List α}, (∀ x ∈ xs, step a x = .ok (.inr a)) → forR step xs a = .ok (.inr a)
  | [], _ => rfl
  | x :: r, h => by
    unfold forR
    rw [h x (List.mem_cons_self ..)]
    exact forR_all fun y hy => h y (List.mem_cons_of_mem _ hy)
theorem forM_all {step : τ → α → Res τ} {a : τ} : ∀ {xs : List α}, (∀ x ∈ xs, step a x = .ok a) → forM step xs a = .ok a
  | [], _ => rfl
  | x :: r, h => by
    unfold forM
    rw [h x (List.mem_cons_self ..)]
    exact forM_all fun y hy => h y (List.mem_cons_of_mem _ hy)
theorem whileR_inv {step : τ → Res (ρ ⊕ τ)} (I : τ → Prop) (P : ρ → Prop) (m : τ → Nat) (hs : ∀ a, I a → (∃ u, step a = .ok (.inl u) ∧ P u) ∨ ∃ a', step a = .ok (.inr a') ∧ I a' ∧ m a' < m a) : ∀ (n : Nat) (a : τ), I a → m a < n → ∃ u, whileR step n a = .ok u ∧ P u
  | 0, _, _, h => absurd h (Nat.not_lt_zero _)
  | n + 1, a, h, hm => by
    unfold whileR
    rcases hs a h with ⟨u, e, p⟩ | ⟨a', e, h', hlt⟩
    · rw [e]
      exact ⟨u, rfl, p⟩
    · rw [e]
      exact whileR_inv I P m hs n a' h' (by omega)
theorem mfM_ok {c : α → Res Bool} {f : α → Res β} {cb : α → Bool} {fb : α → β} : ∀ {xs : List α}, (∀ x ∈ xs, c x = .ok (cb x)) → (∀ x ∈ xs, cb x = true → f x = .ok (fb x)) → mfM c f xs = .ok ((xs.filter cb).map fb)
  | [], _, _ => rfl
  | x :: r, hc, hf => by
    have ih := mfM_ok (xs := r) (fun y hy => hc y (List.mem_cons_of_mem _ hy)) (fun y hy => hf y (List.mem_cons_of_mem _ hy))
    unfold mfM
    rw [hc x (List.mem_cons_self ..), ok_bind, ih, List.filter_cons]
    by_cases h : cb x = true
    · rw [if_pos h, if_pos h, hf x (List.mem_cons_self ..) h]
      rfl
    · rw [if_neg h, if_neg h]
/-- it ends well -/
def Ok (P : α → Prop) (m : Res α) : Prop := ∃ a, m = .ok a ∧ P a
theorem Ok.ret {P : α → Prop} {a : α} (h : P a) : Ok P (.ok a) := ⟨a, rfl, h⟩
theorem Ok.bind {Q : α → Prop} {P : β → Prop} {m : Res α} {f : α → Res β} (h : Ok Q m) (k : ∀ a, m = .ok a → Q a → Ok P (f a)) : Ok P (m.bind f) := by
  obtain ⟨a, e, q⟩ := h
  obtain ⟨b, e2, p⟩ := k a e q
  exact ⟨b, (bind_eq e).trans e2, p⟩
theorem Ok.need {P : α → Prop} {c : Prop} [Decidable c] {m : Res α} (h : c) (k : Ok P m) : Ok P (Res.need c m) := by
  rw [need_pos h]
  exact k
theorem Ok.of {P : β → Prop} {o : Option α} {a : α} {f : α → Res β} (h : o = some a) (k : Ok P (f a)) : Ok P ((Res.of o).bind f) := by
  rw [of_some h]
  exact k
theorem Ok.tt {P : α → Prop} {b : Bool} {m n : Res α} (h : b = true) (k : Ok P m) : Ok P (if b = true then m else n) := by
  rw [if_pos h]
  exact k
theorem Ok.ff {P : α → Prop} {b : Bool} {m n : Res α} (h : b = false) (k : Ok P n) : Ok P (if b = true then m else n) := by
  rw [if_neg (by rw [h]; exact Bool.false_ne_true)]
  exact k
theorem Ok.ite {P : α → Prop} {b : Bool} {m n : Res α} (h : b = true → Ok P m) (k : b = false → Ok P n) : Ok P (if b = true then m else n) := by
  cases e : b with
  | true => exact h e
  | false => exact k e
theorem Ok.imp {P Q : α → Prop} {m : Res α} (h : Ok P m) (k : ∀ a, P a → Q a) : Ok Q m := by
  obtain ⟨a, e, p⟩ := h
  exact ⟨a, e, k a p⟩
theorem Ok.forM {step : τ → α → Res τ} {xs : List α} {a : τ} (I : List α → τ → Prop) (h : I [] a) (hs : ∀ pr x po a, xs = pr ++ x :: po → I pr a → Ok (I (pr ++ [x])) (step a x)) : Ok (I xs) (forM step xs a) := forM_inv0 I h hs
theorem Ok.forR {step : τ → α → Res (ρ ⊕ τ)} {xs : List α} {a : τ} (I : List α → τ → Prop) (h : I [] a) (hs : ∀ pr x po a, xs = pr ++ x :: po → I pr a → Ok (fun o => ∃ a', o = .inr a' ∧ I (pr ++ [x]) a') (step a x)) : Ok (fun o => ∃ a', o = .inr a' ∧ I xs a') (forR step xs a) := by
  obtain ⟨a', e, q⟩ := forR_inv (step := step) I xs [] a h fun pr x po a eq hI => by
    obtain ⟨o, e, a', rfl, q⟩ := hs pr x po a (by simpa using eq) hI
    exact ⟨a', e, q⟩
  exact ⟨_, e, a', rfl, by simpa using q⟩
theorem Ok.mfM {c : α → Res Bool} {f : α → Res β} {cb : α → Bool} {fb : α → β} {xs : List α} {P : List β → Prop} (hc : ∀ x ∈ xs, c x = .ok (cb x)) (hf : ∀ x ∈ xs, cb x = true → f x = .ok (fb x)) (h : P ((xs.filter cb).map fb)) : Ok P (mfM c f xs) := ⟨_, mfM_ok hc hf, h⟩
theorem Ok.mfMap {f : α → Res β} {fb : α → β} {xs : List α} {P : List β → Prop} (hf : ∀ x ∈ xs, f x = .ok (fb x)) (h : P (xs.map fb)) : Ok P (Sg.mfM (fun _ => Res.ok true) f xs) := by
  have := mfM_ok (cb := fun _ => true) (c := fun _ => Res.ok true) (fun x _ => rfl) (fun x hx _ => hf x hx)
  rw [List.filter_eq_self.mpr (fun _ _ => rfl)] at this
  exact ⟨_, this, h⟩
/-! dicts -/
variable {κ : Type} [DecidableEq κ]
theorem dget_nil (k : κ) : dget ([] : List (κ × α)) k = none := rfl
theorem dget_cons (q : κ × α) (d : List (κ × α)) (k : κ) : dget (q :: d) k = if q.1 = k then some q.2 else dget d k := by
  unfold dget
  rw [List.find?_cons]
  by_cases h : q.1 = k
  · rw [decide_eq_true h, if_pos h]
    rfl
  · rw [decide_eq_false h, if_neg h]
theorem dget_app (d e : List (κ × α)) (k : κ) : dget (d ++ e) k = (dget d k).or (dget e k) := by
  induction d with
  | nil => rfl
  | cons q r ih =>
    rw [List.cons_append, dget_cons, dget_cons, ih]
    by_cases h : q.1 = k
    · rw [if_pos h, if_pos h]
      rfl
    · rw [if_neg h, if_neg h]
theorem dget_none {d : List (κ × α)} {k : κ} : dget d k = none ↔ k ∉ d.map (·.1) := by
  induction d with
  | nil => simp [dget_nil]
  | cons q r ih =>
    rw [dget_cons, List.map_cons, List.mem_cons, not_or]
    by_cases h : q.1 = k
    · rw [if_pos h]
      constructor
      · intro z; cases z
      · intro z; exact absurd h.symm z.1
    · rw [if_neg h, ih]
      exact ⟨fun z => ⟨fun y => h y.symm, z⟩, fun z => z.2⟩
theorem dget_isSome {d : List (κ × α)} {k : κ} : (dget d k).isSome = true ↔ k ∈ d.map (·.1) := by
  cases h : dget d k with
  | none => exact ⟨fun z => (by cases z), fun z => absurd z (dget_none.mp h)⟩
  | some v =>
    refine ⟨fun _ => Classical.byContradiction fun z => ?_, fun _ => rfl⟩
    rw [dget_none.mpr z] at h
    cases h
theorem dget_mem {d : List (κ × α)} {k : κ} {v : α} (h : dget d k = some v) : (k, v) ∈ d := by
  induction d with
  | nil => cases h
  | cons q r ih =>
    rw [dget_cons] at h
    by_cases e : q.1 = k
    · rw [if_pos e] at h
      have e2 : q.2 = v := Option.some.inj h
      have : q = (k, v) := Prod.ext e e2
      rw [this]
      exact List.mem_cons_self ..
    · rw [if_neg e] at h
      exact List.mem_cons_of_mem _ (ih h)
theorem dget_of {d : List (κ × α)} (nd : (d.map (·.1)).Nodup) {k : κ} {v : α} (h : (k, v) ∈ d) : dget d k = some v := by
  induction d with
  | nil => cases h
  | cons q r ih =>
    rw [List.map_cons, List.nodup_cons] at nd
    rw [dget_cons]
    rcases List.mem_cons.mp h with e | h'
    · rw [← e, if_pos rfl]
    · have : q.1 ≠ k := fun z => nd.1 (by rw [z]; exact List.mem_map.mpr ⟨(k, v), h', rfl⟩)
      rw [if_neg this]
      exact ih nd.2 h'
theorem dput_new {d : List (κ × α)} {k : κ} {v : α} (h : k ∉ d.map (·.1)) : dput d k v = d ++ [(k, v)] := by
  unfold dput
  have : (d.any fun kv => decide (kv.1 = k)) = false := by
    rw [List.any_eq_false]
    intro q hq z
    exact h (List.mem_map.mpr ⟨q, hq, of_decide_eq_true z⟩)
  rw [this]
  rfl
theorem dput_keys {d : List (κ × α)} {k : κ} {v : α} : (dput d k v).map (·.1) = if k ∈ d.map (·.1) then d.map (·.1) else d.map (·.1) ++ [k] := by
  by_cases h : k ∈ d.map (·.1)
  · rw [if_pos h]
    unfold dput
    have : (d.any fun kv => decide (kv.1 = k)) = true := by
      obtain ⟨q, hq, e⟩ := List.mem_map.mp h
      exact List.any_eq_true.mpr ⟨q, hq, decide_eq_true e⟩
    rw [this, if_pos rfl, List.map_map]
    apply List.map_congr_left
    intro q hq
    show (if q.1 = k then (q.1, v) else q : κ × α).1 = q.1
    by_cases e : q.1 = k
    · rw [if_pos e]
    · rw [if_neg e]
  · rw [if_neg h, dput_new h, List.map_append]
    rfl
theorem dget_mapset {k l : κ} {v : α} : ∀ d : List (κ × α), dget (d.map (fun kv => if kv.1 = k then (kv.1, v) else kv)) l = if k = l then (dget d l).map (fun _ => v) else dget d l
  | [] => by
    rw [List.map_nil, dget_nil]
    by_cases h : k = l
    · rw [if_pos h]; rfl
    · rw [if_neg h]
  | q :: r => by
    rw [List.map_cons, dget_cons, dget_cons, dget_mapset r]
    by_cases h : k = l
    · rw [if_pos h, if_pos h]
      by_cases e : q.1 = k
      · rw [if_pos e, if_pos (e.trans h), if_pos (e.trans h)]
        rfl
      · rw [if_neg e, if_neg (fun z => e (z.trans h.symm)), if_neg (fun z => e (z.trans h.symm))]
    · rw [if_neg h, if_neg h]
      by_cases e : q.1 = k
      · rw [if_pos e, if_neg (fun z => h (e.symm.trans z)), if_neg (fun z => h (e.symm.trans z))]
      · rw [if_neg e]
theorem dget_dput {d : List (κ × α)} {k l : κ} {v : α} : dget (dput d k v) l = if k = l then some v else dget d l := by
  by_cases h : k ∈ d.map (·.1)
  · unfold dput
    have : (d.any fun kv => decide (kv.1 = k)) = true := by
      obtain ⟨q, hq, e⟩ := List.mem_map.mp h
      exact List.any_eq_true.mpr ⟨q, hq, decide_eq_true e⟩
    rw [this, if_pos rfl, dget_mapset]
    by_cases kl : k = l
    · rw [if_pos kl, if_pos kl]
      rw [kl] at h
      have := dget_isSome.mpr h
      cases e : dget d l with
      | none => rw [e] at this; cases this
      | some w => rfl
    · rw [if_neg kl, if_neg kl]
  · rw [dput_new h, dget_app]
    by_cases kl : k = l
    · rw [if_pos kl, ← kl, dget_none.mpr h, dget_cons, if_pos rfl]
      rfl
    · rw [if_neg kl, dget_cons, if_neg kl, dget_nil]
      cases dget d l <;> rfl
theorem dput_nd {d : List (κ × α)} {k : κ} {v : α} (nd : (d.map (·.1)).Nodup) : ((dput d k v).map (·.1)).Nodup := by
  rw [dput_keys]
  by_cases h : k ∈ d.map (·.1)
  · rw [if_pos h]
    exact nd
  · rw [if_neg h]
    exact List.nodup_append.mpr ⟨nd, List.nodup_cons.mpr ⟨by simp, List.nodup_nil⟩, fun a ha b hb e => h (by rw [← List.mem_singleton.mp hb, ← e]; exact ha)⟩
theorem dmerge_nd {d : List (κ × α)} (nd : (d.map (·.1)).Nodup) : dmerge d = d := by
  have key : ∀ (e acc : List (κ × α)), ((acc ++ e).map (·.1)).Nodup → e.foldl (fun acc kv => dput acc kv.1 kv.2) acc = acc ++ e := by
    intro e
    induction e with
    | nil => intro acc _; rw [List.append_nil]; rfl
    | cons q r ih =>
      intro acc h
      have hn : q.1 ∉ acc.map (·.1) := by
        rw [List.map_append, List.map_cons] at h
        have := (List.nodup_append.mp h).2.2
        exact fun z => this _ z _ (List.mem_cons_self ..) rfl
      rw [List.foldl_cons, dput_new hn, ih]
      · rw [List.append_assoc]; rfl
      · rw [List.append_assoc]; exact h
  exact key d [] (by simpa using nd)
theorem nd_len : ∀ {xs ys : List κ}, xs.Nodup → (∀ x ∈ xs, x ∈ ys) → xs.length ≤ ys.length
  | [], _, _, _ => Nat.zero_le _
  | x :: r, ys, nd, h => by
    rw [List.nodup_cons] at nd
    have hx := h x (List.mem_cons_self ..)
    have := nd_len (xs := r) (ys := ys.erase x) nd.2 fun y hy => (List.mem_erase_of_ne (fun (z : y = x) => nd.1 (z ▸ hy))).mpr (h y (List.mem_cons_of_mem _ hy))
    rw [List.length_erase_of_mem hx] at this
    have := List.length_pos_of_mem hx
    rw [List.length_cons]
    omega
/-! sorted -/
theorem sortI_mem {x : Int} {xs : List Int} : x ∈ sortI xs ↔ x ∈ xs := (sortI_perm xs).mem_iff
theorem sortI_nd {xs : List Int} (h : xs.Nodup) : (sortI xs).Nodup := (sortI_perm xs).nodup_iff.mpr h
theorem sortI_len (xs : List Int) : (sortI xs).length = xs.length := (sortI_perm xs).length_eq
/-- no neighbours alike -/
theorem zip_adj {xs : List Int} (nd : xs.Nodup) : ∀ p ∈ xs.zip (xs.drop 1), p.1 ≠ p.2 := by
  induction xs with
  | nil => intro p h; cases h
  | cons a r ih =>
    intro p hp
    cases r with
    | nil => cases hp
    | cons b t =>
      rw [List.drop_one, List.tail_cons, List.zip_cons_cons] at hp
      rw [List.nodup_cons] at nd
      rcases List.mem_cons.mp hp with e | hp
      · rw [e]
        intro z
        have z' : a = b := z
        exact nd.1 (by rw [z']; exact List.mem_cons_self ..)
      · exact ih nd.2 p (by rw [List.drop_one, List.tail_cons]; exact hp)
theorem cut_tail (xs : List α) (k : Nat) : cut xs (some (k : Int)) none = xs.drop k := by
  unfold cut
  rw [HT.sIx_nat, HT.sIx_none]
  by_cases h : k ≤ xs.length
  · rw [Nat.min_eq_left h, List.take_of_length_le (Nat.le_of_eq List.length_drop)]
  · rw [Nat.min_eq_right (by omega), List.drop_length, List.drop_of_length_le (by omega)]
    simp
theorem cut_head (xs : List α) (k : Nat) : cut xs none (some (k : Int)) = xs.take k := by
  unfold cut
  rw [HT.sIx_nat, HT.sIx_none, List.drop_zero, Nat.sub_zero]
  by_cases h : k ≤ xs.length
  · rw [Nat.min_eq_left h]
  · rw [Nat.min_eq_right (by omega), List.take_length, List.take_of_length_le (by omega)]
theorem cut_mid (xs : List α) (j k : Nat) (h : j ≤ k) : cut xs (some (j : Int)) (some (k : Int)) = (xs.take k).drop j := by
  unfold cut
  rw [HT.sIx_nat, HT.sIx_nat, List.drop_take]
  by_cases h1 : k ≤ xs.length
  · rw [Nat.min_eq_left h1, Nat.min_eq_left (by omega)]
  · by_cases h2 : j ≤ xs.length
    · rw [Nat.min_eq_right (by omega), Nat.min_eq_left h2, List.take_of_length_le (Nat.le_of_eq List.length_drop), List.take_of_length_le (by rw [List.length_drop]; omega)]
    · rw [Nat.min_eq_right (by omega), Nat.min_eq_right (by omega), List.drop_length, List.drop_of_length_le (by omega)]
      simp
theorem cut_init (xs : List α) : cut xs none (some (-1)) = xs.dropLast := by
  unfold cut
  rw [HT.sIx_none, List.drop_zero, Nat.sub_zero]
  have : HT.sIx xs.length xs.length (some (-1)) = ((-1 : Int) + (xs.length : Int)).toNat := by
    simp [HT.sIx]
  rw [this, List.dropLast_eq_take]
  congr 1
  omega
theorem cut_len {xs : List α} {a b : Option Int} : (cut xs a b).length ≤ xs.length := by
  unfold cut
  rw [List.length_take, List.length_drop]
  omega
theorem cut_mem {xs : List α} {a b : Option Int} {x : α} (h : x ∈ cut xs a b) : x ∈ xs := List.mem_of_mem_drop (List.mem_of_mem_take h)
theorem atI_nat (xs : List α) (k : Nat) : atI xs (k : Int) = xs[k]? := by
  unfold atI ixN
  rw [if_pos (Int.natCast_nonneg _)]
  by_cases h : k < xs.length
  · rw [if_pos (by omega)]
    rfl
  · rw [if_neg (by omega), List.getElem?_eq_none (by omega)]
    rfl
theorem atI_in {xs : List α} {k : Int} (h0 : 0 ≤ k) (h1 : k < xs.length) : ∃ x, atI xs k = some x ∧ x ∈ xs := by
  obtain ⟨j, rfl⟩ := Int.eq_ofNat_of_zero_le h0
  have hj : j < xs.length := by omega
  exact ⟨xs[j], (atI_nat xs j).trans (List.getElem?_eq_getElem hj), List.getElem_mem hj⟩
end
end Sg

namespace Sg
open PySem PySem.Spec PyProof.Rows L2
/-! ### what holds if it ends well -/
def Sat {α : Type} (P : α → Prop) (m : Res α) : Prop := ∀ a, m = .ok a → P a
section
variable {α β τ : Type}
theorem Sat.ret {P : α → Prop} {a : α} (h : P a) : Sat P (.ok a) := fun b e => by cases e; exact h
theorem Sat.any {m : Res α} : Sat (fun _ => True) m := fun _ _ => trivial
theorem Sat.bind {Q : α → Prop} {P : β → Prop} {m : Res α} {f : α → Res β} (h : Sat Q m) (k : ∀ a, Q a → Sat P (f a)) : Sat P (m.bind f) := fun b e => by
  obtain ⟨a, e1, e2⟩ := Res.bind_ok e
  exact k a (h a e1) b e2
theorem Sat.need {P : α → Prop} {c : Prop} [Decidable c] {m : Res α} (h : c → Sat P m) : Sat P (Res.need c m) := fun b e => by
  obtain ⟨hc, e⟩ := Res.need_ok e
  exact h hc b e
theorem Sat.of {P : β → Prop} {o : Option α} {f : α → Res β} (h : ∀ a, o = some a → Sat P (f a)) : Sat P ((Res.of o).bind f) := fun b e => by
  obtain ⟨a, e1, e2⟩ := Res.of_ok e
  exact h a e1 b e2
theorem Sat.ite {P : α → Prop} {b : Bool} {m n : Res α} (h : b = true → Sat P m) (k : b = false → Sat P n) : Sat P (if b = true then m else n) := by
  cases e : b with
  | true => exact h e
  | false => exact k e
theorem Sat.imp {P Q : α → Prop} {m : Res α} (h : Sat P m) (k : ∀ a, P a → Q a) : Sat Q m := fun a e => k a (h a e)
theorem Sat.forM {step : τ → α → Res τ} (I : τ → Prop) : ∀ {xs : List α} {a : τ}, I a → (∀ a x, x ∈ xs → I a → Sat I (step a x)) → Sat I (forM step xs a)
  | [], a, h, _ => Sat.ret h
  | x :: xs, a, h, hs => by
    unfold Sg.forM
    exact Sat.bind (hs a x (List.mem_cons_self ..) h) fun b hb => Sat.forM I hb fun c y hy => hs c y (List.mem_cons_of_mem _ hy)
theorem Ok.sat {P Q : α → Prop} {m : Res α} (h : Ok P m) (k : Sat Q m) : Ok (fun a => P a ∧ Q a) m := by
  obtain ⟨a, e, p⟩ := h
  exact ⟨a, e, p, k a e⟩
theorem dput_mem {κ : Type} [DecidableEq κ] {d : List (κ × α)} {k : κ} {v : α} {q : κ × α} (h : q ∈ dput d k v) : q = (k, v) ∨ q ∈ d := by
  unfold dput at h
  by_cases hc : (d.any fun kv => decide (kv.1 = k)) = true
  · rw [if_pos hc] at h
    obtain ⟨z, hz, e⟩ := List.mem_map.mp h
    by_cases hk : z.1 = k
    · rw [if_pos hk] at e
      subst e
      subst hk
      exact .inl rfl
    · rw [if_neg hk] at e
      subst e
      exact .inr hz
  · rw [if_neg hc] at h
    rcases List.mem_append.mp h with h | h
    · exact .inr h
    · exact .inl (List.mem_singleton.mp h)
end
/-! ### small steps -/
theorem cut_low (xs : List Int) (lo hi : Int) (h0 : 0 ≤ lo) (h1 : lo ≤ hi) : (cut xs (some lo) (some hi)).length ≤ (hi - lo).toNat := by
  obtain ⟨a, rfl⟩ := Int.eq_ofNat_of_zero_le h0
  obtain ⟨b, rfl⟩ := Int.eq_ofNat_of_zero_le (show 0 ≤ hi by omega)
  rw [cut_mid _ _ _ (by omega), List.length_drop, List.length_take]
  omega
theorem Ok.is {α : Type} {P : α → Prop} {m : Res α} {a : α} (e : m = .ok a) (h : P a) : Ok P m := ⟨a, e, h⟩
theorem Ok.bindE {α β : Type} {P : β → Prop} {m : Res α} {f : α → Res β} {a : α} (e : m = .ok a) (k : Ok P (f a)) : Ok P (m.bind f) := by
  rw [bind_eq e]
  exact k
end Sg

namespace Sg.W
open PySem PySem.Spec PyProof.Rows L2 Sg
def topS (i : Nat) : Stmt := PySem.Challenge.pw_signforms_k13_lists_told.main.body.getD i (.Pass ⟨0, 0, 0, 0⟩)
/-! l_cell_at -/
abbrev st_l_cell_at : Stmt := topS 20
abbrev N_l_cell_at : List Str := ["_law_script", "_law_k"]
theorem tb_l_cell_at : nmOk (defScope st_l_cell_at) [("_law_script", .local), ("_law_k", .local), ("len", .globalImplicit)] = true := by decide +kernel
theorem sc_l_cell_at : FnScope N_l_cell_at ["_law_script", "_law_k"] (defScope st_l_cell_at) := ⟨rfl, rfl, rfl, by decide +kernel, rfl, by decide +kernel, by decide +kernel⟩
def m_l_cell_at (l_script : (List Int)) (l_k : Int) : Res Int := if (decide (l_k < ((l_script).length : Int))) = true then (Res.of (atI l_script l_k)).bind fun x6 => Res.ok x6 else Res.ok 0
abbrev args_l_cell_at (CT : Addr) : (List Int) × Int → AR := fun d => (aC (rLst rInt) d.1 (aC rInt d.2 aN))
abbrev sp_l_cell_at (CT : Addr) : Sp := SpA (args_l_cell_at CT) (kE rInt) (fun d => m_l_cell_at d.1 d.2)
theorem body_l_cell_at {X : Cx} {CT : Addr} (C : Cok X 0) (VS : Scp X N_l_cell_at (defScope st_l_cell_at)) (fn : ∀ x, X.fn x = true) (T : Blt X.mg) (TT : TabTxt X.K CT)  : ∀ (B H : Hp) (vs : List V) (d : (List Int) × Int) (Q : VK), Sx B H → Tx H B → (args_l_cell_at CT d).r vs B H → Fin ((kE rInt) ⟨B, H⟩ Q) NoErr (m_l_cell_at d.1 d.2) →
    WSs X (defBody st_l_cell_at) { nx := fun _ H' => Q .non H', rt := Q } (start N_l_cell_at vs) H := by
  rintro B H vs ⟨l_script, l_k⟩ Q hb ht ⟨v1, _, rfl, r1_, ⟨_, _, rfl, rfl, rfl⟩⟩ F
  have S0 := Stt.enter hb ht
  refine s_if S0 (c_lt.et (ev_v (VS.var tb_l_cell_at 1 1) rfl rfl) (ev_lenL (VS.gl tb_l_cell_at 2) T.len (ev_v (VS.var tb_l_cell_at 0 0) rfl (Rel.mono _ S0.h0.ex r1_)))) (fun z1 B2 H3 S4 e5 => ?_) (fun z1 B8 H9 S10 e11 => ?_)
  · replace F := Fin.tt F z1
    obtain ⟨x6, h7, F⟩ := Fin.of F
    exact s_retE S4 ((ev_ixL (ev_v (VS.var tb_l_cell_at 0 0) rfl (Rel.mono _ S4.h0.ex r1_)) (ev_v (VS.var tb_l_cell_at 1 1) rfl rfl) h7)).toE F
  · replace F := Fin.ff F z1
    refine WSs.nil ?_
    exact s_retE S10 (ev_i).toE F
/-! l_sign -/
abbrev st_l_sign : Stmt := topS 22
abbrev N_l_sign : List Str := ["_law_cell", "_law_pool", "_law_number", "_law_sign_here"]
theorem tb_l_sign : nmOk (defScope st_l_sign) [("_law_cell", .local), ("_law_pool", .local), ("_law_number", .local), ("_law_sign_here", .local), ("len", .globalImplicit)] = true := by decide +kernel
theorem sc_l_sign : FnScope N_l_sign ["_law_cell", "_law_pool"] (defScope st_l_sign) := ⟨rfl, rfl, rfl, by decide +kernel, rfl, by decide +kernel, by decide +kernel⟩
def m_l_sign (l_cell : Int) (l_pool : (List Int)) : Res Int := (Res.of (atI [((l_cell / 4) % 40), ((l_cell / 4) % (powI 10 60)), (((powI 10 60) - 1) - ((l_cell / 4) % 40)), ((l_cell / 4) % 1000)] (l_cell % 4))).bind fun x5 => (if ((decide ((l_cell % 4) = 3)) && (!decide (l_pool = ([] : List Int)))) = true then Res.need (0 < ((l_pool).length : Int)) ((Res.of (atI l_pool ((l_cell / 4) % ((l_pool).length : Int)))).bind fun x25 => Res.ok (((x25 + (((l_cell / 4) / 60) % 3)) - 1) % (powI 10 60))) else Res.ok x5).bind fun (a37 : Int) => (whileR (fun (a48 : Int) => (if (decide (a48 ∈ l_pool)) = true then Res.ok (Sum.inr ((a48 + 1) % (powI 10 60))) else Res.ok (Sum.inl a48) : Res (Int ⊕ Int))) 100000 a37).bind (fun (a48 : Int) => Res.ok a48)
abbrev args_l_sign (CT : Addr) : Int × (List Int) → AR := fun d => (aC rInt d.1 (aC (rLst rInt) d.2 aN))
abbrev sp_l_sign (CT : Addr) : Sp := SpA (args_l_sign CT) (kE rInt) (fun d => m_l_sign d.1 d.2)
theorem body_l_sign {X : Cx} {CT : Addr} (C : Cok X 0) (VS : Scp X N_l_sign (defScope st_l_sign)) (fn : ∀ x, X.fn x = true) (T : Blt X.mg) (TT : TabTxt X.K CT)  : ∀ (B H : Hp) (vs : List V) (d : Int × (List Int)) (Q : VK), Sx B H → Tx H B → (args_l_sign CT d).r vs B H → Fin ((kE rInt) ⟨B, H⟩ Q) NoErr (m_l_sign d.1 d.2) →
    WSs X (defBody st_l_sign) { nx := fun _ H' => Q .non H', rt := Q } (start N_l_sign vs) H := by
  rintro B H vs ⟨l_cell, l_pool⟩ Q hb ht ⟨_, _, rfl, rfl, ⟨v2, _, rfl, r2_, rfl⟩⟩ F
  have S0 := Stt.enter hb ht
  refine s_asgI C (VS.slot tb_l_sign fn 2 2) S0 (ev_div (ev_v (VS.var tb_l_sign 0 0) rfl rfl) ev_i ⟨by decide, by decide⟩) (fun B1 H2 S3 e4 => ?_)
  obtain ⟨x5, h6, F⟩ := Fin.of F
  refine s_asgI C (VS.slot tb_l_sign fn 3 3) S3 (ev_ixL ((el_lst (R := rInt) (ea_cons ((ev_mod (ev_v (VS.var tb_l_sign 2 2) rfl rfl) ev_i (by decide))).toE (ea_cons ((ev_mod (ev_v (VS.var tb_l_sign 2 2) rfl rfl) (ev_pow ev_i ev_i) (by decide))).toE (ea_cons ((ev_sub (ev_sub (ev_pow ev_i ev_i) ev_i) (ev_mod (ev_v (VS.var tb_l_sign 2 2) rfl rfl) ev_i (by decide)))).toE (ea_cons ((ev_mod (ev_v (VS.var tb_l_sign 2 2) rfl rfl) ev_i (by decide))).toE ea_nil)))))).toB (ev_mod (ev_v (VS.var tb_l_sign 0 0) rfl rfl) ev_i (by decide)) h6) (fun B7 H8 S9 e10 => ?_)
  refine s_ifJ S9 ((ew_and' (c_eqI.et (ev_mod (ev_v (VS.var tb_l_sign 0 0) rfl rfl) ev_i (by decide)) ev_i) fun _ => (ew_and1 ((c_neD (R := (rLst rInt)) C.hu64).et (ev_v (VS.var tb_l_sign 1 1) rfl (Rel.mono _ S9.h0.ex r2_)) ((el_nil (R := rInt))).toB)))).t F (fun (a : Int) σ' own' B' => σ' = [some (.int l_cell), some v2, some (.int (l_cell / 4)), some (.int a)] ∧ own' = []) (fun z36 B19 H20 S21 e22 Q23 F => ?_) (fun z36 B31 H32 S33 e34 Q35 F => ?_) (fun a37 _ _ B38 H39 iv42 S40 e41 F => ?_)
  · skip
    obtain ⟨h24, F⟩ := Fin.need F
    obtain ⟨x25, h26, F⟩ := Fin.of F
    refine s_asgI C (VS.slot tb_l_sign fn 3 3) S21 (ev_mod (ev_sub (ev_add (ev_ixL (ev_v (VS.var tb_l_sign 1 1) rfl (Rel.mono _ S21.h0.ex r2_)) (ev_mod (ev_v (VS.var tb_l_sign 2 2) rfl rfl) (ev_lenL (VS.gl tb_l_sign 4) T.len (ev_v (VS.var tb_l_sign 1 1) rfl (Rel.mono _ S21.h0.ex r2_))) h24) h26) (ev_mod (ev_div (ev_v (VS.var tb_l_sign 2 2) rfl rfl) ev_i ⟨by decide, by decide⟩) ev_i (by decide))) ev_i) (ev_pow ev_i ev_i) (by decide)) (fun B27 H28 S29 e30 => ?_)
    exact WSs.nil ⟨(((x25 + (((l_cell / 4) / 60) % 3)) - 1) % (powI 10 60)), _, _, F, S29, e30, ⟨rfl, rfl⟩⟩
  · skip
    exact WSs.nil ⟨x5, _, _, F, S33, (Ex.refl _), ⟨rfl, rfl⟩⟩
  · skip
    obtain ⟨rfl, rfl⟩ := iv42
    refine s_while C S40 F (fun (a : Int) σ' own' B' => σ' = [some (.int l_cell), some v2, some (.int (l_cell / 4)), some (.int a)] ∧ own' = [])
        ⟨rfl, rfl⟩ (fun a48 _ _ B50 H51 Q55 iv54 S52 e53 F => ?_)
    obtain ⟨rfl, rfl⟩ := iv54
    refine ⟨(decide (a48 ∈ l_pool)), (et_in (ev_v (VS.var tb_l_sign 3 3) rfl rfl) (ev_v (VS.var tb_l_sign 1 1) rfl (Rel.mono _ S52.h0.ex r2_))), fun z75 B63 H64 S65 e66 => ?_, fun z75 B71 H72 S73 e74 => ?_⟩
    · replace F := Fin.tt F z75
      refine s_asgI C (VS.slot tb_l_sign fn 3 3) S65 (ev_mod (ev_add (ev_v (VS.var tb_l_sign 3 3) rfl rfl) ev_i) (ev_pow ev_i ev_i) (by decide)) (fun B67 H68 S69 e70 => ?_)
      exact WSs.nil ⟨((a48 + 1) % (powI 10 60)), _, _, F, S69, (e66.trans e70), ⟨rfl, rfl⟩⟩
    · replace F := Fin.ff F z75
      replace F := Fin.inl F
      exact s_retE S73 ((ev_v (VS.var tb_l_sign 3 3) rfl rfl)).toE F
/-! l_row -/
abbrev st_l_row : Stmt := topS 24
abbrev N_l_row : List Str := ["_law_number", "_law_pool", "_law_one", "_law_other"]
theorem tb_l_row : nmOk (defScope st_l_row) [("_law_number", .local), ("_law_pool", .local), ("_law_one", .local), ("_law_other", .local), ("len", .globalImplicit)] = true := by decide +kernel
theorem sc_l_row : FnScope N_l_row ["_law_number", "_law_pool"] (defScope st_l_row) := ⟨rfl, rfl, rfl, by decide +kernel, rfl, by decide +kernel, by decide +kernel⟩
def m_l_row (l_number : Int) (l_pool : (List Int)) : Res (List Int) := Res.need (0 < ((l_pool).length : Int)) ((Res.of (atI l_pool ((l_number / 4) % ((l_pool).length : Int)))).bind fun x2 => Res.need (CDiv (l_number / 4) ((l_pool).length : Int)) (Res.need (0 < ((l_pool).length : Int)) ((Res.of (atI l_pool (((l_number / 4) / ((l_pool).length : Int)) % ((l_pool).length : Int)))).bind fun x10 => if (decide ((l_number % 4) = 0)) = true then Res.ok [x2] else Res.ok [x2, x10])))
abbrev args_l_row (CT : Addr) : Int × (List Int) → AR := fun d => (aC rInt d.1 (aC (rLst rInt) d.2 aN))
abbrev sp_l_row (CT : Addr) : Sp := SpA (args_l_row CT) (kE (rTup rInt)) (fun d => m_l_row d.1 d.2)
theorem body_l_row {X : Cx} {CT : Addr} (C : Cok X 0) (VS : Scp X N_l_row (defScope st_l_row)) (fn : ∀ x, X.fn x = true) (T : Blt X.mg) (TT : TabTxt X.K CT)  : ∀ (B H : Hp) (vs : List V) (d : Int × (List Int)) (Q : VK), Sx B H → Tx H B → (args_l_row CT d).r vs B H → Fin ((kE (rTup rInt)) ⟨B, H⟩ Q) NoErr (m_l_row d.1 d.2) →
    WSs X (defBody st_l_row) { nx := fun _ H' => Q .non H', rt := Q } (start N_l_row vs) H := by
  rintro B H vs ⟨l_number, l_pool⟩ Q hb ht ⟨_, _, rfl, rfl, ⟨v2, _, rfl, r2_, rfl⟩⟩ F
  have S0 := Stt.enter hb ht
  obtain ⟨h1, F⟩ := Fin.need F
  obtain ⟨x2, h3, F⟩ := Fin.of F
  refine s_asgI C (VS.slot tb_l_row fn 2 2) S0 (ev_ixL (ev_v (VS.var tb_l_row 1 1) rfl (Rel.mono _ S0.h0.ex r2_)) (ev_mod (ev_div (ev_v (VS.var tb_l_row 0 0) rfl rfl) ev_i ⟨by decide, by decide⟩) (ev_lenL (VS.gl tb_l_row 4) T.len (ev_v (VS.var tb_l_row 1 1) rfl (Rel.mono _ S0.h0.ex r2_))) h1) h3) (fun B4 H5 S6 e7 => ?_)
  obtain ⟨h8, F⟩ := Fin.need F
  obtain ⟨h9, F⟩ := Fin.need F
  obtain ⟨x10, h11, F⟩ := Fin.of F
  refine s_asgI C (VS.slot tb_l_row fn 3 3) S6 (ev_ixL (ev_v (VS.var tb_l_row 1 1) rfl (Rel.mono _ S6.h0.ex r2_)) (ev_mod (ev_div (ev_div (ev_v (VS.var tb_l_row 0 0) rfl rfl) ev_i ⟨by decide, by decide⟩) (ev_lenL (VS.gl tb_l_row 4) T.len (ev_v (VS.var tb_l_row 1 1) rfl (Rel.mono _ S6.h0.ex r2_))) h8) (ev_lenL (VS.gl tb_l_row 4) T.len (ev_v (VS.var tb_l_row 1 1) rfl (Rel.mono _ S6.h0.ex r2_))) h9) h11) (fun B12 H13 S14 e15 => ?_)
  refine s_if S14 (c_eqI.et (ev_mod (ev_v (VS.var tb_l_row 0 0) rfl rfl) ev_i (by decide)) ev_i) (fun z16 B17 H18 S19 e20 => ?_) (fun z16 B21 H22 S23 e24 => ?_)
  · replace F := Fin.tt F z16
    exact s_retE S19 (ee_tup (R := rInt) (ea_cons ((ev_v (VS.var tb_l_row 2 2) rfl rfl)).toE ea_nil)) F
  · replace F := Fin.ff F z16
    refine WSs.nil ?_
    exact s_retE S23 (ee_tup (R := rInt) (ea_cons ((ev_v (VS.var tb_l_row 2 2) rfl rfl)).toE (ea_cons ((ev_v (VS.var tb_l_row 3 3) rfl rfl)).toE ea_nil))) F
/-! l_rank -/
abbrev st_l_rank : Stmt := topS 23
abbrev N_l_rank : List Str := ["_law_number"]
theorem tb_l_rank : nmOk (defScope st_l_rank) [("_law_number", .local)] = true := by decide +kernel
theorem sc_l_rank : FnScope N_l_rank ["_law_number"] (defScope st_l_rank) := ⟨rfl, rfl, rfl, by decide +kernel, rfl, by decide +kernel, by decide +kernel⟩
def m_l_rank (l_number : Int) : Res Int := (Res.of (atI ([4, 999, 12] : List Int) (l_number % 3))).bind fun x1 => Res.need (0 < x1) (Res.ok (1 + ((l_number / 3) % x1)))
abbrev args_l_rank (CT : Addr) : Int → AR := fun d => (aC rInt d aN)
abbrev sp_l_rank (CT : Addr) : Sp := SpA (args_l_rank CT) (kE rInt) (fun d => m_l_rank d)
theorem body_l_rank {X : Cx} {CT : Addr} (C : Cok X 0) (VS : Scp X N_l_rank (defScope st_l_rank)) (fn : ∀ x, X.fn x = true) (T : Blt X.mg) (TT : TabTxt X.K CT)  : ∀ (B H : Hp) (vs : List V) (d : Int) (Q : VK), Sx B H → Tx H B → (args_l_rank CT d).r vs B H → Fin ((kE rInt) ⟨B, H⟩ Q) NoErr (m_l_rank d) →
    WSs X (defBody st_l_rank) { nx := fun _ H' => Q .non H', rt := Q } (start N_l_rank vs) H := by
  rintro B H vs l_number Q hb ht ⟨_, _, rfl, rfl, rfl⟩ F
  have S0 := Stt.enter hb ht
  obtain ⟨x1, h2, F⟩ := Fin.of F
  obtain ⟨h3, F⟩ := Fin.need F
  exact s_retE S0 ((ev_add ev_i (ev_mod (ev_div (ev_v (VS.var tb_l_rank 0 0) rfl rfl) ev_i ⟨by decide, by decide⟩) (ev_ixL ((el_lst (R := rInt) (ea_cons (ev_i).toE (ea_cons (ev_i).toE (ea_cons (ev_i).toE ea_nil))))).toB (ev_mod (ev_v (VS.var tb_l_rank 0 0) rfl rfl) ev_i (by decide)) h2) h3))).toE F
/-! l_table -/
abbrev st_l_table : Stmt := topS 25
abbrev N_l_table : List Str := ["_law_cells", "_law_pool", "_law_marks", "_law_rows", "_law_shuts", "_law_sizes", "_law_k", "_law_sign_here", "_law_number", "_law_row_here", "_law_size", "_law_alike_row", "_law_part", "_law_one", "_law_two"]
theorem tb_l_table : nmOk (defScope st_l_table) [("_law_cells", .local), ("_law_pool", .local), ("_law_marks", .local), ("_law_rows", .local), ("_law_shuts", .cell), ("_law_sizes", .cell), ("_law_k", .local), ("_law_sign_here", .local), ("_law_number", .local), ("_law_row_here", .cell), ("_law_size", .local), ("_law_alike_row", .local), ("range", .globalImplicit), ("len", .globalImplicit), ("_law_sign", .globalImplicit), ("_law_row", .globalImplicit), ("sum", .globalImplicit), ("_law_rank", .globalImplicit)] = true := by decide +kernel
theorem sc_l_table : FnScope N_l_table ["_law_cells"] (defScope st_l_table) := ⟨rfl, rfl, rfl, by decide +kernel, rfl, by decide +kernel, by decide +kernel⟩
abbrev csc_l_table_c1 : Scope := { kind := .function, names := [(".0", .local), ("_law_part", .local), ("_law_sizes", .free)], isGenerator := false, isCoroutine := false, more := [] }
theorem tb_l_table_c1 : nmOk (relS csc_l_table_c1 (defScope st_l_table)) [("_law_part", .local), ("_law_sizes", .cell)] = true := by decide +kernel
theorem bk_l_table_c1 : blkC N_l_table (defScope st_l_table) csc_l_table_c1 [("_law_part", 12)] = true := by decide +kernel
abbrev csc_l_table_c2 : Scope := { kind := .function, names := [(".0", .local), ("_law_one", .local), ("_law_two", .local), ("_law_row_here", .free), ("_law_shuts", .free)], isGenerator := false, isCoroutine := false, more := [] }
theorem tb_l_table_c2 : nmOk (relS csc_l_table_c2 (defScope st_l_table)) [("_law_one", .local), ("_law_two", .local), ("_law_row_here", .cell), ("_law_shuts", .cell)] = true := by decide +kernel
theorem bk_l_table_c2 : blkC N_l_table (defScope st_l_table) csc_l_table_c2 [("_law_one", 13), ("_law_two", 14)] = true := by decide +kernel
def m_l_table (l_cells : (List Int)) : Res ((List (Int × Int)) × (List (Int × (List Int))) × (List Int) × (List Int)) := Res.need ((-8000000 : Int) ≤ 0 ∧ (0 : Int) ≤ 8000000 ∧ (-8000000 : Int) ≤ (((l_cells).length : Int) - 1) ∧ ((((l_cells).length : Int) - 1) : Int) ≤ 8000000) ((forM (fun (a274 : ((List (Int × Int)) × (List (Int × (List Int))) × (List (Int × Int)) × (List Int) × (List Int))) (x275 : Int) => ((Res.of (atI l_cells x275)).bind fun x301 => (m_l_sign x301 a274.2.2.2.2).bind fun r303 => (Res.of (atI l_cells (x275 + 1))).bind fun x309 => (if (!decide (a274.2.2.2.2 = ([] : List Int))) = true then (Res.of (atI l_cells (x275 + 1))).bind fun x321 => Res.ok (decide (2 < (x321 % 6))) else Res.ok false).bind fun b323 => (if b323 = true then (m_l_row (x309 / 6) a274.2.2.2.2).bind fun r340 => Res.ok r340 else Res.ok ([] : (List Int))).bind fun (a354 : (List Int)) => (mfM (fun i361 : Int => Res.ok true) (fun i361 => (Res.of (dget a274.2.2.1 i361)).bind fun x362 => Res.ok x362) a354).bind fun l364 => (Res.of (atI l_cells (x275 + 1))).bind fun x370 => (if (decide ((x370 % 6) = 1)) = true then (m_l_rank (x309 / 6)).bind fun r387 => Res.need (a274.1.length < sizeLine) (Res.ok (a274.1 ++ [(r303, r387)])) else Res.ok a274.1).bind fun (a402 : (List (Int × Int))) => (if ((!decide (a354 = ([] : (List Int)))) && (decide ((l364).sum < 17))) = true then Res.need (a274.2.1.length < sizeLine) (Res.need (a274.2.2.1.length < sizeLine) (if ((decide (((a354).length : Int) = 2)) && ((!decide ((((cut (a274.2.1 ++ [(r303, a354)]) none (some (-1))).filter fun i478 => ((decide (i478.2 = a354)) && (!(decide (i478.1 ∈ a274.2.2.2.1))))).map fun i478 => i478.1) = ([] : List Int))) || (decide ((((x309 / 6) / 4000) % 5) = 1)))) = true then Res.need (a274.2.2.2.1.length < sizeLine) (Res.ok ((a274.2.1 ++ [(r303, a354)]), (dput a274.2.2.1 r303 ((l364).sum)), (a274.2.2.2.1 ++ [r303]))) else Res.ok ((a274.2.1 ++ [(r303, a354)]), (dput a274.2.2.1 r303 ((l364).sum)), a274.2.2.2.1))) else Res.need (a274.2.2.1.length < sizeLine) (Res.ok (a274.2.1, (dput a274.2.2.1 r303 1), a274.2.2.2.1))).bind fun (a519 : ((List (Int × (List Int))) × (List (Int × Int)) × (List Int))) => Res.need (a274.2.2.2.2.length < sizeLine) (Res.ok (a402, a519.1, a519.2.1, a519.2.2, (a274.2.2.2.2 ++ [r303]))) : Res ((List (Int × Int)) × (List (Int × (List Int))) × (List (Int × Int)) × (List Int) × (List Int)))) (rangeS 0 (((l_cells).length : Int) - 1) 2) (([] : List (Int × Int)), ([] : List (Int × (List Int))), ([] : (List (Int × Int))), ([] : List Int), ([] : List Int))).bind fun (a287 : ((List (Int × Int)) × (List (Int × (List Int))) × (List (Int × Int)) × (List Int) × (List Int))) => Res.ok (a287.1, a287.2.1, a287.2.2.2.1, a287.2.2.2.2))
abbrev args_l_table (CT : Addr) : (List Int) → AR := fun d => (aC (rLst rInt) d aN)
abbrev sp_l_table (CT : Addr) : Sp := SpA (args_l_table CT) (kE (rT4 (rLst (rPr rInt rInt)) (rLst (rPr rInt (rTup rInt))) (rLst rInt) (rLst rInt))) (fun d => m_l_table d)
theorem body_l_table {X : Cx} {CT : Addr} (C : Cok X 1) (VS : Scp X N_l_table (defScope st_l_table)) (fn : ∀ x, X.fn x = true) (T : Blt X.mg) (TT : TabTxt X.K CT) (G_l_sign : Cal X 1 "_law_sign" ["_law_cell", "_law_pool"] (sp_l_sign CT)) (G_l_row : Cal X 1 "_law_row" ["_law_number", "_law_pool"] (sp_l_row CT)) (G_l_rank : Cal X 1 "_law_rank" ["_law_number"] (sp_l_rank CT)) : ∀ (B H : Hp) (vs : List V) (d : (List Int)) (Q : VK), Sx B H → Tx H B → (args_l_table CT d).r vs B H → Fin ((kE (rT4 (rLst (rPr rInt rInt)) (rLst (rPr rInt (rTup rInt))) (rLst rInt) (rLst rInt))) ⟨B, H⟩ Q) NoErr (m_l_table d) →
    WSs X (defBody st_l_table) { nx := fun _ H' => Q .non H', rt := Q } (start N_l_table vs) H := by
  rintro B H vs l_cells Q hb ht ⟨v1, _, rfl, r1_, rfl⟩ F
  have S0 := Stt.enter hb ht
  refine s_asgL C (VS.slot tb_l_table fn 1 1) S0 (el_nil (R := rInt)) (fun p5 u6 B1 H2 S3 e4 r7 => ?_)
  refine s_asgL C (VS.slot tb_l_table fn 2 2) S3 (el_nil (R := (rPr rInt rInt))) (fun p12 u13 B8 H9 S10 e11 r14 => ?_)
  refine s_asgL C (VS.slot tb_l_table fn 3 3) S10 (el_nil (R := (rPr rInt (rTup rInt)))) (fun p19 u20 B15 H16 S17 e18 r21 => ?_)
  refine s_asgL C (VS.slot tb_l_table fn 4 4) S17 (el_nil (R := rInt)) (fun p26 u27 B22 H23 S24 e25 r28 => ?_)
  refine s_asgDI C (VS.slot tb_l_table fn 5 5) S24 (ed_nI (R := rInt)) (fun p33 u34 B29 H30 S31 e32 r35 => ?_)
  obtain ⟨h36, F⟩ := Fin.need F
  refine s_forM C (tg_name (R := rInt) C (VS.slot tb_l_table fn 6 6)) S31 (ei_r3 (VS.gl tb_l_table 12) T.range ev_i (ev_sub (ev_lenL (VS.gl tb_l_table 13) T.len (ev_v (VS.var tb_l_table 0 0) rfl (Rel.mono _ S31.h0.ex r1_))) ev_i) ev_i h36 (by decide) (by decide)) F (fun (a : ((List (Int × Int)) × (List (Int × (List Int))) × (List (Int × Int)) × (List Int) × (List Int))) σ' own' B' => ∃ (w273_2 : List V), ∃ (w273_3 : List V), ∃ (w273_5 : List (Key × V)), ∃ (w273_4 : List V), ∃ (w273_1 : List V), ∃ (j273_7 : Option V), ∃ (j273_8 : Option V), ∃ (j273_9 : Option V), ∃ (j273_10 : Option V), ∃ (j273_11 : Option V), ∃ (j273_6 : Option V), σ' = [some v1, some (.ref p5), some (.ref p12), some (.ref p19), some (.ref p26), some (.ref p33), j273_6, j273_7, j273_8, j273_9, j273_10, j273_11, none, none, none] ∧ own' = [(p33, .dK w273_5), (p26, .lst w273_4), (p19, .lst w273_3), (p12, .lst w273_2), (p5, .lst w273_1)] ∧ Paired ((rPr rInt rInt).r B') w273_2 a.1 ∧ Paired ((rPr rInt (rTup rInt)).r B') w273_3 a.2.1 ∧ pI rInt B' w273_5 a.2.2.1 ∧ Paired (rInt.r B') w273_4 a.2.2.2.1 ∧ Paired (rInt.r B') w273_1 a.2.2.2.2)
      (fun Bz e => ⟨u13, u20, u34, u27, u6, _, _, _, _, _, _, rfl, rfl, (pimp r14 fun _ _ z => Rel.mono _ (((e18.trans e25).trans e32).trans e) z), (pimp r21 fun _ _ z => Rel.mono _ ((e25.trans e32).trans e) z), (r35.up e), (pimp r28 fun _ _ z => Rel.mono _ (e32.trans e) z), (pimp r7 fun _ _ z => Rel.mono _ ((((e11.trans e18).trans e25).trans e32).trans e) z)⟩) (fun _ _ _ _ _ => trivial) (fun _ _ _ _ _ h e => by obtain ⟨w0, w1, w2, w3, w4, w5, w6, w7, w8, w9, w10, h1, h2, f0, f1, f2, f3, f4⟩ := h; exact ⟨w0, w1, w2, w3, w4, w5, w6, w7, w8, w9, w10, h1, h2, pimp f0 fun _ _ z => Rel.mono _ e z, pimp f1 fun _ _ z => Rel.mono _ e z, f2.up e, pimp f3 fun _ _ z => Rel.mono _ e z, pimp f4 fun _ _ z => Rel.mono _ e z⟩) (fun a274 x275 _ _ _ B276 H277 Q281 iv280 S278 e279 tg F => ?_) (fun a287 _ _ B282 H283 iv286 S284 e285 F => ?_)
  · obtain ⟨w273_2i, w273_3i, w273_5i, w273_4i, w273_1i, j273_7i, j273_8i, j273_9i, j273_10i, j273_11i, j273_6i, rfl, rfl, r288, r289, r290, r291, r292⟩ := iv280
    obtain ⟨v294, rfl, rfl⟩ := tg
    obtain ⟨x301, h302, F⟩ := Fin.of F
    obtain ⟨r303, h304, F⟩ := Fin.get F
    refine s_asgI C (VS.slot tb_l_table fn 7 7) S278 ((ee_call C G_l_sign (by decide) (VS.gl tb_l_table 14) (d := (x301, a274.2.2.2.2)) (as_cons (ev_ixL (ev_v (VS.var tb_l_table 0 0) rfl (Rel.mono _ S278.h0.ex r1_)) (ev_v (VS.var tb_l_table 6 6) rfl rfl) h302) (as_cons (ev_own (VS.var tb_l_table 1 1) rfl (List.mem_of_getElem? (i := 4) rfl) r292) as_nil)) h304)).toB (fun B305 H306 S307 e308 => ?_)
    obtain ⟨x309, h310, F⟩ := Fin.of F
    refine s_asgI C (VS.slot tb_l_table fn 8 8) S307 (ev_div (ev_ixL (ev_v (VS.var tb_l_table 0 0) rfl (Rel.mono _ S307.h0.ex r1_)) (ev_add (ev_v (VS.var tb_l_table 6 6) rfl rfl) ev_i) h310) ev_i ⟨by decide, by decide⟩) (fun B311 H312 S313 e314 => ?_)
    refine s_asg C (VS.slot tb_l_table fn 9 9) S313 (ee_tup (R := rInt) ea_nil) (fun v319 B315 H316 S317 e318 r320 => ?_)
    obtain ⟨b323, h324, F⟩ := Fin.get F
    refine s_ifJ S317 ((ew_and ((c_neD (R := (rLst rInt)) C.hu64).et (ev_own (VS.var tb_l_table 1 1) rfl (List.mem_of_getElem? (i := 4) rfl) (pimp r292 fun _ _ z => Rel.mono _ ((e308.trans e314).trans e318) z)) ((el_nil (R := rInt))).toB) (fun hz => by
                                                                have q325 := Res.tt_ok h324 hz
                                                                obtain ⟨x321, h322, q325⟩ := Res.of_ok q325
                                                                have q325 := Res.ok_inj q325
                                                                rw [← q325]
                                                                exact (ew_and1 (c_gt.et (ev_mod (ev_ixL (ev_v (VS.var tb_l_table 0 0) rfl (Rel.mono _ S317.h0.ex r1_)) (ev_add (ev_v (VS.var tb_l_table 6 6) rfl rfl) ev_i) h322) ev_i (by decide)) ev_i))
                                                            ) (fun hz => (Res.ok_inj (Res.ff_ok h324 hz)).symm))).t F (fun (a : (List Int)) σ' own' B' => ∃ (w326_9 : V), σ' = [some v1, some (.ref p5), some (.ref p12), some (.ref p19), some (.ref p26), some (.ref p33), some (.int x275), some (.int r303), some (.int (x309 / 6)), some w326_9, j273_10i, j273_11i, none, none, none] ∧ own' = [(p33, .dK w273_5i), (p26, .lst w273_4i), (p19, .lst w273_3i), (p12, .lst w273_2i), (p5, .lst w273_1i)] ∧ (rTup rInt).r B' w326_9 a) (fun z353 B335 H336 S337 e338 Q339 F => ?_) (fun z353 B348 H349 S350 e351 Q352 F => ?_) (fun a354 _ _ B355 H356 iv359 S357 e358 F => ?_)
    · skip
      obtain ⟨r340, h341, F⟩ := Fin.get F
      refine s_asg C (VS.slot tb_l_table fn 9 9) S337 (ee_call C G_l_row (by decide) (VS.gl tb_l_table 15) (d := ((x309 / 6), a274.2.2.2.2)) (as_cons (ev_v (VS.var tb_l_table 8 8) rfl rfl) (as_cons (ev_own (VS.var tb_l_table 1 1) rfl (List.mem_of_getElem? (i := 4) rfl) (pimp r292 fun _ _ z => Rel.mono _ (((e308.trans e314).trans e318).trans e338) z)) as_nil)) h341) (fun v346 B342 H343 S344 e345 r347 => ?_)
      exact WSs.nil ⟨r340, _, _, F, S344, e345, ⟨_, rfl, rfl, r347⟩⟩
    · skip
      exact WSs.nil ⟨([] : (List Int)), _, _, F, S350, (Ex.refl _), ⟨_, rfl, rfl, (Rel.mono _ e351 r320)⟩⟩
    · skip
      obtain ⟨w326_9, rfl, rfl, r360⟩ := iv359
      obtain ⟨l364, h365, F⟩ := Fin.get F
      refine s_asgI C (VS.slot tb_l_table fn 10 10) S357 (ev_sum C.calm (VS.gl tb_l_table 16) T.sum ((el_lc (S := rInt) C (VS.blk bk_l_table_c1) (ei_T (ee_v (VS.var tb_l_table 9 9) rfl r360)) (fun _ _ => trivial) (fun Xb hX => tg_name (R := rInt) (hX.cok C) (hX.slot VS tb_l_table_c1 12 0)) h365
                                                            (fun Xb i361 σ2 acc Dd Bc1 Hc1 b hX1 S1001 ec1 tg hb => by
                                                                obtain ⟨v1001, rfl, rfl⟩ := tg
                                                                have T1 : Blt Xb.mg := by rw [hX1.mg]; exact T
                                                                have TT1 : TabTxt Xb.K CT := by rw [hX1.K]; exact TT
                                                                have hb := Res.ok_inj hb
                                                                subst hb
                                                                exact ets_nil
                                                            )
                                                            (fun Xb i361 y σ2 acc Dd Bc1 Hc1 hX1 S1001 ec1 tg hb hf => by
                                                                obtain ⟨v1001, rfl, rfl⟩ := tg
                                                                have T1 : Blt Xb.mg := by rw [hX1.mg]; exact T
                                                                have TT1 : TabTxt Xb.K CT := by rw [hX1.K]; exact TT
                                                                obtain ⟨x362, h363, hf⟩ := Res.of_ok hf
                                                                have hf := Res.ok_inj hf
                                                                subst hf
                                                                exact ((ev_dix (hX1.cok C) dkI (ev_ownDI ((hX1.scp VS).var tb_l_table_c1 5 1) rfl (List.mem_of_getElem? (i := 1) rfl) (r290.up ((((e308.trans e314).trans e318).trans e358).trans ec1))) (ev_v ((hX1.scp VS).var tb_l_table_c1 12 0) rfl rfl) h363)).toE
                                                            ) (fun x B3 σ2 h => by obtain ⟨v, _, rfl⟩ := h; rfl) (fun x B3 B4 σ2 ⟨v, r, q⟩ e => ⟨v, Rel.mono _ e r, q⟩))).toB) (fun B366 H367 S368 e369 => ?_)
      obtain ⟨x370, h371, F⟩ := Fin.of F
      refine s_ifJ S368 (c_eqI.et (ev_mod (ev_ixL (ev_v (VS.var tb_l_table 0 0) rfl (Rel.mono _ S368.h0.ex r1_)) (ev_add (ev_v (VS.var tb_l_table 6 6) rfl rfl) ev_i) h371) ev_i (by decide)) ev_i) F (fun (a : (List (Int × Int))) σ' own' B' => ∃ (w372_2 : List V), σ' = [some v1, some (.ref p5), some (.ref p12), some (.ref p19), some (.ref p26), some (.ref p33), some (.int x275), some (.int r303), some (.int (x309 / 6)), some w326_9, some (.int ((l364).sum)), j273_11i, none, none, none] ∧ own' = [(p33, .dK w273_5i), (p26, .lst w273_4i), (p19, .lst w273_3i), (p12, .lst w372_2), (p5, .lst w273_1i)] ∧ Paired ((rPr rInt rInt).r B') w372_2 a) (fun z401 B382 H383 S384 e385 Q386 F => ?_) (fun z401 B396 H397 S398 e399 Q400 F => ?_) (fun a402 _ _ B403 H404 iv407 S405 e406 F => ?_)
      · skip
        obtain ⟨r387, h388, F⟩ := Fin.get F
        obtain ⟨h389, F⟩ := Fin.need F
        refine s_append S384 (VS.var tb_l_table 2 2) rfl (k := 3) rfl (pimp r288 fun _ _ z => Rel.mono _ (((((e308.trans e314).trans e318).trans e358).trans e369).trans e385) z) (ee_pr ((ev_v (VS.var tb_l_table 7 7) rfl rfl)).toE (ee_call C G_l_rank (by decide) (VS.gl tb_l_table 17) (d := ((x309 / 6))) (as_cons (ev_v (VS.var tb_l_table 8 8) rfl rfl) as_nil) h388)) h389 (fun v390 B391 H392 S393 e394 r395 => ?_)
        exact WSs.nil ⟨(a274.1 ++ [(r303, r387)]), _, _, F, S393, e394, ⟨(w273_2i ++ [v390]), rfl, rfl, r395⟩⟩
      · skip
        exact WSs.nil ⟨a274.1, _, _, F, S398, (Ex.refl _), ⟨w273_2i, rfl, rfl, (pimp r288 fun _ _ z => Rel.mono _ (((((e308.trans e314).trans e318).trans e358).trans e369).trans e399) z)⟩⟩
      · skip
        obtain ⟨w372_2, rfl, rfl, r408⟩ := iv407
        refine s_ifJ S405 ((ew_and' ((c_neD (R := (rTup rInt)) C.hu64).et ((ee_v (VS.var tb_l_table 9 9) rfl (Rel.mono _ (e369.trans e406) r360))).toB ((ee_tup (R := rInt) ea_nil)).toB) fun _ => (ew_and1 (c_lt.et (ev_v (VS.var tb_l_table 10 10) rfl rfl) ev_i)))).t F (fun (a : ((List (Int × (List Int))) × (List (Int × Int)) × (List Int))) σ' own' B' => ∃ (w409_3 : List V), ∃ (w409_5 : List (Key × V)), ∃ (w409_4 : List V), ∃ (j409_11 : Option V), σ' = [some v1, some (.ref p5), some (.ref p12), some (.ref p19), some (.ref p26), some (.ref p33), some (.int x275), some (.int r303), some (.int (x309 / 6)), some w326_9, some (.int ((l364).sum)), j409_11, none, none, none] ∧ own' = [(p33, .dK w409_5), (p26, .lst w409_4), (p19, .lst w409_3), (p12, .lst w372_2), (p5, .lst w273_1i)] ∧ Paired ((rPr rInt (rTup rInt)).r B') w409_3 a.1 ∧ pI rInt B' w409_5 a.2.1 ∧ Paired (rInt.r B') w409_4 a.2.2) (fun z518 B459 H460 S461 e462 Q463 F => ?_) (fun z518 B506 H507 S508 e509 Q510 F => ?_) (fun a519 _ _ B520 H521 iv524 S522 e523 F => ?_)
        · skip
          obtain ⟨h464, F⟩ := Fin.need F
          refine s_append S461 (VS.var tb_l_table 3 3) rfl (k := 2) rfl (pimp r289 fun _ _ z => Rel.mono _ ((((((e308.trans e314).trans e318).trans e358).trans e369).trans e406).trans e462) z) (ee_pr ((ev_v (VS.var tb_l_table 7 7) rfl rfl)).toE (ee_v (VS.var tb_l_table 9 9) rfl (Rel.mono _ ((e369.trans e406).trans e462) r360))) h464 (fun v465 B466 H467 S468 e469 r470 => ?_)
          obtain ⟨h471, F⟩ := Fin.need F
          refine s_dputI C S468 (VS.var tb_l_table 5 5) rfl (k := 0) rfl (r290.up (((((((e308.trans e314).trans e318).trans e358).trans e369).trans e406).trans e462).trans e469)) ((ev_v (VS.var tb_l_table 10 10) rfl rfl)).toE (ev_v (VS.var tb_l_table 7 7) rfl rfl) h471 (fun u472 B473 H474 S475 e476 r477 => ?_)
          refine s_asgLc (S := rInt) C (i := 11) (n := "_law_alike_row") (by rw [VS.n]; rfl) (VS.lk tb_l_table 11) (sw_loc VS sc_l_table.kind (VS.lk tb_l_table 11)) S475 (VS.blk bk_l_table_c2) (ei_E ((el_cut (ev_own (VS.var tb_l_table 3 3) rfl (List.mem_of_getElem? (i := 2) rfl) (pimp r470 fun _ _ z => Rel.mono _ e476 z)) ep_n (ep_s (ev_neg ev_i)))).toE) (fun _ _ => trivial) (fun Xb hX => tg_pair (R := rInt) (S := (rTup rInt)) (hX.cok C) (hX.slot VS tb_l_table_c2 13 0) (hX.slot VS tb_l_table_c2 14 1)) (mfM_fm (fun i478 : (Int × (List Int)) => ((decide (i478.2 = a354)) && (!(decide (i478.1 ∈ a274.2.2.2.1))))) (fun i478 : (Int × (List Int)) => i478.1) _)
                                                            (fun Xb i478 σ2 acc Dd Bc2 Hc2 b hX2 S1002 ec2 tg hb => by
                                                                obtain ⟨v1002, w1002, rfl, rv2_1, rfl⟩ := tg
                                                                have T2 : Blt Xb.mg := by rw [hX2.mg]; exact T
                                                                have TT2 : TabTxt Xb.K CT := by rw [hX2.K]; exact TT
                                                                have hb := Res.ok_inj hb
                                                                subst hb
                                                                exact ets_one ((ew_and' ((c_eqD (R := (rTup rInt)) (hX2.cok C).hu64).et ((ee_v ((hX2.scp VS).var tb_l_table_c2 14 1) rfl rv2_1)).toB ((ee_v ((hX2.scp VS).var tb_l_table_c2 9 2) rfl (Rel.mono _ (((((e369.trans e406).trans e462).trans e469).trans e476).trans ec2) r360))).toB) fun _ => (ew_and1 (et_nin (ev_v ((hX2.scp VS).var tb_l_table_c2 13 0) rfl rfl) (ev_own ((hX2.scp VS).var tb_l_table_c2 4 3) rfl (List.mem_of_getElem? (i := 2) rfl) (pimp r291 fun _ _ z => Rel.mono _ (((((((((e308.trans e314).trans e318).trans e358).trans e369).trans e406).trans e462).trans e469).trans e476).trans ec2) z)))))).t
                                                            )
                                                            (fun Xb i478 y σ2 acc Dd Bc2 Hc2 hX2 S1002 ec2 tg hb hf => by
                                                                obtain ⟨v1002, w1002, rfl, rv2_1, rfl⟩ := tg
                                                                have T2 : Blt Xb.mg := by rw [hX2.mg]; exact T
                                                                have TT2 : TabTxt Xb.K CT := by rw [hX2.K]; exact TT
                                                                have hf := Res.ok_inj hf
                                                                subst hf
                                                                exact ((ev_v ((hX2.scp VS).var tb_l_table_c2 13 0) rfl rfl)).toE
                                                            ) (fun x B3 σ2 h => by obtain ⟨v, w, _, _, rfl⟩ := h; rfl) (fun x B3 B4 σ2 ⟨v, w, r, r2, q⟩ e => ⟨v, w, Rel.mono _ e r, Rel.mono _ e r2, q⟩) (fun p479 u480 B481 H482 S483 e484 r485 => ?_)
          obtain ⟨Bk486, S487, e488, r489⟩ := rl_keep (R := rInt) S483 (k := 0) rfl r485
          refine s_if S487 ((ew_and' (c_eqI.et (ev_lenT (VS.gl tb_l_table 13) T.len ((ee_v (VS.var tb_l_table 9 9) rfl (Rel.mono _ ((((((e369.trans e406).trans e462).trans e469).trans e476).trans e484).trans e488) r360))).toB) ev_i) fun _ => (ew_and1 ((ew_or' ((c_neD (R := (rLst rInt)) C.hu64).et ((ee_v (VS.var tb_l_table 11 11) rfl r489)).toB ((el_nil (R := rInt))).toB) fun _ => (ew_or1 (c_eqI.et (ev_mod (ev_div (ev_v (VS.var tb_l_table 8 8) rfl rfl) ev_i ⟨by decide, by decide⟩) ev_i (by decide)) ev_i)))).t))).t (fun z490 B491 H492 S493 e494 => ?_) (fun z490 B502 H503 S504 e505 => ?_)
          · replace F := Fin.tt F z490
            obtain ⟨h495, F⟩ := Fin.need F
            refine s_append S493 (VS.var tb_l_table 4 4) rfl (k := 1) rfl (pimp r291 fun _ _ z => Rel.mono _ (((((((((((e308.trans e314).trans e318).trans e358).trans e369).trans e406).trans e462).trans e469).trans e476).trans e484).trans e488).trans e494) z) ((ev_v (VS.var tb_l_table 7 7) rfl rfl)).toE h495 (fun v496 B497 H498 S499 e500 r501 => ?_)
            refine WSs.nil ?_
            exact WSs.nil ⟨((a274.2.1 ++ [(r303, a354)]), (dput a274.2.2.1 r303 ((l364).sum)), (a274.2.2.2.1 ++ [r303])), _, _, F, S499, (((((e469.trans e476).trans e484).trans e488).trans e494).trans e500), ⟨(w273_3i ++ [v465]), u472, (w273_4i ++ [v496]), _, rfl, rfl, (pimp r470 fun _ _ z => Rel.mono _ ((((e476.trans e484).trans e488).trans e494).trans e500) z), (r477.up (((e484.trans e488).trans e494).trans e500)), r501⟩⟩
          · replace F := Fin.ff F z490
            refine WSs.nil ?_
            exact WSs.nil ⟨((a274.2.1 ++ [(r303, a354)]), (dput a274.2.2.1 r303 ((l364).sum)), a274.2.2.2.1), _, _, F, S504, ((((e469.trans e476).trans e484).trans e488).trans e505), ⟨(w273_3i ++ [v465]), u472, w273_4i, _, rfl, rfl, (pimp r470 fun _ _ z => Rel.mono _ (((e476.trans e484).trans e488).trans e505) z), (r477.up ((e484.trans e488).trans e505)), (pimp r291 fun _ _ z => Rel.mono _ (((((((((((e308.trans e314).trans e318).trans e358).trans e369).trans e406).trans e462).trans e469).trans e476).trans e484).trans e488).trans e505) z)⟩⟩
        · skip
          obtain ⟨h511, F⟩ := Fin.need F
          refine s_dputI C S508 (VS.var tb_l_table 5 5) rfl (k := 0) rfl (r290.up ((((((e308.trans e314).trans e318).trans e358).trans e369).trans e406).trans e509)) (ev_i).toE (ev_v (VS.var tb_l_table 7 7) rfl rfl) h511 (fun u512 B513 H514 S515 e516 r517 => ?_)
          exact WSs.nil ⟨(a274.2.1, (dput a274.2.2.1 r303 1), a274.2.2.2.1), _, _, F, S515, e516, ⟨w273_3i, u512, w273_4i, _, rfl, rfl, (pimp r289 fun _ _ z => Rel.mono _ (((((((e308.trans e314).trans e318).trans e358).trans e369).trans e406).trans e509).trans e516) z), r517, (pimp r291 fun _ _ z => Rel.mono _ (((((((e308.trans e314).trans e318).trans e358).trans e369).trans e406).trans e509).trans e516) z)⟩⟩
        · skip
          obtain ⟨w409_3, w409_5, w409_4, j409_11, rfl, rfl, r525, r526, r527⟩ := iv524
          obtain ⟨h528, F⟩ := Fin.need F
          refine s_append S522 (VS.var tb_l_table 1 1) rfl (k := 4) rfl (pimp r292 fun _ _ z => Rel.mono _ ((((((e308.trans e314).trans e318).trans e358).trans e369).trans e406).trans e523) z) ((ev_v (VS.var tb_l_table 7 7) rfl rfl)).toE h528 (fun v529 B530 H531 S532 e533 r534 => ?_)
          exact WSs.nil ⟨(a402, a519.1, a519.2.1, a519.2.2, (a274.2.2.2.2 ++ [r303])), _, _, F, S532, (((((((e308.trans e314).trans e318).trans e358).trans e369).trans e406).trans e523).trans e533), ⟨w372_2, w409_3, w409_5, w409_4, (w273_1i ++ [v529]), _, _, _, _, _, _, rfl, rfl, (pimp r408 fun _ _ z => Rel.mono _ (e523.trans e533) z), (pimp r525 fun _ _ z => Rel.mono _ e533 z), (r526.up e533), (pimp r527 fun _ _ z => Rel.mono _ e533 z), r534⟩⟩
  · obtain ⟨w273_2, w273_3, w273_5, w273_4, w273_1, j273_7, j273_8, j273_9, j273_10, j273_11, j273_6, rfl, rfl, r296, r297, r298, r299, r300⟩ := iv286
    obtain ⟨Bk538, S535, e536, r537⟩ := rl_keep (R := (rPr rInt rInt)) S284 (k := 3) rfl r296
    obtain ⟨Bk542, S539, e540, r541⟩ := rl_keep (R := (rPr rInt (rTup rInt))) S535 (k := 2) rfl (pimp r297 fun _ _ z => Rel.mono _ e536 z)
    obtain ⟨Bk546, S543, e544, r545⟩ := rl_keep (R := rInt) S539 (k := 1) rfl (pimp r299 fun _ _ z => Rel.mono _ (e536.trans e540) z)
    obtain ⟨Bk550, S547, e548, r549⟩ := rl_keep (R := rInt) S543 (k := 1) rfl (pimp r300 fun _ _ z => Rel.mono _ ((e536.trans e540).trans e544) z)
    exact s_retE S547 (ee_t4 (ee_v (VS.var tb_l_table 2 2) rfl (Rel.mono _ ((e540.trans e544).trans e548) r537)) (ee_v (VS.var tb_l_table 3 3) rfl (Rel.mono _ (e544.trans e548) r541)) (ee_v (VS.var tb_l_table 4 4) rfl (Rel.mono _ e548 r545)) (ee_v (VS.var tb_l_table 1 1) rfl r549)) F
/-! l_turned_p0 -/
abbrev st_l_turned_p0 : Stmt := topS 26
abbrev N_l_turned_p0 : List Str := ["_law_row_here", "_law_number", "_law_at", "_law_found"]
theorem tb_l_turned_p0 : nmOk (defScope st_l_turned_p0) [("_law_row_here", .local), ("_law_number", .local), ("_law_at", .local), ("_law_found", .local), ("len", .globalImplicit)] = true := by decide +kernel
theorem sc_l_turned_p0 : FnScope N_l_turned_p0 ["_law_row_here", "_law_number"] (defScope st_l_turned_p0) := ⟨rfl, rfl, rfl, by decide +kernel, rfl, by decide +kernel, by decide +kernel⟩
def m_l_turned_p0 (l_row_here : (List (Int × Int))) (l_number : Int) : Res (List (Int × Int)) := Res.need (0 < (((l_row_here).length : Int) + 1)) (Res.need (((cut l_row_here (some (l_number % (((l_row_here).length : Int) + 1))) none)).length + ((cut l_row_here none (some (l_number % (((l_row_here).length : Int) + 1))))).length ≤ sizeLine) ((if (decide ((l_number % 3) = 1)) = true then Res.ok (((cut l_row_here (some (l_number % (((l_row_here).length : Int) + 1))) none) ++ (cut l_row_here none (some (l_number % (((l_row_here).length : Int) + 1))))).reverse) else Res.ok ((cut l_row_here (some (l_number % (((l_row_here).length : Int) + 1))) none) ++ (cut l_row_here none (some (l_number % (((l_row_here).length : Int) + 1)))))).bind fun (a32 : (List (Int × Int))) => Res.ok a32))
abbrev args_l_turned_p0 (CT : Addr) : (List (Int × Int)) × Int → AR := fun d => (aC (rLst (rPr rInt rInt)) d.1 (aC rInt d.2 aN))
abbrev sp_l_turned_p0 (CT : Addr) : Sp := SpA (args_l_turned_p0 CT) (kL (rPr rInt rInt)) (fun d => m_l_turned_p0 d.1 d.2)
theorem body_l_turned_p0 {X : Cx} {CT : Addr} (C : Cok X 0) (VS : Scp X N_l_turned_p0 (defScope st_l_turned_p0)) (fn : ∀ x, X.fn x = true) (T : Blt X.mg) (TT : TabTxt X.K CT)  : ∀ (B H : Hp) (vs : List V) (d : (List (Int × Int)) × Int) (Q : VK), Sx B H → Tx H B → (args_l_turned_p0 CT d).r vs B H → Fin ((kL (rPr rInt rInt)) ⟨B, H⟩ Q) NoErr (m_l_turned_p0 d.1 d.2) →
    WSs X (defBody st_l_turned_p0) { nx := fun _ H' => Q .non H', rt := Q } (start N_l_turned_p0 vs) H := by
  rintro B H vs ⟨l_row_here, l_number⟩ Q hb ht ⟨v1, _, rfl, r1_, ⟨_, _, rfl, rfl, rfl⟩⟩ F
  have S0 := Stt.enter hb ht
  obtain ⟨h1, F⟩ := Fin.need F
  refine s_asgI C (VS.slot tb_l_turned_p0 fn 2 2) S0 (ev_mod (ev_v (VS.var tb_l_turned_p0 1 1) rfl rfl) (ev_add (ev_lenL (VS.gl tb_l_turned_p0 4) T.len (ev_v (VS.var tb_l_turned_p0 0 0) rfl (Rel.mono _ S0.h0.ex r1_))) ev_i) h1) (fun B2 H3 S4 e5 => ?_)
  obtain ⟨h6, F⟩ := Fin.need F
  refine s_asgL C (VS.slot tb_l_turned_p0 fn 3 3) S4 (el_cat ((el_cut (ev_v (VS.var tb_l_turned_p0 0 0) rfl (Rel.mono _ S4.h0.ex r1_)) (ep_s (ev_v (VS.var tb_l_turned_p0 2 2) rfl rfl)) ep_n)).toB ((el_cut (ev_v (VS.var tb_l_turned_p0 0 0) rfl (Rel.mono _ S4.h0.ex r1_)) ep_n (ep_s (ev_v (VS.var tb_l_turned_p0 2 2) rfl rfl)))).toB h6) (fun p11 u12 B7 H8 S9 e10 r13 => ?_)
  refine s_ifJ S9 (c_eqI.et (ev_mod (ev_v (VS.var tb_l_turned_p0 1 1) rfl rfl) ev_i (by decide)) ev_i) F (fun (a : (List (Int × Int))) σ' own' B' => ∃ (w14_3 : List V), σ' = [some v1, some (.int l_number), some (.int (l_number % (((l_row_here).length : Int) + 1))), some (.ref p11)] ∧ own' = [(p11, .lst w14_3)] ∧ Paired ((rPr rInt rInt).r B') w14_3 a) (fun z31 B18 H19 S20 e21 Q22 F => ?_) (fun z31 B26 H27 S28 e29 Q30 F => ?_) (fun a32 _ _ B33 H34 iv37 S35 e36 F => ?_)
  · skip
    refine s_reverse S20 (VS.var tb_l_turned_p0 3 3) rfl (k := 0) rfl (pimp r13 fun _ _ z => Rel.mono _ e21 z) (fun H23 S24 r25 => ?_)
    exact WSs.nil ⟨((cut l_row_here (some (l_number % (((l_row_here).length : Int) + 1))) none) ++ (cut l_row_here none (some (l_number % (((l_row_here).length : Int) + 1))))).reverse, _, _, F, S24, (Ex.refl _), ⟨u12.reverse, rfl, rfl, r25⟩⟩
  · skip
    exact WSs.nil ⟨((cut l_row_here (some (l_number % (((l_row_here).length : Int) + 1))) none) ++ (cut l_row_here none (some (l_number % (((l_row_here).length : Int) + 1))))), _, _, F, S28, (Ex.refl _), ⟨u12, rfl, rfl, (pimp r13 fun _ _ z => Rel.mono _ e29 z)⟩⟩
  · skip
    obtain ⟨w14_3, rfl, rfl, r38⟩ := iv37
    exact s_retO S35 (VS.var tb_l_turned_p0 3 3) rfl (k := 0) rfl r38 F
/-! l_turned_p1 -/
abbrev st_l_turned_p1 : Stmt := topS 26
abbrev N_l_turned_p1 : List Str := ["_law_row_here", "_law_number", "_law_at", "_law_found"]
theorem tb_l_turned_p1 : nmOk (defScope st_l_turned_p1) [("_law_row_here", .local), ("_law_number", .local), ("_law_at", .local), ("_law_found", .local), ("len", .globalImplicit)] = true := by decide +kernel
theorem sc_l_turned_p1 : FnScope N_l_turned_p1 ["_law_row_here", "_law_number"] (defScope st_l_turned_p1) := ⟨rfl, rfl, rfl, by decide +kernel, rfl, by decide +kernel, by decide +kernel⟩
def m_l_turned_p1 (l_row_here : (List (Int × (List Int)))) (l_number : Int) : Res (List (Int × (List Int))) := Res.need (0 < (((l_row_here).length : Int) + 1)) (Res.need (((cut l_row_here (some (l_number % (((l_row_here).length : Int) + 1))) none)).length + ((cut l_row_here none (some (l_number % (((l_row_here).length : Int) + 1))))).length ≤ sizeLine) ((if (decide ((l_number % 3) = 1)) = true then Res.ok (((cut l_row_here (some (l_number % (((l_row_here).length : Int) + 1))) none) ++ (cut l_row_here none (some (l_number % (((l_row_here).length : Int) + 1))))).reverse) else Res.ok ((cut l_row_here (some (l_number % (((l_row_here).length : Int) + 1))) none) ++ (cut l_row_here none (some (l_number % (((l_row_here).length : Int) + 1)))))).bind fun (a32 : (List (Int × (List Int)))) => Res.ok a32))
abbrev args_l_turned_p1 (CT : Addr) : (List (Int × (List Int))) × Int → AR := fun d => (aC (rLst (rPr rInt (rTup rInt))) d.1 (aC rInt d.2 aN))
abbrev sp_l_turned_p1 (CT : Addr) : Sp := SpA (args_l_turned_p1 CT) (kL (rPr rInt (rTup rInt))) (fun d => m_l_turned_p1 d.1 d.2)
theorem body_l_turned_p1 {X : Cx} {CT : Addr} (C : Cok X 0) (VS : Scp X N_l_turned_p1 (defScope st_l_turned_p1)) (fn : ∀ x, X.fn x = true) (T : Blt X.mg) (TT : TabTxt X.K CT)  : ∀ (B H : Hp) (vs : List V) (d : (List (Int × (List Int))) × Int) (Q : VK), Sx B H → Tx H B → (args_l_turned_p1 CT d).r vs B H → Fin ((kL (rPr rInt (rTup rInt))) ⟨B, H⟩ Q) NoErr (m_l_turned_p1 d.1 d.2) →
    WSs X (defBody st_l_turned_p1) { nx := fun _ H' => Q .non H', rt := Q } (start N_l_turned_p1 vs) H := by
  rintro B H vs ⟨l_row_here, l_number⟩ Q hb ht ⟨v1, _, rfl, r1_, ⟨_, _, rfl, rfl, rfl⟩⟩ F
  have S0 := Stt.enter hb ht
  obtain ⟨h1, F⟩ := Fin.need F
  refine s_asgI C (VS.slot tb_l_turned_p1 fn 2 2) S0 (ev_mod (ev_v (VS.var tb_l_turned_p1 1 1) rfl rfl) (ev_add (ev_lenL (VS.gl tb_l_turned_p1 4) T.len (ev_v (VS.var tb_l_turned_p1 0 0) rfl (Rel.mono _ S0.h0.ex r1_))) ev_i) h1) (fun B2 H3 S4 e5 => ?_)
  obtain ⟨h6, F⟩ := Fin.need F
  refine s_asgL C (VS.slot tb_l_turned_p1 fn 3 3) S4 (el_cat ((el_cut (ev_v (VS.var tb_l_turned_p1 0 0) rfl (Rel.mono _ S4.h0.ex r1_)) (ep_s (ev_v (VS.var tb_l_turned_p1 2 2) rfl rfl)) ep_n)).toB ((el_cut (ev_v (VS.var tb_l_turned_p1 0 0) rfl (Rel.mono _ S4.h0.ex r1_)) ep_n (ep_s (ev_v (VS.var tb_l_turned_p1 2 2) rfl rfl)))).toB h6) (fun p11 u12 B7 H8 S9 e10 r13 => ?_)
  refine s_ifJ S9 (c_eqI.et (ev_mod (ev_v (VS.var tb_l_turned_p1 1 1) rfl rfl) ev_i (by decide)) ev_i) F (fun (a : (List (Int × (List Int)))) σ' own' B' => ∃ (w14_3 : List V), σ' = [some v1, some (.int l_number), some (.int (l_number % (((l_row_here).length : Int) + 1))), some (.ref p11)] ∧ own' = [(p11, .lst w14_3)] ∧ Paired ((rPr rInt (rTup rInt)).r B') w14_3 a) (fun z31 B18 H19 S20 e21 Q22 F => ?_) (fun z31 B26 H27 S28 e29 Q30 F => ?_) (fun a32 _ _ B33 H34 iv37 S35 e36 F => ?_)
  · skip
    refine s_reverse S20 (VS.var tb_l_turned_p1 3 3) rfl (k := 0) rfl (pimp r13 fun _ _ z => Rel.mono _ e21 z) (fun H23 S24 r25 => ?_)
    exact WSs.nil ⟨((cut l_row_here (some (l_number % (((l_row_here).length : Int) + 1))) none) ++ (cut l_row_here none (some (l_number % (((l_row_here).length : Int) + 1))))).reverse, _, _, F, S24, (Ex.refl _), ⟨u12.reverse, rfl, rfl, r25⟩⟩
  · skip
    exact WSs.nil ⟨((cut l_row_here (some (l_number % (((l_row_here).length : Int) + 1))) none) ++ (cut l_row_here none (some (l_number % (((l_row_here).length : Int) + 1))))), _, _, F, S28, (Ex.refl _), ⟨u12, rfl, rfl, (pimp r13 fun _ _ z => Rel.mono _ e29 z)⟩⟩
  · skip
    obtain ⟨w14_3, rfl, rfl, r38⟩ := iv37
    exact s_retO S35 (VS.var tb_l_turned_p1 3 3) rfl (k := 0) rfl r38 F
/-! l_turned_p2 -/
abbrev st_l_turned_p2 : Stmt := topS 26
abbrev N_l_turned_p2 : List Str := ["_law_row_here", "_law_number", "_law_at", "_law_found"]
theorem tb_l_turned_p2 : nmOk (defScope st_l_turned_p2) [("_law_row_here", .local), ("_law_number", .local), ("_law_at", .local), ("_law_found", .local), ("len", .globalImplicit)] = true := by decide +kernel
theorem sc_l_turned_p2 : FnScope N_l_turned_p2 ["_law_row_here", "_law_number"] (defScope st_l_turned_p2) := ⟨rfl, rfl, rfl, by decide +kernel, rfl, by decide +kernel, by decide +kernel⟩
def m_l_turned_p2 (l_row_here : (List Int)) (l_number : Int) : Res (List Int) := Res.need (0 < (((l_row_here).length : Int) + 1)) (Res.need (((cut l_row_here (some (l_number % (((l_row_here).length : Int) + 1))) none)).length + ((cut l_row_here none (some (l_number % (((l_row_here).length : Int) + 1))))).length ≤ sizeLine) ((if (decide ((l_number % 3) = 1)) = true then Res.ok (((cut l_row_here (some (l_number % (((l_row_here).length : Int) + 1))) none) ++ (cut l_row_here none (some (l_number % (((l_row_here).length : Int) + 1))))).reverse) else Res.ok ((cut l_row_here (some (l_number % (((l_row_here).length : Int) + 1))) none) ++ (cut l_row_here none (some (l_number % (((l_row_here).length : Int) + 1)))))).bind fun (a32 : (List Int)) => Res.ok a32))
abbrev args_l_turned_p2 (CT : Addr) : (List Int) × Int → AR := fun d => (aC (rLst rInt) d.1 (aC rInt d.2 aN))
abbrev sp_l_turned_p2 (CT : Addr) : Sp := SpA (args_l_turned_p2 CT) (kL rInt) (fun d => m_l_turned_p2 d.1 d.2)
theorem body_l_turned_p2 {X : Cx} {CT : Addr} (C : Cok X 0) (VS : Scp X N_l_turned_p2 (defScope st_l_turned_p2)) (fn : ∀ x, X.fn x = true) (T : Blt X.mg) (TT : TabTxt X.K CT)  : ∀ (B H : Hp) (vs : List V) (d : (List Int) × Int) (Q : VK), Sx B H → Tx H B → (args_l_turned_p2 CT d).r vs B H → Fin ((kL rInt) ⟨B, H⟩ Q) NoErr (m_l_turned_p2 d.1 d.2) →
    WSs X (defBody st_l_turned_p2) { nx := fun _ H' => Q .non H', rt := Q } (start N_l_turned_p2 vs) H := by
  rintro B H vs ⟨l_row_here, l_number⟩ Q hb ht ⟨v1, _, rfl, r1_, ⟨_, _, rfl, rfl, rfl⟩⟩ F
  have S0 := Stt.enter hb ht
  obtain ⟨h1, F⟩ := Fin.need F
  refine s_asgI C (VS.slot tb_l_turned_p2 fn 2 2) S0 (ev_mod (ev_v (VS.var tb_l_turned_p2 1 1) rfl rfl) (ev_add (ev_lenL (VS.gl tb_l_turned_p2 4) T.len (ev_v (VS.var tb_l_turned_p2 0 0) rfl (Rel.mono _ S0.h0.ex r1_))) ev_i) h1) (fun B2 H3 S4 e5 => ?_)
  obtain ⟨h6, F⟩ := Fin.need F
  refine s_asgL C (VS.slot tb_l_turned_p2 fn 3 3) S4 (el_cat ((el_cut (ev_v (VS.var tb_l_turned_p2 0 0) rfl (Rel.mono _ S4.h0.ex r1_)) (ep_s (ev_v (VS.var tb_l_turned_p2 2 2) rfl rfl)) ep_n)).toB ((el_cut (ev_v (VS.var tb_l_turned_p2 0 0) rfl (Rel.mono _ S4.h0.ex r1_)) ep_n (ep_s (ev_v (VS.var tb_l_turned_p2 2 2) rfl rfl)))).toB h6) (fun p11 u12 B7 H8 S9 e10 r13 => ?_)
  refine s_ifJ S9 (c_eqI.et (ev_mod (ev_v (VS.var tb_l_turned_p2 1 1) rfl rfl) ev_i (by decide)) ev_i) F (fun (a : (List Int)) σ' own' B' => ∃ (w14_3 : List V), σ' = [some v1, some (.int l_number), some (.int (l_number % (((l_row_here).length : Int) + 1))), some (.ref p11)] ∧ own' = [(p11, .lst w14_3)] ∧ Paired (rInt.r B') w14_3 a) (fun z31 B18 H19 S20 e21 Q22 F => ?_) (fun z31 B26 H27 S28 e29 Q30 F => ?_) (fun a32 _ _ B33 H34 iv37 S35 e36 F => ?_)
  · skip
    refine s_reverse S20 (VS.var tb_l_turned_p2 3 3) rfl (k := 0) rfl (pimp r13 fun _ _ z => Rel.mono _ e21 z) (fun H23 S24 r25 => ?_)
    exact WSs.nil ⟨((cut l_row_here (some (l_number % (((l_row_here).length : Int) + 1))) none) ++ (cut l_row_here none (some (l_number % (((l_row_here).length : Int) + 1))))).reverse, _, _, F, S24, (Ex.refl _), ⟨u12.reverse, rfl, rfl, r25⟩⟩
  · skip
    exact WSs.nil ⟨((cut l_row_here (some (l_number % (((l_row_here).length : Int) + 1))) none) ++ (cut l_row_here none (some (l_number % (((l_row_here).length : Int) + 1))))), _, _, F, S28, (Ex.refl _), ⟨u12, rfl, rfl, (pimp r13 fun _ _ z => Rel.mono _ e29 z)⟩⟩
  · skip
    obtain ⟨w14_3, rfl, rfl, r38⟩ := iv37
    exact s_retO S35 (VS.var tb_l_turned_p2 3 3) rfl (k := 0) rfl r38 F
/-! told_again -/
abbrev st_told_again : Stmt := topS 10
abbrev N_told_again : List Str := ["signs", "row", "one", "other"]
theorem tb_told_again : nmOk (defScope st_told_again) [("signs", .local), ("row", .local), ("sorted", .globalImplicit), ("zip", .globalImplicit)] = true := by decide +kernel
theorem sc_told_again : FnScope N_told_again ["signs"] (defScope st_told_again) := ⟨rfl, rfl, rfl, by decide +kernel, rfl, by decide +kernel, by decide +kernel⟩
abbrev csc_told_again_c1 : Scope := { kind := .function, names := [(".0", .local), ("one", .local), ("other", .local)], isGenerator := false, isCoroutine := false, more := [] }
theorem tb_told_again_c1 : nmOk (relS csc_told_again_c1 (defScope st_told_again)) [("one", .local), ("other", .local)] = true := by decide +kernel
theorem bk_told_again_c1 : blkC N_told_again (defScope st_told_again) csc_told_again_c1 [("one", 2), ("other", 3)] = true := by decide +kernel
def m_told_again (signs : (List Int)) : Res (List Int) := Res.ok (cut ((((sortI signs).zip (cut (sortI signs) (some 1) none)).filter fun i7 => (decide (i7.1 = i7.2))).map fun i7 => i7.1) none (some 1))
abbrev args_told_again (CT : Addr) : (List Int) → AR := fun d => (aC (rLst rInt) d aN)
abbrev sp_told_again (CT : Addr) : Sp := SpA (args_told_again CT) (kL rInt) (fun d => m_told_again d)
theorem body_told_again {X : Cx} {CT : Addr} (C : Cok X 0) (VS : Scp X N_told_again (defScope st_told_again)) (fn : ∀ x, X.fn x = true) (T : Blt X.mg) (TT : TabTxt X.K CT)  : ∀ (B H : Hp) (vs : List V) (d : (List Int)) (Q : VK), Sx B H → Tx H B → (args_told_again CT d).r vs B H → Fin ((kL rInt) ⟨B, H⟩ Q) NoErr (m_told_again d) →
    WSs X (defBody st_told_again) { nx := fun _ H' => Q .non H', rt := Q } (start N_told_again vs) H := by
  rintro B H vs signs Q hb ht ⟨v1, _, rfl, r1_, rfl⟩ F
  have S0 := Stt.enter hb ht
  refine s_asg C (VS.slot tb_told_again fn 1 1) S0 ((el_sortI (VS.gl tb_told_again 2) T.sorted (ev_v (VS.var tb_told_again 0 0) rfl (Rel.mono _ S0.h0.ex r1_)))).toE (fun v5 B1 H2 S3 e4 r6 => ?_)
  exact s_retL S3 (el_cut ((el_lc (S := rInt) C (VS.blk bk_told_again_c1) (ei_zip (VS.gl tb_told_again 3) T.zip (ee_v (VS.var tb_told_again 1 1) rfl r6) ((el_cut ((ee_v (VS.var tb_told_again 1 1) rfl r6)).toB (ep_s ev_i) ep_n)).toE) (fun _ _ => trivial) (fun Xb hX => tg_pair (R := rInt) (S := rInt) (hX.cok C) (hX.slot VS tb_told_again_c1 2 0) (hX.slot VS tb_told_again_c1 3 1)) (mfM_fm (fun i7 : (Int × Int) => (decide (i7.1 = i7.2))) (fun i7 : (Int × Int) => i7.1) _)
                                                            (fun Xb i7 σ2 acc Dd Bc1 Hc1 b hX1 S1001 ec1 tg hb => by
                                                                obtain ⟨v1001, w1001, rfl, rfl, rfl⟩ := tg
                                                                have T1 : Blt Xb.mg := by rw [hX1.mg]; exact T
                                                                have TT1 : TabTxt Xb.K CT := by rw [hX1.K]; exact TT
                                                                have hb := Res.ok_inj hb
                                                                subst hb
                                                                exact ets_one (c_eqI.et (ev_v ((hX1.scp VS).var tb_told_again_c1 2 0) rfl rfl) (ev_v ((hX1.scp VS).var tb_told_again_c1 3 1) rfl rfl))
                                                            )
                                                            (fun Xb i7 y σ2 acc Dd Bc1 Hc1 hX1 S1001 ec1 tg hb hf => by
                                                                obtain ⟨v1001, w1001, rfl, rfl, rfl⟩ := tg
                                                                have T1 : Blt Xb.mg := by rw [hX1.mg]; exact T
                                                                have TT1 : TabTxt Xb.K CT := by rw [hX1.K]; exact TT
                                                                have hf := Res.ok_inj hf
                                                                subst hf
                                                                exact ((ev_v ((hX1.scp VS).var tb_told_again_c1 2 0) rfl rfl)).toE
                                                            ) (fun x B3 σ2 h => by obtain ⟨v, w, _, _, rfl⟩ := h; rfl) (fun x B3 B4 σ2 ⟨v, w, r, r2, q⟩ e => ⟨v, w, Rel.mono _ e r, Rel.mono _ e r2, q⟩))).toB ep_n (ep_s ev_i)) F
/-! look_for_twice -/
abbrev st_look_for_twice : Stmt := topS 11
abbrev N_look_for_twice : List Str := ["marks", "rows", "shuts", "found", "mark", "row"]
theorem tb_look_for_twice : nmOk (defScope st_look_for_twice) [("marks", .local), ("rows", .local), ("shuts", .local), ("found", .local), ("told_again", .globalImplicit), ("Twice", .globalImplicit), ("min", .globalImplicit)] = true := by decide +kernel
theorem sc_look_for_twice : FnScope N_look_for_twice ["marks", "rows", "shuts"] (defScope st_look_for_twice) := ⟨rfl, rfl, rfl, by decide +kernel, rfl, by decide +kernel, by decide +kernel⟩
abbrev csc_look_for_twice_c1 : Scope := { kind := .function, names := [(".0", .local), ("mark", .local)], isGenerator := false, isCoroutine := false, more := [] }
theorem tb_look_for_twice_c1 : nmOk (relS csc_look_for_twice_c1 (defScope st_look_for_twice)) [("mark", .local)] = true := by decide +kernel
theorem bk_look_for_twice_c1 : blkC N_look_for_twice (defScope st_look_for_twice) csc_look_for_twice_c1 [("mark", 4)] = true := by decide +kernel
abbrev csc_look_for_twice_c2 : Scope := { kind := .function, names := [(".0", .local), ("row", .local)], isGenerator := false, isCoroutine := false, more := [] }
theorem tb_look_for_twice_c2 : nmOk (relS csc_look_for_twice_c2 (defScope st_look_for_twice)) [("row", .local)] = true := by decide +kernel
theorem bk_look_for_twice_c2 : blkC N_look_for_twice (defScope st_look_for_twice) csc_look_for_twice_c2 [("row", 5)] = true := by decide +kernel
def m_look_for_twice (marks : (List (Int × Int))) (rows : (List (Int × (List Int)))) (shuts : (List Int)) : Res Unit := Res.need (((marks.map fun i1 => i1.1)).length + ((rows.map fun i2 => i2.1)).length ≤ sizeLine) ((m_told_again ((marks.map fun i1 => i1.1) ++ (rows.map fun i2 => i2.1))).bind fun r4 => (m_told_again shuts).bind fun r6 => Res.need ((r4).length + (r6).length ≤ sizeLine) (if (!decide ((r4 ++ r6) = ([] : List Int))) = true then Res.stuck else Res.ok ()))
abbrev args_look_for_twice (CT : Addr) : (List (Int × Int)) × (List (Int × (List Int))) × (List Int) → AR := fun d => (aC (rLst (rPr rInt rInt)) d.1 (aC (rLst (rPr rInt (rTup rInt))) d.2.1 (aC (rLst rInt) d.2.2 aN)))
abbrev sp_look_for_twice (CT : Addr) : Sp := SpA (args_look_for_twice CT) (kE rNon) (fun d => m_look_for_twice d.1 d.2.1 d.2.2)
theorem body_look_for_twice {X : Cx} {CT : Addr} (C : Cok X 1) (VS : Scp X N_look_for_twice (defScope st_look_for_twice)) (fn : ∀ x, X.fn x = true) (T : Blt X.mg) (TT : TabTxt X.K CT) (G_told_again : Cal X 1 "told_again" ["signs"] (sp_told_again CT)) : ∀ (B H : Hp) (vs : List V) (d : (List (Int × Int)) × (List (Int × (List Int))) × (List Int)) (Q : VK), Sx B H → Tx H B → (args_look_for_twice CT d).r vs B H → Fin ((kE rNon) ⟨B, H⟩ Q) NoErr (m_look_for_twice d.1 d.2.1 d.2.2) →
    WSs X (defBody st_look_for_twice) { nx := fun _ H' => Q .non H', rt := Q } (start N_look_for_twice vs) H := by
  rintro B H vs ⟨marks, rows, shuts⟩ Q hb ht ⟨v1, _, rfl, r1_, ⟨v2, _, rfl, r2_, ⟨v3, _, rfl, r3_, rfl⟩⟩⟩ F
  have S0 := Stt.enter hb ht
  obtain ⟨h3, F⟩ := Fin.need F
  obtain ⟨r4, h5, F⟩ := Fin.get F
  obtain ⟨r6, h7, F⟩ := Fin.get F
  obtain ⟨h8, F⟩ := Fin.need F
  refine s_asg C (VS.slot tb_look_for_twice fn 3 3) S0 ((el_cat ((el_call C G_told_again (by decide) (VS.gl tb_look_for_twice 4) (d := (((marks.map fun i1 => i1.1) ++ (rows.map fun i2 => i2.1)))) (as_cons ((el_cat ((el_lc (S := rInt) C (VS.blk bk_look_for_twice_c1) (ei_0 (VS.var tb_look_for_twice 0 0) rfl r1_) (fun _ _ => trivial) (fun Xb hX => tg_name (R := (rPr rInt rInt)) (hX.cok C) (hX.slot VS tb_look_for_twice_c1 4 0)) (mfM_map (fun i1 : (Int × Int) => i1.1) _)
                                                            (fun Xb i1 σ2 acc Dd Bc1 Hc1 b hX1 S1001 ec1 tg hb => by
                                                                obtain ⟨v1001, rv1, rfl⟩ := tg
                                                                have T1 : Blt Xb.mg := by rw [hX1.mg]; exact T
                                                                have TT1 : TabTxt Xb.K CT := by rw [hX1.K]; exact TT
                                                                have hb := Res.ok_inj hb
                                                                subst hb
                                                                exact ets_nil
                                                            )
                                                            (fun Xb i1 y σ2 acc Dd Bc1 Hc1 hX1 S1001 ec1 tg hb hf => by
                                                                obtain ⟨v1001, rv1, rfl⟩ := tg
                                                                have T1 : Blt Xb.mg := by rw [hX1.mg]; exact T
                                                                have TT1 : TabTxt Xb.K CT := by rw [hX1.K]; exact TT
                                                                have hf := Res.ok_inj hf
                                                                subst hf
                                                                exact (ee_fst (ee_v ((hX1.scp VS).var tb_look_for_twice_c1 4 0) rfl rv1))
                                                            ) (fun x B3 σ2 h => by obtain ⟨v, _, rfl⟩ := h; rfl) (fun x B3 B4 σ2 ⟨v, r, q⟩ e => ⟨v, Rel.mono _ e r, q⟩))).toB ((el_lc (S := rInt) C (VS.blk bk_look_for_twice_c2) (ei_0 (VS.var tb_look_for_twice 1 1) rfl r2_) (fun _ _ => trivial) (fun Xb hX => tg_name (R := (rPr rInt (rTup rInt))) (hX.cok C) (hX.slot VS tb_look_for_twice_c2 5 0)) (mfM_map (fun i2 : (Int × (List Int)) => i2.1) _)
                                                            (fun Xb i2 σ2 acc Dd Bc2 Hc2 b hX2 S1002 ec2 tg hb => by
                                                                obtain ⟨v1002, rv2, rfl⟩ := tg
                                                                have T2 : Blt Xb.mg := by rw [hX2.mg]; exact T
                                                                have TT2 : TabTxt Xb.K CT := by rw [hX2.K]; exact TT
                                                                have hb := Res.ok_inj hb
                                                                subst hb
                                                                exact ets_nil
                                                            )
                                                            (fun Xb i2 y σ2 acc Dd Bc2 Hc2 hX2 S1002 ec2 tg hb hf => by
                                                                obtain ⟨v1002, rv2, rfl⟩ := tg
                                                                have T2 : Blt Xb.mg := by rw [hX2.mg]; exact T
                                                                have TT2 : TabTxt Xb.K CT := by rw [hX2.K]; exact TT
                                                                have hf := Res.ok_inj hf
                                                                subst hf
                                                                exact (ee_fst (ee_v ((hX2.scp VS).var tb_look_for_twice_c2 5 0) rfl rv2))
                                                            ) (fun x B3 σ2 h => by obtain ⟨v, _, rfl⟩ := h; rfl) (fun x B3 B4 σ2 ⟨v, r, q⟩ e => ⟨v, Rel.mono _ e r, q⟩))).toB h3)).toB as_nil) (by exact h5))).toB ((el_call C G_told_again (by decide) (VS.gl tb_look_for_twice 4) (d := (shuts)) (as_cons (ev_v (VS.var tb_look_for_twice 2 2) rfl (Rel.mono _ S0.h0.ex r3_)) as_nil) h7)).toB h8)).toE (fun v13 B9 H10 S11 e12 r14 => ?_)
  refine s_if S11 ((c_neD (R := (rLst rInt)) C.hu64).et ((ee_v (VS.var tb_look_for_twice 3 3) rfl r14)).toB ((el_nil (R := rInt))).toB) (fun z15 B16 H17 S18 e19 => ?_) (fun z15 B20 H21 S22 e23 => ?_)
  · replace F := Fin.tt F z15
    exact F.elim
  · replace F := Fin.ff F z15
    refine WSs.nil ?_
    exact WSs.nil (F _ _ _ S22.none rfl)
/-! look_at_shuts -/
abbrev st_look_at_shuts : Stmt := topS 12
abbrev N_look_at_shuts : List Str := ["parts", "shuts", "sign"]
theorem tb_look_at_shuts : nmOk (defScope st_look_at_shuts) [("parts", .local), ("shuts", .local), ("sign", .local), ("sorted", .globalImplicit), ("len", .globalImplicit), ("NoPair", .globalImplicit)] = true := by decide +kernel
theorem sc_look_at_shuts : FnScope N_look_at_shuts ["parts", "shuts"] (defScope st_look_at_shuts) := ⟨rfl, rfl, rfl, by decide +kernel, rfl, by decide +kernel, by decide +kernel⟩
def m_look_at_shuts (parts : (List (Int × (List Int)))) (shuts : (List Int)) : Res Unit := (forM (fun (a13 : Unit) (x14 : Int) => (if (!decide (((((dget parts x14).getD ([] : (List Int)))).length : Int) = 2)) = true then Res.stuck else Res.ok () : Res Unit)) (sortI shuts) ()).bind fun (a26 : Unit) => Res.ok ()
abbrev args_look_at_shuts (CT : Addr) : (List (Int × (List Int))) × (List Int) → AR := fun d => (aC (rDI (rTup rInt)) d.1 (aC (rLst rInt) d.2 aN))
abbrev sp_look_at_shuts (CT : Addr) : Sp := SpA (args_look_at_shuts CT) (kE rNon) (fun d => m_look_at_shuts d.1 d.2)
theorem body_look_at_shuts {X : Cx} {CT : Addr} (C : Cok X 0) (VS : Scp X N_look_at_shuts (defScope st_look_at_shuts)) (fn : ∀ x, X.fn x = true) (T : Blt X.mg) (TT : TabTxt X.K CT)  : ∀ (B H : Hp) (vs : List V) (d : (List (Int × (List Int))) × (List Int)) (Q : VK), Sx B H → Tx H B → (args_look_at_shuts CT d).r vs B H → Fin ((kE rNon) ⟨B, H⟩ Q) NoErr (m_look_at_shuts d.1 d.2) →
    WSs X (defBody st_look_at_shuts) { nx := fun _ H' => Q .non H', rt := Q } (start N_look_at_shuts vs) H := by
  rintro B H vs ⟨parts, shuts⟩ Q hb ht ⟨v1, _, rfl, r1_, ⟨v2, _, rfl, r2_, rfl⟩⟩ F
  have S0 := Stt.enter hb ht
  refine s_forM C (tg_name (R := rInt) C (VS.slot tb_look_at_shuts fn 2 2)) S0 (ei_E ((el_sortI (VS.gl tb_look_at_shuts 3) T.sorted (ev_v (VS.var tb_look_at_shuts 1 1) rfl (Rel.mono _ S0.h0.ex r2_)))).toE) F (fun (a : Unit) σ' own' B' => ∃ (j12_2 : Option V), σ' = [some v1, some v2, j12_2] ∧ own' = [])
      (fun Bz e => ⟨_, rfl, rfl⟩) (fun _ _ _ _ _ => trivial) (fun _ _ _ _ _ h e => by obtain ⟨w0, h1, h2⟩ := h; exact ⟨w0, h1, h2⟩) (fun a13 x14 _ _ _ B15 H16 Q20 iv19 S17 e18 tg F => ?_) (fun a26 _ _ B21 H22 iv25 S23 e24 F => ?_)
  · obtain ⟨j12_2i, rfl, rfl⟩ := iv19
    obtain ⟨v28, rfl, rfl⟩ := tg
    refine s_if S17 (c_neI.et (ev_lenT (VS.gl tb_look_at_shuts 4) T.len (ev_dget2 C dkI (ev_v (VS.var tb_look_at_shuts 0 0) rfl (Rel.mono _ S17.h0.ex r1_)) (ev_v (VS.var tb_look_at_shuts 2 2) rfl rfl) ((ee_tup (R := rInt) ea_nil)).toB)) ev_i) (fun z30 B31 H32 S33 e34 => ?_) (fun z30 B35 H36 S37 e38 => ?_)
    · replace F := Fin.tt F z30
      exact F.elim
    · replace F := Fin.ff F z30
      refine WSs.nil ?_
      exact WSs.nil ⟨(), _, _, F, S37, e38, ⟨_, rfl, rfl⟩⟩
  · obtain ⟨j12_2, rfl, rfl⟩ := iv25
    exact WSs.nil (F _ _ _ S23.none rfl)
/-! wholes_of -/
abbrev st_wholes_of : Stmt := topS 13
abbrev N_wholes_of : List Str := ["parts", "closed", "wholes", "found", "sign", "row", "one", "other"]
theorem tb_wholes_of : nmOk (defScope st_wholes_of) [("parts", .local), ("closed", .local), ("wholes", .local), ("found", .local), ("sign", .local), ("row", .local), ("one", .local), ("other", .local), ("sorted", .globalImplicit), ("len", .globalImplicit), ("min", .globalImplicit), ("Same", .globalImplicit)] = true := by decide +kernel
theorem sc_wholes_of : FnScope N_wholes_of ["parts", "closed"] (defScope st_wholes_of) := ⟨rfl, rfl, rfl, by decide +kernel, rfl, by decide +kernel, by decide +kernel⟩
def m_wholes_of (parts : (List (Int × (List Int)))) (closed : (List Int)) : Res (List (List Int × Int)) := Res.need ((parts).length < 64) ((forM (fun (a61 : ((List (Int × Int)) × (List (List Int × Int)))) (x62 : Int) => ((Res.of (dget parts x62)).bind fun x82 => if ((!decide (((x82).length : Int) = 2)) || (decide (x62 ∈ closed))) = true then Res.ok (a61.1, a61.2) else if (dget a61.2 x82).isSome = true then (Res.of (dget a61.2 x82)).bind fun x104 => Res.need (a61.1.length < sizeLine) (Res.ok ((a61.1 ++ [(x104, x62)]), a61.2)) else Res.need (a61.2.length < sizeLine) (Res.ok (a61.1, (dput a61.2 x82 x62))) : Res ((List (Int × Int)) × (List (List Int × Int))))) (sortI (parts.map (·.1))) (([] : List (Int × Int)), ([] : (List (List Int × Int))))).bind fun (a74 : ((List (Int × Int)) × (List (List Int × Int)))) => if (!decide (a74.1 = ([] : List (Int × Int)))) = true then Res.stuck else Res.ok a74.2)
abbrev args_wholes_of (CT : Addr) : (List (Int × (List Int))) × (List Int) → AR := fun d => (aC (rDI (rTup rInt)) d.1 (aC (rLst rInt) d.2 aN))
abbrev sp_wholes_of (CT : Addr) : Sp := SpA (args_wholes_of CT) (kE (rDT rInt)) (fun d => m_wholes_of d.1 d.2)
theorem body_wholes_of {X : Cx} {CT : Addr} (C : Cok X 0) (VS : Scp X N_wholes_of (defScope st_wholes_of)) (fn : ∀ x, X.fn x = true) (T : Blt X.mg) (TT : TabTxt X.K CT)  : ∀ (B H : Hp) (vs : List V) (d : (List (Int × (List Int))) × (List Int)) (Q : VK), Sx B H → Tx H B → (args_wholes_of CT d).r vs B H → Fin ((kE (rDT rInt)) ⟨B, H⟩ Q) NoErr (m_wholes_of d.1 d.2) →
    WSs X (defBody st_wholes_of) { nx := fun _ H' => Q .non H', rt := Q } (start N_wholes_of vs) H := by
  rintro B H vs ⟨parts, closed⟩ Q hb ht ⟨v1, _, rfl, r1_, ⟨v2, _, rfl, r2_, rfl⟩⟩ F
  have S0 := Stt.enter hb ht
  refine s_asgDT' C (VS.slot tb_wholes_of fn 2 2) S0 (ed_nT (R := rInt)) (fun p5 u6 B1 H2 S3 e4 r7 => ?_)
  refine s_asgL C (VS.slot tb_wholes_of fn 3 3) S3 (el_nil (R := (rPr rInt rInt))) (fun p12 u13 B8 H9 S10 e11 r14 => ?_)
  obtain ⟨h15, F⟩ := Fin.need F
  refine s_forM C (tg_name (R := rInt) C (VS.slot tb_wholes_of fn 4 4)) S10 (ei_E ((el_sortD C.calm (VS.gl tb_wholes_of 8) T.sorted (ev_v (VS.var tb_wholes_of 0 0) rfl (Rel.mono _ S10.h0.ex r1_)) h15)).toE) F (fun (a : ((List (Int × Int)) × (List (List Int × Int)))) σ' own' B' => ∃ (w60_3 : List V), ∃ (w60_2 : List (List Key × V)), ∃ (j60_5 : Option V), ∃ (j60_4 : Option V), σ' = [some v1, some v2, some (.ref p5), some (.ref p12), j60_4, j60_5, none, none] ∧ own' = [(p12, .lst w60_3), (p5, .dT w60_2)] ∧ Paired ((rPr rInt rInt).r B') w60_3 a.1 ∧ pT rInt B' w60_2 a.2)
      (fun Bz e => ⟨u13, u6, _, _, rfl, rfl, (pimp r14 fun _ _ z => Rel.mono _ e z), (r7.up (e11.trans e))⟩) (fun _ _ _ _ _ => trivial) (fun _ _ _ _ _ h e => by obtain ⟨w0, w1, w2, w3, h1, h2, f0, f1⟩ := h; exact ⟨w0, w1, w2, w3, h1, h2, pimp f0 fun _ _ z => Rel.mono _ e z, f1.up e⟩) (fun a61 x62 _ _ _ B63 H64 Q68 iv67 S65 e66 tg F => ?_) (fun a74 _ _ B69 H70 iv73 S71 e72 F => ?_)
  · obtain ⟨w60_3i, w60_2i, j60_5i, j60_4i, rfl, rfl, r75, r76⟩ := iv67
    obtain ⟨v78, rfl, rfl⟩ := tg
    obtain ⟨x82, h83, F⟩ := Fin.of F
    refine s_asg C (VS.slot tb_wholes_of fn 5 5) S65 ((ev_dix C dkI (ev_v (VS.var tb_wholes_of 0 0) rfl (Rel.mono _ S65.h0.ex r1_)) (ev_v (VS.var tb_wholes_of 4 4) rfl rfl) h83)).toE (fun v88 B84 H85 S86 e87 r89 => ?_)
    refine s_if S86 ((ew_or' (c_neI.et (ev_lenT (VS.gl tb_wholes_of 9) T.len ((ee_v (VS.var tb_wholes_of 5 5) rfl r89)).toB) ev_i) fun _ => (ew_or1 (et_in (ev_v (VS.var tb_wholes_of 4 4) rfl rfl) (ev_v (VS.var tb_wholes_of 1 1) rfl (Rel.mono _ S86.h0.ex r2_)))))).t (fun z90 B91 H92 S93 e94 => ?_) (fun z90 B95 H96 S97 e98 => ?_)
    · replace F := Fin.tt F z90
      exact s_cont ⟨(a61.1, a61.2), _, _, F, S93, (e87.trans e94), ⟨w60_3i, w60_2i, _, _, rfl, rfl, (pimp r75 fun _ _ z => Rel.mono _ (e87.trans e94) z), (r76.up (e87.trans e94))⟩⟩
    · replace F := Fin.ff F z90
      refine WSs.nil ?_
      refine s_if S97 (et_din C dkT ((ee_v (VS.var tb_wholes_of 5 5) rfl (Rel.mono _ e98 r89))).toB (ev_ownDT (VS.var tb_wholes_of 2 2) rfl (List.mem_of_getElem? (i := 1) rfl) (r76.up (e87.trans e98)))) (fun z99 B100 H101 S102 e103 => ?_) (fun z99 B113 H114 S115 e116 => ?_)
      · replace F := Fin.tt F z99
        obtain ⟨x104, h105, F⟩ := Fin.of F
        obtain ⟨h106, F⟩ := Fin.need F
        refine s_append S102 (VS.var tb_wholes_of 3 3) rfl (k := 0) rfl (pimp r75 fun _ _ z => Rel.mono _ ((e87.trans e98).trans e103) z) (ee_pr ((ev_dix C dkT (ev_ownDT (VS.var tb_wholes_of 2 2) rfl (List.mem_of_getElem? (i := 1) rfl) (r76.up ((e87.trans e98).trans e103))) ((ee_v (VS.var tb_wholes_of 5 5) rfl (Rel.mono _ (e98.trans e103) r89))).toB h105)).toE ((ev_v (VS.var tb_wholes_of 4 4) rfl rfl)).toE) h106 (fun v107 B108 H109 S110 e111 r112 => ?_)
        refine WSs.nil ?_
        exact WSs.nil ⟨((a61.1 ++ [(x104, x62)]), a61.2), _, _, F, S110, (((e87.trans e98).trans e103).trans e111), ⟨(w60_3i ++ [v107]), w60_2i, _, _, rfl, rfl, r112, (r76.up (((e87.trans e98).trans e103).trans e111))⟩⟩
      · replace F := Fin.ff F z99
        obtain ⟨h117, F⟩ := Fin.need F
        refine s_dputT C S115 (VS.var tb_wholes_of 2 2) rfl (k := 1) rfl (r76.up ((e87.trans e98).trans e116)) ((ev_v (VS.var tb_wholes_of 4 4) rfl rfl)).toE ((ee_v (VS.var tb_wholes_of 5 5) rfl (Rel.mono _ (e98.trans e116) r89))).toB h117 (fun u118 B119 H120 S121 e122 r123 => ?_)
        refine WSs.nil ?_
        exact WSs.nil ⟨(a61.1, (dput a61.2 x82 x62)), _, _, F, S121, (((e87.trans e98).trans e116).trans e122), ⟨w60_3i, u118, _, _, rfl, rfl, (pimp r75 fun _ _ z => Rel.mono _ (((e87.trans e98).trans e116).trans e122) z), r123⟩⟩
  · obtain ⟨w60_3, w60_2, j60_5, j60_4, rfl, rfl, r80, r81⟩ := iv73
    refine s_if S71 ((c_neD (R := (rLst (rPr rInt rInt))) C.hu64).et (ev_own (VS.var tb_wholes_of 3 3) rfl (List.mem_of_getElem? (i := 0) rfl) r80) ((el_nil (R := (rPr rInt rInt)))).toB) (fun z124 B125 H126 S127 e128 => ?_) (fun z124 B129 H130 S131 e132 => ?_)
    · replace F := Fin.tt F z124
      exact F.elim
    · replace F := Fin.ff F z124
      refine WSs.nil ?_
      obtain ⟨Bk136, S133, e134, r135⟩ := rdt_keep (R := rInt) S131 (k := 1) rfl (r81.up e132)
      exact s_retE S133 (ee_v (VS.var tb_wholes_of 2 2) rfl r135) F
/-! is_ready -/
abbrev st_is_ready : Stmt := topS 15
abbrev N_is_ready : List Str := ["parts", "sizes", "sign", "part"]
theorem tb_is_ready : nmOk (defScope st_is_ready) [("parts", .cell), ("sizes", .cell), ("sign", .local), ("all", .globalImplicit)] = true := by decide +kernel
theorem sc_is_ready : FnScope N_is_ready ["parts", "sizes", "sign"] (defScope st_is_ready) := ⟨rfl, rfl, rfl, by decide +kernel, rfl, by decide +kernel, by decide +kernel⟩
abbrev csc_is_ready_c1 : Scope := { kind := .function, names := [(".0", .local), ("part", .local), ("parts", .free), ("sizes", .free)], isGenerator := false, isCoroutine := false, more := [] }
theorem tb_is_ready_c1 : nmOk (relS csc_is_ready_c1 (defScope st_is_ready)) [("part", .local), ("parts", .cell), ("sizes", .cell)] = true := by decide +kernel
theorem bk_is_ready_c1 : blkC N_is_ready (defScope st_is_ready) csc_is_ready_c1 [("part", 3)] = true := by decide +kernel
def m_is_ready (parts : (List (Int × (List Int)))) (sizes : (List (Int × Int))) (sign_ : Int) : Res Bool := (Res.of (dget parts sign_)).bind fun x1 => Res.ok (((x1.map fun i3 => ((!(dget parts i3).isSome) || (dget sizes i3).isSome))).all id)
abbrev args_is_ready (CT : Addr) : (List (Int × (List Int))) × (List (Int × Int)) × Int → AR := fun d => (aC (rDI (rTup rInt)) d.1 (aC (rDI rInt) d.2.1 (aC rInt d.2.2 aN)))
abbrev sp_is_ready (CT : Addr) : Sp := SpA (args_is_ready CT) (kE rBool) (fun d => m_is_ready d.1 d.2.1 d.2.2)
theorem body_is_ready {X : Cx} {CT : Addr} (C : Cok X 0) (VS : Scp X N_is_ready (defScope st_is_ready)) (fn : ∀ x, X.fn x = true) (T : Blt X.mg) (TT : TabTxt X.K CT)  : ∀ (B H : Hp) (vs : List V) (d : (List (Int × (List Int))) × (List (Int × Int)) × Int) (Q : VK), Sx B H → Tx H B → (args_is_ready CT d).r vs B H → Fin ((kE rBool) ⟨B, H⟩ Q) NoErr (m_is_ready d.1 d.2.1 d.2.2) →
    WSs X (defBody st_is_ready) { nx := fun _ H' => Q .non H', rt := Q } (start N_is_ready vs) H := by
  rintro B H vs ⟨parts, sizes, sign_⟩ Q hb ht ⟨v1, _, rfl, r1_, ⟨v2, _, rfl, r2_, ⟨_, _, rfl, rfl, rfl⟩⟩⟩ F
  have S0 := Stt.enter hb ht
  obtain ⟨x1, h2, F⟩ := Fin.of F
  exact s_retE S0 ((ev_all C.calm (VS.gl tb_is_ready 3) T.all ((el_lc (S := rBool) C (VS.blk bk_is_ready_c1) (ei_T ((ev_dix C dkI (ev_v (VS.var tb_is_ready 0 0) rfl (Rel.mono _ S0.h0.ex r1_)) (ev_v (VS.var tb_is_ready 2 2) rfl rfl) h2)).toE) (fun _ _ => trivial) (fun Xb hX => tg_name (R := rInt) (hX.cok C) (hX.slot VS tb_is_ready_c1 3 0)) (mfM_map (fun i3 : Int => ((!(dget parts i3).isSome) || (dget sizes i3).isSome)) _)
                                                            (fun Xb i3 σ2 acc Dd Bc1 Hc1 b hX1 S1001 ec1 tg hb => by
                                                                obtain ⟨v1001, rfl, rfl⟩ := tg
                                                                have T1 : Blt Xb.mg := by rw [hX1.mg]; exact T
                                                                have TT1 : TabTxt Xb.K CT := by rw [hX1.K]; exact TT
                                                                have hb := Res.ok_inj hb
                                                                subst hb
                                                                exact ets_nil
                                                            )
                                                            (fun Xb i3 y σ2 acc Dd Bc1 Hc1 hX1 S1001 ec1 tg hb hf => by
                                                                obtain ⟨v1001, rfl, rfl⟩ := tg
                                                                have T1 : Blt Xb.mg := by rw [hX1.mg]; exact T
                                                                have TT1 : TabTxt Xb.K CT := by rw [hX1.K]; exact TT
                                                                have hf := Res.ok_inj hf
                                                                subst hf
                                                                exact ((ev_or' (ev_dnin (hX1.cok C) dkI (ev_v ((hX1.scp VS).var tb_is_ready_c1 3 0) rfl rfl) (ev_v ((hX1.scp VS).var tb_is_ready_c1 0 1) rfl (Rel.mono _ S1001.h0.ex r1_))) fun _ => (ev_one (ev_din (hX1.cok C) dkI (ev_v ((hX1.scp VS).var tb_is_ready_c1 3 0) rfl rfl) (ev_v ((hX1.scp VS).var tb_is_ready_c1 1 2) rfl (Rel.mono _ S1001.h0.ex r2_)))))).toE
                                                            ) (fun x B3 σ2 h => by obtain ⟨v, _, rfl⟩ := h; rfl) (fun x B3 B4 σ2 ⟨v, r, q⟩ e => ⟨v, Rel.mono _ e r, q⟩))).toB)).toE F
/-! sizes_of -/
abbrev st_sizes_of : Stmt := topS 14
abbrev N_sizes_of : List Str := ["parts", "sizes", "ready", "sign", "part"]
theorem tb_sizes_of : nmOk (defScope st_sizes_of) [("parts", .cell), ("sizes", .cell), ("ready", .local), ("sign", .local), ("list", .globalImplicit), ("sum", .globalImplicit)] = true := by decide +kernel
theorem sc_sizes_of : FnScope N_sizes_of ["parts"] (defScope st_sizes_of) := ⟨rfl, rfl, rfl, by decide +kernel, rfl, by decide +kernel, by decide +kernel⟩
abbrev csc_sizes_of_c1 : Scope := { kind := .function, names := [(".0", .local), ("sign", .local), ("is_ready", .globalImplicit), ("parts", .free), ("sizes", .free)], isGenerator := false, isCoroutine := false, more := [] }
theorem tb_sizes_of_c1 : nmOk (relS csc_sizes_of_c1 (defScope st_sizes_of)) [("sign", .local), ("is_ready", .globalImplicit), ("parts", .cell), ("sizes", .cell)] = true := by decide +kernel
theorem bk_sizes_of_c1 : blkC N_sizes_of (defScope st_sizes_of) csc_sizes_of_c1 [("sign", 3)] = true := by decide +kernel
abbrev csc_sizes_of_c2 : Scope := { kind := .function, names := [(".0", .local), ("part", .local), ("sizes", .free)], isGenerator := false, isCoroutine := false, more := [] }
theorem tb_sizes_of_c2 : nmOk (relS csc_sizes_of_c2 (defScope st_sizes_of)) [("part", .local), ("sizes", .cell)] = true := by decide +kernel
theorem bk_sizes_of_c2 : blkC N_sizes_of (defScope st_sizes_of) csc_sizes_of_c2 [("part", 4)] = true := by decide +kernel
def m_sizes_of (parts : (List (Int × (List Int)))) : Res (List (Int × Int)) := (whileR (fun (a76 : ((List Int) × (List (Int × Int)))) => (if (!decide (a76.1 = ([] : List Int))) = true then (mfM (fun i99 : Int => (if (!(dget a76.2 i99).isSome) = true then (m_is_ready parts a76.2 i99).bind fun r100 => Res.ok r100 else Res.ok false).bind fun b102 => Res.ok b102) (fun i99 => Res.ok i99) (parts.map (·.1))).bind fun l105 => (forM (fun (a131 : (List (Int × Int))) (x132 : Int) => ((Res.of (dget parts x132)).bind fun x150 => Res.need (a131.length < sizeLine) (Res.ok (dput a131 x132 (((x150.map fun i152 => ((dget a131 i152).getD 1))).sum))) : Res (List (Int × Int)))) l105 a76.2).bind fun (a144 : (List (Int × Int))) => Res.ok (Sum.inr (l105, a144)) else Res.ok (Sum.inl (a76.1, a76.2)) : Res (((List Int) × (List (Int × Int))) ⊕ ((List Int) × (List (Int × Int)))))) 100000 ((parts.map (·.1)), ([] : (List (Int × Int))))).bind (fun (a76 : ((List Int) × (List (Int × Int)))) => Res.ok a76.2)
abbrev args_sizes_of (CT : Addr) : (List (Int × (List Int))) → AR := fun d => (aC (rDI (rTup rInt)) d aN)
abbrev sp_sizes_of (CT : Addr) : Sp := SpA (args_sizes_of CT) (kE (rDI rInt)) (fun d => m_sizes_of d)
theorem body_sizes_of {X : Cx} {CT : Addr} (C : Cok X 1) (VS : Scp X N_sizes_of (defScope st_sizes_of)) (fn : ∀ x, X.fn x = true) (T : Blt X.mg) (TT : TabTxt X.K CT) (G_is_ready : Cal X 1 "is_ready" ["parts", "sizes", "sign"] (sp_is_ready CT)) : ∀ (B H : Hp) (vs : List V) (d : (List (Int × (List Int)))) (Q : VK), Sx B H → Tx H B → (args_sizes_of CT d).r vs B H → Fin ((kE (rDI rInt)) ⟨B, H⟩ Q) NoErr (m_sizes_of d) →
    WSs X (defBody st_sizes_of) { nx := fun _ H' => Q .non H', rt := Q } (start N_sizes_of vs) H := by
  rintro B H vs parts Q hb ht ⟨v1, _, rfl, r1_, rfl⟩ F
  have S0 := Stt.enter hb ht
  refine s_asgDI C (VS.slot tb_sizes_of fn 1 1) S0 (ed_nI (R := rInt)) (fun p5 u6 B1 H2 S3 e4 r7 => ?_)
  refine s_asg C (VS.slot tb_sizes_of fn 2 2) S3 ((el_listD C.calm (VS.gl tb_sizes_of 4) T.list (ev_v (VS.var tb_sizes_of 0 0) rfl (Rel.mono _ S3.h0.ex r1_)))).toE (fun v12 B8 H9 S10 e11 r13 => ?_)
  refine s_while C S10 F (fun (a : ((List Int) × (List (Int × Int)))) σ' own' B' => ∃ (w75_2 : V), ∃ (w75_1 : List (Key × V)), ∃ (j75_3 : Option V), σ' = [some v1, some (.ref p5), some w75_2, j75_3, none] ∧ own' = [(p5, .dK w75_1)] ∧ (rLst rInt).r B' w75_2 a.1 ∧ pI rInt B' w75_1 a.2)
      ⟨_, u6, _, rfl, rfl, r13, (r7.up e11)⟩ (fun a76 _ _ B78 H79 Q83 iv82 S80 e81 F => ?_)
  obtain ⟨w75_2i, w75_1i, j75_3i, rfl, rfl, r90, r91⟩ := iv82
  refine ⟨(!decide (a76.1 = ([] : List Int))), ((c_neD (R := (rLst rInt)) C.hu64).et ((ee_v (VS.var tb_sizes_of 2 2) rfl r90)).toB ((el_nil (R := rInt))).toB), fun z164 B95 H96 S97 e98 => ?_, fun z164 B160 H161 S162 e163 => ?_⟩
  · replace F := Fin.tt F z164
    obtain ⟨l105, h106, F⟩ := Fin.get F
    refine s_asgLcD (S := rInt) C (i := 2) (n := "ready") (by rw [VS.n]; rfl) (VS.lk tb_sizes_of 2) (sw_loc VS sc_sizes_of.kind (VS.lk tb_sizes_of 2)) S97 (VS.blk bk_sizes_of_c1) (ek_v (VS.var tb_sizes_of 0 0) rfl (Rel.mono _ S97.h0.ex r1_)) (fun Xb Eb hX => tg_name (R := rInt) (hX.cok C) (hX.slot VS tb_sizes_of_c1 3 0)) h106
                                                            (fun Eb1 Xb i99 σ2 acc Dd Bc1 Hc1 b eb1 eh1 hX1 S1001 ec1 tg hb => by
                                                                obtain ⟨v1001, rfl, rfl⟩ := tg
                                                                have T1 : Blt Xb.mg := by rw [hX1.mg]; exact T
                                                                have TT1 : TabTxt Xb.K CT := by rw [hX1.K]; exact TT
                                                                obtain ⟨b102, h103, hb⟩ := Res.bind_ok hb
                                                                have hb := Res.ok_inj hb
                                                                subst hb
                                                                exact ets_one ((ew_and (et_dnin (hX1.cok C) dkI (ev_v ((hX1.scp VS).var tb_sizes_of_c1 3 0) rfl rfl) (ev_v ((hX1.scp VS).var tb_sizes_of_c1 1 3) rfl (Rel.mono _ S1001.h0.ex (own_p0I S97 (k := 0) rfl (r91.up e98) eh1)))) (fun hz => by
                                                                have q104 := Res.tt_ok h103 hz
                                                                obtain ⟨r100, h101, q104⟩ := Res.bind_ok q104
                                                                have q104 := Res.ok_inj q104
                                                                rw [← q104]
                                                                exact (ew_and1 (et_val ((ee_call (hX1.cok C) (hX1.cal G_is_ready) (by decide) ((hX1.scp VS).gl tb_sizes_of_c1 1) (d := (parts, a76.2, i99)) (as_cons (ev_v ((hX1.scp VS).var tb_sizes_of_c1 0 2) rfl (Rel.mono _ S1001.h0.ex (Rel.mono _ (S97.h0.ex.trans eh1) r1_))) (as_cons (ev_v ((hX1.scp VS).var tb_sizes_of_c1 1 3) rfl (Rel.mono _ S1001.h0.ex (own_p0I S97 (k := 0) rfl (r91.up e98) eh1))) (as_cons (ev_v ((hX1.scp VS).var tb_sizes_of_c1 3 0) rfl rfl) as_nil))) h101)).toB))
                                                            ) (fun hz => (Res.ok_inj (Res.ff_ok h103 hz)).symm))).t
                                                            )
                                                            (fun Eb1 Xb i99 y σ2 acc Dd Bc1 Hc1 eb1 eh1 hX1 S1001 ec1 tg hb hf => by
                                                                obtain ⟨v1001, rfl, rfl⟩ := tg
                                                                have T1 : Blt Xb.mg := by rw [hX1.mg]; exact T
                                                                have TT1 : TabTxt Xb.K CT := by rw [hX1.K]; exact TT
                                                                have hf := Res.ok_inj hf
                                                                subst hf
                                                                exact ((ev_v ((hX1.scp VS).var tb_sizes_of_c1 3 0) rfl rfl)).toE
                                                            ) (fun x B3 σ2 h => by obtain ⟨v, _, rfl⟩ := h; rfl) (fun x B3 B4 σ2 ⟨v, r, q⟩ e => ⟨v, Rel.mono _ e r, q⟩) (fun p107 u108 B109 H110 S111 e112 r113 => ?_)
    obtain ⟨Bk114, S115, e116, r117⟩ := rl_keep (R := rInt) S111 (k := 0) rfl r113
    refine s_forM C (tg_name (R := rInt) C (VS.slot tb_sizes_of fn 3 3)) S115 (ei_E (ee_v (VS.var tb_sizes_of 2 2) rfl r117)) F (fun (a : (List (Int × Int))) σ' own' B' => ∃ (w130_1 : List (Key × V)), ∃ (j130_3 : Option V), σ' = [some v1, some (.ref p5), some (.ref p107), j130_3, none] ∧ own' = [(p5, .dK w130_1)] ∧ pI rInt B' w130_1 a)
        (fun Bz e => ⟨w75_1i, _, rfl, rfl, (r91.up (((e98.trans e112).trans e116).trans e))⟩) (fun _ _ _ _ _ => trivial) (fun _ _ _ _ _ h e => by obtain ⟨w0, w1, h1, h2, f0⟩ := h; exact ⟨w0, w1, h1, h2, f0.up e⟩) (fun a131 x132 _ _ _ B133 H134 Q138 iv137 S135 e136 tg F => ?_) (fun a144 _ _ B139 H140 iv143 S141 e142 F => ?_)
    · obtain ⟨w130_1i, j130_3i, rfl, rfl, r145⟩ := iv137
      obtain ⟨v147, rfl, rfl⟩ := tg
      obtain ⟨x150, h151, F⟩ := Fin.of F
      obtain ⟨h153, F⟩ := Fin.need F
      refine s_dputI C S135 (VS.var tb_sizes_of 1 1) rfl (k := 0) rfl r145 ((ev_sum C.calm (VS.gl tb_sizes_of 5) T.sum ((el_lc (S := rInt) C (VS.blk bk_sizes_of_c2) (ei_T ((ev_dix C dkI (ev_v (VS.var tb_sizes_of 0 0) rfl (Rel.mono _ S135.h0.ex r1_)) (ev_v (VS.var tb_sizes_of 3 3) rfl rfl) h151)).toE) (fun _ _ => trivial) (fun Xb hX => tg_name (R := rInt) (hX.cok C) (hX.slot VS tb_sizes_of_c2 4 0)) (mfM_map (fun i152 : Int => ((dget a131 i152).getD 1)) _)
                                                            (fun Xb i152 σ2 acc Dd Bc2 Hc2 b hX2 S1002 ec2 tg hb => by
                                                                obtain ⟨v1002, rfl, rfl⟩ := tg
                                                                have T2 : Blt Xb.mg := by rw [hX2.mg]; exact T
                                                                have TT2 : TabTxt Xb.K CT := by rw [hX2.K]; exact TT
                                                                have hb := Res.ok_inj hb
                                                                subst hb
                                                                exact ets_nil
                                                            )
                                                            (fun Xb i152 y σ2 acc Dd Bc2 Hc2 hX2 S1002 ec2 tg hb hf => by
                                                                obtain ⟨v1002, rfl, rfl⟩ := tg
                                                                have T2 : Blt Xb.mg := by rw [hX2.mg]; exact T
                                                                have TT2 : TabTxt Xb.K CT := by rw [hX2.K]; exact TT
                                                                have hf := Res.ok_inj hf
                                                                subst hf
                                                                exact ((ev_dget2 (hX2.cok C) dkI (ev_ownDI ((hX2.scp VS).var tb_sizes_of_c2 1 1) rfl (List.mem_of_getElem? (i := 1) rfl) (r145.up ec2)) (ev_v ((hX2.scp VS).var tb_sizes_of_c2 4 0) rfl rfl) ev_i)).toE
                                                            ) (fun x B3 σ2 h => by obtain ⟨v, _, rfl⟩ := h; rfl) (fun x B3 B4 σ2 ⟨v, r, q⟩ e => ⟨v, Rel.mono _ e r, q⟩))).toB)).toE (ev_v (VS.var tb_sizes_of 3 3) rfl rfl) h153 (fun u154 B155 H156 S157 e158 r159 => ?_)
      exact WSs.nil ⟨(dput a131 x132 (((x150.map fun i152 => ((dget a131 i152).getD 1))).sum)), _, _, F, S157, e158, ⟨u154, _, rfl, rfl, r159⟩⟩
    · obtain ⟨w130_1, j130_3, rfl, rfl, r149⟩ := iv143
      exact WSs.nil ⟨(l105, a144), _, _, F, S141, (((e98.trans e112).trans e116).trans e142), ⟨_, w130_1, _, rfl, rfl, (Rel.mono _ e142 r117), r149⟩⟩
  · replace F := Fin.ff F z164
    replace F := Fin.inl F
    obtain ⟨Bk168, S165, e166, r167⟩ := rdi_keep (R := rInt) S162 (k := 0) rfl (r91.up e163)
    exact s_retE S165 (ee_v (VS.var tb_sizes_of 1 1) rfl r167) F
/-! look_for_rings -/
abbrev st_look_for_rings : Stmt := topS 16
abbrev N_look_for_rings : List Str := ["parts", "sizes", "left", "way", "onward", "sign", "part"]
theorem tb_look_for_rings : nmOk (defScope st_look_for_rings) [("parts", .local), ("sizes", .cell), ("left", .cell), ("way", .local), ("onward", .local), ("sorted", .globalImplicit), ("Ring", .globalImplicit)] = true := by decide +kernel
theorem sc_look_for_rings : FnScope N_look_for_rings ["parts", "sizes"] (defScope st_look_for_rings) := ⟨rfl, rfl, rfl, by decide +kernel, rfl, by decide +kernel, by decide +kernel⟩
abbrev csc_look_for_rings_c1 : Scope := { kind := .function, names := [(".0", .local), ("sign", .local), ("sizes", .free)], isGenerator := false, isCoroutine := false, more := [] }
theorem tb_look_for_rings_c1 : nmOk (relS csc_look_for_rings_c1 (defScope st_look_for_rings)) [("sign", .local), ("sizes", .cell)] = true := by decide +kernel
theorem bk_look_for_rings_c1 : blkC N_look_for_rings (defScope st_look_for_rings) csc_look_for_rings_c1 [("sign", 5)] = true := by decide +kernel
def m_look_for_rings (parts : (List (Int × (List Int)))) (sizes : (List (Int × Int))) : Res Unit := Res.need ((parts).length < 64) (if (decide ((((sortI (parts.map (·.1))).filter fun i2 => (!(dget sizes i2).isSome)).map fun i2 => i2) = ([] : List Int))) = true then Res.ok () else Res.stuck)
abbrev args_look_for_rings (CT : Addr) : (List (Int × (List Int))) × (List (Int × Int)) → AR := fun d => (aC (rDI (rTup rInt)) d.1 (aC (rDI rInt) d.2 aN))
abbrev sp_look_for_rings (CT : Addr) : Sp := SpA (args_look_for_rings CT) (kE rNon) (fun d => m_look_for_rings d.1 d.2)
theorem body_look_for_rings {X : Cx} {CT : Addr} (C : Cok X 0) (VS : Scp X N_look_for_rings (defScope st_look_for_rings)) (fn : ∀ x, X.fn x = true) (T : Blt X.mg) (TT : TabTxt X.K CT)  : ∀ (B H : Hp) (vs : List V) (d : (List (Int × (List Int))) × (List (Int × Int))) (Q : VK), Sx B H → Tx H B → (args_look_for_rings CT d).r vs B H → Fin ((kE rNon) ⟨B, H⟩ Q) NoErr (m_look_for_rings d.1 d.2) →
    WSs X (defBody st_look_for_rings) { nx := fun _ H' => Q .non H', rt := Q } (start N_look_for_rings vs) H := by
  rintro B H vs ⟨parts, sizes⟩ Q hb ht ⟨v1, _, rfl, r1_, ⟨v2, _, rfl, r2_, rfl⟩⟩ F
  have S0 := Stt.enter hb ht
  obtain ⟨h1, F⟩ := Fin.need F
  refine s_asg C (VS.slot tb_look_for_rings fn 2 2) S0 ((el_lc (S := rInt) C (VS.blk bk_look_for_rings_c1) (ei_E ((el_sortD C.calm (VS.gl tb_look_for_rings 5) T.sorted (ev_v (VS.var tb_look_for_rings 0 0) rfl (Rel.mono _ S0.h0.ex r1_)) h1)).toE) (fun _ _ => trivial) (fun Xb hX => tg_name (R := rInt) (hX.cok C) (hX.slot VS tb_look_for_rings_c1 5 0)) (mfM_fm (fun i2 : Int => (!(dget sizes i2).isSome)) (fun i2 : Int => i2) _)
                                                            (fun Xb i2 σ2 acc Dd Bc1 Hc1 b hX1 S1001 ec1 tg hb => by
                                                                obtain ⟨v1001, rfl, rfl⟩ := tg
                                                                have T1 : Blt Xb.mg := by rw [hX1.mg]; exact T
                                                                have TT1 : TabTxt Xb.K CT := by rw [hX1.K]; exact TT
                                                                have hb := Res.ok_inj hb
                                                                subst hb
                                                                exact ets_one (et_dnin (hX1.cok C) dkI (ev_v ((hX1.scp VS).var tb_look_for_rings_c1 5 0) rfl rfl) (ev_v ((hX1.scp VS).var tb_look_for_rings_c1 1 1) rfl (Rel.mono _ S1001.h0.ex r2_)))
                                                            )
                                                            (fun Xb i2 y σ2 acc Dd Bc1 Hc1 hX1 S1001 ec1 tg hb hf => by
                                                                obtain ⟨v1001, rfl, rfl⟩ := tg
                                                                have T1 : Blt Xb.mg := by rw [hX1.mg]; exact T
                                                                have TT1 : TabTxt Xb.K CT := by rw [hX1.K]; exact TT
                                                                have hf := Res.ok_inj hf
                                                                subst hf
                                                                exact ((ev_v ((hX1.scp VS).var tb_look_for_rings_c1 5 0) rfl rfl)).toE
                                                            ) (fun x B3 σ2 h => by obtain ⟨v, _, rfl⟩ := h; rfl) (fun x B3 B4 σ2 ⟨v, r, q⟩ e => ⟨v, Rel.mono _ e r, q⟩))).toE (fun v7 B3 H4 S5 e6 r8 => ?_) (sw_cell (VS.lk tb_look_for_rings 2))
  refine s_if S5 ((c_eqD (R := (rLst rInt)) C.hu64).et ((ee_v (VS.var tb_look_for_rings 2 2) rfl r8)).toB ((el_nil (R := rInt))).toB) (fun z9 B10 H11 S12 e13 => ?_) (fun z9 B14 H15 S16 e17 => ?_)
  · replace F := Fin.tt F z9
    exact s_retN S12 F
  · replace F := Fin.ff F z9
    refine WSs.nil ?_
    exact F.elim
/-! look_at_sizes -/
abbrev st_look_at_sizes : Stmt := topS 17
abbrev N_look_at_sizes : List Str := ["sizes", "sign"]
theorem tb_look_at_sizes : nmOk (defScope st_look_at_sizes) [("sizes", .local), ("sign", .local), ("sorted", .globalImplicit), ("MOST_FULL", .globalImplicit), ("TooLong", .globalImplicit)] = true := by decide +kernel
theorem sc_look_at_sizes : FnScope N_look_at_sizes ["sizes"] (defScope st_look_at_sizes) := ⟨rfl, rfl, rfl, by decide +kernel, rfl, by decide +kernel, by decide +kernel⟩
def m_look_at_sizes (sizes : (List (Int × Int))) : Res Unit := Res.need ((sizes).length < 64) ((forM (fun (a16 : Unit) (x17 : Int) => ((Res.of (dget sizes x17)).bind fun x33 => if (decide (16 < x33)) = true then Res.stuck else Res.ok () : Res Unit)) (sortI (sizes.map (·.1))) ()).bind fun (a29 : Unit) => Res.ok ())
abbrev args_look_at_sizes (CT : Addr) : (List (Int × Int)) → AR := fun d => (aC (rDI rInt) d aN)
abbrev sp_look_at_sizes (CT : Addr) : Sp := SpA (args_look_at_sizes CT) (kE rNon) (fun d => m_look_at_sizes d)
theorem body_look_at_sizes {X : Cx} {CT : Addr} (C : Cok X 0) (VS : Scp X N_look_at_sizes (defScope st_look_at_sizes)) (fn : ∀ x, X.fn x = true) (T : Blt X.mg) (TT : TabTxt X.K CT) (V_MOST_FULL : ∃ t, X.mg "MOST_FULL" = some (.int 16 t)) : ∀ (B H : Hp) (vs : List V) (d : (List (Int × Int))) (Q : VK), Sx B H → Tx H B → (args_look_at_sizes CT d).r vs B H → Fin ((kE rNon) ⟨B, H⟩ Q) NoErr (m_look_at_sizes d) →
    WSs X (defBody st_look_at_sizes) { nx := fun _ H' => Q .non H', rt := Q } (start N_look_at_sizes vs) H := by
  rintro B H vs sizes Q hb ht ⟨v1, _, rfl, r1_, rfl⟩ F
  have S0 := Stt.enter hb ht
  obtain ⟨h1, F⟩ := Fin.need F
  refine s_forM C (tg_name (R := rInt) C (VS.slot tb_look_at_sizes fn 1 1)) S0 (ei_E ((el_sortD C.calm (VS.gl tb_look_at_sizes 2) T.sorted (ev_v (VS.var tb_look_at_sizes 0 0) rfl (Rel.mono _ S0.h0.ex r1_)) h1)).toE) F (fun (a : Unit) σ' own' B' => ∃ (j15_1 : Option V), σ' = [some v1, j15_1] ∧ own' = [])
      (fun Bz e => ⟨_, rfl, rfl⟩) (fun _ _ _ _ _ => trivial) (fun _ _ _ _ _ h e => by obtain ⟨w0, h1, h2⟩ := h; exact ⟨w0, h1, h2⟩) (fun a16 x17 _ _ _ B18 H19 Q23 iv22 S20 e21 tg F => ?_) (fun a29 _ _ B24 H25 iv28 S26 e27 F => ?_)
  · obtain ⟨j15_1i, rfl, rfl⟩ := iv22
    obtain ⟨v31, rfl, rfl⟩ := tg
    obtain ⟨x33, h34, F⟩ := Fin.of F
    refine s_if S20 (c_gt.et (ev_dix C dkI (ev_v (VS.var tb_look_at_sizes 0 0) rfl (Rel.mono _ S20.h0.ex r1_)) (ev_v (VS.var tb_look_at_sizes 1 1) rfl rfl) h34) (ev_globI V_MOST_FULL (VS.gl tb_look_at_sizes 3))) (fun z35 B36 H37 S38 e39 => ?_) (fun z35 B40 H41 S42 e43 => ?_)
    · replace F := Fin.tt F z35
      exact F.elim
    · replace F := Fin.ff F z35
      refine WSs.nil ?_
      exact WSs.nil ⟨(), _, _, F, S42, e43, ⟨_, rfl, rfl⟩⟩
  · obtain ⟨j15_1, rfl, rfl⟩ := iv28
    exact WSs.nil (F _ _ _ S26.none rfl)
/-! Table___init__ -/
abbrev st_Table___init__ : Stmt := inClass (topS 18) 0
abbrev N_Table___init__ : List Str := ["self", "marks", "rows", "shuts", "sizes"]
theorem tb_Table___init__ : nmOk (defScope st_Table___init__) [("self", .local), ("marks", .local), ("rows", .local), ("shuts", .local), ("sizes", .local), ("look_for_twice", .globalImplicit), ("dict", .globalImplicit), ("sorted", .globalImplicit), ("look_at_shuts", .globalImplicit), ("wholes_of", .globalImplicit), ("sizes_of", .globalImplicit), ("look_for_rings", .globalImplicit), ("look_at_sizes", .globalImplicit)] = true := by decide +kernel
theorem sc_Table___init__ : FnScope N_Table___init__ ["self", "marks", "rows", "shuts"] (defScope st_Table___init__) := ⟨rfl, rfl, rfl, by decide +kernel, rfl, by decide +kernel, by decide +kernel⟩
def m_Table___init__ (marks : (List (Int × Int))) (rows : (List (Int × (List Int)))) (shuts : (List Int)) : Res Tab := (m_look_for_twice marks rows shuts).bind fun r1 => (m_look_at_shuts (dmerge rows) (sortI shuts)).bind fun r25 => (m_wholes_of (dmerge rows) (sortI shuts)).bind fun r31 => (m_sizes_of (dmerge rows)).bind fun r39 => (m_look_for_rings (dmerge rows) r39).bind fun r47 => (m_look_at_sizes r39).bind fun r53 => Res.ok (⟨(dmerge marks), (dmerge rows), (sortI shuts), r31⟩ : Tab)
abbrev args_Table___init__ (CT : Addr) : (List (Int × Int)) × (List (Int × (List Int))) × (List Int) → AR := fun d => (aC (rLst (rPr rInt rInt)) d.1 (aC (rLst (rPr rInt (rTup rInt))) d.2.1 (aC (rLst rInt) d.2.2 aN)))
abbrev sp_Table___init__ (CT : Addr) : Sp := SpInit CT (args_Table___init__ CT) (fun d => m_Table___init__ d.1 d.2.1 d.2.2)
theorem body_Table___init__ {X : Cx} {CT : Addr} (C : Cok X 2) (VS : Scp X N_Table___init__ (defScope st_Table___init__)) (fn : ∀ x, X.fn x = true) (T : Blt X.mg) (TT : TabTxt X.K CT) (G_look_for_twice : Cal X 2 "look_for_twice" ["marks", "rows", "shuts"] (sp_look_for_twice CT)) (G_look_at_shuts : Cal X 1 "look_at_shuts" ["parts", "shuts"] (sp_look_at_shuts CT)) (G_wholes_of : Cal X 1 "wholes_of" ["parts", "closed"] (sp_wholes_of CT)) (G_sizes_of : Cal X 2 "sizes_of" ["parts"] (sp_sizes_of CT)) (G_look_for_rings : Cal X 1 "look_for_rings" ["parts", "sizes"] (sp_look_for_rings CT)) (G_look_at_sizes : Cal X 1 "look_at_sizes" ["sizes"] (sp_look_at_sizes CT)) : ∀ (B H0 : Hp) (a0 dx : Addr) (us : List V) (d : (List (Int × Int)) × (List (Int × (List Int))) × (List Int)) (Q : VK), H0 a0 = none → Sx B H0 → Tx H0 B → (args_Table___init__ CT d).r us B H0 → Fin (kTab CT a0 dx ⟨B, H0⟩ Q) NoErr (m_Table___init__ d.1 d.2.1 d.2.2) →
    WSs X (defBody st_Table___init__) { nx := fun _ H' => Q .non H', rt := Q } (start N_Table___init__ (.ref a0 :: us)) (upd H0 a0 (.ins CT dx [])) := by
  rintro B H0 a0 dx us ⟨marks, rows, shuts⟩ Q h0 hb ht ⟨v2, _, rfl, r2_, ⟨v3, _, rfl, r3_, ⟨v4, _, rfl, r4_, rfl⟩⟩⟩ F
  have S0 := (Stt.enter hb ht).alloc (o := .ins CT dx []) h0 (fun ys z => by cases z)
  obtain ⟨r1, h2, F⟩ := Fin.get F
  refine s_drop S0 ((ee_call C G_look_for_twice (by decide) (VS.gl tb_Table___init__ 5) (d := (marks, rows, shuts)) (as_cons (ev_v (VS.var tb_Table___init__ 1 1) rfl (Rel.mono _ S0.h0.ex r2_)) (as_cons (ev_v (VS.var tb_Table___init__ 2 2) rfl (Rel.mono _ S0.h0.ex r3_)) (as_cons (ev_v (VS.var tb_Table___init__ 3 3) rfl (Rel.mono _ S0.h0.ex r4_)) as_nil))) h2)).toB (fun B3 H4 S5 e6 => ?_)
  refine s_fset (k := 0) S5 (VS.var tb_Table___init__ 0 0) rfl rfl TT.cls TT.n_ranks ((ed_dict C.calm (VS.gl tb_Table___init__ 6) T.dict (ev_v (VS.var tb_Table___init__ 1 1) rfl (Rel.mono _ S5.h0.ex r2_)))).toE (Nat.le_of_ble_eq_true rfl) rfl (fun d7 B8 H9 S10 e11 r12 => ?_)
  refine s_fset (k := 0) S10 (VS.var tb_Table___init__ 0 0) rfl rfl TT.cls TT.n_parts ((ed_dict C.calm (VS.gl tb_Table___init__ 6) T.dict (ev_v (VS.var tb_Table___init__ 2 2) rfl (Rel.mono _ S10.h0.ex r3_)))).toE (Nat.le_of_ble_eq_true rfl) rfl (fun d13 B14 H15 S16 e17 r18 => ?_)
  refine s_fset (k := 0) S16 (VS.var tb_Table___init__ 0 0) rfl rfl TT.cls TT.n_closed ((el_sortI (VS.gl tb_Table___init__ 7) T.sorted (ev_v (VS.var tb_Table___init__ 3 3) rfl (Rel.mono _ S16.h0.ex r4_)))).toE (Nat.le_of_ble_eq_true rfl) rfl (fun d19 B20 H21 S22 e23 r24 => ?_)
  obtain ⟨r25, h26, F⟩ := Fin.get F
  refine s_drop S22 ((ee_call C G_look_at_shuts (by decide) (VS.gl tb_Table___init__ 8) (d := ((dmerge rows), (sortI shuts))) (as_cons ((ee_ofld (VS.var tb_Table___init__ 0 0) rfl (k := 0) rfl TT.cls TT.n_parts rfl (Rel.mono _ e23 r18))).toB (as_cons ((ee_ofld (VS.var tb_Table___init__ 0 0) rfl (k := 0) rfl TT.cls TT.n_closed rfl r24)).toB as_nil)) h26)).toB (fun B27 H28 S29 e30 => ?_)
  obtain ⟨r31, h32, F⟩ := Fin.get F
  refine s_fset (k := 0) S29 (VS.var tb_Table___init__ 0 0) rfl rfl TT.cls TT.n_wholes (ee_call C G_wholes_of (by decide) (VS.gl tb_Table___init__ 9) (d := ((dmerge rows), (sortI shuts))) (as_cons ((ee_ofld (VS.var tb_Table___init__ 0 0) rfl (k := 0) rfl TT.cls TT.n_parts rfl (Rel.mono _ (e23.trans e30) r18))).toB (as_cons ((ee_ofld (VS.var tb_Table___init__ 0 0) rfl (k := 0) rfl TT.cls TT.n_closed rfl (Rel.mono _ e30 r24))).toB as_nil)) h32) (Nat.le_of_ble_eq_true rfl) rfl (fun d33 B34 H35 S36 e37 r38 => ?_)
  obtain ⟨r39, h40, F⟩ := Fin.get F
  refine s_asg C (VS.slot tb_Table___init__ fn 4 4) S36 (ee_call C G_sizes_of (by decide) (VS.gl tb_Table___init__ 10) (d := ((dmerge rows))) (as_cons ((ee_ofld (VS.var tb_Table___init__ 0 0) rfl (k := 0) rfl TT.cls TT.n_parts rfl (Rel.mono _ ((e23.trans e30).trans e37) r18))).toB as_nil) h40) (fun v45 B41 H42 S43 e44 r46 => ?_)
  obtain ⟨r47, h48, F⟩ := Fin.get F
  refine s_drop S43 ((ee_call C G_look_for_rings (by decide) (VS.gl tb_Table___init__ 11) (d := ((dmerge rows), r39)) (as_cons ((ee_ofld (VS.var tb_Table___init__ 0 0) rfl (k := 0) rfl TT.cls TT.n_parts rfl (Rel.mono _ (((e23.trans e30).trans e37).trans e44) r18))).toB (as_cons ((ee_v (VS.var tb_Table___init__ 4 4) rfl r46)).toB as_nil)) h48)).toB (fun B49 H50 S51 e52 => ?_)
  obtain ⟨r53, h54, F⟩ := Fin.get F
  refine s_drop S51 ((ee_call C G_look_at_sizes (by decide) (VS.gl tb_Table___init__ 12) (d := (r39)) (as_cons ((ee_v (VS.var tb_Table___init__ 4 4) rfl (Rel.mono _ e52 r46))).toB as_nil) h54)).toB (fun B55 H56 S57 e58 => ?_)
  exact WSs.nil (F _ _ _ _ _ _ S57 (Rel.mono _ ((((((e17.trans e23).trans e30).trans e37).trans e44).trans e52).trans e58) r12) (Rel.mono _ (((((e23.trans e30).trans e37).trans e44).trans e52).trans e58) r18) (Rel.mono _ ((((e30.trans e37).trans e44).trans e52).trans e58) r24) (Rel.mono _ ((e44.trans e52).trans e58) r38))
/-! Table_marks -/
abbrev st_Table_marks : Stmt := inClass (topS 18) 5
abbrev N_Table_marks : List Str := ["self"]
theorem tb_Table_marks : nmOk (defScope st_Table_marks) [("self", .local), ("sorted", .globalImplicit)] = true := by decide +kernel
theorem sc_Table_marks : FnScope N_Table_marks ["self"] (defScope st_Table_marks) := ⟨rfl, rfl, rfl, by decide +kernel, rfl, by decide +kernel, by decide +kernel⟩
def m_Table_marks (self : Tab) : Res (List (Int × Int)) := Res.ok (((self).ranks).mergeSort (leRow rInt))
abbrev args_Table_marks (CT : Addr) : Tab → AR := fun d => (aC (rTab CT) d aN)
abbrev sp_Table_marks (CT : Addr) : Sp := SpA (args_Table_marks CT) (kL (rPr rInt rInt)) (fun d => m_Table_marks d)
theorem body_Table_marks {X : Cx} {CT : Addr} (C : Cok X 0) (VS : Scp X N_Table_marks (defScope st_Table_marks)) (fn : ∀ x, X.fn x = true) (T : Blt X.mg) (TT : TabTxt X.K CT)  : ∀ (B H : Hp) (vs : List V) (d : Tab) (Q : VK), Sx B H → Tx H B → (args_Table_marks CT d).r vs B H → Fin ((kL (rPr rInt rInt)) ⟨B, H⟩ Q) NoErr (m_Table_marks d) →
    WSs X (defBody st_Table_marks) { nx := fun _ H' => Q .non H', rt := Q } (start N_Table_marks vs) H := by
  rintro B H vs self Q hb ht ⟨v1, _, rfl, r1_, rfl⟩ F
  have S0 := Stt.enter hb ht
  exact s_retL S0 (el_sortItems (R := rInt) C.calm C.hu64 (VS.gl tb_Table_marks 1) T.sorted (ev_fld TT.cls TT.n_ranks fldRanks (ev_v (VS.var tb_Table_marks 0 0) rfl (Rel.mono _ S0.h0.ex r1_)))) F
/-! Table_rows -/
abbrev st_Table_rows : Stmt := inClass (topS 18) 6
abbrev N_Table_rows : List Str := ["self"]
theorem tb_Table_rows : nmOk (defScope st_Table_rows) [("self", .local), ("sorted", .globalImplicit)] = true := by decide +kernel
theorem sc_Table_rows : FnScope N_Table_rows ["self"] (defScope st_Table_rows) := ⟨rfl, rfl, rfl, by decide +kernel, rfl, by decide +kernel, by decide +kernel⟩
def m_Table_rows (self : Tab) : Res (List (Int × (List Int))) := Res.ok (((self).parts).mergeSort (leRow (rTup rInt)))
abbrev args_Table_rows (CT : Addr) : Tab → AR := fun d => (aC (rTab CT) d aN)
abbrev sp_Table_rows (CT : Addr) : Sp := SpA (args_Table_rows CT) (kL (rPr rInt (rTup rInt))) (fun d => m_Table_rows d)
theorem body_Table_rows {X : Cx} {CT : Addr} (C : Cok X 0) (VS : Scp X N_Table_rows (defScope st_Table_rows)) (fn : ∀ x, X.fn x = true) (T : Blt X.mg) (TT : TabTxt X.K CT)  : ∀ (B H : Hp) (vs : List V) (d : Tab) (Q : VK), Sx B H → Tx H B → (args_Table_rows CT d).r vs B H → Fin ((kL (rPr rInt (rTup rInt))) ⟨B, H⟩ Q) NoErr (m_Table_rows d) →
    WSs X (defBody st_Table_rows) { nx := fun _ H' => Q .non H', rt := Q } (start N_Table_rows vs) H := by
  rintro B H vs self Q hb ht ⟨v1, _, rfl, r1_, rfl⟩ F
  have S0 := Stt.enter hb ht
  exact s_retL S0 (el_sortItems (R := (rTup rInt)) C.calm C.hu64 (VS.gl tb_Table_rows 1) T.sorted (ev_fld TT.cls TT.n_parts fldParts (ev_v (VS.var tb_Table_rows 0 0) rfl (Rel.mono _ S0.h0.ex r1_)))) F
/-! Table_shuts -/
abbrev st_Table_shuts : Stmt := inClass (topS 18) 7
abbrev N_Table_shuts : List Str := ["self"]
theorem tb_Table_shuts : nmOk (defScope st_Table_shuts) [("self", .local), ("list", .globalImplicit)] = true := by decide +kernel
theorem sc_Table_shuts : FnScope N_Table_shuts ["self"] (defScope st_Table_shuts) := ⟨rfl, rfl, rfl, by decide +kernel, rfl, by decide +kernel, by decide +kernel⟩
def m_Table_shuts (self : Tab) : Res (List Int) := Res.ok ((self).closed)
abbrev args_Table_shuts (CT : Addr) : Tab → AR := fun d => (aC (rTab CT) d aN)
abbrev sp_Table_shuts (CT : Addr) : Sp := SpA (args_Table_shuts CT) (kL rInt) (fun d => m_Table_shuts d)
theorem body_Table_shuts {X : Cx} {CT : Addr} (C : Cok X 0) (VS : Scp X N_Table_shuts (defScope st_Table_shuts)) (fn : ∀ x, X.fn x = true) (T : Blt X.mg) (TT : TabTxt X.K CT)  : ∀ (B H : Hp) (vs : List V) (d : Tab) (Q : VK), Sx B H → Tx H B → (args_Table_shuts CT d).r vs B H → Fin ((kL rInt) ⟨B, H⟩ Q) NoErr (m_Table_shuts d) →
    WSs X (defBody st_Table_shuts) { nx := fun _ H' => Q .non H', rt := Q } (start N_Table_shuts vs) H := by
  rintro B H vs self Q hb ht ⟨v1, _, rfl, r1_, rfl⟩ F
  have S0 := Stt.enter hb ht
  exact s_retL S0 (el_listL (VS.gl tb_Table_shuts 1) T.list (ev_fld TT.cls TT.n_closed fldClosed (ev_v (VS.var tb_Table_shuts 0 0) rfl (Rel.mono _ S0.h0.ex r1_)))) F
/-! l_whole -/
abbrev st_l_whole : Stmt := topS 21
abbrev N_l_whole : List Str := ["_law_found"]
theorem tb_l_whole : nmOk (defScope st_l_whole) [("_law_found", .local), ("isinstance", .globalImplicit), ("int", .globalImplicit), ("bool", .globalImplicit)] = true := by decide +kernel
theorem sc_l_whole : FnScope N_l_whole ["_law_found"] (defScope st_l_whole) := ⟨rfl, rfl, rfl, by decide +kernel, rfl, by decide +kernel, by decide +kernel⟩
def m_l_whole (l_found : Int) : Res Bool := Res.ok (true && (!false))
abbrev args_l_whole (CT : Addr) : Int → AR := fun d => (aC rInt d aN)
abbrev sp_l_whole (CT : Addr) : Sp := SpA (args_l_whole CT) (kE rBool) (fun d => m_l_whole d)
theorem body_l_whole {X : Cx} {CT : Addr} (C : Cok X 0) (VS : Scp X N_l_whole (defScope st_l_whole)) (fn : ∀ x, X.fn x = true) (T : Blt X.mg) (TT : TabTxt X.K CT)  : ∀ (B H : Hp) (vs : List V) (d : Int) (Q : VK), Sx B H → Tx H B → (args_l_whole CT d).r vs B H → Fin ((kE rBool) ⟨B, H⟩ Q) NoErr (m_l_whole d) →
    WSs X (defBody st_l_whole) { nx := fun _ H' => Q .non H', rt := Q } (start N_l_whole vs) H := by
  rintro B H vs l_found Q hb ht ⟨_, _, rfl, rfl, rfl⟩ F
  have S0 := Stt.enter hb ht
  exact s_retE S0 ((ev_and' (ev_isi (R := rInt) (cn := "int") (z := true) (VS.gl tb_l_whole 1) T.isinstance (VS.gl tb_l_whole 2) T.int (by decide +kernel) (ev_v (VS.var tb_l_whole 0 0) rfl rfl) (by decide +kernel)) fun _ => (ev_one (ev_not (ev_isi (R := rInt) (cn := "bool") (z := false) (VS.gl tb_l_whole 1) T.isinstance (VS.gl tb_l_whole 3) T.bool (by decide +kernel) (ev_v (VS.var tb_l_whole 0 0) rfl rfl) (by decide +kernel)))))).toE F
/-! l_kinds -/
abbrev st_l_kinds : Stmt := topS 27
abbrev N_l_kinds : List Str := ["_law_told_here", "_law_mark", "_law_row_here", "_law_sign_here"]
theorem tb_l_kinds : nmOk (defScope st_l_kinds) [("_law_told_here", .local), ("_law_mark", .local), ("_law_row_here", .local), ("isinstance", .globalImplicit), ("tuple", .globalImplicit), ("_law_whole", .globalImplicit), ("all", .globalImplicit)] = true := by decide +kernel
theorem sc_l_kinds : FnScope N_l_kinds ["_law_told_here"] (defScope st_l_kinds) := ⟨rfl, rfl, rfl, by decide +kernel, rfl, by decide +kernel, by decide +kernel⟩
abbrev csc_l_kinds_c1 : Scope := { kind := .function, names := [(".0", .local), ("_law_sign_here", .local), ("_law_whole", .globalImplicit)], isGenerator := false, isCoroutine := false, more := [] }
theorem tb_l_kinds_c1 : nmOk (relS csc_l_kinds_c1 (defScope st_l_kinds)) [("_law_sign_here", .local), ("_law_whole", .globalImplicit)] = true := by decide +kernel
theorem bk_l_kinds_c1 : blkC N_l_kinds (defScope st_l_kinds) csc_l_kinds_c1 [("_law_sign_here", 3)] = true := by decide +kernel
abbrev csc_l_kinds_c2 : Scope := { kind := .function, names := [(".0", .local), ("_law_sign_here", .local), ("_law_whole", .globalImplicit)], isGenerator := false, isCoroutine := false, more := [] }
theorem tb_l_kinds_c2 : nmOk (relS csc_l_kinds_c2 (defScope st_l_kinds)) [("_law_sign_here", .local), ("_law_whole", .globalImplicit)] = true := by decide +kernel
theorem bk_l_kinds_c2 : blkC N_l_kinds (defScope st_l_kinds) csc_l_kinds_c2 [("_law_sign_here", 3)] = true := by decide +kernel
def m_l_kinds (l_told_here : ((List (Int × Int)) × (List (Int × (List Int))) × (List Int))) : Res Bool := (forR (fun (a23 : Unit) (x24 : (Int × Int)) => ((if (!true) = true then Res.ok true else (m_l_whole x24.1).bind fun r40 => (if (!r40) = true then Res.ok true else (m_l_whole x24.2).bind fun r42 => Res.ok (!r42)).bind fun b44 => Res.ok b44).bind fun b47 => if b47 = true then Res.ok (Sum.inl false) else Res.ok (Sum.inr ()) : Res (Bool ⊕ Unit))) l_told_here.1 ()).bind (sel (fun r => Res.ok r) (fun (a36 : Unit) => (forR (fun (a90 : Unit) (x91 : (Int × (List Int))) => (if ((!true) || (!true)) = true then Res.ok (Sum.inl false) else (m_l_whole x91.1).bind fun r116 => (if (!r116) = true then Res.ok true else (mfM (fun i118 : Int => Res.ok true) (fun i118 => (m_l_whole i118).bind fun r119 => Res.ok r119) x91.2).bind fun l121 => Res.ok (!((l121).all id))).bind fun b123 => if b123 = true then Res.ok (Sum.inl false) else Res.ok (Sum.inr ()) : Res (Bool ⊕ Unit))) l_told_here.2.1 ()).bind (sel (fun r => Res.ok r) (fun (a103 : Unit) => (mfM (fun i135 : Int => Res.ok true) (fun i135 => (m_l_whole i135).bind fun r136 => Res.ok r136) l_told_here.2.2).bind fun l138 => Res.ok ((l138).all id)))))
abbrev args_l_kinds (CT : Addr) : ((List (Int × Int)) × (List (Int × (List Int))) × (List Int)) → AR := fun d => (aK (rH3 (rLst (rPr rInt rInt)) (rLst (rPr rInt (rTup rInt))) (rLst rInt)) d aN)
abbrev sp_l_kinds (CT : Addr) : Sp := SpA (args_l_kinds CT) (kE rBool) (fun d => m_l_kinds d)
theorem body_l_kinds {X : Cx} {CT : Addr} (C : Cok X 1) (VS : Scp X N_l_kinds (defScope st_l_kinds)) (fn : ∀ x, X.fn x = true) (T : Blt X.mg) (TT : TabTxt X.K CT) (G_l_whole : Cal X 1 "_law_whole" ["_law_found"] (sp_l_whole CT)) : ∀ (B H : Hp) (vs : List V) (d : ((List (Int × Int)) × (List (Int × (List Int))) × (List Int))) (Q : VK), Sx B H → Tx H B → (args_l_kinds CT d).r vs B H → Fin ((kE rBool) ⟨B, H⟩ Q) NoErr (m_l_kinds d) →
    WSs X (defBody st_l_kinds) { nx := fun _ H' => Q .non H', rt := Q } (start N_l_kinds vs) H := by
  rintro B H vs l_told_here Q hb ht ⟨v1, _, rfl, r1_, rfl⟩ F
  have S0 := Stt.enter hb ht
  refine s_forR C (tg_name (R := (rPr rInt rInt)) C (VS.slot tb_l_kinds fn 1 1)) S0 (ei_E (ee_h30 (q := l_told_here) (ee_v (VS.var tb_l_kinds 0 0) rfl r1_))) F (fun (a : Unit) σ' own' B' => ∃ (j22_1 : Option V), σ' = [some v1, j22_1, none, none] ∧ own' = [])
      (fun Bz e => ⟨_, rfl, rfl⟩) (fun _ _ _ _ _ => trivial) (fun _ _ _ _ _ h e => by obtain ⟨w0, h1, h2⟩ := h; exact ⟨w0, h1, h2⟩) (fun a23 x24 _ _ _ B25 H26 Q30 iv29 S27 e28 tg F => ?_) (fun a36 _ _ B31 H32 iv35 S33 e34 F => ?_)
  · obtain ⟨j22_1i, rfl, rfl⟩ := iv29
    obtain ⟨v38, r39, rfl⟩ := tg
    obtain ⟨b47, h48, F⟩ := Fin.get F
    refine s_if S27 ((ew_or (et_not (et_val (ev_isi (R := (rPr rInt rInt)) (cn := "tuple") (z := true) (VS.gl tb_l_kinds 3) T.isinstance (VS.gl tb_l_kinds 4) T.tuple (by decide +kernel) ((ee_v (VS.var tb_l_kinds 1 1) rfl r39)).toB (by decide +kernel)))) (fun hz => by
                                                                have q49 := Res.ff_ok h48 hz
                                                                obtain ⟨r40, h41, q49⟩ := Res.bind_ok q49
                                                                obtain ⟨b44, h45, q49⟩ := Res.bind_ok q49
                                                                have q49 := Res.ok_inj q49
                                                                rw [← q49]
                                                                exact (ew_or (et_not (et_val ((ee_call C G_l_whole (by decide) (VS.gl tb_l_kinds 5) (d := (x24.1)) (as_cons (ev_fst ((ee_v (VS.var tb_l_kinds 1 1) rfl r39)).toB) as_nil) h41)).toB)) (fun hz => by
                                                                have q46 := Res.ff_ok h45 hz
                                                                obtain ⟨r42, h43, q46⟩ := Res.bind_ok q46
                                                                have q46 := Res.ok_inj q46
                                                                rw [← q46]
                                                                exact (ew_or1 (et_not (et_val ((ee_call C G_l_whole (by decide) (VS.gl tb_l_kinds 5) (d := (x24.2)) (as_cons (ev_snd ((ee_v (VS.var tb_l_kinds 1 1) rfl r39)).toB) as_nil) h43)).toB)))
                                                            ) (fun hz => (Res.ok_inj (Res.tt_ok h45 hz)).symm))
                                                            ) (fun hz => (Res.ok_inj (Res.tt_ok h48 hz)).symm))).t (fun z50 B51 H52 S53 e54 => ?_) (fun z50 B55 H56 S57 e58 => ?_)
    · replace F := Fin.tt F z50
      exact s_retE S53 (ev_bl).toE F
    · replace F := Fin.ff F z50
      refine WSs.nil ?_
      exact WSs.nil ⟨(), _, _, F, S57, e58, ⟨_, rfl, rfl⟩⟩
  · obtain ⟨j22_1, rfl, rfl⟩ := iv35
    refine s_forR C (tg_name (R := (rPr rInt (rTup rInt))) C (VS.slot tb_l_kinds fn 2 2)) S33 (ei_E (ee_h31 (q := l_told_here) (ee_v (VS.var tb_l_kinds 0 0) rfl (Rel.mono _ e34 r1_)))) F (fun (a : Unit) σ' own' B' => ∃ (j89_2 : Option V), σ' = [some v1, j22_1, j89_2, none] ∧ own' = [])
        (fun Bz e => ⟨_, rfl, rfl⟩) (fun _ _ _ _ _ => trivial) (fun _ _ _ _ _ h e => by obtain ⟨w0, h1, h2⟩ := h; exact ⟨w0, h1, h2⟩) (fun a90 x91 _ _ _ B92 H93 Q97 iv96 S94 e95 tg F => ?_) (fun a103 _ _ B98 H99 iv102 S100 e101 F => ?_)
    · obtain ⟨j89_2i, rfl, rfl⟩ := iv96
      obtain ⟨v105, r106, rfl⟩ := tg
      refine s_if S94 ((ew_or' (et_not (et_val (ev_isi (R := (rPr rInt (rTup rInt))) (cn := "tuple") (z := true) (VS.gl tb_l_kinds 3) T.isinstance (VS.gl tb_l_kinds 4) T.tuple (by decide +kernel) ((ee_v (VS.var tb_l_kinds 2 2) rfl r106)).toB (by decide +kernel)))) fun _ => (ew_or1 (et_not (et_val (ev_isi (R := (rTup rInt)) (cn := "tuple") (z := true) (VS.gl tb_l_kinds 3) T.isinstance (VS.gl tb_l_kinds 4) T.tuple (by decide +kernel) (ev_snd ((ee_v (VS.var tb_l_kinds 2 2) rfl r106)).toB) (by decide +kernel))))))).t (fun z107 B108 H109 S110 e111 => ?_) (fun z107 B112 H113 S114 e115 => ?_)
      · replace F := Fin.tt F z107
        exact s_retE S110 (ev_bl).toE F
      · replace F := Fin.ff F z107
        refine WSs.nil ?_
        obtain ⟨r116, h117, F⟩ := Fin.get F
        obtain ⟨b123, h124, F⟩ := Fin.get F
        refine s_if S114 ((ew_or (et_not (et_val ((ee_call C G_l_whole (by decide) (VS.gl tb_l_kinds 5) (d := (x91.1)) (as_cons (ev_fst ((ee_v (VS.var tb_l_kinds 2 2) rfl (Rel.mono _ e115 r106))).toB) as_nil) h117)).toB)) (fun hz => by
                                                                have q125 := Res.ff_ok h124 hz
                                                                obtain ⟨l121, h122, q125⟩ := Res.bind_ok q125
                                                                have q125 := Res.ok_inj q125
                                                                rw [← q125]
                                                                exact (ew_or1 (et_not (et_val (ev_all C.calm (VS.gl tb_l_kinds 6) T.all ((el_lc (S := rBool) C (VS.blk bk_l_kinds_c1) (ei_T (ee_snd (ee_v (VS.var tb_l_kinds 2 2) rfl (Rel.mono _ e115 r106)))) (fun _ _ => trivial) (fun Xb hX => tg_name (R := rInt) (hX.cok C) (hX.slot VS tb_l_kinds_c1 3 0)) h122
                                                            (fun Xb i118 σ2 acc Dd Bc1 Hc1 b hX1 S1001 ec1 tg hb => by
                                                                obtain ⟨v1001, rfl, rfl⟩ := tg
                                                                have T1 : Blt Xb.mg := by rw [hX1.mg]; exact T
                                                                have TT1 : TabTxt Xb.K CT := by rw [hX1.K]; exact TT
                                                                have hb := Res.ok_inj hb
                                                                subst hb
                                                                exact ets_nil
                                                            )
                                                            (fun Xb i118 y σ2 acc Dd Bc1 Hc1 hX1 S1001 ec1 tg hb hf => by
                                                                obtain ⟨v1001, rfl, rfl⟩ := tg
                                                                have T1 : Blt Xb.mg := by rw [hX1.mg]; exact T
                                                                have TT1 : TabTxt Xb.K CT := by rw [hX1.K]; exact TT
                                                                obtain ⟨r119, h120, hf⟩ := Res.bind_ok hf
                                                                have hf := Res.ok_inj hf
                                                                subst hf
                                                                exact (ee_call (hX1.cok C) (hX1.cal G_l_whole) (by decide) ((hX1.scp VS).gl tb_l_kinds_c1 1) (d := (i118)) (as_cons (ev_v ((hX1.scp VS).var tb_l_kinds_c1 3 0) rfl rfl) as_nil) h120)
                                                            ) (fun x B3 σ2 h => by obtain ⟨v, _, rfl⟩ := h; rfl) (fun x B3 B4 σ2 ⟨v, r, q⟩ e => ⟨v, Rel.mono _ e r, q⟩))).toB))))
                                                            ) (fun hz => (Res.ok_inj (Res.tt_ok h124 hz)).symm))).t (fun z126 B127 H128 S129 e130 => ?_) (fun z126 B131 H132 S133 e134 => ?_)
        · replace F := Fin.tt F z126
          exact s_retE S129 (ev_bl).toE F
        · replace F := Fin.ff F z126
          refine WSs.nil ?_
          exact WSs.nil ⟨(), _, _, F, S133, (e115.trans e134), ⟨_, rfl, rfl⟩⟩
    · obtain ⟨j89_2, rfl, rfl⟩ := iv102
      obtain ⟨l138, h139, F⟩ := Fin.get F
      exact s_retE S100 ((ev_all C.calm (VS.gl tb_l_kinds 6) T.all ((el_lc (S := rBool) C (VS.blk bk_l_kinds_c2) (ei_E (ee_h32 (q := l_told_here) (ee_v (VS.var tb_l_kinds 0 0) rfl (Rel.mono _ (e34.trans e101) r1_)))) (fun _ _ => trivial) (fun Xb hX => tg_name (R := rInt) (hX.cok C) (hX.slot VS tb_l_kinds_c2 3 0)) h139
                                                            (fun Xb i135 σ2 acc Dd Bc2 Hc2 b hX2 S1002 ec2 tg hb => by
                                                                obtain ⟨v1002, rfl, rfl⟩ := tg
                                                                have T2 : Blt Xb.mg := by rw [hX2.mg]; exact T
                                                                have TT2 : TabTxt Xb.K CT := by rw [hX2.K]; exact TT
                                                                have hb := Res.ok_inj hb
                                                                subst hb
                                                                exact ets_nil
                                                            )
                                                            (fun Xb i135 y σ2 acc Dd Bc2 Hc2 hX2 S1002 ec2 tg hb hf => by
                                                                obtain ⟨v1002, rfl, rfl⟩ := tg
                                                                have T2 : Blt Xb.mg := by rw [hX2.mg]; exact T
                                                                have TT2 : TabTxt Xb.K CT := by rw [hX2.K]; exact TT
                                                                obtain ⟨r136, h137, hf⟩ := Res.bind_ok hf
                                                                have hf := Res.ok_inj hf
                                                                subst hf
                                                                exact (ee_call (hX2.cok C) (hX2.cal G_l_whole) (by decide) ((hX2.scp VS).gl tb_l_kinds_c2 1) (d := (i135)) (as_cons (ev_v ((hX2.scp VS).var tb_l_kinds_c2 3 0) rfl rfl) as_nil) h137)
                                                            ) (fun x B3 σ2 h => by obtain ⟨v, _, rfl⟩ := h; rfl) (fun x B3 B4 σ2 ⟨v, r, q⟩ e => ⟨v, Rel.mono _ e r, q⟩))).toB)).toE F
/-! l_told -/
abbrev st_l_told : Stmt := topS 28
abbrev N_l_told : List Str := ["_law_table_here", "_law_way", "_law_told_here", "_law_one"]
theorem tb_l_told : nmOk (defScope st_l_told) [("_law_table_here", .local), ("_law_way", .local), ("_law_told_here", .local), ("all", .globalImplicit), ("_law_kinds", .globalImplicit)] = true := by decide +kernel
theorem sc_l_told : FnScope N_l_told ["_law_table_here", "_law_way"] (defScope st_l_told) := ⟨rfl, rfl, rfl, by decide +kernel, rfl, by decide +kernel, by decide +kernel⟩
abbrev csc_l_told_c1 : Scope := { kind := .function, names := [(".0", .local), ("_law_one", .local), ("isinstance", .globalImplicit), ("list", .globalImplicit)], isGenerator := false, isCoroutine := false, more := [] }
theorem tb_l_told_c1 : nmOk (relS csc_l_told_c1 (defScope st_l_told)) [("_law_one", .local), ("isinstance", .globalImplicit), ("list", .globalImplicit)] = true := by decide +kernel
theorem bk_l_told_c1 : blkC N_l_told (defScope st_l_told) csc_l_told_c1 [("_law_one", 3)] = true := by decide +kernel
def m_l_told (l_table_here : Tab) (l_way : Int) : Res (Option ((List (Int × Int)) × (List (Int × (List Int))) × (List Int))) := if (decide (l_way = 0)) = true then (m_Table_marks l_table_here).bind fun r6 => (m_Table_rows l_table_here).bind fun r8 => (m_Table_shuts l_table_here).bind fun r10 => (if (!((([(), (), ()].map fun i27 => true)).all id)) = true then Res.ok true else (m_l_kinds (r6, r8, r10)).bind fun r28 => Res.ok (!r28)).bind fun b30 => if b30 = true then Res.ok none else Res.ok (some (r6, r8, r10)) else (m_Table_shuts l_table_here).bind fun r46 => (m_Table_rows l_table_here).bind fun r48 => (m_Table_marks l_table_here).bind fun r50 => (if (!((([(), (), ()].map fun i70 => true)).all id)) = true then Res.ok true else (m_l_kinds (r50, r48, r46)).bind fun r71 => Res.ok (!r71)).bind fun b73 => if b73 = true then Res.ok none else Res.ok (some (r50, r48, r46))
abbrev args_l_told (CT : Addr) : Tab × Int → AR := fun d => (aC (rTab CT) d.1 (aC rInt d.2 aN))
abbrev sp_l_told (CT : Addr) : Sp := SpA (args_l_told CT) (kEN fun B => (rOpt (rH3N B (rLstN B (rPr rInt rInt)) (rLstN B (rPr rInt (rTup rInt))) (rLstN B rInt)))) (fun d => m_l_told d.1 d.2)
theorem body_l_told {X : Cx} {CT : Addr} (C : Cok X 2) (VS : Scp X N_l_told (defScope st_l_told)) (fn : ∀ x, X.fn x = true) (T : Blt X.mg) (TT : TabTxt X.K CT) (G_Table_marks : MCal X 1 CT "marks" ["self"] (sp_Table_marks CT)) (G_Table_rows : MCal X 1 CT "rows" ["self"] (sp_Table_rows CT)) (G_Table_shuts : MCal X 1 CT "shuts" ["self"] (sp_Table_shuts CT)) (G_l_kinds : Cal X 2 "_law_kinds" ["_law_told_here"] (sp_l_kinds CT)) : ∀ (B H : Hp) (vs : List V) (d : Tab × Int) (Q : VK), Sx B H → Tx H B → (args_l_told CT d).r vs B H → Fin ((kEN fun B => (rOpt (rH3N B (rLstN B (rPr rInt rInt)) (rLstN B (rPr rInt (rTup rInt))) (rLstN B rInt)))) ⟨B, H⟩ Q) NoErr (m_l_told d.1 d.2) →
    WSs X (defBody st_l_told) { nx := fun _ H' => Q .non H', rt := Q } (start N_l_told vs) H := by
  rintro B H vs ⟨l_table_here, l_way⟩ Q hb ht ⟨v1, _, rfl, r1_, ⟨_, _, rfl, rfl, rfl⟩⟩ F
  have S0 := Stt.enter hb ht
  refine s_if S0 (c_eqI.et (ev_v (VS.var tb_l_told 1 1) rfl rfl) ev_i) (fun z1 B2 H3 S4 e5 => ?_) (fun z1 B42 H43 S44 e45 => ?_)
  · replace F := Fin.tt F z1
    obtain ⟨r6, h7, F⟩ := Fin.get F
    obtain ⟨r8, h9, F⟩ := Fin.get F
    obtain ⟨r10, h11, F⟩ := Fin.get F
    refine s_asgOH C (VS.slot tb_l_told fn 2 2) S4 (el_toN e5 (el_meth0 C TT.cls G_Table_marks (by decide) (ev_v (VS.var tb_l_told 0 0) rfl (Rel.mono _ S4.h0.ex r1_)) (insTab (by decide +kernel)) (d := (l_table_here)) rfl h7)) (el_toN e5 (el_meth0 C TT.cls G_Table_rows (by decide) (ev_v (VS.var tb_l_told 0 0) rfl (Rel.mono _ S4.h0.ex r1_)) (insTab (by decide +kernel)) (d := (l_table_here)) rfl h9)) (el_toN e5 (el_meth0 C TT.cls G_Table_shuts (by decide) (ev_v (VS.var tb_l_told 0 0) rfl (Rel.mono _ S4.h0.ex r1_)) (insTab (by decide +kernel)) (d := (l_table_here)) rfl h11)) (fun p12 u13 u14 u15 B16 H17 S18 e19 r20 r21 r22 => ?_)
    refine WSs.nil ?_
    obtain ⟨Bk26, S23, e24, r25⟩ := oh_keepN (e5.trans e19) S18 (k := 0) rfl r20 r21 r22
    obtain ⟨b30, h31, F⟩ := Fin.get F
    refine s_if S23 ((ew_or (et_not (et_val (ev_all C.calm (VS.gl tb_l_told 3) T.all ((el_lc (S := rBool) C (VS.blk bk_l_told_c1) (ei_E (ee_isl3 (ee_fg (R' := (rH3 (rLst (rPr rInt rInt)) (rLst (rPr rInt (rTup rInt))) (rLst rInt))) (ee_v (VS.var tb_l_told 2 2) rfl r25)))) (fun _ _ => trivial) (fun Xb hX => tg_name (R := rIsL) (hX.cok C) (hX.slot VS tb_l_told_c1 3 0)) (mfM_map (fun i27 : Unit => true) _)
                                                            (fun Xb i27 σ2 acc Dd Bc1 Hc1 b hX1 S1001 ec1 tg hb => by
                                                                obtain ⟨v1001, rv1, rfl⟩ := tg
                                                                have T1 : Blt Xb.mg := by rw [hX1.mg]; exact T
                                                                have TT1 : TabTxt Xb.K CT := by rw [hX1.K]; exact TT
                                                                have hb := Res.ok_inj hb
                                                                subst hb
                                                                exact ets_nil
                                                            )
                                                            (fun Xb i27 y σ2 acc Dd Bc1 Hc1 hX1 S1001 ec1 tg hb hf => by
                                                                obtain ⟨v1001, rv1, rfl⟩ := tg
                                                                have T1 : Blt Xb.mg := by rw [hX1.mg]; exact T
                                                                have TT1 : TabTxt Xb.K CT := by rw [hX1.K]; exact TT
                                                                have hf := Res.ok_inj hf
                                                                subst hf
                                                                exact ((ev_isi (R := rIsL) (cn := "list") (z := true) ((hX1.scp VS).gl tb_l_told_c1 1) T1.isinstance ((hX1.scp VS).gl tb_l_told_c1 2) T1.list (by decide +kernel) ((ee_v ((hX1.scp VS).var tb_l_told_c1 3 0) rfl rv1)).toB (by decide +kernel))).toE
                                                            ) (fun x B3 σ2 h => by obtain ⟨v, _, rfl⟩ := h; rfl) (fun x B3 B4 σ2 ⟨v, r, q⟩ e => ⟨v, Rel.mono _ e r, q⟩))).toB))) (fun hz => by
                                                                have q32 := Res.ff_ok h31 hz
                                                                obtain ⟨r28, h29, q32⟩ := Res.bind_ok q32
                                                                have q32 := Res.ok_inj q32
                                                                rw [← q32]
                                                                exact (ew_or1 (et_not (et_val ((ee_call C G_l_kinds (by decide) (VS.gl tb_l_told 4) (d := ((r6, r8, r10))) (ak_cons (ee_fg (R' := (rH3 (rLst (rPr rInt rInt)) (rLst (rPr rInt (rTup rInt))) (rLst rInt))) (ee_v (VS.var tb_l_told 2 2) rfl r25)) as_nil) h29)).toB)))
                                                            ) (fun hz => (Res.ok_inj (Res.tt_ok h31 hz)).symm))).t (fun z33 B34 H35 S36 e37 => ?_) (fun z33 B38 H39 S40 e41 => ?_)
    · replace F := Fin.tt F z33
      exact s_retE S36 (ee_none (R := (rH3N B (rLstN B (rPr rInt rInt)) (rLstN B (rPr rInt (rTup rInt))) (rLstN B rInt)))) F
    · replace F := Fin.ff F z33
      refine WSs.nil ?_
      exact s_retE S40 (ee_some (ee_v (VS.var tb_l_told 2 2) rfl (Rel.mono _ e41 r25))) F
  · replace F := Fin.ff F z1
    obtain ⟨r46, h47, F⟩ := Fin.get F
    obtain ⟨r48, h49, F⟩ := Fin.get F
    obtain ⟨r50, h51, F⟩ := Fin.get F
    refine s_asgOH C (VS.slot tb_l_told fn 2 2) S44 (el_toN e45 (el_meth0 C TT.cls G_Table_shuts (by decide) (ev_v (VS.var tb_l_told 0 0) rfl (Rel.mono _ S44.h0.ex r1_)) (insTab (by decide +kernel)) (d := (l_table_here)) rfl h47)) (el_toN e45 (el_meth0 C TT.cls G_Table_rows (by decide) (ev_v (VS.var tb_l_told 0 0) rfl (Rel.mono _ S44.h0.ex r1_)) (insTab (by decide +kernel)) (d := (l_table_here)) rfl h49)) (el_toN e45 (el_meth0 C TT.cls G_Table_marks (by decide) (ev_v (VS.var tb_l_told 0 0) rfl (Rel.mono _ S44.h0.ex r1_)) (insTab (by decide +kernel)) (d := (l_table_here)) rfl h51)) (fun p52 u53 u54 u55 B56 H57 S58 e59 r60 r61 r62 => ?_)
    refine s_reverse (R := rV) S58 (VS.var tb_l_told 2 2) rfl (k := 0) rfl (pV [u53, u54, u55]) (fun H63 S64 _ => ?_)
    have S65 : Stt _ [(p52, .lst [u55, u54, u53])] _ H63 := S64
    refine WSs.nil ?_
    obtain ⟨Bk69, S66, e67, r68⟩ := oh_keepN (e45.trans e59) S65 (k := 0) rfl r62 r61 r60
    obtain ⟨b73, h74, F⟩ := Fin.get F
    refine s_if S66 ((ew_or (et_not (et_val (ev_all C.calm (VS.gl tb_l_told 3) T.all ((el_lc (S := rBool) C (VS.blk bk_l_told_c1) (ei_E (ee_isl3 (ee_fg (R' := (rH3 (rLst (rPr rInt rInt)) (rLst (rPr rInt (rTup rInt))) (rLst rInt))) (ee_v (VS.var tb_l_told 2 2) rfl r68)))) (fun _ _ => trivial) (fun Xb hX => tg_name (R := rIsL) (hX.cok C) (hX.slot VS tb_l_told_c1 3 0)) (mfM_map (fun i70 : Unit => true) _)
                                                            (fun Xb i70 σ2 acc Dd Bc1 Hc1 b hX1 S1001 ec1 tg hb => by
                                                                obtain ⟨v1001, rv1, rfl⟩ := tg
                                                                have T1 : Blt Xb.mg := by rw [hX1.mg]; exact T
                                                                have TT1 : TabTxt Xb.K CT := by rw [hX1.K]; exact TT
                                                                have hb := Res.ok_inj hb
                                                                subst hb
                                                                exact ets_nil
                                                            )
                                                            (fun Xb i70 y σ2 acc Dd Bc1 Hc1 hX1 S1001 ec1 tg hb hf => by
                                                                obtain ⟨v1001, rv1, rfl⟩ := tg
                                                                have T1 : Blt Xb.mg := by rw [hX1.mg]; exact T
                                                                have TT1 : TabTxt Xb.K CT := by rw [hX1.K]; exact TT
                                                                have hf := Res.ok_inj hf
                                                                subst hf
                                                                exact ((ev_isi (R := rIsL) (cn := "list") (z := true) ((hX1.scp VS).gl tb_l_told_c1 1) T1.isinstance ((hX1.scp VS).gl tb_l_told_c1 2) T1.list (by decide +kernel) ((ee_v ((hX1.scp VS).var tb_l_told_c1 3 0) rfl rv1)).toB (by decide +kernel))).toE
                                                            ) (fun x B3 σ2 h => by obtain ⟨v, _, rfl⟩ := h; rfl) (fun x B3 B4 σ2 ⟨v, r, q⟩ e => ⟨v, Rel.mono _ e r, q⟩))).toB))) (fun hz => by
                                                                have q75 := Res.ff_ok h74 hz
                                                                obtain ⟨r71, h72, q75⟩ := Res.bind_ok q75
                                                                have q75 := Res.ok_inj q75
                                                                rw [← q75]
                                                                exact (ew_or1 (et_not (et_val ((ee_call C G_l_kinds (by decide) (VS.gl tb_l_told 4) (d := ((r50, r48, r46))) (ak_cons (ee_fg (R' := (rH3 (rLst (rPr rInt rInt)) (rLst (rPr rInt (rTup rInt))) (rLst rInt))) (ee_v (VS.var tb_l_told 2 2) rfl r68)) as_nil) h72)).toB)))
                                                            ) (fun hz => (Res.ok_inj (Res.tt_ok h74 hz)).symm))).t (fun z76 B77 H78 S79 e80 => ?_) (fun z76 B81 H82 S83 e84 => ?_)
    · replace F := Fin.tt F z76
      exact s_retE S79 (ee_none (R := (rH3N B (rLstN B (rPr rInt rInt)) (rLstN B (rPr rInt (rTup rInt))) (rLstN B rInt)))) F
    · replace F := Fin.ff F z76
      refine WSs.nil ?_
      exact s_retE S83 (ee_some (ee_v (VS.var tb_l_told 2 2) rfl (Rel.mono _ e84 r68))) F
/-! l_changed -/
abbrev st_l_changed : Stmt := topS 29
abbrev N_l_changed : List Str := ["_law_told_here", "_law_way", "_law_one"]
theorem tb_l_changed : nmOk (defScope st_l_changed) [("_law_told_here", .local), ("_law_way", .local), ("_law_one", .local)] = true := by decide +kernel
theorem sc_l_changed : FnScope N_l_changed ["_law_told_here", "_law_way"] (defScope st_l_changed) := ⟨rfl, rfl, rfl, by decide +kernel, rfl, by decide +kernel, by decide +kernel⟩
def m_l_changed (x : (List (Int × Int)) × (List (Int × (List Int))) × (List Int)) (w : Int) : Res Unit := Res.need (x.1.length + 3 ≤ sizeLine ∧ x.2.1.length + 3 ≤ sizeLine ∧ x.2.2.length + 3 ≤ sizeLine) (Res.ok ())
abbrev sp_l_changed (CT : Addr) : Sp := SpChg
theorem body_l_changed {X : Cx} {CT : Addr} (C : Cok X 0) (VS : Scp X N_l_changed (defScope st_l_changed)) (fn : ∀ x, X.fn x = true) : ∀ (H : Hp) (vs : List V) (Q : VK) E, sp_l_changed CT vs H Q E →
    WSs X (defBody st_l_changed) { nx := fun _ H' => Q .non H', rt := Q } (start N_l_changed vs) H := by
  rintro H vs Q E ⟨B, p, q0, q1, q2, io, n, rfl, hb, ht, ho, hl, m0, m1, m2, kt⟩
  have S0 := (Stt.enterIO hb ht ho).perm (own' := io ++ [(p, HO.lst [.ref q0, .ref q1, .ref q2])]) (List.perm_append_comm (l₁ := [_]))
  refine s_forJn (J := fun i io1 => io1.map (·.1) = io.map (·.1) ∧ Room i io1) C (VS.slot tb_l_changed fn 2 2) ⟨rfl, hl⟩ S0 (VS.var tb_l_changed 0 0) rfl (List.mem_cons_self ..) (Nat.le_of_ble_eq_true rfl) (fun i' v hv io1 B1 H1 D1 J1 S1 e1 nx => ?_) (fun jv io1 B1 H1 J1 S1 e1 => WSs.nil (kt _ _ _ S1))
  have hq : ∃ q, v = .ref q ∧ q ∈ io.map (·.1) ∧ i' < 3 := by
    match i', hv with
    | 0, hv => cases hv; exact ⟨q0, rfl, m0, by omega⟩
    | 1, hv => cases hv; exact ⟨q1, rfl, m1, by omega⟩
    | 2, hv => cases hv; exact ⟨q2, rfl, m2, by omega⟩
  obtain ⟨q, rfl, hq, hi⟩ := hq
  refine s_if S1 (c_eqI.et (ev_v (VS.var tb_l_changed 1 1) rfl rfl) ev_i) (fun z B2 H2 S2 e2 => ?_) (fun z B2 H2 S2 e2 => WSs.nil (app_room S2 (VS.var tb_l_changed 2 2) rfl J1 hq hi (ee_any (ee_pr (R := rInt) (S := rInt) ev_i.toE ev_i.toE)) (fun io3 B3 H3 J3 S3 e3 => nx io3 B3 H3 J3 S3 (e2.trans e3))))
  obtain ⟨k, us, hk, hlen⟩ := room_at J1 hq
  refine s_clear (R := rV) (vs := us) (xs := us) S2 (VS.var tb_l_changed 2 2) rfl (get_app hk) (pV us) (fun H3 S3 _ => WSs.nil ?_)
  rw [set_app hk] at S3
  exact app_room S3 (VS.var tb_l_changed 2 2) rfl (room_set J1 (Nat.le_refl _) hk (by show 0 + 3 ≤ _; have : 3 ≤ sizeLine := (by decide); omega)) hq hi (ee_any (ee_pr (R := rInt) (S := rInt) ev_i.toE ev_i.toE)) (fun io3 B3 H3 J3 S3 e3 => nx io3 B3 H3 J3 S3 (e2.trans e3))
/-! Table_row -/
abbrev st_Table_row : Stmt := inClass (topS 18) 2
abbrev N_Table_row : List Str := ["self", "sign"]
theorem tb_Table_row : nmOk (defScope st_Table_row) [("self", .local), ("sign", .local)] = true := by decide +kernel
theorem sc_Table_row : FnScope N_Table_row ["self", "sign"] (defScope st_Table_row) := ⟨rfl, rfl, rfl, by decide +kernel, rfl, by decide +kernel, by decide +kernel⟩
def m_Table_row (self : Tab) (sign_ : Int) : Res (Option (List Int)) := Res.ok (dget (self).parts sign_)
abbrev args_Table_row (CT : Addr) : Tab × Int → AR := fun d => (aC (rTab CT) d.1 (aC rInt d.2 aN))
abbrev sp_Table_row (CT : Addr) : Sp := SpA (args_Table_row CT) (kE (rOpt (rTup rInt))) (fun d => m_Table_row d.1 d.2)
theorem body_Table_row {X : Cx} {CT : Addr} (C : Cok X 0) (VS : Scp X N_Table_row (defScope st_Table_row)) (fn : ∀ x, X.fn x = true) (T : Blt X.mg) (TT : TabTxt X.K CT)  : ∀ (B H : Hp) (vs : List V) (d : Tab × Int) (Q : VK), Sx B H → Tx H B → (args_Table_row CT d).r vs B H → Fin ((kE (rOpt (rTup rInt))) ⟨B, H⟩ Q) NoErr (m_Table_row d.1 d.2) →
    WSs X (defBody st_Table_row) { nx := fun _ H' => Q .non H', rt := Q } (start N_Table_row vs) H := by
  rintro B H vs ⟨self, sign_⟩ Q hb ht ⟨v1, _, rfl, r1_, ⟨_, _, rfl, rfl, rfl⟩⟩ F
  have S0 := Stt.enter hb ht
  exact s_retE S0 ((ev_dget1 C dkI (ev_fld TT.cls TT.n_parts fldParts (ev_v (VS.var tb_Table_row 0 0) rfl (Rel.mono _ S0.h0.ex r1_))) (ev_v (VS.var tb_Table_row 1 1) rfl rfl))).toE F
/-! Table_pair -/
abbrev st_Table_pair : Stmt := inClass (topS 18) 4
abbrev N_Table_pair : List Str := ["self", "one", "other"]
theorem tb_Table_pair : nmOk (defScope st_Table_pair) [("self", .local), ("one", .local), ("other", .local)] = true := by decide +kernel
theorem sc_Table_pair : FnScope N_Table_pair ["self", "one", "other"] (defScope st_Table_pair) := ⟨rfl, rfl, rfl, by decide +kernel, rfl, by decide +kernel, by decide +kernel⟩
def m_Table_pair (self : Tab) (one : Int) (other : Int) : Res (Option Int) := Res.ok (dget (self).wholes [one, other])
abbrev args_Table_pair (CT : Addr) : Tab × Int × Int → AR := fun d => (aC (rTab CT) d.1 (aC rInt d.2.1 (aC rInt d.2.2 aN)))
abbrev sp_Table_pair (CT : Addr) : Sp := SpA (args_Table_pair CT) (kE (rOpt rInt)) (fun d => m_Table_pair d.1 d.2.1 d.2.2)
theorem body_Table_pair {X : Cx} {CT : Addr} (C : Cok X 0) (VS : Scp X N_Table_pair (defScope st_Table_pair)) (fn : ∀ x, X.fn x = true) (T : Blt X.mg) (TT : TabTxt X.K CT)  : ∀ (B H : Hp) (vs : List V) (d : Tab × Int × Int) (Q : VK), Sx B H → Tx H B → (args_Table_pair CT d).r vs B H → Fin ((kE (rOpt rInt)) ⟨B, H⟩ Q) NoErr (m_Table_pair d.1 d.2.1 d.2.2) →
    WSs X (defBody st_Table_pair) { nx := fun _ H' => Q .non H', rt := Q } (start N_Table_pair vs) H := by
  rintro B H vs ⟨self, one, other⟩ Q hb ht ⟨v1, _, rfl, r1_, ⟨_, _, rfl, rfl, ⟨_, _, rfl, rfl, rfl⟩⟩⟩ F
  have S0 := Stt.enter hb ht
  exact s_retE S0 ((ev_dget1 C dkT (ev_fld TT.cls TT.n_wholes fldWholes (ev_v (VS.var tb_Table_pair 0 0) rfl (Rel.mono _ S0.h0.ex r1_))) ((ee_tup (R := rInt) (ea_cons ((ev_v (VS.var tb_Table_pair 1 1) rfl rfl)).toE (ea_cons ((ev_v (VS.var tb_Table_pair 2 2) rfl rfl)).toE ea_nil)))).toB)).toE F
/-! Table_rank -/
abbrev st_Table_rank : Stmt := inClass (topS 18) 1
abbrev N_Table_rank : List Str := ["self", "sign"]
theorem tb_Table_rank : nmOk (defScope st_Table_rank) [("self", .local), ("sign", .local)] = true := by decide +kernel
theorem sc_Table_rank : FnScope N_Table_rank ["self", "sign"] (defScope st_Table_rank) := ⟨rfl, rfl, rfl, by decide +kernel, rfl, by decide +kernel, by decide +kernel⟩
def m_Table_rank (self : Tab) (sign_ : Int) : Res Int := Res.ok ((dget (self).ranks sign_).getD 0)
abbrev args_Table_rank (CT : Addr) : Tab × Int → AR := fun d => (aC (rTab CT) d.1 (aC rInt d.2 aN))
abbrev sp_Table_rank (CT : Addr) : Sp := SpA (args_Table_rank CT) (kE rInt) (fun d => m_Table_rank d.1 d.2)
theorem body_Table_rank {X : Cx} {CT : Addr} (C : Cok X 0) (VS : Scp X N_Table_rank (defScope st_Table_rank)) (fn : ∀ x, X.fn x = true) (T : Blt X.mg) (TT : TabTxt X.K CT)  : ∀ (B H : Hp) (vs : List V) (d : Tab × Int) (Q : VK), Sx B H → Tx H B → (args_Table_rank CT d).r vs B H → Fin ((kE rInt) ⟨B, H⟩ Q) NoErr (m_Table_rank d.1 d.2) →
    WSs X (defBody st_Table_rank) { nx := fun _ H' => Q .non H', rt := Q } (start N_Table_rank vs) H := by
  rintro B H vs ⟨self, sign_⟩ Q hb ht ⟨v1, _, rfl, r1_, ⟨_, _, rfl, rfl, rfl⟩⟩ F
  have S0 := Stt.enter hb ht
  exact s_retE S0 ((ev_dget2 C dkI (ev_fld TT.cls TT.n_ranks fldRanks (ev_v (VS.var tb_Table_rank 0 0) rfl (Rel.mono _ S0.h0.ex r1_))) (ev_v (VS.var tb_Table_rank 1 1) rfl rfl) ev_i)).toE F
/-! law -/
abbrev st_law : Stmt := topS 30
abbrev N_law : List Str := ["_law_script", "_law_head", "_law_marks", "_law_rows", "_law_shuts", "_law_pool", "_law_row_here", "_law_short", "_law_table_here", "_law_other", "_law_dues", "_law_way", "_law_asked", "_law_due", "_law_told_here", "_law_sign_here", "_law_rank_here"]
theorem tb_law : nmOk (defScope st_law) [("_law_script", .local), ("_law_head", .local), ("_law_marks", .local), ("_law_rows", .local), ("_law_shuts", .local), ("_law_pool", .local), ("_law_row_here", .local), ("_law_short", .local), ("_law_table_here", .cell), ("_law_other", .local), ("_law_dues", .local), ("_law_way", .local), ("_law_asked", .local), ("_law_due", .local), ("_law_told_here", .local), ("_law_sign_here", .local), ("_law_cell_at", .globalImplicit), ("_law_table", .globalImplicit), ("Table", .globalImplicit), ("_law_turned", .globalImplicit), ("sorted", .globalImplicit), ("zip", .globalImplicit), ("_law_told", .globalImplicit), ("_law_changed", .globalImplicit), ("len", .globalImplicit), ("all", .globalImplicit)] = true := by decide +kernel
theorem sc_law : FnScope N_law ["_law_script"] (defScope st_law) := ⟨rfl, rfl, rfl, by decide +kernel, rfl, by decide +kernel, by decide +kernel⟩
abbrev csc_law_c1 : Scope := { kind := .function, names := [(".0", .local), ("_law_row_here", .local), ("len", .globalImplicit)], isGenerator := false, isCoroutine := false, more := [] }
theorem tb_law_c1 : nmOk (relS csc_law_c1 (defScope st_law)) [("_law_row_here", .local), ("len", .globalImplicit)] = true := by decide +kernel
theorem bk_law_c1 : blkC N_law (defScope st_law) csc_law_c1 [("_law_row_here", 6)] = true := by decide +kernel
abbrev csc_law_c2 : Scope := { kind := .function, names := [(".0", .local), ("_law_sign_here", .local), ("_law_rank_here", .local), ("_law_table_here", .free)], isGenerator := false, isCoroutine := false, more := [] }
theorem tb_law_c2 : nmOk (relS csc_law_c2 (defScope st_law)) [("_law_sign_here", .local), ("_law_rank_here", .local), ("_law_table_here", .cell)] = true := by decide +kernel
theorem bk_law_c2 : blkC N_law (defScope st_law) csc_law_c2 [("_law_sign_here", 15), ("_law_rank_here", 16)] = true := by decide +kernel
def m_law (l_script : (List Int)) : Res Bool := (m_l_cell_at l_script 0).bind fun r1 => (m_l_table (cut l_script (some 1) (some 63))).bind fun r7 => (m_l_turned_p0 r7.1 (r1 / 2)).bind fun r33 => (m_l_turned_p1 r7.2.1 (r1 / 6)).bind fun r35 => (m_l_turned_p2 r7.2.2.1 (r1 / 18)).bind fun r37 => (m_Table___init__ r33 r35 r37).bind fun r39 => (m_l_turned_p0 r7.1 (r1 / 54)).bind fun r47 => (m_l_turned_p1 ((r7.2.1.filter fun i21 => (decide (((i21.2).length : Int) = 1))).map fun i21 => i21) (r1 / 108)).bind fun r49 => (m_Table___init__ r47 r49 ([] : List Int)).bind fun r51 => (forR (fun (a142 : Unit) (x143 : Int) => ((forR (fun (a189 : Unit) (x190 : (Tab × ((List (Int × Int)) × (List (Int × (List Int))) × (List Int)))) => ((m_l_told x190.1 x143).bind fun r208 => if ((r208).isNone || (!decide (r208 = (some x190.2)))) = true then Res.ok (Sum.inl false) else (Res.of (r208)).bind fun x225 => Res.need (x225.1.length + 3 ≤ sizeLine ∧ x225.2.1.length + 3 ≤ sizeLine ∧ x225.2.2.length + 3 ≤ sizeLine) (Res.ok (Sum.inr ())) : Res (Bool ⊕ Unit))) ([r39, r51].zip ([((r7.1.mergeSort (leS (rPr rInt rInt))), (r7.2.1.mergeSort (leS (rPr rInt (rTup rInt)))), (sortI r7.2.2.1)), ((r7.1.mergeSort (leS (rPr rInt rInt))), (((r7.2.1.filter fun i21 => (decide (((i21.2).length : Int) = 1))).map fun i21 => i21).mergeSort (leS (rPr rInt (rTup rInt)))), ([] : List Int))])) ()).bind (sel (fun r => Res.ok (Sum.inl r)) (fun (a202 : Unit) => Res.ok (Sum.inr ()))) : Res (Bool ⊕ Unit))) [0, 1, (r1 % 2)] ()).bind (sel (fun r => Res.ok r) (fun (a155 : Unit) => (forR (fun (a263 : Unit) (x264 : (Int × (List Int))) => ((m_Table_row r39 x264.1).bind fun r281 => (if (!decide (r281 = (some x264.2))) = true then Res.ok true else (if (decide (((x264.2).length : Int) = 2)) = true then (if (!(decide (x264.1 ∈ r7.2.2.1))) = true then (Res.of (atI x264.2 0)).bind fun x283 => (Res.of (atI x264.2 1)).bind fun x285 => (m_Table_pair r39 x283 x285).bind fun r287 => Res.ok (!decide (r287 = (some x264.1))) else Res.ok false).bind fun b289 => Res.ok b289 else Res.ok false).bind fun b292 => Res.ok b292).bind fun b295 => if b295 = true then Res.ok (Sum.inl false) else Res.ok (Sum.inr ()) : Res (Bool ⊕ Unit))) r7.2.1 ()).bind (sel (fun r => Res.ok r) (fun (a276 : Unit) => (mfM (fun i307 : (Int × Int) => Res.ok true) (fun i307 => (m_Table_rank r39 i307.1).bind fun r308 => Res.ok (decide (r308 = i307.2))) r7.1).bind fun l310 => if (!((l310).all id)) = true then Res.ok false else (m_l_told r39 0).bind fun r321 => (if (!(r321).isNone) = true then (Res.of (r321)).bind fun x329 => (Res.of (r321)).bind fun x331 => (Res.of (r321)).bind fun x333 => (m_Table___init__ x329.1 x331.2.1 x333.2.2).bind fun r335 => (m_l_told r335 1).bind fun r337 => (Res.of (atI [((r7.1.mergeSort (leS (rPr rInt rInt))), (r7.2.1.mergeSort (leS (rPr rInt (rTup rInt)))), (sortI r7.2.2.1)), ((r7.1.mergeSort (leS (rPr rInt rInt))), (((r7.2.1.filter fun i21 => (decide (((i21.2).length : Int) = 1))).map fun i21 => i21).mergeSort (leS (rPr rInt (rTup rInt)))), ([] : List Int))] 0)).bind fun x339 => Res.ok (decide (r337 = (some x339))) else Res.ok false).bind fun b341 => Res.ok b341))))
abbrev args_law (CT : Addr) : (List Int) → AR := fun d => (aC (rLst rInt) d aN)
abbrev sp_law (CT : Addr) : Sp := SpA (args_law CT) (kE rBool) (fun d => m_law d)
theorem body_law {X : Cx} {CT : Addr} (C : Cok X 4) (VS : Scp X N_law (defScope st_law)) (fn : ∀ x, X.fn x = true) (T : Blt X.mg) (TT : TabTxt X.K CT) (G_l_cell_at : Cal X 1 "_law_cell_at" ["_law_script", "_law_k"] (sp_l_cell_at CT)) (G_l_table : Cal X 2 "_law_table" ["_law_cells"] (sp_l_table CT)) (G_l_turned_p0 : Cal X 1 "_law_turned" ["_law_row_here", "_law_number"] (sp_l_turned_p0 CT)) (G_l_turned_p1 : Cal X 1 "_law_turned" ["_law_row_here", "_law_number"] (sp_l_turned_p1 CT)) (G_l_turned_p2 : Cal X 1 "_law_turned" ["_law_row_here", "_law_number"] (sp_l_turned_p2 CT)) (G_Table___init__ : MkT X 3 "Table" CT ["self", "marks", "rows", "shuts"] (sp_Table___init__ CT)) (G_l_told : Cal X 3 "_law_told" ["_law_table_here", "_law_way"] (sp_l_told CT)) (G_l_changed : Cal X 1 "_law_changed" ["_law_told_here", "_law_way"] (sp_l_changed CT)) (G_Table_row : MCal X 1 CT "row" ["self", "sign"] (sp_Table_row CT)) (G_Table_pair : MCal X 1 CT "pair" ["self", "one", "other"] (sp_Table_pair CT)) (G_Table_rank : MCal X 1 CT "rank" ["self", "sign"] (sp_Table_rank CT)) : ∀ (B H : Hp) (vs : List V) (d : (List Int)) (Q : VK), Sx B H → Tx H B → (args_law CT d).r vs B H → Fin ((kE rBool) ⟨B, H⟩ Q) NoErr (m_law d) →
    WSs X (defBody st_law) { nx := fun _ H' => Q .non H', rt := Q } (start N_law vs) H := by
  rintro B H vs l_script Q hb ht ⟨v1, _, rfl, r1_, rfl⟩ F
  have S0 := Stt.enter hb ht
  obtain ⟨r1, h2, F⟩ := Fin.get F
  refine s_asgI C (VS.slot tb_law fn 1 1) S0 ((ee_call C G_l_cell_at (by decide) (VS.gl tb_law 16) (d := (l_script, 0)) (as_cons (ev_v (VS.var tb_law 0 0) rfl (Rel.mono _ S0.h0.ex r1_)) (as_cons ev_i as_nil)) h2)).toB (fun B3 H4 S5 e6 => ?_)
  obtain ⟨r7, h8, F⟩ := Fin.get F
  refine s_unp4 C (VS.slot tb_law fn 2 2) (VS.slot tb_law fn 3 3) (VS.slot tb_law fn 4 4) (VS.slot tb_law fn 5 5) S5 (ee_call C G_l_table (by decide) (VS.gl tb_law 17) (d := ((cut l_script (some 1) (some 63)))) (as_cons ((el_cut (ev_v (VS.var tb_law 0 0) rfl (Rel.mono _ S5.h0.ex r1_)) (ep_s ev_i) (ep_s ev_i))).toB as_nil) h8) (fun v9 v10 v11 v12 B17 H18 S19 e20 r13 r14 r15 r16 => ?_)
  refine s_asgLc (S := (rPr rInt (rTup rInt))) C (i := 7) (n := "_law_short") (by rw [VS.n]; rfl) (VS.lk tb_law 7) (sw_loc VS sc_law.kind (VS.lk tb_law 7)) S19 (VS.blk bk_law_c1) (ei_E (ee_v (VS.var tb_law 3 3) rfl r14)) (fun _ _ => trivial) (fun Xb hX => tg_name (R := (rPr rInt (rTup rInt))) (hX.cok C) (hX.slot VS tb_law_c1 6 0)) (mfM_fm (fun i21 : (Int × (List Int)) => (decide (((i21.2).length : Int) = 1))) (fun i21 : (Int × (List Int)) => i21) _)
                                                            (fun Xb i21 σ2 acc Dd Bc1 Hc1 b hX1 S1001 ec1 tg hb => by
                                                                obtain ⟨v1001, rv1, rfl⟩ := tg
                                                                have T1 : Blt Xb.mg := by rw [hX1.mg]; exact T
                                                                have TT1 : TabTxt Xb.K CT := by rw [hX1.K]; exact TT
                                                                have hb := Res.ok_inj hb
                                                                subst hb
                                                                exact ets_one (c_eqI.et (ev_lenT ((hX1.scp VS).gl tb_law_c1 1) T1.len (ev_snd ((ee_v ((hX1.scp VS).var tb_law_c1 6 0) rfl rv1)).toB)) ev_i)
                                                            )
                                                            (fun Xb i21 y σ2 acc Dd Bc1 Hc1 hX1 S1001 ec1 tg hb hf => by
                                                                obtain ⟨v1001, rv1, rfl⟩ := tg
                                                                have T1 : Blt Xb.mg := by rw [hX1.mg]; exact T
                                                                have TT1 : TabTxt Xb.K CT := by rw [hX1.K]; exact TT
                                                                have hf := Res.ok_inj hf
                                                                subst hf
                                                                exact (ee_v ((hX1.scp VS).var tb_law_c1 6 0) rfl rv1)
                                                            ) (fun x B3 σ2 h => by obtain ⟨v, _, rfl⟩ := h; rfl) (fun x B3 B4 σ2 ⟨v, r, q⟩ e => ⟨v, Rel.mono _ e r, q⟩) (fun p22 u23 B24 H25 S26 e27 r28 => ?_)
  obtain ⟨Bk29, S30, e31, r32⟩ := rl_keep (R := (rPr rInt (rTup rInt))) S26 (k := 0) rfl r28
  obtain ⟨r33, h34, F⟩ := Fin.get F
  obtain ⟨r35, h36, F⟩ := Fin.get F
  obtain ⟨r37, h38, F⟩ := Fin.get F
  obtain ⟨r39, h40, F⟩ := Fin.get F
  refine s_asg C (VS.slot tb_law fn 8 8) S30 (ee_make C G_Table___init__ (by decide) (VS.gl tb_law 18) (d := (r33, r35, r37)) (as_cons ((el_call C G_l_turned_p0 (by decide) (VS.gl tb_law 19) (d := (r7.1, (r1 / 2))) (as_cons ((ee_v (VS.var tb_law 2 2) rfl (Rel.mono _ (e27.trans e31) r13))).toB (as_cons (ev_div (ev_v (VS.var tb_law 1 1) rfl rfl) ev_i ⟨by decide, by decide⟩) as_nil)) h34)).toB (as_cons ((el_call C G_l_turned_p1 (by decide) (VS.gl tb_law 19) (d := (r7.2.1, (r1 / 6))) (as_cons ((ee_v (VS.var tb_law 3 3) rfl (Rel.mono _ (e27.trans e31) r14))).toB (as_cons (ev_div (ev_v (VS.var tb_law 1 1) rfl rfl) ev_i ⟨by decide, by decide⟩) as_nil)) h36)).toB (as_cons ((el_call C G_l_turned_p2 (by decide) (VS.gl tb_law 19) (d := (r7.2.2.1, (r1 / 18))) (as_cons ((ee_v (VS.var tb_law 4 4) rfl (Rel.mono _ (e27.trans e31) r15))).toB (as_cons (ev_div (ev_v (VS.var tb_law 1 1) rfl rfl) ev_i ⟨by decide, by decide⟩) as_nil)) h38)).toB as_nil))) h40) (fun v45 B41 H42 S43 e44 r46 => ?_)
  obtain ⟨r47, h48, F⟩ := Fin.get F
  obtain ⟨r49, h50, F⟩ := Fin.get F
  obtain ⟨r51, h52, F⟩ := Fin.get F
  refine s_asg C (VS.slot tb_law fn 9 9) S43 (ee_make C G_Table___init__ (by decide) (VS.gl tb_law 18) (d := (r47, r49, ([] : List Int))) (as_cons ((el_call C G_l_turned_p0 (by decide) (VS.gl tb_law 19) (d := (r7.1, (r1 / 54))) (as_cons ((ee_v (VS.var tb_law 2 2) rfl (Rel.mono _ ((e27.trans e31).trans e44) r13))).toB (as_cons (ev_div (ev_v (VS.var tb_law 1 1) rfl rfl) ev_i ⟨by decide, by decide⟩) as_nil)) h48)).toB (as_cons ((el_call C G_l_turned_p1 (by decide) (VS.gl tb_law 19) (d := (((r7.2.1.filter fun i21 => (decide (((i21.2).length : Int) = 1))).map fun i21 => i21), (r1 / 108))) (as_cons ((ee_v (VS.var tb_law 7 7) rfl (Rel.mono _ e44 r32))).toB (as_cons (ev_div (ev_v (VS.var tb_law 1 1) rfl rfl) ev_i ⟨by decide, by decide⟩) as_nil)) (by exact h50))).toB (as_cons ((el_nil (R := rInt))).toB as_nil))) h52) (fun v57 B53 H54 S55 e56 r58 => ?_)
  refine s_asg C (VS.slot tb_law fn 10 10) S55 ((el_lst (R := (rH3 (rLst (rPr rInt rInt)) (rLst (rPr rInt (rTup rInt))) (rLst rInt))) (ea_cons (ee_h3 ((el_sortS (R := (rPr rInt rInt)) C.hu64 (VS.gl tb_law 20) T.sorted ((ee_v (VS.var tb_law 2 2) rfl (Rel.mono _ (((e27.trans e31).trans e44).trans e56) r13))).toB)).toE ((el_sortS (R := (rPr rInt (rTup rInt))) C.hu64 (VS.gl tb_law 20) T.sorted ((ee_v (VS.var tb_law 3 3) rfl (Rel.mono _ (((e27.trans e31).trans e44).trans e56) r14))).toB)).toE ((el_sortI (VS.gl tb_law 20) T.sorted ((ee_v (VS.var tb_law 4 4) rfl (Rel.mono _ (((e27.trans e31).trans e44).trans e56) r15))).toB)).toE) (ea_cons (ee_h3 ((el_sortS (R := (rPr rInt rInt)) C.hu64 (VS.gl tb_law 20) T.sorted ((ee_v (VS.var tb_law 2 2) rfl (Rel.mono _ (((e27.trans e31).trans e44).trans e56) r13))).toB)).toE ((el_sortS (R := (rPr rInt (rTup rInt))) C.hu64 (VS.gl tb_law 20) T.sorted ((ee_v (VS.var tb_law 7 7) rfl (Rel.mono _ (e44.trans e56) r32))).toB)).toE ((el_nil (R := rInt))).toE) ea_nil)))).toE (fun v63 B59 H60 S61 e62 r64 => ?_)
  refine s_forR C (tg_name (R := rInt) C (VS.slot tb_law fn 11 11)) S61 (ei_E ((el_lst (R := rInt) (ea_cons (ev_i).toE (ea_cons (ev_i).toE (ea_cons ((ev_mod (ev_v (VS.var tb_law 1 1) rfl rfl) ev_i (by decide))).toE ea_nil))))).toE) F (fun (a : Unit) σ' own' B' => ∃ (j141_12 : Option V), ∃ (j141_13 : Option V), ∃ (j141_14 : Option V), ∃ (j141_11 : Option V), σ' = [some v1, some (.int r1), some v9, some v10, some v11, some v12, none, some (.ref p22), some v45, some v57, some v63, j141_11, j141_12, j141_13, j141_14, none, none] ∧ own' = [])
      (fun Bz e => ⟨_, _, _, _, rfl, rfl⟩) (fun _ _ _ _ _ => trivial) (fun _ _ _ _ _ h e => by obtain ⟨w0, w1, w2, w3, h1, h2⟩ := h; exact ⟨w0, w1, w2, w3, h1, h2⟩) (fun a142 x143 _ _ _ B144 H145 Q149 iv148 S146 e147 tg F => ?_) (fun a155 _ _ B150 H151 iv154 S152 e153 F => ?_)
  · obtain ⟨j141_12i, j141_13i, j141_14i, j141_11i, rfl, rfl⟩ := iv148
    obtain ⟨v157, rfl, rfl⟩ := tg
    refine s_forR C (tg_pair (R := (rTab CT)) (S := (rH3 (rLst (rPr rInt rInt)) (rLst (rPr rInt (rTup rInt))) (rLst rInt))) C (VS.slot tb_law fn 12 12) (VS.slot tb_law fn 13 13)) S146 (ei_zip (VS.gl tb_law 21) T.zip ((el_lst (R := (rTab CT)) (ea_cons (ee_v (VS.var tb_law 8 8) rfl (Rel.mono _ ((e56.trans e62).trans e147) r46)) (ea_cons (ee_v (VS.var tb_law 9 9) rfl (Rel.mono _ (e62.trans e147) r58)) ea_nil)))).toE (ee_v (VS.var tb_law 10 10) rfl (Rel.mono _ e147 r64))) F (fun (a : Unit) σ' own' B' => ∃ (j188_14 : Option V), ∃ (j188_12 : Option V), ∃ (j188_13 : Option V), σ' = [some v1, some (.int r1), some v9, some v10, some v11, some v12, none, some (.ref p22), some v45, some v57, some v63, some (.int x143), j188_12, j188_13, j188_14, none, none] ∧ own' = [])
        (fun Bz e => ⟨_, _, _, rfl, rfl⟩) (fun _ _ _ _ _ => trivial) (fun _ _ _ _ _ h e => by obtain ⟨w0, w1, w2, h1, h2⟩ := h; exact ⟨w0, w1, w2, h1, h2⟩) (fun a189 x190 _ _ _ B191 H192 Q196 iv195 S193 e194 tg F => ?_) (fun a202 _ _ B197 H198 iv201 S199 e200 F => ?_)
    · obtain ⟨j188_14i, j188_12i, j188_13i, rfl, rfl⟩ := iv195
      obtain ⟨v204, v206, r205, r207, rfl⟩ := tg
      obtain ⟨M_l_told_here, SM_l_told_here, xM_l_told_here⟩ : ∃ M, Stt _ _ M _ ∧ Ex B191 M := ⟨_, S193, Ex.refl _⟩
      obtain ⟨r208, h209, F⟩ := Fin.get F
      refine s_asg C (VS.slot tb_law fn 14 14) SM_l_told_here (ee_callN (RR := fun B => (rOpt (rH3N B (rLstN B (rPr rInt rInt)) (rLstN B (rPr rInt (rTup rInt))) (rLstN B rInt)))) (Ex.refl _) C G_l_told (by decide) (VS.gl tb_law 22) (d := (x190.1, x143)) (as_cons ((ee_v (VS.var tb_law 12 12) rfl (Rel.mono _ xM_l_told_here r205))).toB (as_cons (ev_v (VS.var tb_law 11 11) rfl rfl) as_nil)) h209) (fun v214 B210 H211 S212 e213 r215 => ?_)
      refine s_if S212 ((ew_or' (c_isN.et ((ee_v (VS.var tb_law 14 14) rfl r215)).toB ev_n) fun _ => (ew_or1 ((c_neD (R := (rOpt (rH3 (rLst (rPr rInt rInt)) (rLst (rPr rInt (rTup rInt))) (rLst rInt)))) C.hu64).et ((ee_fg (R' := (rOpt (rH3 (rLst (rPr rInt rInt)) (rLst (rPr rInt (rTup rInt))) (rLst rInt)))) (ee_v (VS.var tb_law 14 14) rfl r215))).toB ((ee_some (ee_v (VS.var tb_law 13 13) rfl (Rel.mono _ (xM_l_told_here.trans e213) r207)))).toB)))).t (fun z216 B217 H218 S219 e220 => ?_) (fun z216 B221 H222 S223 e224 => ?_)
      · replace F := Fin.tt F z216
        exact s_retE S219 (ev_bl).toE F
      · replace F := Fin.ff F z216
        refine WSs.nil ?_
        obtain ⟨x225, h226, F⟩ := Fin.of F
        obtain ⟨h227, F⟩ := Fin.need F
        refine s_chg3 C G_l_changed (by decide) (VS.gl tb_law 23) SM_l_told_here (e213.trans e224) S223 (ee_unopt (ee_v (VS.var tb_law 14 14) rfl (Rel.mono _ e224 r215)) h226) (ev_mod (ev_div (ev_v (VS.var tb_law 1 1) rfl rfl) ev_i ⟨by decide, by decide⟩) ev_i (by decide)) h227 (fun B228 H229 S230 e231 tx232 => ?_)
        exact WSs.nil ⟨(), _, _, F, S230, (xM_l_told_here.trans e231), ⟨_, _, _, rfl, rfl⟩⟩
    · obtain ⟨j188_14, j188_12, j188_13, rfl, rfl⟩ := iv201
      exact WSs.nil ⟨(), _, _, F, S199, e200, ⟨_, _, _, _, rfl, rfl⟩⟩
  · obtain ⟨j141_12, j141_13, j141_14, j141_11, rfl, rfl⟩ := iv154
    refine s_forR C (tg_pair (R := rInt) (S := (rTup rInt)) C (VS.slot tb_law fn 15 15) (VS.slot tb_law fn 6 6)) S152 (ei_E (ee_v (VS.var tb_law 3 3) rfl (Rel.mono _ (((((e27.trans e31).trans e44).trans e56).trans e62).trans e153) r14))) F (fun (a : Unit) σ' own' B' => ∃ (j262_15 : Option V), ∃ (j262_6 : Option V), σ' = [some v1, some (.int r1), some v9, some v10, some v11, some v12, j262_6, some (.ref p22), some v45, some v57, some v63, j141_11, j141_12, j141_13, j141_14, j262_15, none] ∧ own' = [])
        (fun Bz e => ⟨_, _, rfl, rfl⟩) (fun _ _ _ _ _ => trivial) (fun _ _ _ _ _ h e => by obtain ⟨w0, w1, h1, h2⟩ := h; exact ⟨w0, w1, h1, h2⟩) (fun a263 x264 _ _ _ B265 H266 Q270 iv269 S267 e268 tg F => ?_) (fun a276 _ _ B271 H272 iv275 S273 e274 F => ?_)
    · obtain ⟨j262_15i, j262_6i, rfl, rfl⟩ := iv269
      obtain ⟨v278, v279, rfl, r280, rfl⟩ := tg
      obtain ⟨r281, h282, F⟩ := Fin.get F
      obtain ⟨b295, h296, F⟩ := Fin.get F
      refine s_if S267 ((ew_or ((c_neD (R := (rOpt (rTup rInt))) C.hu64).et ((ee_meth C TT.cls G_Table_row (by decide) ((ee_v (VS.var tb_law 8 8) rfl (Rel.mono _ (((e56.trans e62).trans e153).trans e268) r46))).toB (insTab (by decide +kernel)) (d := (r39, x264.1)) (as_cons (ev_v (VS.var tb_law 15 15) rfl rfl) as_nil) rfl h282)).toB ((ee_some (ee_v (VS.var tb_law 6 6) rfl r280))).toB) (fun hz => by
                                                                have q297 := Res.ff_ok h296 hz
                                                                obtain ⟨b292, h293, q297⟩ := Res.bind_ok q297
                                                                have q297 := Res.ok_inj q297
                                                                rw [← q297]
                                                                exact (ew_or1 ((ew_and (c_eqI.et (ev_lenT (VS.gl tb_law 24) T.len ((ee_v (VS.var tb_law 6 6) rfl r280)).toB) ev_i) (fun hz => by
                                                                have q294 := Res.tt_ok h293 hz
                                                                obtain ⟨b289, h290, q294⟩ := Res.bind_ok q294
                                                                have q294 := Res.ok_inj q294
                                                                rw [← q294]
                                                                exact (ew_and (et_nin (ev_v (VS.var tb_law 15 15) rfl rfl) ((ee_v (VS.var tb_law 4 4) rfl (Rel.mono _ ((((((e27.trans e31).trans e44).trans e56).trans e62).trans e153).trans e268) r15))).toB) (fun hz => by
                                                                have q291 := Res.tt_ok h290 hz
                                                                obtain ⟨x283, h284, q291⟩ := Res.of_ok q291
                                                                obtain ⟨x285, h286, q291⟩ := Res.of_ok q291
                                                                obtain ⟨r287, h288, q291⟩ := Res.bind_ok q291
                                                                have q291 := Res.ok_inj q291
                                                                rw [← q291]
                                                                exact (ew_and1 ((c_neD (R := (rOpt rInt)) C.hu64).et ((ee_meth C TT.cls G_Table_pair (by decide) ((ee_v (VS.var tb_law 8 8) rfl (Rel.mono _ (((e56.trans e62).trans e153).trans e268) r46))).toB (insTab (by decide +kernel)) (d := (r39, x283, x285)) (as_cons (ev_ixT ((ee_v (VS.var tb_law 6 6) rfl r280)).toB ev_i h284) (as_cons (ev_ixT ((ee_v (VS.var tb_law 6 6) rfl r280)).toB ev_i h286) as_nil)) rfl h288)).toB (ev_some (ev_v (VS.var tb_law 15 15) rfl rfl))))
                                                            ) (fun hz => (Res.ok_inj (Res.ff_ok h290 hz)).symm))
                                                            ) (fun hz => (Res.ok_inj (Res.ff_ok h293 hz)).symm))).t)
                                                            ) (fun hz => (Res.ok_inj (Res.tt_ok h296 hz)).symm))).t (fun z298 B299 H300 S301 e302 => ?_) (fun z298 B303 H304 S305 e306 => ?_)
      · replace F := Fin.tt F z298
        exact s_retE S301 (ev_bl).toE F
      · replace F := Fin.ff F z298
        refine WSs.nil ?_
        exact WSs.nil ⟨(), _, _, F, S305, e306, ⟨_, _, rfl, rfl⟩⟩
    · obtain ⟨j262_15, j262_6, rfl, rfl⟩ := iv275
      obtain ⟨l310, h311, F⟩ := Fin.get F
      refine s_if S273 (et_not (et_val (ev_all C.calm (VS.gl tb_law 25) T.all ((el_lc (S := rBool) C (VS.blk bk_law_c2) (ei_E (ee_v (VS.var tb_law 2 2) rfl (Rel.mono _ ((((((e27.trans e31).trans e44).trans e56).trans e62).trans e153).trans e274) r13))) (fun _ _ => trivial) (fun Xb hX => tg_pair (R := rInt) (S := rInt) (hX.cok C) (hX.slot VS tb_law_c2 15 0) (hX.slot VS tb_law_c2 16 1)) h311
                                                            (fun Xb i307 σ2 acc Dd Bc2 Hc2 b hX2 S1002 ec2 tg hb => by
                                                                obtain ⟨v1002, w1002, rfl, rfl, rfl⟩ := tg
                                                                have T2 : Blt Xb.mg := by rw [hX2.mg]; exact T
                                                                have TT2 : TabTxt Xb.K CT := by rw [hX2.K]; exact TT
                                                                have hb := Res.ok_inj hb
                                                                subst hb
                                                                exact ets_nil
                                                            )
                                                            (fun Xb i307 y σ2 acc Dd Bc2 Hc2 hX2 S1002 ec2 tg hb hf => by
                                                                obtain ⟨v1002, w1002, rfl, rfl, rfl⟩ := tg
                                                                have T2 : Blt Xb.mg := by rw [hX2.mg]; exact T
                                                                have TT2 : TabTxt Xb.K CT := by rw [hX2.K]; exact TT
                                                                obtain ⟨r308, h309, hf⟩ := Res.bind_ok hf
                                                                have hf := Res.ok_inj hf
                                                                subst hf
                                                                exact ((c_eqI.ev ((ee_meth (hX2.cok C) TT2.cls (hX2.mcal G_Table_rank) (by decide) ((ee_v ((hX2.scp VS).var tb_law_c2 8 2) rfl (Rel.mono _ ((((e56.trans e62).trans e153).trans e274).trans ec2) r46))).toB (insTab (by decide +kernel)) (d := (r39, i307.1)) (as_cons (ev_v ((hX2.scp VS).var tb_law_c2 15 0) rfl rfl) as_nil) rfl h309)).toB (ev_v ((hX2.scp VS).var tb_law_c2 16 1) rfl rfl))).toE
                                                            ) (fun x B3 σ2 h => by obtain ⟨v, w, _, _, rfl⟩ := h; rfl) (fun x B3 B4 σ2 ⟨v, w, r, r2, q⟩ e => ⟨v, w, Rel.mono _ e r, Rel.mono _ e r2, q⟩))).toB))) (fun z312 B313 H314 S315 e316 => ?_) (fun z312 B317 H318 S319 e320 => ?_)
      · replace F := Fin.tt F z312
        exact s_retE S315 (ev_bl).toE F
      · replace F := Fin.ff F z312
        refine WSs.nil ?_
        obtain ⟨M_l_told_here, SM_l_told_here, xM_l_told_here⟩ : ∃ M, Stt _ _ M _ ∧ Ex B317 M := ⟨_, S319, Ex.refl _⟩
        obtain ⟨r321, h322, F⟩ := Fin.get F
        refine s_asg C (VS.slot tb_law fn 14 14) SM_l_told_here (ee_callN (RR := fun B => (rOpt (rH3N B (rLstN B (rPr rInt rInt)) (rLstN B (rPr rInt (rTup rInt))) (rLstN B rInt)))) (Ex.refl _) C G_l_told (by decide) (VS.gl tb_law 22) (d := (r39, 0)) (as_cons ((ee_v (VS.var tb_law 8 8) rfl (Rel.mono _ (((((e56.trans e62).trans e153).trans e274).trans e320).trans xM_l_told_here) r46))).toB (as_cons ev_i as_nil)) h322) (fun v327 B323 H324 S325 e326 r328 => ?_)
        obtain ⟨b341, h342, F⟩ := Fin.get F
        exact s_retE S325 ((ev_and (c_notN.ev ((ee_v (VS.var tb_law 14 14) rfl r328)).toB ev_n) (fun hz => by
                                                                have q343 := Res.tt_ok h342 hz
                                                                obtain ⟨x329, h330, q343⟩ := Res.of_ok q343
                                                                obtain ⟨x331, h332, q343⟩ := Res.of_ok q343
                                                                obtain ⟨x333, h334, q343⟩ := Res.of_ok q343
                                                                obtain ⟨r335, h336, q343⟩ := Res.bind_ok q343
                                                                obtain ⟨r337, h338, q343⟩ := Res.bind_ok q343
                                                                obtain ⟨x339, h340, q343⟩ := Res.of_ok q343
                                                                have q343 := Res.ok_inj q343
                                                                rw [← q343]
                                                                exact (ev_one ((c_eqD (R := (rOpt (rH3 (rLst (rPr rInt rInt)) (rLst (rPr rInt (rTup rInt))) (rLst rInt)))) C.hu64).ev ((ee_fg (R' := (rOpt (rH3 (rLst (rPr rInt rInt)) (rLst (rPr rInt (rTup rInt))) (rLst rInt)))) (ee_callN (RR := fun B => (rOpt (rH3N B (rLstN B (rPr rInt rInt)) (rLstN B (rPr rInt (rTup rInt))) (rLstN B rInt)))) e326 C G_l_told (by decide) (VS.gl tb_law 22) (d := (r335, 1)) (as_cons ((ee_make C G_Table___init__ (by decide) (VS.gl tb_law 18) (d := (x329.1, x331.2.1, x333.2.2)) (as_cons (ev_h30 (q := x329) ((ee_unopt (ee_fg (R' := (rOpt (rH3 (rLst (rPr rInt rInt)) (rLst (rPr rInt (rTup rInt))) (rLst rInt)))) (ee_v (VS.var tb_law 14 14) rfl r328)) h330)).toB) (as_cons (ev_h31 (q := x331) ((ee_unopt (ee_fg (R' := (rOpt (rH3 (rLst (rPr rInt rInt)) (rLst (rPr rInt (rTup rInt))) (rLst rInt)))) (ee_v (VS.var tb_law 14 14) rfl r328)) h332)).toB) (as_cons (ev_h32 (q := x333) ((ee_unopt (ee_fg (R' := (rOpt (rH3 (rLst (rPr rInt rInt)) (rLst (rPr rInt (rTup rInt))) (rLst rInt)))) (ee_v (VS.var tb_law 14 14) rfl r328)) h334)).toB) as_nil))) h336)).toB (as_cons ev_i as_nil)) h338))).toB ((ee_some (ee_ixL (ee_v (VS.var tb_law 10 10) rfl (Rel.mono _ ((((e153.trans e274).trans e320).trans xM_l_told_here).trans e326) r64)) ev_i h340))).toB))
                                                            ) (fun hz => (Res.ok_inj (Res.ff_ok h342 hz)).symm))).toE F
/-! ### tables that are right -/
structure TabOk (marks : List (Int × Int)) (rows : List (Int × List Int)) (shuts : List Int) (sz : Int → Int) (dp : Int → Nat) : Prop where
  nd : (marks.map (·.1) ++ rows.map (·.1)).Nodup
  sn : shuts.Nodup
  sh : ∀ s ∈ shuts, ∃ r, (s, r) ∈ rows ∧ r.length = 2
  al : ∀ s s' r, (s, r) ∈ rows → (s', r) ∈ rows → r.length = 2 → s ∉ shuts → s' ∉ shuts → s = s'
  few : marks.length + rows.length < 64
  hsz : ∀ s r, (s, r) ∈ rows → sz s = (r.map fun p => if p ∈ rows.map (·.1) then sz p else 1).sum
  hle : ∀ s r, (s, r) ∈ rows → sz s ≤ 16
  hdp : ∀ s r, (s, r) ∈ rows → ∀ p ∈ r, p ∈ rows.map (·.1) → dp p < dp s
section
variable {marks : List (Int × Int)} {rows : List (Int × List Int)} {shuts : List Int} {sz : Int → Int} {dp : Int → Nat}
theorem told_none {xs : List Int} (h : xs.Nodup) : m_told_again xs = .ok [] := by
  unfold m_told_again
  have e : ((sortI xs).zip (cut (sortI xs) (some 1) none)).filter (fun i => decide (i.1 = i.2)) = [] := by
    rw [show cut (sortI xs) (some 1) none = (sortI xs).drop 1 from cut_tail _ 1, List.filter_eq_nil_iff]
    intro p hp
    simpa using zip_adj (sortI_nd h) p hp
  rw [e]
  rfl
theorem TabOk.rn (T : TabOk marks rows shuts sz dp) : (rows.map (·.1)).Nodup := (List.nodup_append.mp T.nd).2.1
theorem TabOk.mn (T : TabOk marks rows shuts sz dp) : (marks.map (·.1)).Nodup := (List.nodup_append.mp T.nd).1
theorem TabOk.fewS (T : TabOk marks rows shuts sz dp) : shuts.length < 64 := by
  have h : shuts.length ≤ (rows.map (·.1)).length := nd_len T.sn fun s hs => by
    obtain ⟨r, hr, _⟩ := T.sh s hs
    exact List.mem_map.mpr ⟨(s, r), hr, rfl⟩
  rw [List.length_map] at h
  have := T.few
  omega
theorem sl64 {n : Nat} (h : n < 1000) : n ≤ sizeLine := by rw [sizeLine_eq]; omega
theorem sl64' {n : Nat} (h : n < 1000) : n < sizeLine := by rw [sizeLine_eq]; omega
theorem twice_ok (T : TabOk marks rows shuts sz dp) : m_look_for_twice marks rows shuts = .ok () := by
  unfold m_look_for_twice
  rw [need_pos (sl64 (by have := T.few; simp only [List.length_map]; omega)), bind_eq (told_none T.nd), bind_eq (told_none T.sn), need_pos (sl64 (by decide))]
  rfl
theorem shuts_ok (T : TabOk marks rows shuts sz dp) : m_look_at_shuts rows (sortI shuts) = .ok () := by
  unfold m_look_at_shuts
  rw [bind_eq (forM_all fun x hx => ?_)]
  obtain ⟨r, hr, hl⟩ := T.sh x (sortI_mem.mp (sortI_mem.mp hx))
  rw [dget_of T.rn hr]
  show (if (!decide ((r.length : Int) = 2)) = true then _ else _) = _
  rw [hl]
  rfl
/-- what the wholes tell -/
def WOk (rows : List (Int × List Int)) (shuts : List Int) (W : List (List Int × Int)) : Prop := ∀ key s, dget W key = some s ↔ (s, key) ∈ rows ∧ key.length = 2 ∧ s ∉ shuts
theorem wholes_ok (T : TabOk marks rows shuts sz dp) : ∃ W, m_wholes_of rows (sortI shuts) = .ok W ∧ WOk rows shuts W ∧ (W.map (·.1)).Nodup := by
  unfold m_wholes_of
  rw [need_pos (by have := T.few; omega)]
  have nd := sortI_nd T.rn
  obtain ⟨a, ea, h1, h2, h3, h4⟩ := forM_inv0 (xs := sortI (rows.map (·.1))) (a := (([] : List (Int × Int)), ([] : List (List Int × Int))))
    (step := fun (a61 : ((List (Int × Int)) × (List (List Int × Int)))) (x62 : Int) => ((Res.of (dget rows x62)).bind fun x81 => if ((!decide (((x81).length : Int) = 2)) || (decide (x62 ∈ sortI shuts))) = true then Res.ok (a61.1, a61.2) else if (dget a61.2 x81).isSome = true then (Res.of (dget a61.2 x81)).bind fun x103 => Res.need (a61.1.length < sizeLine) (Res.ok ((a61.1 ++ [(x103, x62)]), a61.2)) else Res.need (a61.2.length < sizeLine) (Res.ok (a61.1, (dput a61.2 x81 x62)))))
    (fun pr a => a.1 = [] ∧ (∀ key s, dget a.2 key = some s ↔ s ∈ pr ∧ (s, key) ∈ rows ∧ key.length = 2 ∧ s ∉ shuts) ∧ a.2.length ≤ pr.length ∧ (a.2.map (·.1)).Nodup)
    ⟨rfl, fun key s => by simp [dget_nil], Nat.le_refl _, List.nodup_nil⟩ (fun pr x po a eq ⟨h1, h2, h3, h5⟩ => by
      have hx : x ∈ rows.map (·.1) := sortI_mem.mp (by rw [eq]; simp)
      obtain ⟨⟨s0, r⟩, hr, e0⟩ := List.mem_map.mp hx
      have e0' : s0 = x := e0
      subst e0'
      have hpr : s0 ∉ pr := by
        rw [eq] at nd
        have := (List.nodup_append.mp nd).2.2
        exact fun z => this _ z _ (List.mem_cons_self ..) rfl
      have hlen : pr.length < 64 := by
        have : (sortI (rows.map (·.1))).length = rows.length := by rw [sortI_len, List.length_map]
        rw [eq, List.length_append] at this
        have := T.few
        omega
      have uni : ∀ key, (s0, key) ∈ rows → key = r := fun key hk => by
        have q1 := dget_of T.rn hk
        rw [dget_of T.rn hr] at q1
        exact (Option.some.inj q1).symm
      show ∃ a', ((Res.of (dget rows s0)).bind _) = _ ∧ _
      rw [of_some (dget_of T.rn hr)]
      by_cases hc : r.length = 2 ∧ s0 ∉ shuts
      · obtain ⟨hc1, hc2⟩ := hc
        have t1 : ((!decide ((r.length : Int) = 2)) || (decide (s0 ∈ sortI shuts))) = false := by
          rw [hc1, decide_eq_false (fun z => hc2 (sortI_mem.mp z))]
          rfl
        have t2 : dget a.2 r = none := by
          cases e : dget a.2 r with
          | none => rfl
          | some s' =>
            obtain ⟨p1, p2, p3, p4⟩ := (h2 r s').mp e
            have := T.al s0 s' r hr p2 hc1 hc2 p4
            exact absurd (this ▸ p1) hpr
        rw [t1, t2, if_neg Bool.false_ne_true]
        show ∃ a', (if (none : Option Int).isSome = true then _ else _) = _ ∧ _
        rw [if_neg (by decide), need_pos (sl64' (by omega))]
        refine ⟨_, rfl, h1, fun key s => ?_, ?_, dput_nd h5⟩
        · show dget (dput a.2 r s0) key = some s ↔ _
          rw [dget_dput]
          by_cases hk : r = key
          · rw [if_pos hk, ← hk]
            constructor
            · intro z
              have : s0 = s := Option.some.inj z
              rw [← this]
              exact ⟨by simp, hr, hc1, hc2⟩
            · rintro ⟨z1, z2, z3, z4⟩
              rw [T.al s0 s r hr z2 z3 hc2 z4]
          · rw [if_neg hk, h2]
            constructor
            · rintro ⟨z1, z2⟩
              exact ⟨by simp [z1], z2⟩
            · rintro ⟨z1, z2, z3⟩
              refine ⟨?_, z2, z3⟩
              rcases List.mem_append.mp z1 with z | z
              · exact z
              · have := List.mem_singleton.mp z
                subst this
                exact absurd (uni key z2).symm hk
        · show (dput a.2 r s0).length ≤ _
          rw [dput_new (dget_none.mp t2), List.length_append, List.length_append]
          exact Nat.add_le_add_right h3 1
      · have t1 : ((!decide ((r.length : Int) = 2)) || (decide (s0 ∈ sortI shuts))) = true := by
          by_cases q : r.length = 2
          · have : s0 ∈ shuts := Classical.byContradiction fun z => hc ⟨q, z⟩
            rw [decide_eq_true (sortI_mem.mpr this), Bool.or_true]
          · rw [decide_eq_false (by omega)]
            rfl
        rw [t1, if_pos rfl]
        refine ⟨_, rfl, h1, fun key s => ?_, ?_, h5⟩
        · rw [h2]
          constructor
          · rintro ⟨z1, z2⟩
            exact ⟨by simp [z1], z2⟩
          · rintro ⟨z1, z2, z3, z4⟩
            refine ⟨?_, z2, z3, z4⟩
            rcases List.mem_append.mp z1 with z | z
            · exact z
            · have := List.mem_singleton.mp z
              subst this
              exact absurd ⟨(uni key z2) ▸ z3, z4⟩ hc
        · rw [List.length_append]
          exact Nat.le_succ_of_le h3)
  refine ⟨a.2, ?_, fun key s => ?_, h4⟩
  · rw [bind_eq ea]
    show (if (!decide (a.1 = [])) = true then _ else _) = _
    rw [h1]
    rfl
  · rw [h2]
    constructor
    · rintro ⟨_, z⟩
      exact z
    · intro z
      exact ⟨sortI_mem.mpr (List.mem_map.mpr ⟨(s, key), z.1, rfl⟩), z⟩
end

section
variable {marks : List (Int × Int)} {rows : List (Int × List Int)} {shuts : List Int} {sz : Int → Int} {dp : Int → Nat}
theorem ready_ok {sizes : List (Int × Int)} {x : Int} {r : List Int} (h : dget rows x = some r) : m_is_ready rows sizes x = .ok ((r.map fun p => (!(dget rows p).isSome) || (dget sizes p).isSome).all id) := by
  unfold m_is_ready
  rw [of_some h]
/-- what is known of sizes while they are reckoned -/
structure SzInv (rows : List (Int × List Int)) (sz : Int → Int) (sizes : List (Int × Int)) : Prop where
  nd : (sizes.map (·.1)).Nodup
  sub : ∀ k ∈ sizes.map (·.1), k ∈ rows.map (·.1)
  val : ∀ k v, dget sizes k = some v → v = sz k
theorem SzInv.len {sizes : List (Int × Int)} (h : SzInv rows sz sizes) : sizes.length ≤ rows.length := by
  have := nd_len h.nd h.sub
  simpa using this
theorem min_depth (dp : Int → Nat) : ∀ (xs : List Int), xs ≠ [] → ∃ x ∈ xs, ∀ y ∈ xs, dp x ≤ dp y
  | [], h => absurd rfl h
  | [x], _ => ⟨x, List.mem_cons_self .., fun y hy => by rw [List.mem_singleton.mp hy]; exact Nat.le_refl _⟩
  | x :: y :: r, _ => by
    obtain ⟨z, hz, hm⟩ := min_depth dp (y :: r) (by simp)
    by_cases h : dp x ≤ dp z
    · exact ⟨x, List.mem_cons_self .., fun w hw => by
        rcases List.mem_cons.mp hw with rfl | hw
        · exact Nat.le_refl _
        · exact Nat.le_trans h (hm w hw)⟩
    · exact ⟨z, List.mem_cons_of_mem _ hz, fun w hw => by
        rcases List.mem_cons.mp hw with rfl | hw
        · omega
        · exact hm w hw⟩
theorem sizes_step (T : TabOk marks rows shuts sz dp) {sizes : List (Int × Int)} (I : SzInv rows sz sizes) : ∀ (rd pre : List Int) (a : List (Int × Int)), SzInv rows sz a → (∀ k ∈ sizes.map (·.1), k ∈ a.map (·.1)) → a.length = sizes.length + pre.length → (pre ++ rd).Nodup →
    (∀ k ∈ rd, k ∉ a.map (·.1)) → (∀ k ∈ rd, ∃ r, dget rows k = some r ∧ ∀ p ∈ r, p ∈ rows.map (·.1) → p ∈ sizes.map (·.1)) →
    ∃ a', forM (fun (a129 : (List (Int × Int))) (x130 : Int) => ((Res.of (dget rows x130)).bind fun x147 => Res.need (a129.length < sizeLine) (Res.ok (dput a129 x130 (((x147.map fun i149 => ((dget a129 i149).getD 1))).sum))) : Res (List (Int × Int)))) rd a = .ok a' ∧ SzInv rows sz a' ∧ (∀ k ∈ sizes.map (·.1), k ∈ a'.map (·.1)) ∧ (∀ k ∈ rd, k ∈ a'.map (·.1)) ∧ (∀ k ∈ a.map (·.1), k ∈ a'.map (·.1)) ∧ a'.length = sizes.length + (pre ++ rd).length
  | [], pre, a, J, hk, hl, nd, hn, hr => ⟨a, rfl, J, hk, fun k h => (by cases h), fun k h => h, by rw [List.append_nil]; exact hl⟩
  | x :: rd, pre, a, J, hk, hl, nd, hn, hr => by
    obtain ⟨r, er, hp⟩ := hr x (List.mem_cons_self ..)
    have hx : x ∉ a.map (·.1) := hn x (List.mem_cons_self ..)
    have hxr : x ∈ rows.map (·.1) := dget_isSome.mp (by rw [er]; rfl)
    have al := J.len
    have fw := T.few
    have sum : ((r.map fun i149 => ((dget a i149).getD 1))).sum = sz x := by
      rw [T.hsz x r (dget_mem er)]
      congr 1
      apply List.map_congr_left
      intro p hpr
      by_cases hq : p ∈ rows.map (·.1)
      · rw [if_pos hq]
        have h1 := dget_isSome.mpr (hk p (hp p hpr hq))
        cases e : dget a p with
        | none => rw [e] at h1; cases h1
        | some v => exact J.val p v e
      · rw [if_neg hq, dget_none.mpr (fun z => hq (J.sub p z))]
        rfl
    have J' : SzInv rows sz (dput a x (sz x)) := ⟨dput_nd J.nd, fun k h => by
      rw [dput_keys, if_neg hx] at h
      rcases List.mem_append.mp h with h | h
      · exact J.sub k h
      · rw [List.mem_singleton.mp h]; exact hxr, fun k v h => by
      rw [dget_dput] at h
      by_cases e : x = k
      · rw [if_pos e] at h
        rw [← e]
        exact (Option.some.inj h).symm
      · rw [if_neg e] at h
        exact J.val k v h⟩
    have keys : (dput a x (sz x)).map (·.1) = a.map (·.1) ++ [x] := by rw [dput_keys, if_neg hx]
    obtain ⟨a', e', q1, q2, q3, q4, q5⟩ := sizes_step T I rd (pre ++ [x]) (dput a x (sz x)) J' (fun k h => by rw [keys]; exact List.mem_append_left _ (hk k h))
      (by rw [dput_new hx, List.length_append, hl, List.length_append]; rfl) (by rw [List.append_assoc]; exact nd)
      (fun k h => by
        rw [keys]
        intro z
        rcases List.mem_append.mp z with z | z
        · exact hn k (List.mem_cons_of_mem _ h) z
        · have : k = x := List.mem_singleton.mp z
          subst this
          have := (List.nodup_append.mp nd).2.1
          exact (List.nodup_cons.mp this).1 h) (fun k h => hr k (List.mem_cons_of_mem _ h))
    refine ⟨a', ?_, q1, q2, fun k h => ?_, fun k h => q4 k (by rw [keys]; exact List.mem_append_left _ h), by rw [q5, List.append_assoc]; rfl⟩
    · unfold forM
      rw [of_some er, need_pos (sl64' (by omega)), sum]
      exact e'
    · rcases List.mem_cons.mp h with rfl | h
      · exact q4 k (by rw [keys]; simp)
      · exact q3 k h
theorem sizes_ok (T : TabOk marks rows shuts sz dp) : ∃ sizes, m_sizes_of rows = .ok sizes ∧ SzInv rows sz sizes ∧ ∀ k ∈ rows.map (·.1), k ∈ sizes.map (·.1) := by
  unfold m_sizes_of
  have key := whileR_inv (step := fun (a75 : ((List Int) × (List (Int × Int)))) => (if (!decide (a75.1 = ([] : List Int))) = true then (mfM (fun i97 : Int => (if (!(dget a75.2 i97).isSome) = true then (m_is_ready rows a75.2 i97).bind fun r98 => Res.ok r98 else Res.ok false).bind fun b100 => Res.ok b100) (fun i97 => Res.ok i97) (rows.map (·.1))).bind fun l103 => (forM (fun (a129 : (List (Int × Int))) (x130 : Int) => ((Res.of (dget rows x130)).bind fun x147 => Res.need (a129.length < sizeLine) (Res.ok (dput a129 x130 (((x147.map fun i149 => ((dget a129 i149).getD 1))).sum))) : Res (List (Int × Int)))) l103 a75.2).bind fun (a142 : (List (Int × Int))) => Res.ok (Sum.inr (l103, a142)) else Res.ok (Sum.inl (a75.1, a75.2)) : Res (((List Int) × (List (Int × Int))) ⊕ ((List Int) × (List (Int × Int))))))
    (fun a => SzInv rows sz a.2 ∧ (a.1 = [] → ∀ k ∈ rows.map (·.1), k ∈ a.2.map (·.1)))
    (fun u => SzInv rows sz u.2 ∧ ∀ k ∈ rows.map (·.1), k ∈ u.2.map (·.1))
    (fun a => 2 * (rows.length - a.2.length) + (if a.1 = [] then 0 else 1)) (fun a ⟨J, hf⟩ => ?_) 100000 ((rows.map (·.1)), ([] : (List (Int × Int)))) ⟨⟨List.nodup_nil, fun k h => (by cases h), fun k v h => (by cases h)⟩, fun h k hk => (by rw [show rows.map (·.1) = [] from h] at hk; cases hk)⟩ (by
      have := T.few
      show 2 * (rows.length - 0) + (if rows.map (·.1) = [] then 0 else 1) < 100000
      split <;> omega)
  · obtain ⟨u, e, q⟩ := key
    exact ⟨u.2, by rw [bind_eq e], q⟩
  · by_cases h0 : a.1 = []
    · refine .inl ⟨(a.1, a.2), ?_, J, hf h0⟩
      rw [if_neg (by rw [h0]; decide)]
    · refine .inr ?_
      rw [if_pos (by rw [decide_eq_false h0]; rfl)]
      let cb : Int → Bool := fun i => if (!(dget a.2 i).isSome) = true then (((dget rows i).getD []).map fun p => (!(dget rows p).isSome) || (dget a.2 p).isSome).all id else false
      have em := mfM_ok (xs := rows.map (·.1)) (c := fun i97 : Int => (if (!(dget a.2 i97).isSome) = true then (m_is_ready rows a.2 i97).bind fun r98 => Res.ok r98 else Res.ok false).bind fun b100 => Res.ok b100) (f := fun i97 : Int => Res.ok i97) (cb := cb) (fb := fun i => i) (fun x hx => by
        obtain ⟨⟨s0, r⟩, hr, e0⟩ := List.mem_map.mp hx
        have e0' : s0 = x := e0
        subst e0'
        have er := dget_of T.rn hr
        show _ = Res.ok (if _ then _ else _)
        by_cases hs : (!(dget a.2 s0).isSome) = true
        · rw [if_pos hs, if_pos hs, bind_eq (ready_ok er), er]
          rfl
        · rw [if_neg hs, if_neg hs]
          rfl) (fun x _ _ => rfl)
      have hm : ∀ k, k ∈ ((rows.map (·.1)).filter cb).map (fun i => i) ↔ k ∈ rows.map (·.1) ∧ k ∉ a.2.map (·.1) ∧ ∀ p ∈ (dget rows k).getD [], p ∈ rows.map (·.1) → p ∈ a.2.map (·.1) := fun k => by
        rw [List.map_id', List.mem_filter]
        refine and_congr_right fun hk => ?_
        show (if (!(dget a.2 k).isSome) = true then _ else false) = true ↔ _
        by_cases hs : k ∈ a.2.map (·.1)
        · rw [dget_isSome.mpr hs]
          simp [hs]
        · have : (dget a.2 k).isSome = false := by rw [dget_none.mpr hs]; rfl
          rw [this, if_pos (show (!false) = true from rfl), List.all_eq_true]
          constructor
          · intro z
            refine ⟨hs, fun p hp hr => ?_⟩
            have := z _ (List.mem_map.mpr ⟨p, hp, rfl⟩)
            rw [dget_isSome.mpr hr] at this
            exact dget_isSome.mp (by simpa using this)
          · rintro ⟨_, z⟩ b hb
            obtain ⟨p, hp, e⟩ := List.mem_map.mp hb
            rw [← e]
            by_cases hr : p ∈ rows.map (·.1)
            · rw [dget_isSome.mpr (z p hp hr)]
              simp
            · rw [dget_none.mpr hr]
              rfl
      rw [bind_eq em]
      generalize hrd : ((rows.map (·.1)).filter cb).map (fun i => i) = rd at hm
      have rdnd : rd.Nodup := by
        rw [← hrd, List.map_id']
        exact T.rn.sublist (List.filter_sublist ..)
      obtain ⟨a', e', q1, q2, q3, q4, q5⟩ := sizes_step T J rd [] a.2 J (fun k h => h) (by simp) rdnd (fun k h => ((hm k).mp h).2.1) (fun k h => by
        obtain ⟨z1, z2, z3⟩ := (hm k).mp h
        have := dget_isSome.mpr z1
        cases e : dget rows k with
        | none => rw [e] at this; cases this
        | some r =>
          rw [e] at z3
          exact ⟨r, rfl, z3⟩)
      rw [bind_eq e']
      refine ⟨_, rfl, ⟨q1, fun h k hk => ?_⟩, ?_⟩
      · -- nothing was ready: all have their size
        have h' : rd = [] := h
        refine Classical.byContradiction fun hz => ?_
        have ha : k ∉ a.2.map (·.1) := fun z => hz (q4 k z)
        obtain ⟨x, hx, hmin⟩ := min_depth dp ((rows.map (·.1)).filter fun i => !decide (i ∈ a.2.map (·.1))) (fun z => by
          have : k ∈ (rows.map (·.1)).filter fun i => !decide (i ∈ a.2.map (·.1)) := List.mem_filter.mpr ⟨hk, by rw [decide_eq_false ha]; rfl⟩
          rw [z] at this
          cases this)
        obtain ⟨x1, x2⟩ := List.mem_filter.mp hx
        have x3 : x ∉ a.2.map (·.1) := by simpa using x2
        have : x ∈ rd := (hm x).mpr ⟨x1, x3, fun p hp hr => Classical.byContradiction fun hpn => by
          have h1 := hmin p (List.mem_filter.mpr ⟨hr, by rw [decide_eq_false hpn]; rfl⟩)
          have h2 := dget_isSome.mpr x1
          cases e : dget rows x with
          | none => rw [e] at h2; cases h2
          | some r =>
            rw [e] at hp
            have h3 := T.hdp x r (dget_mem e) p hp hr
            omega⟩
        rw [h'] at this
        cases this
      · show 2 * (rows.length - a'.length) + (if rd = [] then 0 else 1) < 2 * (rows.length - a.2.length) + (if a.1 = [] then 0 else 1)
        rw [if_neg h0]
        have l1 := q1.len
        rw [List.nil_append] at q5
        cases rd with
        | nil =>
          rw [if_pos rfl, q5, List.length_nil]
          omega
        | cons y t =>
          rw [if_neg (by simp)]
          rw [List.length_cons] at q5
          omega
theorem rings_ok {sizes : List (Int × Int)} (T : TabOk marks rows shuts sz dp) (h : ∀ k ∈ rows.map (·.1), k ∈ sizes.map (·.1)) : m_look_for_rings rows sizes = .ok () := by
  unfold m_look_for_rings
  rw [need_pos (by have := T.few; omega)]
  have : ((sortI (rows.map (·.1))).filter fun i2 => (!(dget sizes i2).isSome)) = [] := by
    rw [List.filter_eq_nil_iff]
    intro k hk
    rw [dget_isSome.mpr (h k (sortI_mem.mp hk))]
    decide
  rw [this]
  rfl
theorem least_ok {sizes : List (Int × Int)} (T : TabOk marks rows shuts sz dp) (J : SzInv rows sz sizes) : m_look_at_sizes sizes = .ok () := by
  unfold m_look_at_sizes
  have hl := J.len
  have hf := T.few
  rw [need_pos (by omega), bind_eq (forM_all fun x hx => ?_)]
  have h1 := sortI_mem.mp hx
  have h2 := dget_isSome.mpr h1
  obtain ⟨⟨s0, r⟩, hr, e0⟩ := List.mem_map.mp (J.sub x h1)
  have e0' : s0 = x := e0
  subst e0'
  cases e : dget sizes s0 with
  | none => rw [e] at h2; cases h2
  | some v =>
    have hv := J.val s0 v e
    have := T.hle s0 r hr
    show (if decide (16 < v) = true then _ else _) = _
    rw [decide_eq_false (by omega)]
    rfl
/-- the table is made -/
theorem table_ok (T : TabOk marks rows shuts sz dp) : ∃ W, m_Table___init__ marks rows shuts = .ok ⟨marks, rows, sortI shuts, W⟩ ∧ WOk rows shuts W := by
  unfold m_Table___init__
  obtain ⟨W, e1, h1, _⟩ := wholes_ok T
  obtain ⟨sizes, e2, h2, h3⟩ := sizes_ok T
  refine ⟨W, ?_, h1⟩
  rw [bind_eq (twice_ok T), dmerge_nd T.rn, dmerge_nd T.mn, bind_eq (shuts_ok T), bind_eq e1, bind_eq e2, bind_eq (rings_ok T h3), bind_eq (least_ok T h2)]
end

/-! ### the first way to draw a table -/
theorem whileR_cnt {τ ρ : Type} {step : τ → Res (ρ ⊕ τ)} (I : Nat → τ → Prop) (P : ρ → Prop) (N : Nat) (hs : ∀ n a, I n a → (∃ u, step a = .ok (.inl u) ∧ P u) ∨ ∃ a', step a = .ok (.inr a') ∧ I (n + 1) a') (hN : ∀ n a, I n a → n ≤ N) : ∀ (f n : Nat) (a : τ), I n a → N < n + f → ∃ u, whileR step f a = .ok u ∧ P u
  | 0, n, a, h, hf => absurd (hN n a h) (by omega)
  | f + 1, n, a, h, hf => by
    unfold whileR
    rcases hs n a h with ⟨u, e, p⟩ | ⟨a', e, h'⟩
    · rw [e]
      exact ⟨u, rfl, p⟩
    · rw [e]
      exact whileR_cnt I P N hs hN f (n + 1) a' h' (by omega)
theorem cell_ok (xs : List Int) (k : Int) (h : 0 ≤ k) : ∃ r, m_l_cell_at xs k = .ok r := by
  unfold m_l_cell_at
  by_cases hk : k < (xs.length : Int)
  · rw [if_pos (decide_eq_true hk)]
    obtain ⟨x, e, _⟩ := atI_in h hk
    exact ⟨x, of_some e⟩
  · rw [if_neg (by simpa using hk)]
    exact ⟨0, rfl⟩
abbrev M60 : Int := powI 10 60
theorem m60 : M60 = 1000000000000000000000000000000000000000000000000000000000000 := by decide +kernel
/-- n steps of one on a ring of M places reach n places -/
theorem ring_nd (a : Int) (n : Nat) (hn : (n : Int) ≤ M60) : ((List.range n).map fun j : Nat => (a + (j : Int)) % M60).Nodup := by
  rw [List.nodup_iff_pairwise_ne, List.pairwise_map]
  refine List.Pairwise.imp_of_mem ?_ (List.pairwise_lt_range)
  intro i j hi hj hlt e
  have hi' := List.mem_range.mp hi
  have hj' := List.mem_range.mp hj
  rw [m60] at *
  omega
theorem sign_ok (c : Int) {pool : List Int} (hp : pool.length < 1000) : ∃ s, m_l_sign c pool = .ok s ∧ s ∉ pool := by
  unfold m_l_sign
  have h4 : 0 ≤ c % 4 ∧ c % 4 < 4 := by omega
  obtain ⟨x5, e5, _⟩ := atI_in (xs := [((c / 4) % 40), ((c / 4) % (powI 10 60)), (((powI 10 60) - 1) - ((c / 4) % 40)), ((c / 4) % 1000)]) h4.1 (by simpa using h4.2)
  rw [of_some e5]
  have hj : ∃ a37, (if ((decide ((c % 4) = 3)) && (!decide (pool = ([] : List Int)))) = true then Res.need (0 < ((pool).length : Int)) ((Res.of (atI pool ((c / 4) % ((pool).length : Int)))).bind fun x25 => Res.ok (((x25 + (((c / 4) / 60) % 3)) - 1) % (powI 10 60))) else Res.ok x5) = Res.ok a37 := by
    by_cases h : ((decide ((c % 4) = 3)) && (!decide (pool = ([] : List Int)))) = true
    · rw [if_pos h]
      rw [Bool.and_eq_true] at h
      have hne : pool ≠ [] := by simpa using h.2
      have hpos : 0 < (pool.length : Int) := by
        have := List.length_pos_iff.mpr hne
        omega
      obtain ⟨x, e, _⟩ := atI_in (xs := pool) (Int.emod_nonneg (c / 4) (by omega)) (Int.emod_lt_of_pos (c / 4) hpos)
      exact ⟨_, by rw [need_pos hpos, of_some e]⟩
    · rw [if_neg h]
      exact ⟨_, rfl⟩
  obtain ⟨a0, e0⟩ := hj
  rw [bind_eq e0]
  obtain ⟨u, eu, pu⟩ := whileR_cnt (step := fun (a48 : Int) => (if (decide (a48 ∈ pool)) = true then Res.ok (Sum.inr ((a48 + 1) % (powI 10 60))) else Res.ok (Sum.inl a48) : Res (Int ⊕ Int)))
    (fun n a => ∃ b, (n = 0 ∧ a = b ∨ a = (b + (n : Int)) % M60 ∧ 0 < n) ∧ ∀ j : Nat, 0 < j → j < n → (b + (j : Int)) % M60 ∈ pool) (fun u => u ∉ pool) (pool.length + 1) (fun n a ⟨b, hb, hq⟩ => by
      by_cases h : a ∈ pool
      · refine .inr ⟨(a + 1) % M60, by rw [if_pos (decide_eq_true h)], b, .inr ⟨?_, Nat.succ_pos _⟩, fun j h1 h2 => ?_⟩
        · rcases hb with ⟨rfl, rfl⟩ | ⟨rfl, _⟩
          · rfl
          · rw [m60]
            omega
        · by_cases hj : j = n
          · rcases hb with ⟨h0, _⟩ | ⟨h0, _⟩
            · omega
            · rw [hj, ← h0]
              exact h
          · exact hq j h1 (by omega)
      · exact .inl ⟨a, by rw [if_neg (by simpa using h)], h⟩) (fun n a ⟨b, hb, hq⟩ => by
      refine Classical.byContradiction fun hc => ?_
      have hn : pool.length + 1 < n := by omega
      have nd := ring_nd (b + 1) (pool.length + 1) (by rw [m60]; omega)
      have := nd_len nd (ys := pool) fun x hx => by
        obtain ⟨j, hj, e⟩ := List.mem_map.mp hx
        have hj' := List.mem_range.mp hj
        have := hq (j + 1) (by omega) (by omega)
        rw [← e]
        rw [show b + 1 + (j : Int) = b + ((j + 1 : Nat) : Int) by omega]
        exact this
      rw [List.length_map, List.length_range] at this
      omega) 100000 0 a0 ⟨a0, .inl ⟨rfl, rfl⟩, fun j h1 h2 => by omega⟩ (by omega)
  exact ⟨u, by rw [bind_eq eu], pu⟩
theorem row_ok (c : Int) {pool : List Int} (h : pool ≠ []) (hl : pool.length < 1000) : ∃ r, m_l_row c pool = .ok r ∧ r ≠ [] ∧ r.length ≤ 2 ∧ ∀ p ∈ r, p ∈ pool := by
  unfold m_l_row
  have hpos : 0 < (pool.length : Int) := by
    have := List.length_pos_iff.mpr h
    omega
  obtain ⟨x, e1, h1⟩ := atI_in (xs := pool) (Int.emod_nonneg (c / 4) (by omega)) (Int.emod_lt_of_pos (c / 4) hpos)
  obtain ⟨y, e2, h2⟩ := atI_in (xs := pool) (Int.emod_nonneg ((c / 4) / (pool.length : Int)) (by omega)) (Int.emod_lt_of_pos ((c / 4) / (pool.length : Int)) hpos)
  rw [need_pos hpos, of_some e1, need_pos ⟨hpos, by omega⟩, need_pos hpos, of_some e2]
  by_cases hz : (decide ((c % 4) = 0)) = true
  · rw [if_pos hz]
    exact ⟨_, rfl, by simp, by simp, by simpa using h1⟩
  · rw [if_neg hz]
    exact ⟨_, rfl, by simp, by simp, fun p hp => by
      rcases List.mem_cons.mp hp with rfl | hp
      · exact h1
      · rw [List.mem_singleton.mp hp]
        exact h2⟩
theorem rank_ok (c : Int) : ∃ r, m_l_rank c = .ok r := by
  unfold m_l_rank
  have h3 : 0 ≤ c % 3 ∧ c % 3 < 3 := by omega
  have : ∃ x1, atI [4, 999, 12] (c % 3) = some x1 ∧ (0 : Int) < x1 := by
    obtain ⟨x, e, hx⟩ := atI_in (xs := [(4 : Int), 999, 12]) h3.1 (by simpa using h3.2)
    refine ⟨x, e, ?_⟩
    simp at hx
    omega
  obtain ⟨x1, e, hp⟩ := this
  exact ⟨_, by rw [of_some e, need_pos hp]⟩

structure KInv (n : Nat) (m : List (Int × Int)) (rows : List (Int × List Int)) (z : List (Int × Int)) (sh pool : List Int) : Prop where
  pl : pool.length = n
  pnd : pool.Nodup
  knd : (m.map (·.1) ++ rows.map (·.1)).Nodup
  kp : ∀ k ∈ m.map (·.1) ++ rows.map (·.1), k ∈ pool
  sk : ∀ p, p ∈ z.map (·.1) ↔ p ∈ pool
  zn : (z.map (·.1)).Nodup
  rw : ∀ s r, (s, r) ∈ rows → r ≠ [] ∧ r.length ≤ 2 ∧ (∀ p ∈ r, p ∈ pool ∧ pool.idxOf p < pool.idxOf s) ∧ dget z s = some ((r.map fun p => (dget z p).getD 1).sum) ∧ (r.map fun p => (dget z p).getD 1).sum ≤ 16
  one : ∀ p ∈ pool, p ∉ rows.map (·.1) → dget z p = some 1
  shn : sh.Nodup
  shr : ∀ s ∈ sh, ∃ r, (s, r) ∈ rows ∧ r.length = 2
  al : ∀ s s' r, (s, r) ∈ rows → (s', r) ∈ rows → r.length = 2 → s ∉ sh → s' ∉ sh → s = s'
section
variable {n : Nat} {m : List (Int × Int)} {rows : List (Int × List Int)} {z : List (Int × Int)} {sh pool : List Int} {s : Int}
theorem KInv.lens (I : KInv n m rows z sh pool) : m.length + rows.length ≤ n ∧ z.length ≤ n ∧ sh.length ≤ n := by
  have h1 := nd_len I.knd I.kp
  have h2 := nd_len I.zn fun p hp => (I.sk p).mp hp
  have h3 := nd_len I.shn fun p hp => by
    obtain ⟨r, hr, _⟩ := I.shr p hp
    exact I.kp p (List.mem_append_right _ (List.mem_map.mpr ⟨(p, r), hr, rfl⟩))
  rw [List.length_append, List.length_map, List.length_map] at h1
  rw [List.length_map] at h2
  rw [I.pl] at h1 h2 h3
  exact ⟨h1, h2, h3⟩
/-- a sign more; what stands of the old ones -/
theorem KInv.rw' (I : KInv n m rows z sh pool) (hs : s ∉ pool) (v : Int) : ∀ t r, (t, r) ∈ rows → r ≠ [] ∧ r.length ≤ 2 ∧ (∀ p ∈ r, p ∈ pool ++ [s] ∧ (pool ++ [s]).idxOf p < (pool ++ [s]).idxOf t) ∧ dget (dput z s v) t = some ((r.map fun p => (dget (dput z s v) p).getD 1).sum) ∧ (r.map fun p => (dget (dput z s v) p).getD 1).sum ≤ 16 := fun t r h => by
  obtain ⟨h1, h2, h3, h4, h5⟩ := I.rw t r h
  have ht : t ∈ pool := I.kp t (List.mem_append_right _ (List.mem_map.mpr ⟨(t, r), h, rfl⟩))
  have e : (r.map fun p => (dget (dput z s v) p).getD 1) = r.map fun p => (dget z p).getD 1 := by
    apply List.map_congr_left
    intro p hp
    rw [dget_dput, if_neg fun q => hs (by rw [q]; exact (h3 p hp).1)]
  refine ⟨h1, h2, fun p hp => ?_, ?_, by rw [e]; exact h5⟩
  · obtain ⟨q1, q2⟩ := h3 p hp
    rw [List.idxOf_append, if_pos q1, List.idxOf_append, if_pos ht]
    exact ⟨List.mem_append_left _ q1, q2⟩
  · rw [e, dget_dput, if_neg fun q => hs (by rw [q]; exact ht)]
    exact h4
theorem KInv.sk' (I : KInv n m rows z sh pool) (hs : s ∉ pool) (v : Int) : (∀ p, p ∈ (dput z s v).map (·.1) ↔ p ∈ pool ++ [s]) := fun p => by
  rw [dput_keys, if_neg fun q => hs ((I.sk s).mp q), List.mem_append, List.mem_append, I.sk]
theorem KInv.nd' (I : KInv n m rows z sh pool) (hs : s ∉ pool) : (pool ++ [s]).Nodup := List.nodup_append.mpr ⟨I.pnd, List.nodup_cons.mpr ⟨by simp, List.nodup_nil⟩, fun a ha b hb e => hs (by rw [← List.mem_singleton.mp hb, ← e]; exact ha)⟩
theorem KInv.bare (I : KInv n m rows z sh pool) (hs : s ∉ pool) : KInv (n + 1) m rows (dput z s 1) sh (pool ++ [s]) where
  pl := by rw [List.length_append, I.pl]; rfl
  pnd := I.nd' hs
  knd := I.knd
  kp := fun k h => List.mem_append_left _ (I.kp k h)
  sk := I.sk' hs 1
  zn := dput_nd I.zn
  rw := I.rw' hs 1
  one := fun p hp hr => by
    rw [dget_dput]
    by_cases e : s = p
    · rw [if_pos e]
    · rw [if_neg e]
      rcases List.mem_append.mp hp with h | h
      · exact I.one p h hr
      · exact absurd (List.mem_singleton.mp h).symm e
  shn := I.shn
  shr := I.shr
  al := I.al
theorem KInv.mark (I : KInv n m rows z sh pool) (hs : s ∉ pool) (k : Int) : KInv (n + 1) (m ++ [(s, k)]) rows (dput z s 1) sh (pool ++ [s]) :=
  { I.bare hs with
    knd := by
      have : ((m ++ [(s, k)]).map (·.1) ++ rows.map (·.1)).Perm (s :: (m.map (·.1) ++ rows.map (·.1))) := by
        rw [List.map_append, List.append_assoc]
        exact List.perm_middle
      refine this.nodup_iff.mpr (List.nodup_cons.mpr ⟨fun h => hs (I.kp s h), I.knd⟩)
    kp := fun q h => by
      rw [List.map_append, List.append_assoc] at h
      rcases List.mem_append.mp h with h | h
      · exact List.mem_append_left _ (I.kp q (List.mem_append_left _ h))
      · rcases List.mem_append.mp h with h | h
        · exact List.mem_append_right _ h
        · exact List.mem_append_left _ (I.kp q (List.mem_append_right _ h)) }
theorem KInv.row (I : KInv n m rows z sh pool) (hs : s ∉ pool) {r : List Int} (h1 : r ≠ []) (h2 : r.length ≤ 2) (h3 : ∀ p ∈ r, p ∈ pool) (h4 : (r.map fun p => (dget z p).getD 1).sum ≤ 16) (sh' : List Int)
    (hsh : sh' = sh ++ [s] ∧ r.length = 2 ∨ sh' = sh ∧ (r.length = 2 → ∀ t, (t, r) ∈ rows → t ∈ sh)) : KInv (n + 1) m (rows ++ [(s, r)]) (dput z s (r.map fun p => (dget z p).getD 1).sum) sh' (pool ++ [s]) := by
  have rs : s ∉ rows.map (·.1) := fun h => hs (I.kp s (List.mem_append_right _ h))
  have ss : s ∉ sh := fun h => by
    obtain ⟨r', hr, _⟩ := I.shr s h
    exact rs (List.mem_map.mpr ⟨(s, r'), hr, rfl⟩)
  have new : ∀ t r', (t, r') ∈ rows ++ [(s, r)] → (t, r') ∈ rows ∧ t ≠ s ∨ t = s ∧ r' = r := fun t r' h => by
    rcases List.mem_append.mp h with h | h
    · exact .inl ⟨h, fun e => rs (e ▸ List.mem_map.mpr ⟨(t, r'), h, rfl⟩)⟩
    · have := List.mem_singleton.mp h
      cases this
      exact .inr ⟨rfl, rfl⟩
  refine ⟨by rw [List.length_append, I.pl]; rfl, I.nd' hs, ?_, ?_, I.sk' hs _, dput_nd I.zn, ?_, ?_, ?_, ?_, ?_⟩
  · rw [List.map_append, ← List.append_assoc]
    exact List.nodup_append.mpr ⟨I.knd, List.nodup_cons.mpr ⟨by simp, List.nodup_nil⟩, fun a ha b hb e => hs (by
      have hb' : b = s := List.mem_singleton.mp hb
      rw [← hb', ← e]
      exact I.kp a ha)⟩
  · intro k h
    rw [List.map_append, ← List.append_assoc] at h
    rcases List.mem_append.mp h with h | h
    · exact List.mem_append_left _ (I.kp k h)
    · exact List.mem_append_right _ h
  · intro t r' h
    rcases new t r' h with ⟨h, _⟩ | ⟨rfl, rfl⟩
    · exact I.rw' hs _ t r' h
    · have e : (r'.map fun p => (dget (dput z t (r'.map fun p => (dget z p).getD 1).sum) p).getD 1) = r'.map fun p => (dget z p).getD 1 := by
        apply List.map_congr_left
        intro p hp
        rw [dget_dput, if_neg fun q => hs (by rw [q]; exact h3 p hp)]
      refine ⟨h1, h2, fun p hp => ⟨List.mem_append_left _ (h3 p hp), ?_⟩, by rw [e, dget_dput, if_pos rfl], by rw [e]; exact h4⟩
      rw [List.idxOf_append, if_pos (h3 p hp), List.idxOf_append, if_neg hs]
      have := List.idxOf_lt_length_of_mem (h3 p hp)
      omega
  · intro p hp hr
    rw [List.map_append, List.mem_append, not_or] at hr
    have e : ¬ s = p := fun e => hr.2 (by rw [e]; simp)
    rw [dget_dput, if_neg e]
    rcases List.mem_append.mp hp with h | h
    · exact I.one p h hr.1
    · exact absurd (List.mem_singleton.mp h).symm e
  · rcases hsh with ⟨rfl, _⟩ | ⟨rfl, _⟩
    · exact List.nodup_append.mpr ⟨I.shn, List.nodup_cons.mpr ⟨by simp, List.nodup_nil⟩, fun a ha b hb e => ss (by rw [← List.mem_singleton.mp hb, ← e]; exact ha)⟩
    · exact I.shn
  · intro t ht
    rcases hsh with ⟨rfl, hl⟩ | ⟨rfl, _⟩
    · rcases List.mem_append.mp ht with h | h
      · obtain ⟨r', q1, q2⟩ := I.shr t h
        exact ⟨r', List.mem_append_left _ q1, q2⟩
      · rw [List.mem_singleton.mp h]
        exact ⟨r, by simp, hl⟩
    · obtain ⟨r', q1, q2⟩ := I.shr t ht
      exact ⟨r', List.mem_append_left _ q1, q2⟩
  · intro t t' r' q1 q2 hl n1 n2
    rcases hsh with ⟨rfl, hl'⟩ | ⟨rfl, hal⟩
    · rcases new t r' q1 with ⟨p1, d1⟩ | ⟨rfl, rfl⟩
      · rcases new t' r' q2 with ⟨p2, d2⟩ | ⟨rfl, rfl⟩
        · exact I.al t t' r' p1 p2 hl (fun h => n1 (List.mem_append_left _ h)) (fun h => n2 (List.mem_append_left _ h))
        · exact absurd (List.mem_append_right _ (List.mem_singleton.mpr rfl)) n2
      · exact absurd (List.mem_append_right _ (List.mem_singleton.mpr rfl)) n1
    · rcases new t r' q1 with ⟨p1, d1⟩ | ⟨rfl, rfl⟩
      · rcases new t' r' q2 with ⟨p2, d2⟩ | ⟨rfl, rfl⟩
        · exact I.al t t' r' p1 p2 hl n1 n2
        · exact absurd (hal hl t p1) n1
      · rcases new t' r' q2 with ⟨p2, d2⟩ | ⟨rfl, _⟩
        · exact absurd (hal hl t' p2) n2
        · rfl
theorem KInv.ok (I : KInv n m rows z sh pool) (hn : n < 64) : TabOk m rows sh (fun k => (dget z k).getD 1) (fun k => pool.idxOf k) where
  nd := I.knd
  sn := I.shn
  sh := I.shr
  al := I.al
  few := by have := I.lens; omega
  hsz := fun s r h => by
    obtain ⟨h1, h2, h3, h4, h5⟩ := I.rw s r h
    show (dget z s).getD 1 = _
    rw [h4]
    show List.sum _ = _
    congr 1
    apply List.map_congr_left
    intro p hp
    by_cases hr : p ∈ rows.map (·.1)
    · rw [if_pos hr]
    · rw [if_neg hr, I.one p (h3 p hp).1 hr]
      rfl
  hle := fun s r h => by
    obtain ⟨h1, h2, h3, h4, h5⟩ := I.rw s r h
    show (dget z s).getD 1 ≤ 16
    rw [h4]
    exact h5
  hdp := fun s r h p hp _ => ((I.rw s r h).2.2.1 p hp).2
end

theorem rangeS2 {L : Nat} {pr po : List Int} {x : Int} (h : rangeS 0 ((L : Int) - 1) 2 = pr ++ x :: po) : x = 2 * (pr.length : Int) ∧ 2 * (pr.length : Int) + 1 < L := by
  have hl : (rangeS 0 ((L : Int) - 1) 2)[pr.length]? = some x := by rw [h]; simp
  have h1 : pr.length < (rangeS 0 ((L : Int) - 1) 2).length := (List.getElem?_eq_some_iff.mp hl).1
  rw [rangeS_len] at h1
  rw [rangeS_at h1] at hl
  have e := Option.some.inj hl
  refine ⟨by omega, ?_⟩
  unfold Builtin.Range.rangeSize at h1
  rw [if_pos (by decide)] at h1
  by_cases q : (0 : Int) < (L : Int) - 1
  · rw [if_pos q] at h1
    omega
  · rw [if_neg q] at h1
    omega
theorem rangeS2_len (L : Nat) : 2 * (rangeS 0 ((L : Int) - 1) 2).length ≤ L := by
  rw [rangeS_len]
  unfold Builtin.Range.rangeSize
  rw [if_pos (by decide)]
  by_cases q : (0 : Int) < (L : Int) - 1
  · rw [if_pos q]
    omega
  · rw [if_neg q]
    omega
theorem KInv.nil : KInv 0 [] [] [] [] [] := ⟨rfl, List.nodup_nil, List.nodup_nil, fun k h => (by cases h), fun p => Iff.rfl, List.nodup_nil, fun s r h => (by cases h), fun p h => (by cases h), List.nodup_nil, fun s h => (by cases h), fun s s' r h => (by cases h)⟩
theorem ltable_ok {cells : List Int} (hL : cells.length < 120) : Ok (fun t => ∃ n z, KInv n t.1 t.2.1 z t.2.2.1 t.2.2.2 ∧ n < 60) (m_l_table cells) := by
  unfold m_l_table
  have hlen := rangeS2_len cells.length
  refine Ok.need (by omega) (Ok.bind (Ok.forM (fun pr a => KInv pr.length a.1 a.2.1 a.2.2.1 a.2.2.2.1 a.2.2.2.2) KInv.nil fun pr x po a eq I => ?_) fun a _ I => ?_)
  · obtain ⟨m, rows, z, sh, pool⟩ := a
    have I : KInv pr.length m rows z sh pool := I
    obtain ⟨hx, hx2⟩ := rangeS2 eq
    have hpr : pr.length < 60 := by
      have := congrArg List.length eq
      rw [List.length_append, List.length_cons] at this
      omega
    have pl : pool.length = pr.length := I.pl
    obtain ⟨l1, l2, l3⟩ := I.lens
    obtain ⟨c0, e0, _⟩ := atI_in (xs := cells) (k := x) (by omega) (by omega)
    obtain ⟨c, ec, _⟩ := atI_in (xs := cells) (k := x + 1) (by omega) (by omega)
    obtain ⟨s, es, hs⟩ := sign_ok c0 (pool := pool) (by omega)
    -- the row
    have hrow : ∃ b row, (if (!decide (pool = ([] : List Int))) = true then (Res.of (atI cells (x + 1))).bind fun x320 => Res.ok (decide (2 < (x320 % 6))) else Res.ok false) = Res.ok b ∧ (if b = true then (m_l_row (c / 6) pool).bind fun r339 => Res.ok r339 else Res.ok ([] : (List Int))) = Res.ok row ∧
        (row ≠ [] → 2 < c % 6) ∧ row.length ≤ 2 ∧ ∀ p ∈ row, p ∈ pool := by
      by_cases hp : pool = []
      · refine ⟨false, [], ?_, rfl, fun h => absurd rfl h, by simp, fun p h => (by cases h)⟩
        rw [hp]
        rfl
      · have h1 : (if (!decide (pool = ([] : List Int))) = true then (Res.of (atI cells (x + 1))).bind fun x320 => Res.ok (decide (2 < (x320 % 6))) else Res.ok false) = Res.ok (decide (2 < c % 6)) := by
          rw [if_pos (by rw [decide_eq_false hp]; rfl), of_some ec]
        by_cases hc : 2 < c % 6
        · obtain ⟨r, er, r1, r2, r3⟩ := row_ok (c / 6) hp (by omega)
          exact ⟨_, r, h1, by rw [decide_eq_true hc, if_pos rfl, bind_eq er], fun _ => hc, r2, r3⟩
        · exact ⟨_, [], h1, by rw [decide_eq_false hc]; rfl, fun h => absurd rfl h, by simp, fun p h => (by cases h)⟩
    obtain ⟨b, row, eb, er, hr1, hr2, hr3⟩ := hrow
    have esum : mfM (fun i360 : Int => Res.ok true) (fun i360 => (Res.of (dget z i360)).bind fun x361 => Res.ok x361) row = .ok (row.map fun p => (dget z p).getD 1) := by
      have := mfM_ok (xs := row) (c := fun _ : Int => Res.ok true) (f := fun i360 => (Res.of (dget z i360)).bind fun x361 => Res.ok x361) (cb := fun _ => true) (fb := fun p => (dget z p).getD 1) (fun _ _ => rfl) (fun p hp _ => by
        have h1 := dget_isSome.mpr ((I.sk p).mpr (hr3 p hp))
        show (Res.of (dget z p)).bind _ = Res.ok ((dget z p).getD 1)
        cases e : dget z p with
        | none => rw [e] at h1; cases h1
        | some v => rfl)
      rw [List.filter_eq_self.mpr (fun _ _ => rfl)] at this
      exact this
    -- the marks
    have hmk : ∃ m', (if (decide ((c % 6) = 1)) = true then (m_l_rank (c / 6)).bind fun r386 => Res.need (m.length < sizeLine) (Res.ok (m ++ [(s, r386)])) else Res.ok m) = Res.ok m' ∧ (m' = m ∨ (c % 6 = 1 ∧ ∃ k, m' = m ++ [(s, k)])) := by
      by_cases hc : c % 6 = 1
      · obtain ⟨k, ek⟩ := rank_ok (c / 6)
        exact ⟨_, by rw [if_pos (decide_eq_true hc), bind_eq ek, need_pos (sl64' (by omega))], .inr ⟨hc, k, rfl⟩⟩
      · exact ⟨m, by rw [if_neg (by simpa using hc)], .inl rfl⟩
    obtain ⟨m', em, hm⟩ := hmk
    have zz := (sl64' (n := z.length) (by omega))
    -- the end
    have hend : ∃ t : (List (Int × (List Int))) × (List (Int × Int)) × (List Int), (if ((!decide (row = ([] : (List Int)))) && (decide (((row.map fun p => (dget z p).getD 1)).sum < 17))) = true then Res.need (rows.length < sizeLine) (Res.need (z.length < sizeLine) (if ((decide (((row).length : Int) = 2)) && ((!decide ((((cut (rows ++ [(s, row)]) none (some (-1))).filter fun i477 => ((decide (i477.2 = row)) && (!(decide (i477.1 ∈ sh))))).map fun i477 => i477.1) = ([] : List Int))) || (decide ((((c / 6) / 4000) % 5) = 1)))) = true then Res.need (sh.length < sizeLine) (Res.ok ((rows ++ [(s, row)]), (dput z s (((row.map fun p => (dget z p).getD 1)).sum)), (sh ++ [s]))) else Res.ok ((rows ++ [(s, row)]), (dput z s (((row.map fun p => (dget z p).getD 1)).sum)), sh))) else Res.need (z.length < sizeLine) (Res.ok (rows, (dput z s 1), sh))) = Res.ok t ∧ KInv (pr.length + 1) m' t.1 t.2.1 t.2.2 (pool ++ [s]) := by
      by_cases hg : ((!decide (row = ([] : (List Int)))) && (decide (((row.map fun p => (dget z p).getD 1)).sum < 17))) = true
      · rw [if_pos hg, need_pos (sl64' (by omega)), need_pos zz]
        rw [Bool.and_eq_true] at hg
        have hne : row ≠ [] := by simpa using hg.1
        have hle : (row.map fun p => (dget z p).getD 1).sum ≤ 16 := by
          have := of_decide_eq_true hg.2
          omega
        have hmm : m' = m := by
          rcases hm with h | ⟨h, _⟩
          · exact h
          · have := hr1 hne
            omega
        subst hmm
        rw [cut_init, List.dropLast_concat]
        by_cases hsh : ((decide (((row).length : Int) = 2)) && ((!decide (((rows.filter fun i477 => ((decide (i477.2 = row)) && (!(decide (i477.1 ∈ sh))))).map fun i477 => i477.1) = ([] : List Int))) || (decide ((((c / 6) / 4000) % 5) = 1)))) = true
        · rw [if_pos hsh, need_pos (sl64' (by omega))]
          rw [Bool.and_eq_true] at hsh
          have := of_decide_eq_true hsh.1
          exact ⟨_, rfl, I.row hs hne hr2 hr3 hle _ (.inl ⟨rfl, by omega⟩)⟩
        · rw [if_neg hsh]
          refine ⟨_, rfl, I.row hs hne hr2 hr3 hle _ (.inr ⟨rfl, fun h2 t ht => Classical.byContradiction fun hn => hsh ?_⟩)⟩
          rw [Bool.and_eq_true]
          refine ⟨decide_eq_true (by omega), ?_⟩
          rw [Bool.or_eq_true]
          refine .inl ?_
          have : t ∈ ((rows.filter fun i477 => ((decide (i477.2 = row)) && (!(decide (i477.1 ∈ sh))))).map fun i477 => i477.1) := List.mem_map.mpr ⟨(t, row), List.mem_filter.mpr ⟨ht, by simp [hn]⟩, rfl⟩
          rw [decide_eq_false (fun z => by rw [z] at this; cases this)]
          rfl
      · rw [if_neg hg, need_pos zz]
        refine ⟨_, rfl, ?_⟩
        rcases hm with rfl | ⟨_, k, rfl⟩
        · exact I.bare hs
        · exact I.mark hs k
    obtain ⟨t, et, It⟩ := hend
    refine ⟨(m', t.1, t.2.1, t.2.2, pool ++ [s]), ?_, ?_⟩
    · show (Res.of (atI cells x)).bind _ = _
      rw [of_some e0, bind_eq es, of_some ec, bind_eq eb, bind_eq er, bind_eq esum, of_some ec, bind_eq em, bind_eq et, need_pos (sl64' (by show pool.length < 1000; omega))]
    · rw [List.length_append]
      exact It
  · exact Ok.ret ⟨_, _, I, by omega⟩

/-! ### tables of turned lists -/
theorem turn_body {α : Type} (xs : List α) (n : Int) (h : xs.length < 100000) : Ok (fun ys => ys.Perm xs) (Res.need (0 < (((xs).length : Int) + 1)) (Res.need (((cut xs (some (n % (((xs).length : Int) + 1))) none)).length + ((cut xs none (some (n % (((xs).length : Int) + 1))))).length ≤ sizeLine) ((if (decide ((n % 3) = 1)) = true then Res.ok (((cut xs (some (n % (((xs).length : Int) + 1))) none) ++ (cut xs none (some (n % (((xs).length : Int) + 1))))).reverse) else Res.ok ((cut xs (some (n % (((xs).length : Int) + 1))) none) ++ (cut xs none (some (n % (((xs).length : Int) + 1)))))).bind fun (a32 : List α) => Res.ok a32))) := by
  obtain ⟨k, hk⟩ : ∃ k : Nat, n % ((xs.length : Int) + 1) = k := ⟨(n % ((xs.length : Int) + 1)).toNat, by have := Int.emod_nonneg n (show (xs.length : Int) + 1 ≠ 0 by omega); omega⟩
  rw [hk, cut_tail, cut_head]
  have pm : (xs.drop k ++ xs.take k).Perm xs := by
    have := List.perm_append_comm (l₁ := xs.drop k) (l₂ := xs.take k)
    rw [List.take_append_drop] at this
    exact this
  refine Ok.need (by omega) (Ok.need (by rw [sizeLine_eq, List.length_drop, List.length_take]; omega) (Ok.bind (Q := fun ys => ys.Perm xs) (Ok.ite (fun _ => Ok.ret ((List.reverse_perm _).trans pm)) fun _ => Ok.ret pm) fun ys _ h => Ok.ret h))
section
variable {marks marks' : List (Int × Int)} {rows rows' : List (Int × List Int)} {shuts shuts' : List Int} {sz : Int → Int} {dp : Int → Nat}
theorem TabOk.perm (T : TabOk marks rows shuts sz dp) (hm : marks'.Perm marks) (hr : rows'.Perm rows) (hs : shuts'.Perm shuts) : TabOk marks' rows' shuts' sz dp := by
  have km : ∀ p, p ∈ rows'.map (·.1) ↔ p ∈ rows.map (·.1) := fun p => (hr.map (·.1)).mem_iff
  refine ⟨(((hm.map (·.1)).append (hr.map (·.1))).nodup_iff).mpr T.nd, hs.nodup_iff.mpr T.sn, fun s h => ?_, fun s s' r h1 h2 h3 h4 h5 => T.al s s' r (hr.mem_iff.mp h1) (hr.mem_iff.mp h2) h3 (fun z => h4 (hs.mem_iff.mpr z)) (fun z => h5 (hs.mem_iff.mpr z)), by rw [hm.length_eq, hr.length_eq]; exact T.few, fun s r h => ?_, fun s r h => T.hle s r (hr.mem_iff.mp h), fun s r h p hp hk => T.hdp s r (hr.mem_iff.mp h) p hp ((km p).mp hk)⟩
  · obtain ⟨r, h1, h2⟩ := T.sh s (hs.mem_iff.mp h)
    exact ⟨r, hr.mem_iff.mpr h1, h2⟩
  · rw [T.hsz s r (hr.mem_iff.mp h)]
    congr 1
    refine List.map_congr_left fun p _ => ?_
    by_cases c : p ∈ rows.map (·.1)
    · rw [if_pos c, if_pos ((km p).mpr c)]
    · rw [if_neg c, if_neg fun z => c ((km p).mp z)]
theorem TabOk.noRows (T : TabOk marks rows shuts sz dp) : TabOk marks [] [] sz dp := ⟨by rw [List.map_nil, List.append_nil]; exact T.mn, List.nodup_nil, fun s h => (by cases h), fun s s' r h => (by cases h), by have := T.few; rw [List.length_nil]; omega, fun s r h => (by cases h), fun s r h => (by cases h), fun s r h => (by cases h)⟩
theorem dget_perm {α : Type} {d e : List (Int × α)} (nd : (d.map (·.1)).Nodup) (h : d.Perm e) (k : Int) : dget d k = dget e k := by
  have ne : (e.map (·.1)).Nodup := (h.map (·.1)).nodup_iff.mp nd
  cases q : dget e k with
  | some v => exact dget_of nd (h.mem_iff.mpr (dget_mem q))
  | none => exact dget_none.mpr fun z => dget_none.mp q ((h.map (·.1)).mem_iff.mp z)
theorem sortI_perm_eq {xs ys : List Int} (h : xs.Perm ys) : sortI xs = sortI ys := sortI_unique ((sortI_perm xs).trans h) (sortI_sorted xs)
/-- sorted rows with unlike first things -/
theorem leS_keys {α : Type} {R : Rel α} [EncR R] {d : List (Int × α)} (nd : (d.map (·.1)).Nodup) : d.mergeSort (leS (rPr rInt R)) = d.mergeSort (fun a b => decide (a.1 ≤ b.1)) := by
  have := List.map_mergeSort (r := leS (rPr rInt R)) (s := fun a b : Int × α => decide (a.1 ≤ b.1)) (f := id) (l := d) fun a ha b hb => by
    show leS (rPr rInt R) a b = decide (a.1 ≤ b.1)
    by_cases e : a.1 = b.1
    · have hab : a = b := by
        obtain ⟨a1, a2⟩ := a
        obtain ⟨b1, b2⟩ := b
        have e : a1 = b1 := e
        subst e
        have h1 := dget_of nd ha
        rw [dget_of nd hb] at h1
        rw [Option.some.inj h1]
      subst hab
      rw [decide_eq_true (Int.le_refl _)]
      show (!PySem.W.dataLt _ _) = true
      rw [show PySem.W.dataLt _ _ = false from lex_irrefl _]
      rfl
    · show (!PySem.W.dataLt (.tuple [.int b.1, EncR.enc R b.2]) (.tuple [.int a.1, EncR.enc R a.2])) = _
      rw [PySem.W.dataLt_pair (by simp [PySem.W.alike]) (EncR.al _ _), PySem.W.dataLt_int]
      rw [if_neg (by simp only [PyData.eqv, beq_iff_eq]; exact fun z => e z.symm), ← decide_not]
      exact decide_eq_decide.mpr (by omega)
  rw [List.map_id, List.map_id] at this
  exact this
theorem sort_keys {α : Type} {R : Rel α} [EncR R] {d e : List (Int × α)} (nd : (d.map (·.1)).Nodup) (h : d.Perm e) : d.mergeSort (leS (rPr rInt R)) = e.mergeSort (leS (rPr rInt R)) := by
  have ne : (e.map (·.1)).Nodup := (h.map (·.1)).nodup_iff.mp nd
  rw [leS_keys nd, leS_keys ne]
  have tr : ∀ a b c : Int × α, decide (a.1 ≤ b.1) = true → decide (b.1 ≤ c.1) = true → decide (a.1 ≤ c.1) = true := fun a b c h1 h2 => decide_eq_true (Int.le_trans (of_decide_eq_true h1) (of_decide_eq_true h2))
  have to : ∀ a b : Int × α, (decide (a.1 ≤ b.1) || decide (b.1 ≤ a.1)) = true := fun a b => by
    rw [Bool.or_eq_true, decide_eq_true_iff, decide_eq_true_iff]
    omega
  refine List.Perm.eq_of_pairwise (le := fun a b => decide (a.1 ≤ b.1) = true) (fun a b ha hb h1 h2 => ?_) (List.pairwise_mergeSort tr to d) (List.pairwise_mergeSort tr to e) (((List.mergeSort_perm _ _).trans h).trans (List.mergeSort_perm _ _).symm)
  have h1 := of_decide_eq_true h1
  have h2 := of_decide_eq_true h2
  obtain ⟨a1, a2⟩ := a
  obtain ⟨b1, b2⟩ := b
  have e1 : a1 = b1 := Int.le_antisymm h1 h2
  subst e1
  have g1 := dget_of ne (h.mem_iff.mp (List.mem_mergeSort.mp ha))
  have g2 := dget_of ne (List.mem_mergeSort.mp hb)
  rw [g1] at g2
  rw [Option.some.inj g2]
end

theorem kinds_ok (q : (List (Int × Int)) × (List (Int × (List Int))) × (List Int)) : m_l_kinds q = .ok true := by
  unfold m_l_kinds
  rw [bind_eq (forR_all (a := ()) fun x _ => rfl)]
  show Res.bind _ _ = _
  have e2 : ∀ l : List Int, mfM (fun _ : Int => Res.ok true) (fun i118 => (m_l_whole i118).bind fun r119 => Res.ok r119) l = .ok (l.map fun _ => true) := fun l => mfM_map (fun _ => true) l
  have a1 : ∀ l : List Int, (l.map fun _ => true).all id = true := fun l => by simp
  rw [bind_eq (forR_all (a := ()) fun x _ => ?_)]
  · show Res.bind _ _ = _
    rw [bind_eq (e2 _), a1]
  · show Res.bind (Res.bind (mfM _ _ _) _) _ = _
    rw [bind_eq (e2 _), a1]
    rfl
theorem told_ok {t : Tab} {SM : List (Int × Int)} {SR : List (Int × List Int)} {SS : List Int} (h1 : t.ranks.mergeSort (leS (rPr rInt rInt)) = SM) (h2 : t.parts.mergeSort (leS (rPr rInt (rTup rInt))) = SR) (h3 : t.closed = SS) (w : Int) : m_l_told t w = .ok (some (SM, SR, SS)) := by
  unfold m_l_told
  have e1 : m_Table_marks t = .ok SM := congrArg Res.ok h1
  have e2 : m_Table_rows t = .ok SR := congrArg Res.ok h2
  have e3 : m_Table_shuts t = .ok SS := congrArg Res.ok h3
  by_cases c : w = 0
  · rw [if_pos (decide_eq_true c), bind_eq e1, bind_eq e2, bind_eq e3, if_neg (by decide), bind_eq (kinds_ok _)]
    rfl
  · rw [if_neg (by simpa using c), bind_eq e3, bind_eq e2, bind_eq e1, if_neg (by decide), bind_eq (kinds_ok _)]
    rfl
theorem TabOk.short {marks : List (Int × Int)} {rows rows' : List (Int × List Int)} {shuts : List Int} {sz : Int → Int} {dp : Int → Nat} (T : TabOk marks rows shuts sz dp) (hs : rows'.Sublist rows) (h1 : ∀ q ∈ rows', q.2.length = 1) : TabOk marks rows' [] (fun _ => 1) dp := by
  have sub : ∀ p, p ∈ rows'.map (·.1) → p ∈ rows.map (·.1) := fun p hp => (hs.map _).subset hp
  refine ⟨(List.Sublist.append (List.Sublist.refl _) (hs.map _)).nodup T.nd, List.nodup_nil, fun s h => (by cases h), fun s s' r h _ h2 _ _ => ?_, ?_, fun s r h => ?_, fun s r _ => by decide, fun s r h p hp hk => T.hdp s r (hs.subset h) p hp (sub p hk)⟩
  · have : r.length = 1 := h1 _ h
    omega
  · have := hs.length_le
    have := T.few
    omega
  · have : r.length = 1 := h1 _ h
    match r, this with
    | [a], _ => simp
theorem law_true : ∀ ns : List Int, ns.length ≤ 63 → m_law ns = .ok true := by
  intro ns hns
  have key : Ok (fun b => b = true) (m_law ns) := by
    unfold m_law
    obtain ⟨r1, e1⟩ := cell_ok ns 0 (by decide)
    have hc : (cut ns (some 1) (some 63)).length < 120 := Nat.lt_of_le_of_lt cut_len (by omega)
    refine Ok.bindE e1 (Ok.bind (ltable_ok hc) fun t _ ht => ?_)
    obtain ⟨n, z, I, hn⟩ := ht
    obtain ⟨marks, rows, shuts, pool⟩ := t
    have I : KInv n marks rows z shuts pool := I
    have T := I.ok (by omega)
    have fw := T.few
    have fs := T.fewS
    dsimp only
    generalize (fun k => (dget z k).getD 1) = sz at T
    generalize (fun k => pool.idxOf k) = dp at T
    have hss : ((rows.filter fun i21 => (decide (((i21.2).length : Int) = 1))).map fun i21 => i21) = rows.filter fun i21 => (decide (((i21.2).length : Int) = 1)) := List.map_id' _
    rw [hss]
    have sub : (rows.filter fun i21 => (decide (((i21.2).length : Int) = 1))).Sublist rows := List.filter_sublist
    have one : ∀ q ∈ rows.filter fun i21 => (decide (((i21.2).length : Int) = 1)), q.2.length = 1 := fun q hq => by
      have := of_decide_eq_true (List.mem_filter.mp hq).2
      omega
    generalize (rows.filter fun i21 => (decide (((i21.2).length : Int) = 1))) = short at sub one
    have T0 := T.short sub one
    have fw0 := T0.few
    refine Ok.bind (turn_body marks (r1 / 2) (by omega)) fun marks' _ pm => Ok.bind (turn_body rows (r1 / 6) (by omega)) fun rows' _ pr => Ok.bind (turn_body shuts (r1 / 18) (by omega)) fun shuts' _ ps => ?_
    have T1 := T.perm pm pr ps
    obtain ⟨W, eW, hW⟩ := table_ok T1
    have es : sortI shuts' = sortI shuts := sortI_perm_eq ps
    rw [es] at eW
    refine Ok.bindE eW (Ok.bind (turn_body marks (r1 / 54) (by omega)) fun marks2 _ pm2 => Ok.bind (turn_body short (r1 / 108) (by omega)) fun short2 _ pr2 => ?_)
    have T2 := T0.perm pm2 pr2 (List.Perm.refl [])
    obtain ⟨W2, eW2, _⟩ := table_ok T2
    refine Ok.bindE eW2 ?_
    have t1 : ∀ w, m_l_told ⟨marks', rows', sortI shuts, W⟩ w = .ok (some (marks.mergeSort (leS (rPr rInt rInt)), rows.mergeSort (leS (rPr rInt (rTup rInt))), sortI shuts)) := told_ok (sort_keys T1.mn pm) (sort_keys T1.rn pr) rfl
    have t2 : ∀ w, m_l_told ⟨marks2, short2, sortI [], W2⟩ w = .ok (some (marks.mergeSort (leS (rPr rInt rInt)), short.mergeSort (leS (rPr rInt (rTup rInt))), ([] : List Int))) := told_ok (sort_keys T2.mn pm2) (sort_keys T2.rn pr2) (sortI_perm []).eq_nil
    have c1 : (marks.mergeSort (leS (rPr rInt rInt))).length = marks.length := (List.mergeSort_perm _ _).length_eq
    have c2 : (rows.mergeSort (leS (rPr rInt (rTup rInt)))).length = rows.length := (List.mergeSort_perm _ _).length_eq
    have c3 : (short.mergeSort (leS (rPr rInt (rTup rInt)))).length = short.length := (List.mergeSort_perm _ _).length_eq
    have c4 : (sortI shuts).length = shuts.length := (sortI_perm _).length_eq
    have pM : (marks.mergeSort (leS (rPr rInt rInt))).Perm marks := List.mergeSort_perm _ _
    have pR : (rows.mergeSort (leS (rPr rInt (rTup rInt)))).Perm rows := List.mergeSort_perm _ _
    generalize hSM : marks.mergeSort (leS (rPr rInt rInt)) = SM at *
    generalize hSR : rows.mergeSort (leS (rPr rInt (rTup rInt))) = SR at *
    generalize hSH : short.mergeSort (leS (rPr rInt (rTup rInt))) = SH at *
    rw [bind_eq (forR_all (a := ()) fun w _ => ?_)]
    rotate_left
    · rw [bind_eq (forR_all (a := ()) fun q hq => ?_)]
      · rfl
      · rcases List.mem_cons.mp hq with rfl | hq
        · show Res.bind (m_l_told _ _) _ = _
          rw [bind_eq (t1 w), decide_eq_true rfl, if_neg (show ¬ ((some (SM, SR, sortI shuts)).isNone || !true) = true from Bool.false_ne_true), of_some rfl, need_pos (by rw [sizeLine_eq]; exact ⟨by show SM.length + 3 ≤ _; omega, by show SR.length + 3 ≤ _; omega, by show (sortI shuts).length + 3 ≤ _; omega⟩)]
        rcases List.mem_cons.mp hq with rfl | hq
        · show Res.bind (m_l_told _ _) _ = _
          rw [bind_eq (t2 w), decide_eq_true rfl, if_neg (show ¬ ((some (SM, SH, ([] : List Int))).isNone || !true) = true from Bool.false_ne_true), of_some rfl, need_pos (by rw [sizeLine_eq]; exact ⟨by show SM.length + 3 ≤ _; omega, by show SH.length + 3 ≤ _; omega, by show 0 + 3 ≤ _; omega⟩)]
        · cases hq
    show Ok _ (Res.bind _ _)
    rw [bind_eq (forR_all (a := ()) fun q hq => ?_)]
    rotate_left
    · have g : dget rows' q.1 = some q.2 := (dget_perm T1.rn pr q.1).trans (dget_of T.rn (by exact hq))
      have e3 : m_Table_row ⟨marks', rows', sortI shuts, W⟩ q.1 = .ok (some q.2) := congrArg Res.ok g
      rw [bind_eq e3, decide_eq_true rfl, if_neg (by decide)]
      by_cases h2 : q.2.length = 2
      · rw [if_pos (decide_eq_true (by omega))]
        by_cases hs : q.1 ∈ shuts
        · rw [if_neg (by rw [decide_eq_true hs]; decide)]
          rfl
        · rw [if_pos (by rw [decide_eq_false hs]; rfl)]
          obtain ⟨s, r⟩ := q
          match r, h2 with
          | [a, b], _ =>
            have e4 : m_Table_pair ⟨marks', rows', sortI shuts, W⟩ a b = .ok (some s) := congrArg Res.ok ((hW [a, b] s).mpr ⟨pr.mem_iff.mpr hq, rfl, fun z => hs (ps.mem_iff.mp z)⟩)
            rw [of_some (show atI [a, b] 0 = some a from rfl), of_some (show atI [a, b] 1 = some b from rfl), bind_eq e4, decide_eq_true rfl]
            rfl
      · rw [if_neg (by simp only [decide_eq_true_iff]; omega)]
        rfl
    show Ok _ (Res.bind _ _)
    have e5 : mfM (fun i307 : (Int × Int) => Res.ok true) (fun i307 => (m_Table_rank ⟨marks', rows', sortI shuts, W⟩ i307.1).bind fun r308 => Res.ok (decide (r308 = i307.2))) marks = .ok (marks.map fun i => decide ((dget marks' i.1).getD 0 = i.2)) := mfM_map _ _
    refine Ok.bindE e5 (Ok.ff ?_ ?_)
    · rw [Bool.not_eq_false', List.all_eq_true]
      intro b hb
      obtain ⟨q, hq, rfl⟩ := List.mem_map.mp hb
      show decide _ = true
      rw [(dget_perm T1.mn pm q.1).trans (dget_of T.mn (by exact hq))]
      exact decide_eq_true rfl
    · refine Ok.bindE (t1 0) (Ok.bind (Q := fun b => b = true) ?_ fun b _ hb => Ok.ret hb)
      rw [if_pos (show (!(some (SM, SR, sortI shuts)).isNone) = true from rfl), of_some rfl, of_some rfl, of_some rfl]
      obtain ⟨W3, eW3, _⟩ := table_ok (T.perm pM pR (sortI_perm shuts))
      have es3 : sortI (sortI shuts) = sortI shuts := sortI_perm_eq (sortI_perm _)
      rw [es3] at eW3
      have T3 := T.perm pM pR (sortI_perm shuts)
      have t3 : ∀ w, m_l_told ⟨SM, SR, sortI shuts, W3⟩ w = .ok (some (SM, SR, sortI shuts)) := told_ok ((sort_keys T3.mn pM).trans hSM) ((sort_keys T3.rn pR).trans hSR) rfl
      refine Ok.bindE eW3 (Ok.bindE (t3 1) ?_)
      rw [of_some (show atI [(SM, SR, sortI shuts), (SM, SH, ([] : List Int))] 0 = some (SM, SR, sortI shuts) from rfl)]
      exact Ok.ret (decide_eq_true rfl)
  obtain ⟨b, e, h⟩ := key
  rw [e, h]

theorem ok_l_cell_at {P : Program} {w : World} {K : PySem.W.Frag} {mg : Str → Option Value} {base : Heap} {CT f : Addr} {fd : FuncData} (F : Fun K "_law_cell_at" "_law_cell_at" st_l_cell_at f fd) (T : Blt mg) (TT : TabTxt K CT)  : FnOk P w K mg base CX0 1 f fd ["_law_script", "_law_k"] (sp_l_cell_at CT) :=
  fun_ok F sc_l_cell_at (fun d vs B H h => by
    obtain ⟨_, _⟩ := d
    obtain ⟨v1, _, rfl, _, ⟨_, _, rfl, rfl, rfl⟩⟩ := h
    rfl) fun X e1 e2 e3 e4 e5 C VS fn => by
    subst e1 e2 e3 e4 e5
    exact body_l_cell_at (CT := CT) C VS fn T TT 
theorem ok_l_sign {P : Program} {w : World} {K : PySem.W.Frag} {mg : Str → Option Value} {base : Heap} {CT f : Addr} {fd : FuncData} (F : Fun K "_law_sign" "_law_sign" st_l_sign f fd) (T : Blt mg) (TT : TabTxt K CT)  : FnOk P w K mg base CX0 1 f fd ["_law_cell", "_law_pool"] (sp_l_sign CT) :=
  fun_ok F sc_l_sign (fun d vs B H h => by
    obtain ⟨_, _⟩ := d
    obtain ⟨_, _, rfl, rfl, ⟨v2, _, rfl, _, rfl⟩⟩ := h
    rfl) fun X e1 e2 e3 e4 e5 C VS fn => by
    subst e1 e2 e3 e4 e5
    exact body_l_sign (CT := CT) C VS fn T TT 
theorem ok_l_row {P : Program} {w : World} {K : PySem.W.Frag} {mg : Str → Option Value} {base : Heap} {CT f : Addr} {fd : FuncData} (F : Fun K "_law_row" "_law_row" st_l_row f fd) (T : Blt mg) (TT : TabTxt K CT)  : FnOk P w K mg base CX0 1 f fd ["_law_number", "_law_pool"] (sp_l_row CT) :=
  fun_ok F sc_l_row (fun d vs B H h => by
    obtain ⟨_, _⟩ := d
    obtain ⟨_, _, rfl, rfl, ⟨v2, _, rfl, _, rfl⟩⟩ := h
    rfl) fun X e1 e2 e3 e4 e5 C VS fn => by
    subst e1 e2 e3 e4 e5
    exact body_l_row (CT := CT) C VS fn T TT 
theorem ok_l_rank {P : Program} {w : World} {K : PySem.W.Frag} {mg : Str → Option Value} {base : Heap} {CT f : Addr} {fd : FuncData} (F : Fun K "_law_rank" "_law_rank" st_l_rank f fd) (T : Blt mg) (TT : TabTxt K CT)  : FnOk P w K mg base CX0 1 f fd ["_law_number"] (sp_l_rank CT) :=
  fun_ok F sc_l_rank (fun d vs B H h => by
    obtain ⟨_, _, rfl, rfl, rfl⟩ := h
    rfl) fun X e1 e2 e3 e4 e5 C VS fn => by
    subst e1 e2 e3 e4 e5
    exact body_l_rank (CT := CT) C VS fn T TT 
theorem ok_l_table {P : Program} {w : World} {K : PySem.W.Frag} {mg : Str → Option Value} {base : Heap} {CT f : Addr} {fd : FuncData} (F : Fun K "_law_table" "_law_table" st_l_table f fd) (T : Blt mg) (TT : TabTxt K CT) (G_l_sign : CalM P w K mg base 1 "_law_sign" ["_law_cell", "_law_pool"] (sp_l_sign CT)) (G_l_row : CalM P w K mg base 1 "_law_row" ["_law_number", "_law_pool"] (sp_l_row CT)) (G_l_rank : CalM P w K mg base 1 "_law_rank" ["_law_number"] (sp_l_rank CT)) : FnOk P w K mg base CX0 2 f fd ["_law_cells"] (sp_l_table CT) :=
  fun_ok F sc_l_table (fun d vs B H h => by
    obtain ⟨v1, _, rfl, _, rfl⟩ := h
    rfl) fun X e1 e2 e3 e4 e5 C VS fn => by
    subst e1 e2 e3 e4 e5
    exact body_l_table (CT := CT) C VS fn T TT G_l_sign G_l_row G_l_rank
theorem ok_l_turned_p0 {P : Program} {w : World} {K : PySem.W.Frag} {mg : Str → Option Value} {base : Heap} {CT f : Addr} {fd : FuncData} (F : Fun K "_law_turned" "_law_turned" st_l_turned_p0 f fd) (T : Blt mg) (TT : TabTxt K CT)  : FnOk P w K mg base CX0 1 f fd ["_law_row_here", "_law_number"] (sp_l_turned_p0 CT) :=
  fun_ok F sc_l_turned_p0 (fun d vs B H h => by
    obtain ⟨_, _⟩ := d
    obtain ⟨v1, _, rfl, _, ⟨_, _, rfl, rfl, rfl⟩⟩ := h
    rfl) fun X e1 e2 e3 e4 e5 C VS fn => by
    subst e1 e2 e3 e4 e5
    exact body_l_turned_p0 (CT := CT) C VS fn T TT 
theorem ok_l_turned_p1 {P : Program} {w : World} {K : PySem.W.Frag} {mg : Str → Option Value} {base : Heap} {CT f : Addr} {fd : FuncData} (F : Fun K "_law_turned" "_law_turned" st_l_turned_p1 f fd) (T : Blt mg) (TT : TabTxt K CT)  : FnOk P w K mg base CX0 1 f fd ["_law_row_here", "_law_number"] (sp_l_turned_p1 CT) :=
  fun_ok F sc_l_turned_p1 (fun d vs B H h => by
    obtain ⟨_, _⟩ := d
    obtain ⟨v1, _, rfl, _, ⟨_, _, rfl, rfl, rfl⟩⟩ := h
    rfl) fun X e1 e2 e3 e4 e5 C VS fn => by
    subst e1 e2 e3 e4 e5
    exact body_l_turned_p1 (CT := CT) C VS fn T TT 
theorem ok_l_turned_p2 {P : Program} {w : World} {K : PySem.W.Frag} {mg : Str → Option Value} {base : Heap} {CT f : Addr} {fd : FuncData} (F : Fun K "_law_turned" "_law_turned" st_l_turned_p2 f fd) (T : Blt mg) (TT : TabTxt K CT)  : FnOk P w K mg base CX0 1 f fd ["_law_row_here", "_law_number"] (sp_l_turned_p2 CT) :=
  fun_ok F sc_l_turned_p2 (fun d vs B H h => by
    obtain ⟨_, _⟩ := d
    obtain ⟨v1, _, rfl, _, ⟨_, _, rfl, rfl, rfl⟩⟩ := h
    rfl) fun X e1 e2 e3 e4 e5 C VS fn => by
    subst e1 e2 e3 e4 e5
    exact body_l_turned_p2 (CT := CT) C VS fn T TT 
theorem ok_told_again {P : Program} {w : World} {K : PySem.W.Frag} {mg : Str → Option Value} {base : Heap} {CT f : Addr} {fd : FuncData} (F : Fun K "told_again" "told_again" st_told_again f fd) (T : Blt mg) (TT : TabTxt K CT)  : FnOk P w K mg base CX0 1 f fd ["signs"] (sp_told_again CT) :=
  fun_ok F sc_told_again (fun d vs B H h => by
    obtain ⟨v1, _, rfl, _, rfl⟩ := h
    rfl) fun X e1 e2 e3 e4 e5 C VS fn => by
    subst e1 e2 e3 e4 e5
    exact body_told_again (CT := CT) C VS fn T TT 
theorem ok_look_for_twice {P : Program} {w : World} {K : PySem.W.Frag} {mg : Str → Option Value} {base : Heap} {CT f : Addr} {fd : FuncData} (F : Fun K "look_for_twice" "look_for_twice" st_look_for_twice f fd) (T : Blt mg) (TT : TabTxt K CT) (G_told_again : CalM P w K mg base 1 "told_again" ["signs"] (sp_told_again CT)) : FnOk P w K mg base CX0 2 f fd ["marks", "rows", "shuts"] (sp_look_for_twice CT) :=
  fun_ok F sc_look_for_twice (fun d vs B H h => by
    obtain ⟨_, _, _⟩ := d
    obtain ⟨v1, _, rfl, _, ⟨v2, _, rfl, _, ⟨v3, _, rfl, _, rfl⟩⟩⟩ := h
    rfl) fun X e1 e2 e3 e4 e5 C VS fn => by
    subst e1 e2 e3 e4 e5
    exact body_look_for_twice (CT := CT) C VS fn T TT G_told_again
theorem ok_look_at_shuts {P : Program} {w : World} {K : PySem.W.Frag} {mg : Str → Option Value} {base : Heap} {CT f : Addr} {fd : FuncData} (F : Fun K "look_at_shuts" "look_at_shuts" st_look_at_shuts f fd) (T : Blt mg) (TT : TabTxt K CT)  : FnOk P w K mg base CX0 1 f fd ["parts", "shuts"] (sp_look_at_shuts CT) :=
  fun_ok F sc_look_at_shuts (fun d vs B H h => by
    obtain ⟨_, _⟩ := d
    obtain ⟨v1, _, rfl, _, ⟨v2, _, rfl, _, rfl⟩⟩ := h
    rfl) fun X e1 e2 e3 e4 e5 C VS fn => by
    subst e1 e2 e3 e4 e5
    exact body_look_at_shuts (CT := CT) C VS fn T TT 
theorem ok_wholes_of {P : Program} {w : World} {K : PySem.W.Frag} {mg : Str → Option Value} {base : Heap} {CT f : Addr} {fd : FuncData} (F : Fun K "wholes_of" "wholes_of" st_wholes_of f fd) (T : Blt mg) (TT : TabTxt K CT)  : FnOk P w K mg base CX0 1 f fd ["parts", "closed"] (sp_wholes_of CT) :=
  fun_ok F sc_wholes_of (fun d vs B H h => by
    obtain ⟨_, _⟩ := d
    obtain ⟨v1, _, rfl, _, ⟨v2, _, rfl, _, rfl⟩⟩ := h
    rfl) fun X e1 e2 e3 e4 e5 C VS fn => by
    subst e1 e2 e3 e4 e5
    exact body_wholes_of (CT := CT) C VS fn T TT 
theorem ok_is_ready {P : Program} {w : World} {K : PySem.W.Frag} {mg : Str → Option Value} {base : Heap} {CT f : Addr} {fd : FuncData} (F : Fun K "is_ready" "is_ready" st_is_ready f fd) (T : Blt mg) (TT : TabTxt K CT)  : FnOk P w K mg base CX0 1 f fd ["parts", "sizes", "sign"] (sp_is_ready CT) :=
  fun_ok F sc_is_ready (fun d vs B H h => by
    obtain ⟨_, _, _⟩ := d
    obtain ⟨v1, _, rfl, _, ⟨v2, _, rfl, _, ⟨_, _, rfl, rfl, rfl⟩⟩⟩ := h
    rfl) fun X e1 e2 e3 e4 e5 C VS fn => by
    subst e1 e2 e3 e4 e5
    exact body_is_ready (CT := CT) C VS fn T TT 
theorem ok_sizes_of {P : Program} {w : World} {K : PySem.W.Frag} {mg : Str → Option Value} {base : Heap} {CT f : Addr} {fd : FuncData} (F : Fun K "sizes_of" "sizes_of" st_sizes_of f fd) (T : Blt mg) (TT : TabTxt K CT) (G_is_ready : CalM P w K mg base 1 "is_ready" ["parts", "sizes", "sign"] (sp_is_ready CT)) : FnOk P w K mg base CX0 2 f fd ["parts"] (sp_sizes_of CT) :=
  fun_ok F sc_sizes_of (fun d vs B H h => by
    obtain ⟨v1, _, rfl, _, rfl⟩ := h
    rfl) fun X e1 e2 e3 e4 e5 C VS fn => by
    subst e1 e2 e3 e4 e5
    exact body_sizes_of (CT := CT) C VS fn T TT G_is_ready
theorem ok_look_for_rings {P : Program} {w : World} {K : PySem.W.Frag} {mg : Str → Option Value} {base : Heap} {CT f : Addr} {fd : FuncData} (F : Fun K "look_for_rings" "look_for_rings" st_look_for_rings f fd) (T : Blt mg) (TT : TabTxt K CT)  : FnOk P w K mg base CX0 1 f fd ["parts", "sizes"] (sp_look_for_rings CT) :=
  fun_ok F sc_look_for_rings (fun d vs B H h => by
    obtain ⟨_, _⟩ := d
    obtain ⟨v1, _, rfl, _, ⟨v2, _, rfl, _, rfl⟩⟩ := h
    rfl) fun X e1 e2 e3 e4 e5 C VS fn => by
    subst e1 e2 e3 e4 e5
    exact body_look_for_rings (CT := CT) C VS fn T TT 
theorem ok_look_at_sizes {P : Program} {w : World} {K : PySem.W.Frag} {mg : Str → Option Value} {base : Heap} {CT f : Addr} {fd : FuncData} (F : Fun K "look_at_sizes" "look_at_sizes" st_look_at_sizes f fd) (T : Blt mg) (TT : TabTxt K CT) (V_MOST_FULL : ∃ t, mg "MOST_FULL" = some (.int 16 t)) : FnOk P w K mg base CX0 1 f fd ["sizes"] (sp_look_at_sizes CT) :=
  fun_ok F sc_look_at_sizes (fun d vs B H h => by
    obtain ⟨v1, _, rfl, _, rfl⟩ := h
    rfl) fun X e1 e2 e3 e4 e5 C VS fn => by
    subst e1 e2 e3 e4 e5
    exact body_look_at_sizes (CT := CT) C VS fn T TT V_MOST_FULL
theorem ok_Table___init__ {P : Program} {w : World} {K : PySem.W.Frag} {mg : Str → Option Value} {base : Heap} {CT f : Addr} {fd : FuncData} (F : Fun K "__init__" "Table.__init__" st_Table___init__ f fd) (T : Blt mg) (TT : TabTxt K CT) (G_look_for_twice : CalM P w K mg base 2 "look_for_twice" ["marks", "rows", "shuts"] (sp_look_for_twice CT)) (G_look_at_shuts : CalM P w K mg base 1 "look_at_shuts" ["parts", "shuts"] (sp_look_at_shuts CT)) (G_wholes_of : CalM P w K mg base 1 "wholes_of" ["parts", "closed"] (sp_wholes_of CT)) (G_sizes_of : CalM P w K mg base 2 "sizes_of" ["parts"] (sp_sizes_of CT)) (G_look_for_rings : CalM P w K mg base 1 "look_for_rings" ["parts", "sizes"] (sp_look_for_rings CT)) (G_look_at_sizes : CalM P w K mg base 1 "look_at_sizes" ["sizes"] (sp_look_at_sizes CT)) : FnOk P w K mg base CX0 3 f fd ["self", "marks", "rows", "shuts"] (sp_Table___init__ CT) :=
  init_ok F sc_Table___init__ (fun d vs B H h => by
    obtain ⟨_, _, _⟩ := d
    obtain ⟨v2, _, rfl, _, ⟨v3, _, rfl, _, ⟨v4, _, rfl, _, rfl⟩⟩⟩ := h
    rfl) fun X e1 e2 e3 e4 e5 C VS fn => by
    subst e1 e2 e3 e4 e5
    exact body_Table___init__ (CT := CT) C VS fn T TT G_look_for_twice G_look_at_shuts G_wholes_of G_sizes_of G_look_for_rings G_look_at_sizes
theorem ok_Table_marks {P : Program} {w : World} {K : PySem.W.Frag} {mg : Str → Option Value} {base : Heap} {CT f : Addr} {fd : FuncData} (F : Fun K "marks" "Table.marks" st_Table_marks f fd) (T : Blt mg) (TT : TabTxt K CT)  : FnOk P w K mg base CX0 1 f fd ["self"] (sp_Table_marks CT) :=
  fun_ok F sc_Table_marks (fun d vs B H h => by
    obtain ⟨v1, _, rfl, _, rfl⟩ := h
    rfl) fun X e1 e2 e3 e4 e5 C VS fn => by
    subst e1 e2 e3 e4 e5
    exact body_Table_marks (CT := CT) C VS fn T TT 
theorem ok_Table_rows {P : Program} {w : World} {K : PySem.W.Frag} {mg : Str → Option Value} {base : Heap} {CT f : Addr} {fd : FuncData} (F : Fun K "rows" "Table.rows" st_Table_rows f fd) (T : Blt mg) (TT : TabTxt K CT)  : FnOk P w K mg base CX0 1 f fd ["self"] (sp_Table_rows CT) :=
  fun_ok F sc_Table_rows (fun d vs B H h => by
    obtain ⟨v1, _, rfl, _, rfl⟩ := h
    rfl) fun X e1 e2 e3 e4 e5 C VS fn => by
    subst e1 e2 e3 e4 e5
    exact body_Table_rows (CT := CT) C VS fn T TT 
theorem ok_Table_shuts {P : Program} {w : World} {K : PySem.W.Frag} {mg : Str → Option Value} {base : Heap} {CT f : Addr} {fd : FuncData} (F : Fun K "shuts" "Table.shuts" st_Table_shuts f fd) (T : Blt mg) (TT : TabTxt K CT)  : FnOk P w K mg base CX0 1 f fd ["self"] (sp_Table_shuts CT) :=
  fun_ok F sc_Table_shuts (fun d vs B H h => by
    obtain ⟨v1, _, rfl, _, rfl⟩ := h
    rfl) fun X e1 e2 e3 e4 e5 C VS fn => by
    subst e1 e2 e3 e4 e5
    exact body_Table_shuts (CT := CT) C VS fn T TT 
theorem ok_l_whole {P : Program} {w : World} {K : PySem.W.Frag} {mg : Str → Option Value} {base : Heap} {CT f : Addr} {fd : FuncData} (F : Fun K "_law_whole" "_law_whole" st_l_whole f fd) (T : Blt mg) (TT : TabTxt K CT)  : FnOk P w K mg base CX0 1 f fd ["_law_found"] (sp_l_whole CT) :=
  fun_ok F sc_l_whole (fun d vs B H h => by
    obtain ⟨_, _, rfl, rfl, rfl⟩ := h
    rfl) fun X e1 e2 e3 e4 e5 C VS fn => by
    subst e1 e2 e3 e4 e5
    exact body_l_whole (CT := CT) C VS fn T TT 
theorem ok_l_kinds {P : Program} {w : World} {K : PySem.W.Frag} {mg : Str → Option Value} {base : Heap} {CT f : Addr} {fd : FuncData} (F : Fun K "_law_kinds" "_law_kinds" st_l_kinds f fd) (T : Blt mg) (TT : TabTxt K CT) (G_l_whole : CalM P w K mg base 1 "_law_whole" ["_law_found"] (sp_l_whole CT)) : FnOk P w K mg base CX0 2 f fd ["_law_told_here"] (sp_l_kinds CT) :=
  fun_ok F sc_l_kinds (fun d vs B H h => by
    obtain ⟨v1, _, rfl, _, rfl⟩ := h
    rfl) fun X e1 e2 e3 e4 e5 C VS fn => by
    subst e1 e2 e3 e4 e5
    exact body_l_kinds (CT := CT) C VS fn T TT G_l_whole
theorem ok_l_told {P : Program} {w : World} {K : PySem.W.Frag} {mg : Str → Option Value} {base : Heap} {CT f : Addr} {fd : FuncData} (F : Fun K "_law_told" "_law_told" st_l_told f fd) (T : Blt mg) (TT : TabTxt K CT) (G_Table_marks : MCalM P w K mg base 1 CT "marks" ["self"] (sp_Table_marks CT)) (G_Table_rows : MCalM P w K mg base 1 CT "rows" ["self"] (sp_Table_rows CT)) (G_Table_shuts : MCalM P w K mg base 1 CT "shuts" ["self"] (sp_Table_shuts CT)) (G_l_kinds : CalM P w K mg base 2 "_law_kinds" ["_law_told_here"] (sp_l_kinds CT)) : FnOk P w K mg base CX0 3 f fd ["_law_table_here", "_law_way"] (sp_l_told CT) :=
  fun_ok F sc_l_told (fun d vs B H h => by
    obtain ⟨_, _⟩ := d
    obtain ⟨v1, _, rfl, _, ⟨_, _, rfl, rfl, rfl⟩⟩ := h
    rfl) fun X e1 e2 e3 e4 e5 C VS fn => by
    subst e1 e2 e3 e4 e5
    exact body_l_told (CT := CT) C VS fn T TT G_Table_marks G_Table_rows G_Table_shuts G_l_kinds
theorem ok_l_changed {P : Program} {w : World} {K : PySem.W.Frag} {mg : Str → Option Value} {base : Heap} {CT f : Addr} {fd : FuncData} (F : Fun K "_law_changed" "_law_changed" st_l_changed f fd) (T : Blt mg) (TT : TabTxt K CT)  : FnOk P w K mg base CX0 1 f fd ["_law_told_here", "_law_way"] (sp_l_changed CT) :=
  fun_okS F sc_l_changed (fun vs H Q E h => by
    obtain ⟨_, _, _, _, _, _, _, rfl, _⟩ := h
    rfl) fun X e1 e2 e3 e4 e5 C VS fn => by
    subst e1 e2 e3 e4 e5
    exact body_l_changed (CT := CT) C VS fn
theorem ok_Table_row {P : Program} {w : World} {K : PySem.W.Frag} {mg : Str → Option Value} {base : Heap} {CT f : Addr} {fd : FuncData} (F : Fun K "row" "Table.row" st_Table_row f fd) (T : Blt mg) (TT : TabTxt K CT)  : FnOk P w K mg base CX0 1 f fd ["self", "sign"] (sp_Table_row CT) :=
  fun_ok F sc_Table_row (fun d vs B H h => by
    obtain ⟨_, _⟩ := d
    obtain ⟨v1, _, rfl, _, ⟨_, _, rfl, rfl, rfl⟩⟩ := h
    rfl) fun X e1 e2 e3 e4 e5 C VS fn => by
    subst e1 e2 e3 e4 e5
    exact body_Table_row (CT := CT) C VS fn T TT 
theorem ok_Table_pair {P : Program} {w : World} {K : PySem.W.Frag} {mg : Str → Option Value} {base : Heap} {CT f : Addr} {fd : FuncData} (F : Fun K "pair" "Table.pair" st_Table_pair f fd) (T : Blt mg) (TT : TabTxt K CT)  : FnOk P w K mg base CX0 1 f fd ["self", "one", "other"] (sp_Table_pair CT) :=
  fun_ok F sc_Table_pair (fun d vs B H h => by
    obtain ⟨_, _, _⟩ := d
    obtain ⟨v1, _, rfl, _, ⟨_, _, rfl, rfl, ⟨_, _, rfl, rfl, rfl⟩⟩⟩ := h
    rfl) fun X e1 e2 e3 e4 e5 C VS fn => by
    subst e1 e2 e3 e4 e5
    exact body_Table_pair (CT := CT) C VS fn T TT 
theorem ok_Table_rank {P : Program} {w : World} {K : PySem.W.Frag} {mg : Str → Option Value} {base : Heap} {CT f : Addr} {fd : FuncData} (F : Fun K "rank" "Table.rank" st_Table_rank f fd) (T : Blt mg) (TT : TabTxt K CT)  : FnOk P w K mg base CX0 1 f fd ["self", "sign"] (sp_Table_rank CT) :=
  fun_ok F sc_Table_rank (fun d vs B H h => by
    obtain ⟨_, _⟩ := d
    obtain ⟨v1, _, rfl, _, ⟨_, _, rfl, rfl, rfl⟩⟩ := h
    rfl) fun X e1 e2 e3 e4 e5 C VS fn => by
    subst e1 e2 e3 e4 e5
    exact body_Table_rank (CT := CT) C VS fn T TT 
theorem ok_law {P : Program} {w : World} {K : PySem.W.Frag} {mg : Str → Option Value} {base : Heap} {CT f : Addr} {fd : FuncData} (F : Fun K "law" "law" st_law f fd) (T : Blt mg) (TT : TabTxt K CT) (G_l_cell_at : CalM P w K mg base 1 "_law_cell_at" ["_law_script", "_law_k"] (sp_l_cell_at CT)) (G_l_table : CalM P w K mg base 2 "_law_table" ["_law_cells"] (sp_l_table CT)) (G_l_turned_p0 : CalM P w K mg base 1 "_law_turned" ["_law_row_here", "_law_number"] (sp_l_turned_p0 CT)) (G_l_turned_p1 : CalM P w K mg base 1 "_law_turned" ["_law_row_here", "_law_number"] (sp_l_turned_p1 CT)) (G_l_turned_p2 : CalM P w K mg base 1 "_law_turned" ["_law_row_here", "_law_number"] (sp_l_turned_p2 CT)) (G_Table___init__ : MkTM P w K mg base 3 "Table" CT ["self", "marks", "rows", "shuts"] (sp_Table___init__ CT)) (G_l_told : CalM P w K mg base 3 "_law_told" ["_law_table_here", "_law_way"] (sp_l_told CT)) (G_l_changed : CalM P w K mg base 1 "_law_changed" ["_law_told_here", "_law_way"] (sp_l_changed CT)) (G_Table_row : MCalM P w K mg base 1 CT "row" ["self", "sign"] (sp_Table_row CT)) (G_Table_pair : MCalM P w K mg base 1 CT "pair" ["self", "one", "other"] (sp_Table_pair CT)) (G_Table_rank : MCalM P w K mg base 1 CT "rank" ["self", "sign"] (sp_Table_rank CT)) : FnOk P w K mg base CX0 5 f fd ["_law_script"] (sp_law CT) :=
  fun_ok F sc_law (fun d vs B H h => by
    obtain ⟨v1, _, rfl, _, rfl⟩ := h
    rfl) fun X e1 e2 e3 e4 e5 C VS fn => by
    subst e1 e2 e3 e4 e5
    exact body_law (CT := CT) C VS fn T TT G_l_cell_at G_l_table G_l_turned_p0 G_l_turned_p1 G_l_turned_p2 G_Table___init__ G_l_told G_l_changed G_Table_row G_Table_pair G_Table_rank
theorem all_mk {P : Program} {w : World} {K : PySem.W.Frag} {h : Heap} {mg : Str → Option Value} {fa CT f0 f1 f2 f3 f4 f5 f6 f7 f8 f9 f10 f11 f12 f13 f14 f15 f16 f17 f18 f19 f20 f21 f22 f23 f24 f25 f26 f27 : Addr} (X : K.In h) (G : h.Ns mainGlobals mg) (hfa : mg "law" = some (.ref fa))
    {od0 an0 od1 an1 od2 an2 od3 an3 od4 an4 od5 an5 od6 an6 od7 an7 od8 an8 od9 an9 od10 an10 od11 an11 od12 an12 od13 an13 od14 an14 od15 an15 od16 an16 od17 an17 od18 an18 od19 an19 od20 an20 od21 an21 od22 an22 od23 an23 od24 an24 od25 an25 od26 an26 od27 an27 : Option Addr} {sl0 sl1 sl2 sl3 sl4 sl5 sl6 sl7 sl8 sl9 sl10 sl11 sl12 sl13 sl14 sl15 sl16 sl17 sl18 sl19 sl20 sl21 sl22 sl23 sl24 sl25 sl26 sl27 : Array (Option Value)} {oc0 kV0 dc0 pm0 cd0 ct0 oc1 kV1 dc1 pm1 cd1 ct1 oc2 kV2 dc2 pm2 cd2 ct2 oc3 kV3 dc3 pm3 cd3 ct3 oc4 kV4 dc4 pm4 cd4 ct4 oc5 kV5 dc5 pm5 cd5 ct5 oc6 kV6 dc6 pm6 cd6 ct6 oc7 kV7 dc7 pm7 cd7 ct7 oc8 kV8 dc8 pm8 cd8 ct8 oc9 kV9 dc9 pm9 cd9 ct9 oc10 kV10 dc10 pm10 cd10 ct10 oc11 kV11 dc11 pm11 cd11 ct11 oc12 kV12 dc12 pm12 cd12 ct12 oc13 kV13 dc13 pm13 cd13 ct13 oc14 kV14 dc14 pm14 cd14 ct14 oc15 kV15 dc15 pm15 cd15 ct15 oc16 kV16 dc16 pm16 cd16 ct16 oc17 kV17 dc17 pm17 cd17 ct17 oc18 kV18 dc18 pm18 cd18 ct18 oc19 kV19 dc19 pm19 cd19 ct19 oc20 kV20 dc20 pm20 cd20 ct20 oc21 kV21 dc21 pm21 cd21 ct21 oc22 kV22 dc22 pm22 cd22 ct22 oc23 kV23 dc23 pm23 cd23 ct23 oc24 kV24 dc24 pm24 cd24 ct24 oc25 kV25 dc25 pm25 cd25 ct25 oc26 kV26 dc26 pm26 cd26 ct26 oc27 kV27 dc27 pm27 cd27 ct27 : Value} {t_MOST_FULL : Tok}
    (aC : PySem.W.nsIn K mainGlobals "Table" = some (some (.ref CT)))
    (a0 : PySem.W.nsIn K mainGlobals "_law_cell_at" = some (some (.ref f0)))
    (l0 : K.lookup f0 = some ⟨oc0, od0, .func (PySem.W.fnOf "_law_cell_at" "_law_cell_at" (defArgs st_l_cell_at) (defBody st_l_cell_at) (defScope st_l_cell_at) .none kV0 dc0 pm0 an0 cd0 ct0), sl0⟩)
    (c0 : PySem.W.codeIn K cd0 "_law_cell_at" = true)
    (k0 : PySem.W.keepIn K (.ref f0) = true)
    (a1 : PySem.W.nsIn K mainGlobals "_law_sign" = some (some (.ref f1)))
    (l1 : K.lookup f1 = some ⟨oc1, od1, .func (PySem.W.fnOf "_law_sign" "_law_sign" (defArgs st_l_sign) (defBody st_l_sign) (defScope st_l_sign) .none kV1 dc1 pm1 an1 cd1 ct1), sl1⟩)
    (c1 : PySem.W.codeIn K cd1 "_law_sign" = true)
    (k1 : PySem.W.keepIn K (.ref f1) = true)
    (a2 : PySem.W.nsIn K mainGlobals "_law_row" = some (some (.ref f2)))
    (l2 : K.lookup f2 = some ⟨oc2, od2, .func (PySem.W.fnOf "_law_row" "_law_row" (defArgs st_l_row) (defBody st_l_row) (defScope st_l_row) .none kV2 dc2 pm2 an2 cd2 ct2), sl2⟩)
    (c2 : PySem.W.codeIn K cd2 "_law_row" = true)
    (k2 : PySem.W.keepIn K (.ref f2) = true)
    (a3 : PySem.W.nsIn K mainGlobals "_law_rank" = some (some (.ref f3)))
    (l3 : K.lookup f3 = some ⟨oc3, od3, .func (PySem.W.fnOf "_law_rank" "_law_rank" (defArgs st_l_rank) (defBody st_l_rank) (defScope st_l_rank) .none kV3 dc3 pm3 an3 cd3 ct3), sl3⟩)
    (c3 : PySem.W.codeIn K cd3 "_law_rank" = true)
    (k3 : PySem.W.keepIn K (.ref f3) = true)
    (a4 : PySem.W.nsIn K mainGlobals "_law_table" = some (some (.ref f4)))
    (l4 : K.lookup f4 = some ⟨oc4, od4, .func (PySem.W.fnOf "_law_table" "_law_table" (defArgs st_l_table) (defBody st_l_table) (defScope st_l_table) .none kV4 dc4 pm4 an4 cd4 ct4), sl4⟩)
    (c4 : PySem.W.codeIn K cd4 "_law_table" = true)
    (k4 : PySem.W.keepIn K (.ref f4) = true)
    (a5 : PySem.W.nsIn K mainGlobals "_law_turned" = some (some (.ref f5)))
    (l5 : K.lookup f5 = some ⟨oc5, od5, .func (PySem.W.fnOf "_law_turned" "_law_turned" (defArgs st_l_turned_p0) (defBody st_l_turned_p0) (defScope st_l_turned_p0) .none kV5 dc5 pm5 an5 cd5 ct5), sl5⟩)
    (c5 : PySem.W.codeIn K cd5 "_law_turned" = true)
    (k5 : PySem.W.keepIn K (.ref f5) = true)
    (a6 : PySem.W.nsIn K mainGlobals "_law_turned" = some (some (.ref f6)))
    (l6 : K.lookup f6 = some ⟨oc6, od6, .func (PySem.W.fnOf "_law_turned" "_law_turned" (defArgs st_l_turned_p1) (defBody st_l_turned_p1) (defScope st_l_turned_p1) .none kV6 dc6 pm6 an6 cd6 ct6), sl6⟩)
    (c6 : PySem.W.codeIn K cd6 "_law_turned" = true)
    (k6 : PySem.W.keepIn K (.ref f6) = true)
    (a7 : PySem.W.nsIn K mainGlobals "_law_turned" = some (some (.ref f7)))
    (l7 : K.lookup f7 = some ⟨oc7, od7, .func (PySem.W.fnOf "_law_turned" "_law_turned" (defArgs st_l_turned_p2) (defBody st_l_turned_p2) (defScope st_l_turned_p2) .none kV7 dc7 pm7 an7 cd7 ct7), sl7⟩)
    (c7 : PySem.W.codeIn K cd7 "_law_turned" = true)
    (k7 : PySem.W.keepIn K (.ref f7) = true)
    (a8 : PySem.W.nsIn K mainGlobals "told_again" = some (some (.ref f8)))
    (l8 : K.lookup f8 = some ⟨oc8, od8, .func (PySem.W.fnOf "told_again" "told_again" (defArgs st_told_again) (defBody st_told_again) (defScope st_told_again) .none kV8 dc8 pm8 an8 cd8 ct8), sl8⟩)
    (c8 : PySem.W.codeIn K cd8 "told_again" = true)
    (k8 : PySem.W.keepIn K (.ref f8) = true)
    (a9 : PySem.W.nsIn K mainGlobals "look_for_twice" = some (some (.ref f9)))
    (l9 : K.lookup f9 = some ⟨oc9, od9, .func (PySem.W.fnOf "look_for_twice" "look_for_twice" (defArgs st_look_for_twice) (defBody st_look_for_twice) (defScope st_look_for_twice) .none kV9 dc9 pm9 an9 cd9 ct9), sl9⟩)
    (c9 : PySem.W.codeIn K cd9 "look_for_twice" = true)
    (k9 : PySem.W.keepIn K (.ref f9) = true)
    (a10 : PySem.W.nsIn K mainGlobals "look_at_shuts" = some (some (.ref f10)))
    (l10 : K.lookup f10 = some ⟨oc10, od10, .func (PySem.W.fnOf "look_at_shuts" "look_at_shuts" (defArgs st_look_at_shuts) (defBody st_look_at_shuts) (defScope st_look_at_shuts) .none kV10 dc10 pm10 an10 cd10 ct10), sl10⟩)
    (c10 : PySem.W.codeIn K cd10 "look_at_shuts" = true)
    (k10 : PySem.W.keepIn K (.ref f10) = true)
    (a11 : PySem.W.nsIn K mainGlobals "wholes_of" = some (some (.ref f11)))
    (l11 : K.lookup f11 = some ⟨oc11, od11, .func (PySem.W.fnOf "wholes_of" "wholes_of" (defArgs st_wholes_of) (defBody st_wholes_of) (defScope st_wholes_of) .none kV11 dc11 pm11 an11 cd11 ct11), sl11⟩)
    (c11 : PySem.W.codeIn K cd11 "wholes_of" = true)
    (k11 : PySem.W.keepIn K (.ref f11) = true)
    (a12 : PySem.W.nsIn K mainGlobals "is_ready" = some (some (.ref f12)))
    (l12 : K.lookup f12 = some ⟨oc12, od12, .func (PySem.W.fnOf "is_ready" "is_ready" (defArgs st_is_ready) (defBody st_is_ready) (defScope st_is_ready) .none kV12 dc12 pm12 an12 cd12 ct12), sl12⟩)
    (c12 : PySem.W.codeIn K cd12 "is_ready" = true)
    (k12 : PySem.W.keepIn K (.ref f12) = true)
    (a13 : PySem.W.nsIn K mainGlobals "sizes_of" = some (some (.ref f13)))
    (l13 : K.lookup f13 = some ⟨oc13, od13, .func (PySem.W.fnOf "sizes_of" "sizes_of" (defArgs st_sizes_of) (defBody st_sizes_of) (defScope st_sizes_of) .none kV13 dc13 pm13 an13 cd13 ct13), sl13⟩)
    (c13 : PySem.W.codeIn K cd13 "sizes_of" = true)
    (k13 : PySem.W.keepIn K (.ref f13) = true)
    (a14 : PySem.W.nsIn K mainGlobals "look_for_rings" = some (some (.ref f14)))
    (l14 : K.lookup f14 = some ⟨oc14, od14, .func (PySem.W.fnOf "look_for_rings" "look_for_rings" (defArgs st_look_for_rings) (defBody st_look_for_rings) (defScope st_look_for_rings) .none kV14 dc14 pm14 an14 cd14 ct14), sl14⟩)
    (c14 : PySem.W.codeIn K cd14 "look_for_rings" = true)
    (k14 : PySem.W.keepIn K (.ref f14) = true)
    (a15 : PySem.W.nsIn K mainGlobals "look_at_sizes" = some (some (.ref f15)))
    (l15 : K.lookup f15 = some ⟨oc15, od15, .func (PySem.W.fnOf "look_at_sizes" "look_at_sizes" (defArgs st_look_at_sizes) (defBody st_look_at_sizes) (defScope st_look_at_sizes) .none kV15 dc15 pm15 an15 cd15 ct15), sl15⟩)
    (c15 : PySem.W.codeIn K cd15 "look_at_sizes" = true)
    (k15 : PySem.W.keepIn K (.ref f15) = true)
    (a16 : PySem.W.findIn K (.ref CT) "__init__" = some (some (.ref f16)))
    (i16 : PySem.W.isFn K (.ref f16) = true)
    (l16 : K.lookup f16 = some ⟨oc16, od16, .func (PySem.W.fnOf "__init__" "Table.__init__" (defArgs st_Table___init__) (defBody st_Table___init__) (defScope st_Table___init__) .none kV16 dc16 pm16 an16 cd16 ct16), sl16⟩)
    (c16 : PySem.W.codeIn K cd16 "Table.__init__" = true)
    (k16 : PySem.W.keepIn K (.ref f16) = true)
    (a17 : PySem.W.findIn K (.ref CT) "marks" = some (some (.ref f17)))
    (i17 : PySem.W.isFn K (.ref f17) = true)
    (l17 : K.lookup f17 = some ⟨oc17, od17, .func (PySem.W.fnOf "marks" "Table.marks" (defArgs st_Table_marks) (defBody st_Table_marks) (defScope st_Table_marks) .none kV17 dc17 pm17 an17 cd17 ct17), sl17⟩)
    (c17 : PySem.W.codeIn K cd17 "Table.marks" = true)
    (k17 : PySem.W.keepIn K (.ref f17) = true)
    (a18 : PySem.W.findIn K (.ref CT) "rows" = some (some (.ref f18)))
    (i18 : PySem.W.isFn K (.ref f18) = true)
    (l18 : K.lookup f18 = some ⟨oc18, od18, .func (PySem.W.fnOf "rows" "Table.rows" (defArgs st_Table_rows) (defBody st_Table_rows) (defScope st_Table_rows) .none kV18 dc18 pm18 an18 cd18 ct18), sl18⟩)
    (c18 : PySem.W.codeIn K cd18 "Table.rows" = true)
    (k18 : PySem.W.keepIn K (.ref f18) = true)
    (a19 : PySem.W.findIn K (.ref CT) "shuts" = some (some (.ref f19)))
    (i19 : PySem.W.isFn K (.ref f19) = true)
    (l19 : K.lookup f19 = some ⟨oc19, od19, .func (PySem.W.fnOf "shuts" "Table.shuts" (defArgs st_Table_shuts) (defBody st_Table_shuts) (defScope st_Table_shuts) .none kV19 dc19 pm19 an19 cd19 ct19), sl19⟩)
    (c19 : PySem.W.codeIn K cd19 "Table.shuts" = true)
    (k19 : PySem.W.keepIn K (.ref f19) = true)
    (a20 : PySem.W.nsIn K mainGlobals "_law_whole" = some (some (.ref f20)))
    (l20 : K.lookup f20 = some ⟨oc20, od20, .func (PySem.W.fnOf "_law_whole" "_law_whole" (defArgs st_l_whole) (defBody st_l_whole) (defScope st_l_whole) .none kV20 dc20 pm20 an20 cd20 ct20), sl20⟩)
    (c20 : PySem.W.codeIn K cd20 "_law_whole" = true)
    (k20 : PySem.W.keepIn K (.ref f20) = true)
    (a21 : PySem.W.nsIn K mainGlobals "_law_kinds" = some (some (.ref f21)))
    (l21 : K.lookup f21 = some ⟨oc21, od21, .func (PySem.W.fnOf "_law_kinds" "_law_kinds" (defArgs st_l_kinds) (defBody st_l_kinds) (defScope st_l_kinds) .none kV21 dc21 pm21 an21 cd21 ct21), sl21⟩)
    (c21 : PySem.W.codeIn K cd21 "_law_kinds" = true)
    (k21 : PySem.W.keepIn K (.ref f21) = true)
    (a22 : PySem.W.nsIn K mainGlobals "_law_told" = some (some (.ref f22)))
    (l22 : K.lookup f22 = some ⟨oc22, od22, .func (PySem.W.fnOf "_law_told" "_law_told" (defArgs st_l_told) (defBody st_l_told) (defScope st_l_told) .none kV22 dc22 pm22 an22 cd22 ct22), sl22⟩)
    (c22 : PySem.W.codeIn K cd22 "_law_told" = true)
    (k22 : PySem.W.keepIn K (.ref f22) = true)
    (a23 : PySem.W.nsIn K mainGlobals "_law_changed" = some (some (.ref f23)))
    (l23 : K.lookup f23 = some ⟨oc23, od23, .func (PySem.W.fnOf "_law_changed" "_law_changed" (defArgs st_l_changed) (defBody st_l_changed) (defScope st_l_changed) .none kV23 dc23 pm23 an23 cd23 ct23), sl23⟩)
    (c23 : PySem.W.codeIn K cd23 "_law_changed" = true)
    (k23 : PySem.W.keepIn K (.ref f23) = true)
    (a24 : PySem.W.findIn K (.ref CT) "row" = some (some (.ref f24)))
    (i24 : PySem.W.isFn K (.ref f24) = true)
    (l24 : K.lookup f24 = some ⟨oc24, od24, .func (PySem.W.fnOf "row" "Table.row" (defArgs st_Table_row) (defBody st_Table_row) (defScope st_Table_row) .none kV24 dc24 pm24 an24 cd24 ct24), sl24⟩)
    (c24 : PySem.W.codeIn K cd24 "Table.row" = true)
    (k24 : PySem.W.keepIn K (.ref f24) = true)
    (a25 : PySem.W.findIn K (.ref CT) "pair" = some (some (.ref f25)))
    (i25 : PySem.W.isFn K (.ref f25) = true)
    (l25 : K.lookup f25 = some ⟨oc25, od25, .func (PySem.W.fnOf "pair" "Table.pair" (defArgs st_Table_pair) (defBody st_Table_pair) (defScope st_Table_pair) .none kV25 dc25 pm25 an25 cd25 ct25), sl25⟩)
    (c25 : PySem.W.codeIn K cd25 "Table.pair" = true)
    (k25 : PySem.W.keepIn K (.ref f25) = true)
    (a26 : PySem.W.findIn K (.ref CT) "rank" = some (some (.ref f26)))
    (i26 : PySem.W.isFn K (.ref f26) = true)
    (l26 : K.lookup f26 = some ⟨oc26, od26, .func (PySem.W.fnOf "rank" "Table.rank" (defArgs st_Table_rank) (defBody st_Table_rank) (defScope st_Table_rank) .none kV26 dc26 pm26 an26 cd26 ct26), sl26⟩)
    (c26 : PySem.W.codeIn K cd26 "Table.rank" = true)
    (k26 : PySem.W.keepIn K (.ref f26) = true)
    (a27 : PySem.W.nsIn K mainGlobals "law" = some (some (.ref f27)))
    (l27 : K.lookup f27 = some ⟨oc27, od27, .func (PySem.W.fnOf "law" "law" (defArgs st_law) (defBody st_law) (defScope st_law) .none kV27 dc27 pm27 an27 cd27 ct27), sl27⟩)
    (c27 : PySem.W.codeIn K cd27 "law" = true)
    (k27 : PySem.W.keepIn K (.ref f27) = true)
    (pg : PySem.W.plainGet K CT Str.empty = true)
    (hd : PySem.W.hasDictIn K CT = true)
    (po : PySem.W.plainOver K CT = true)
    (sa : PySem.W.findIn K (.ref CT) "__setattr__" = some (some (.builtin "object.__setattr__")))
    (mk : PySem.W.makesIn K CT = true)
    (kc : PySem.W.keepIn K (.ref CT) = true)
    (n_ranks : PySem.W.findIn K (.ref CT) "ranks" = some none)
    (n_parts : PySem.W.findIn K (.ref CT) "parts" = some none)
    (n_closed : PySem.W.findIn K (.ref CT) "closed" = some none)
    (n_wholes : PySem.W.findIn K (.ref CT) "wholes" = some none)
    (z_len : PySem.W.nsIn K mainGlobals "len" = some none)
    (z_list : PySem.W.nsIn K mainGlobals "list" = some none)
    (z_sorted : PySem.W.nsIn K mainGlobals "sorted" = some none)
    (z_isinstance : PySem.W.nsIn K mainGlobals "isinstance" = some none)
    (z_range : PySem.W.nsIn K mainGlobals "range" = some none)
    (z_dict : PySem.W.nsIn K mainGlobals "dict" = some none)
    (z_all : PySem.W.nsIn K mainGlobals "all" = some none)
    (z_any : PySem.W.nsIn K mainGlobals "any" = some none)
    (z_min : PySem.W.nsIn K mainGlobals "min" = some none)
    (z_max : PySem.W.nsIn K mainGlobals "max" = some none)
    (z_sum : PySem.W.nsIn K mainGlobals "sum" = some none)
    (z_reversed : PySem.W.nsIn K mainGlobals "reversed" = some none)
    (z_int : PySem.W.nsIn K mainGlobals "int" = some none)
    (z_str : PySem.W.nsIn K mainGlobals "str" = some none)
    (z_enumerate : PySem.W.nsIn K mainGlobals "enumerate" = some none)
    (z_zip : PySem.W.nsIn K mainGlobals "zip" = some none)
    (z_tuple : PySem.W.nsIn K mainGlobals "tuple" = some none)
    (z_abs : PySem.W.nsIn K mainGlobals "abs" = some none)
    (z_bool : PySem.W.nsIn K mainGlobals "bool" = some none)
    (v_MOST_FULL : PySem.W.nsIn K mainGlobals "MOST_FULL" = some (some (.int 16 t_MOST_FULL))) :
    ∃ fd : FuncData, (∀ (s : Shared) (v : Value), BindsTo s fd ⟨[v], []⟩ [("_law_script", v)]) ∧ ∀ base : Heap, K.In base → base.Ns mainGlobals mg → FnOk P w K mg base CX0 5 fa fd ["_law_script"] spLaw := by
  have e := hfa.symm.trans (PySem.W.mg_of X G a27)
  cases e
  have T : Blt mg := ⟨PySem.W.mg_none_of X G z_len, PySem.W.mg_none_of X G z_list, PySem.W.mg_none_of X G z_sorted, PySem.W.mg_none_of X G z_isinstance, PySem.W.mg_none_of X G z_range, PySem.W.mg_none_of X G z_dict, PySem.W.mg_none_of X G z_all, PySem.W.mg_none_of X G z_any, PySem.W.mg_none_of X G z_min, PySem.W.mg_none_of X G z_max, PySem.W.mg_none_of X G z_sum, PySem.W.mg_none_of X G z_reversed, PySem.W.mg_none_of X G z_int, PySem.W.mg_none_of X G z_str, PySem.W.mg_none_of X G z_enumerate, PySem.W.mg_none_of X G z_zip, PySem.W.mg_none_of X G z_tuple, PySem.W.mg_none_of X G z_abs, PySem.W.mg_none_of X G z_bool⟩
  have TT : TabTxt K CT := ⟨⟨pg, hd, po, sa⟩, n_ranks, n_parts, n_closed, n_wholes⟩
  have V_MOST_FULL : ∃ t, mg "MOST_FULL" = some (.int 16 t) := ⟨_, PySem.W.mg_of X G v_MOST_FULL⟩
  have F0 := fun_mk (st := st_l_cell_at) l0 c0 k0
  have b0 := F0.binds (ps := ["_law_script", "_law_k"]) fun _ _ _ _ _ _ us hl => match us, hl with | [_, _], _ => rfl
  have F1 := fun_mk (st := st_l_sign) l1 c1 k1
  have b1 := F1.binds (ps := ["_law_cell", "_law_pool"]) fun _ _ _ _ _ _ us hl => match us, hl with | [_, _], _ => rfl
  have F2 := fun_mk (st := st_l_row) l2 c2 k2
  have b2 := F2.binds (ps := ["_law_number", "_law_pool"]) fun _ _ _ _ _ _ us hl => match us, hl with | [_, _], _ => rfl
  have F3 := fun_mk (st := st_l_rank) l3 c3 k3
  have b3 := F3.binds (ps := ["_law_number"]) fun _ _ _ _ _ _ us hl => match us, hl with | [_], _ => rfl
  have F4 := fun_mk (st := st_l_table) l4 c4 k4
  have b4 := F4.binds (ps := ["_law_cells"]) fun _ _ _ _ _ _ us hl => match us, hl with | [_], _ => rfl
  have F5 := fun_mk (st := st_l_turned_p0) l5 c5 k5
  have b5 := F5.binds (ps := ["_law_row_here", "_law_number"]) fun _ _ _ _ _ _ us hl => match us, hl with | [_, _], _ => rfl
  have F6 := fun_mk (st := st_l_turned_p1) l6 c6 k6
  have b6 := F6.binds (ps := ["_law_row_here", "_law_number"]) fun _ _ _ _ _ _ us hl => match us, hl with | [_, _], _ => rfl
  have F7 := fun_mk (st := st_l_turned_p2) l7 c7 k7
  have b7 := F7.binds (ps := ["_law_row_here", "_law_number"]) fun _ _ _ _ _ _ us hl => match us, hl with | [_, _], _ => rfl
  have F8 := fun_mk (st := st_told_again) l8 c8 k8
  have b8 := F8.binds (ps := ["signs"]) fun _ _ _ _ _ _ us hl => match us, hl with | [_], _ => rfl
  have F9 := fun_mk (st := st_look_for_twice) l9 c9 k9
  have b9 := F9.binds (ps := ["marks", "rows", "shuts"]) fun _ _ _ _ _ _ us hl => match us, hl with | [_, _, _], _ => rfl
  have F10 := fun_mk (st := st_look_at_shuts) l10 c10 k10
  have b10 := F10.binds (ps := ["parts", "shuts"]) fun _ _ _ _ _ _ us hl => match us, hl with | [_, _], _ => rfl
  have F11 := fun_mk (st := st_wholes_of) l11 c11 k11
  have b11 := F11.binds (ps := ["parts", "closed"]) fun _ _ _ _ _ _ us hl => match us, hl with | [_, _], _ => rfl
  have F12 := fun_mk (st := st_is_ready) l12 c12 k12
  have b12 := F12.binds (ps := ["parts", "sizes", "sign"]) fun _ _ _ _ _ _ us hl => match us, hl with | [_, _, _], _ => rfl
  have F13 := fun_mk (st := st_sizes_of) l13 c13 k13
  have b13 := F13.binds (ps := ["parts"]) fun _ _ _ _ _ _ us hl => match us, hl with | [_], _ => rfl
  have F14 := fun_mk (st := st_look_for_rings) l14 c14 k14
  have b14 := F14.binds (ps := ["parts", "sizes"]) fun _ _ _ _ _ _ us hl => match us, hl with | [_, _], _ => rfl
  have F15 := fun_mk (st := st_look_at_sizes) l15 c15 k15
  have b15 := F15.binds (ps := ["sizes"]) fun _ _ _ _ _ _ us hl => match us, hl with | [_], _ => rfl
  have F16 := fun_mk (st := st_Table___init__) l16 c16 k16
  have b16 := F16.binds (ps := ["self", "marks", "rows", "shuts"]) fun _ _ _ _ _ _ us hl => match us, hl with | [_, _, _, _], _ => rfl
  have F17 := fun_mk (st := st_Table_marks) l17 c17 k17
  have b17 := F17.binds (ps := ["self"]) fun _ _ _ _ _ _ us hl => match us, hl with | [_], _ => rfl
  have F18 := fun_mk (st := st_Table_rows) l18 c18 k18
  have b18 := F18.binds (ps := ["self"]) fun _ _ _ _ _ _ us hl => match us, hl with | [_], _ => rfl
  have F19 := fun_mk (st := st_Table_shuts) l19 c19 k19
  have b19 := F19.binds (ps := ["self"]) fun _ _ _ _ _ _ us hl => match us, hl with | [_], _ => rfl
  have F20 := fun_mk (st := st_l_whole) l20 c20 k20
  have b20 := F20.binds (ps := ["_law_found"]) fun _ _ _ _ _ _ us hl => match us, hl with | [_], _ => rfl
  have F21 := fun_mk (st := st_l_kinds) l21 c21 k21
  have b21 := F21.binds (ps := ["_law_told_here"]) fun _ _ _ _ _ _ us hl => match us, hl with | [_], _ => rfl
  have F22 := fun_mk (st := st_l_told) l22 c22 k22
  have b22 := F22.binds (ps := ["_law_table_here", "_law_way"]) fun _ _ _ _ _ _ us hl => match us, hl with | [_, _], _ => rfl
  have F23 := fun_mk (st := st_l_changed) l23 c23 k23
  have b23 := F23.binds (ps := ["_law_told_here", "_law_way"]) fun _ _ _ _ _ _ us hl => match us, hl with | [_, _], _ => rfl
  have F24 := fun_mk (st := st_Table_row) l24 c24 k24
  have b24 := F24.binds (ps := ["self", "sign"]) fun _ _ _ _ _ _ us hl => match us, hl with | [_, _], _ => rfl
  have F25 := fun_mk (st := st_Table_pair) l25 c25 k25
  have b25 := F25.binds (ps := ["self", "one", "other"]) fun _ _ _ _ _ _ us hl => match us, hl with | [_, _, _], _ => rfl
  have F26 := fun_mk (st := st_Table_rank) l26 c26 k26
  have b26 := F26.binds (ps := ["self", "sign"]) fun _ _ _ _ _ _ us hl => match us, hl with | [_, _], _ => rfl
  have F27 := fun_mk (st := st_law) l27 c27 k27
  refine ⟨PySem.W.fnOf "law" "law" (defArgs st_law) (defBody st_law) (defScope st_law) .none kV27 dc27 pm27 an27 cd27 ct27, fun s v => .of_eq rfl, fun base _ _ => ?_⟩
  have G_l_cell_at : CalM P w K mg base 1 "_law_cell_at" ["_law_script", "_law_k"] (sp_l_cell_at CT) := ⟨f0, _, ok_l_cell_at F0 T TT , PySem.W.mg_of X G a0, k0, b0⟩
  have G_l_sign : CalM P w K mg base 1 "_law_sign" ["_law_cell", "_law_pool"] (sp_l_sign CT) := ⟨f1, _, ok_l_sign F1 T TT , PySem.W.mg_of X G a1, k1, b1⟩
  have G_l_row : CalM P w K mg base 1 "_law_row" ["_law_number", "_law_pool"] (sp_l_row CT) := ⟨f2, _, ok_l_row F2 T TT , PySem.W.mg_of X G a2, k2, b2⟩
  have G_l_rank : CalM P w K mg base 1 "_law_rank" ["_law_number"] (sp_l_rank CT) := ⟨f3, _, ok_l_rank F3 T TT , PySem.W.mg_of X G a3, k3, b3⟩
  have G_l_turned_p0 : CalM P w K mg base 1 "_law_turned" ["_law_row_here", "_law_number"] (sp_l_turned_p0 CT) := ⟨f5, _, ok_l_turned_p0 F5 T TT , PySem.W.mg_of X G a5, k5, b5⟩
  have G_l_turned_p1 : CalM P w K mg base 1 "_law_turned" ["_law_row_here", "_law_number"] (sp_l_turned_p1 CT) := ⟨f6, _, ok_l_turned_p1 F6 T TT , PySem.W.mg_of X G a6, k6, b6⟩
  have G_l_turned_p2 : CalM P w K mg base 1 "_law_turned" ["_law_row_here", "_law_number"] (sp_l_turned_p2 CT) := ⟨f7, _, ok_l_turned_p2 F7 T TT , PySem.W.mg_of X G a7, k7, b7⟩
  have G_told_again : CalM P w K mg base 1 "told_again" ["signs"] (sp_told_again CT) := ⟨f8, _, ok_told_again F8 T TT , PySem.W.mg_of X G a8, k8, b8⟩
  have G_look_at_shuts : CalM P w K mg base 1 "look_at_shuts" ["parts", "shuts"] (sp_look_at_shuts CT) := ⟨f10, _, ok_look_at_shuts F10 T TT , PySem.W.mg_of X G a10, k10, b10⟩
  have G_wholes_of : CalM P w K mg base 1 "wholes_of" ["parts", "closed"] (sp_wholes_of CT) := ⟨f11, _, ok_wholes_of F11 T TT , PySem.W.mg_of X G a11, k11, b11⟩
  have G_is_ready : CalM P w K mg base 1 "is_ready" ["parts", "sizes", "sign"] (sp_is_ready CT) := ⟨f12, _, ok_is_ready F12 T TT , PySem.W.mg_of X G a12, k12, b12⟩
  have G_look_for_rings : CalM P w K mg base 1 "look_for_rings" ["parts", "sizes"] (sp_look_for_rings CT) := ⟨f14, _, ok_look_for_rings F14 T TT , PySem.W.mg_of X G a14, k14, b14⟩
  have G_look_at_sizes : CalM P w K mg base 1 "look_at_sizes" ["sizes"] (sp_look_at_sizes CT) := ⟨f15, _, ok_look_at_sizes F15 T TT V_MOST_FULL, PySem.W.mg_of X G a15, k15, b15⟩
  have G_Table_marks : MCalM P w K mg base 1 CT "marks" ["self"] (sp_Table_marks CT) := ⟨f17, _, ok_Table_marks F17 T TT , ⟨a17, i17, k17⟩, b17⟩
  have G_Table_rows : MCalM P w K mg base 1 CT "rows" ["self"] (sp_Table_rows CT) := ⟨f18, _, ok_Table_rows F18 T TT , ⟨a18, i18, k18⟩, b18⟩
  have G_Table_shuts : MCalM P w K mg base 1 CT "shuts" ["self"] (sp_Table_shuts CT) := ⟨f19, _, ok_Table_shuts F19 T TT , ⟨a19, i19, k19⟩, b19⟩
  have G_l_whole : CalM P w K mg base 1 "_law_whole" ["_law_found"] (sp_l_whole CT) := ⟨f20, _, ok_l_whole F20 T TT , PySem.W.mg_of X G a20, k20, b20⟩
  have G_l_changed : CalM P w K mg base 1 "_law_changed" ["_law_told_here", "_law_way"] (sp_l_changed CT) := ⟨f23, _, ok_l_changed F23 T TT , PySem.W.mg_of X G a23, k23, b23⟩
  have G_Table_row : MCalM P w K mg base 1 CT "row" ["self", "sign"] (sp_Table_row CT) := ⟨f24, _, ok_Table_row F24 T TT , ⟨a24, i24, k24⟩, b24⟩
  have G_Table_pair : MCalM P w K mg base 1 CT "pair" ["self", "one", "other"] (sp_Table_pair CT) := ⟨f25, _, ok_Table_pair F25 T TT , ⟨a25, i25, k25⟩, b25⟩
  have G_Table_rank : MCalM P w K mg base 1 CT "rank" ["self", "sign"] (sp_Table_rank CT) := ⟨f26, _, ok_Table_rank F26 T TT , ⟨a26, i26, k26⟩, b26⟩
  have G_l_table : CalM P w K mg base 2 "_law_table" ["_law_cells"] (sp_l_table CT) := ⟨f4, _, ok_l_table F4 T TT G_l_sign G_l_row G_l_rank, PySem.W.mg_of X G a4, k4, b4⟩
  have G_look_for_twice : CalM P w K mg base 2 "look_for_twice" ["marks", "rows", "shuts"] (sp_look_for_twice CT) := ⟨f9, _, ok_look_for_twice F9 T TT G_told_again, PySem.W.mg_of X G a9, k9, b9⟩
  have G_sizes_of : CalM P w K mg base 2 "sizes_of" ["parts"] (sp_sizes_of CT) := ⟨f13, _, ok_sizes_of F13 T TT G_is_ready, PySem.W.mg_of X G a13, k13, b13⟩
  have G_l_kinds : CalM P w K mg base 2 "_law_kinds" ["_law_told_here"] (sp_l_kinds CT) := ⟨f21, _, ok_l_kinds F21 T TT G_l_whole, PySem.W.mg_of X G a21, k21, b21⟩
  have G_Table___init__ : MkTM P w K mg base 3 "Table" CT ["self", "marks", "rows", "shuts"] (sp_Table___init__ CT) := ⟨f16, _, ⟨mk, a16, i16, kc⟩, ok_Table___init__ F16 T TT G_look_for_twice G_look_at_shuts G_wholes_of G_sizes_of G_look_for_rings G_look_at_sizes, PySem.W.mg_of X G aC, b16⟩
  have G_l_told : CalM P w K mg base 3 "_law_told" ["_law_table_here", "_law_way"] (sp_l_told CT) := ⟨f22, _, ok_l_told F22 T TT G_Table_marks G_Table_rows G_Table_shuts G_l_kinds, PySem.W.mg_of X G a22, k22, b22⟩
  exact fn_law (ok_law (CT := CT) F27 T TT G_l_cell_at G_l_table G_l_turned_p0 G_l_turned_p1 G_l_turned_p2 G_Table___init__ G_l_told G_l_changed G_Table_row G_Table_pair G_Table_rank) law_true
end Sg.W
open PySem PySem.W PyProof.Rows in
set_option maxRecDepth 100000 in
set_option maxHeartbeats 0 in
theorem PySem.Challenge.cw_signforms_k13_lists_told_holds : PySem.Challenge.rw_signforms_k13_lists_told.Holds := by
  w_on; o_law; k_head; (case hw => w_witness2)
  k_fill
  refine Sg.walk_law (l := PySem.Challenge.rw_signforms_k13_lists_told) (k := 5) (p := "_law_script") rfl rfl ⟨rfl, by decide, by decide⟩ (fun w h Y => PySem.W.kIn_of Y) ?hN ?F
  case hN => (intro w; kernel_rfl)
  case F =>
    intro w mg fa h KX G hmg
    refine' Sg.W.all_mk KX G hmg ?aC ?a0 ?l0 ?c0 ?k0 ?a1 ?l1 ?c1 ?k1 ?a2 ?l2 ?c2 ?k2 ?a3 ?l3 ?c3 ?k3 ?a4 ?l4 ?c4 ?k4 ?a5 ?l5 ?c5 ?k5 ?a6 ?l6 ?c6 ?k6 ?a7 ?l7 ?c7 ?k7 ?a8 ?l8 ?c8 ?k8 ?a9 ?l9 ?c9 ?k9 ?a10 ?l10 ?c10 ?k10 ?a11 ?l11 ?c11 ?k11 ?a12 ?l12 ?c12 ?k12 ?a13 ?l13 ?c13 ?k13 ?a14 ?l14 ?c14 ?k14 ?a15 ?l15 ?c15 ?k15 ?a16 ?i16 ?l16 ?c16 ?k16 ?a17 ?i17 ?l17 ?c17 ?k17 ?a18 ?i18 ?l18 ?c18 ?k18 ?a19 ?i19 ?l19 ?c19 ?k19 ?a20 ?l20 ?c20 ?k20 ?a21 ?l21 ?c21 ?k21 ?a22 ?l22 ?c22 ?k22 ?a23 ?l23 ?c23 ?k23 ?a24 ?i24 ?l24 ?c24 ?k24 ?a25 ?i25 ?l25 ?c25 ?k25 ?a26 ?i26 ?l26 ?c26 ?k26 ?a27 ?l27 ?c27 ?k27 ?pg ?hd ?po ?sa ?mk ?kc ?n_ranks ?n_parts ?n_closed ?n_wholes ?z_len ?z_list ?z_sorted ?z_isinstance ?z_range ?z_dict ?z_all ?z_any ?z_min ?z_max ?z_sum ?z_reversed ?z_int ?z_str ?z_enumerate ?z_zip ?z_tuple ?z_abs ?z_bool ?v_MOST_FULL
    (case aC => k_is)
    (case a0 => k_is)
    (case l0 => k_is)
    (case c0 => k_is)
    (case k0 => k_is)
    (case a1 => k_is)
    (case l1 => k_is)
    (case c1 => k_is)
    (case k1 => k_is)
    (case a2 => k_is)
    (case l2 => k_is)
    (case c2 => k_is)
    (case k2 => k_is)
    (case a3 => k_is)
    (case l3 => k_is)
    (case c3 => k_is)
    (case k3 => k_is)
    (case a4 => k_is)
    (case l4 => k_is)
    (case c4 => k_is)
    (case k4 => k_is)
    (case a5 => k_is)
    (case l5 => k_is)
    (case c5 => k_is)
    (case k5 => k_is)
    (case a6 => k_is)
    (case l6 => k_is)
    (case c6 => k_is)
    (case k6 => k_is)
    (case a7 => k_is)
    (case l7 => k_is)
    (case c7 => k_is)
    (case k7 => k_is)
    (case a8 => k_is)
    (case l8 => k_is)
    (case c8 => k_is)
    (case k8 => k_is)
    (case a9 => k_is)
    (case l9 => k_is)
    (case c9 => k_is)
    (case k9 => k_is)
    (case a10 => k_is)
    (case l10 => k_is)
    (case c10 => k_is)
    (case k10 => k_is)
    (case a11 => k_is)
    (case l11 => k_is)
    (case c11 => k_is)
    (case k11 => k_is)
    (case a12 => k_is)
    (case l12 => k_is)
    (case c12 => k_is)
    (case k12 => k_is)
    (case a13 => k_is)
    (case l13 => k_is)
    (case c13 => k_is)
    (case k13 => k_is)
    (case a14 => k_is)
    (case l14 => k_is)
    (case c14 => k_is)
    (case k14 => k_is)
    (case a15 => k_is)
    (case l15 => k_is)
    (case c15 => k_is)
    (case k15 => k_is)
    (case a16 => k_is)
    (case i16 => k_is)
    (case l16 => k_is)
    (case c16 => k_is)
    (case k16 => k_is)
    (case a17 => k_is)
    (case i17 => k_is)
    (case l17 => k_is)
    (case c17 => k_is)
    (case k17 => k_is)
    (case a18 => k_is)
    (case i18 => k_is)
    (case l18 => k_is)
    (case c18 => k_is)
    (case k18 => k_is)
    (case a19 => k_is)
    (case i19 => k_is)
    (case l19 => k_is)
    (case c19 => k_is)
    (case k19 => k_is)
    (case a20 => k_is)
    (case l20 => k_is)
    (case c20 => k_is)
    (case k20 => k_is)
    (case a21 => k_is)
    (case l21 => k_is)
    (case c21 => k_is)
    (case k21 => k_is)
    (case a22 => k_is)
    (case l22 => k_is)
    (case c22 => k_is)
    (case k22 => k_is)
    (case a23 => k_is)
    (case l23 => k_is)
    (case c23 => k_is)
    (case k23 => k_is)
    (case a24 => k_is)
    (case i24 => k_is)
    (case l24 => k_is)
    (case c24 => k_is)
    (case k24 => k_is)
    (case a25 => k_is)
    (case i25 => k_is)
    (case l25 => k_is)
    (case c25 => k_is)
    (case k25 => k_is)
    (case a26 => k_is)
    (case i26 => k_is)
    (case l26 => k_is)
    (case c26 => k_is)
    (case k26 => k_is)
    (case a27 => k_is)
    (case l27 => k_is)
    (case c27 => k_is)
    (case k27 => k_is)
    (case pg => k_is)
    (case hd => k_is)
    (case po => k_is)
    (case sa => k_is)
    (case mk => k_is)
    (case kc => k_is)
    (case n_ranks => k_is)
    (case n_parts => k_is)
    (case n_closed => k_is)
    (case n_wholes => k_is)
    (case z_len => k_is)
    (case z_list => k_is)
    (case z_sorted => k_is)
    (case z_isinstance => k_is)
    (case z_range => k_is)
    (case z_dict => k_is)
    (case z_all => k_is)
    (case z_any => k_is)
    (case z_min => k_is)
    (case z_max => k_is)
    (case z_sum => k_is)
    (case z_reversed => k_is)
    (case z_int => k_is)
    (case z_str => k_is)
    (case z_enumerate => k_is)
    (case z_zip => k_is)
    (case z_tuple => k_is)
    (case z_abs => k_is)
    (case z_bool => k_is)
    (case v_MOST_FULL => k_is)
