import PyProof.Rows.All
import Wide.All
import OpenK.AllK
import Wide.FinOn
import HandS.ForMost
import HandS.ForExc
import HandS.SortInts
import HandS.More
import HandS.Style
import HandS.IsInst
import HandS.Rev
import HandS.Deep
import HandS.FromBytesMap
import HandS.SortKw
import KE.SortKeyHeap
import HandS.TryOnly
import HandS.DeepEq
import HandS.ListItems
import HandS.Keys
import PyProof.Rows.SortShell
import KE.SortData
import HandS.Flow
import KE.DataMinMax
import HandS.ExcCtx
import HandS.ExcOwn
import HandS.HotCalls
import HandS.ExcField
import KE.KExcIs
import HandS.ExcInit
import HandS.Text
import HandS.Iter
import KE.GoesEnumKw
import HandS.SetFor
import KE.KDictList
import KE.DataEq
import HandS.EndBits
import HandS.WideBits
import KE.IntBitsLaws
import PyProof.StrOps2
import PySem.Challenge.RW_signforms_k73_refused_rules
set_option Elab.async false
set_option linter.all false
set_option maxRecDepth 100000
set_option maxHeartbeats 4000000
namespace Sg
open PySem PySem.Spec PyProof.Rows L2

/-! ### results -/
inductive ED where
  | int (i : Int)
  | ints (l : List Int)
  deriving DecidableEq
structure Err where
  cls : Str
  fs : List (Str × ED)
inductive Res (α : Type) where
  | ok (a : α) | err (e : Err) | stuck
def Res.bind {α β : Type} (m : Res α) (f : α → Res β) : Res β := match m with
  | .ok a => f a
  | .err e => .err e
  | .stuck => .stuck
def Fin {α : Type} (P : α → Prop) (Er : Err → Prop) : Res α → Prop
  | .ok a => P a
  | .err e => Er e
  | .stuck => False
theorem Fin.bind {α β : Type} {P : β → Prop} {Er : Err → Prop} {m : Res α} {f : α → Res β} (h : Fin P Er (m.bind f)) : Fin (fun a => Fin P Er (f a)) Er m := by
  cases m with
  | ok a => exact h
  | err e => exact h
  | stuck => exact h
theorem Fin.unbind {α β : Type} {P : β → Prop} {Er : Err → Prop} {m : Res α} {f : α → Res β} (h : Fin (fun a => Fin P Er (f a)) Er m) : Fin P Er (m.bind f) := by
  cases m with
  | ok a => exact h
  | err e => exact h
  | stuck => exact h
theorem Fin.mono {α : Type} {P P' : α → Prop} {Er Er' : Err → Prop} {m : Res α} (h : Fin P Er m) (k : ∀ a, m = .ok a → P a → P' a) (ke : ∀ e, Er e → Er' e) : Fin P' Er' m := by
  cases m with
  | ok a => exact k a rfl h
  | err e => exact ke e h
  | stuck => exact h
/-- a partial thing -/
def Res.of {α : Type} : Option α → Res α
  | some a => .ok a
  | none => .stuck
/-- a test that must hold -/
@[irreducible] def Res.need {α : Type} (c : Prop) [Decidable c] (m : Res α) : Res α := if c then m else .stuck
theorem Fin.need {α : Type} {c : Prop} [Decidable c] {P : α → Prop} {Er : Err → Prop} {m : Res α} (h : Fin P Er (Res.need c m)) : c ∧ Fin P Er m := by
  unfold Res.need at h
  by_cases hc : c
  · rw [if_pos hc] at h
    exact ⟨hc, h⟩
  · rw [if_neg hc] at h
    exact h.elim

/-! ### heaps -/
def nf : HO → HO
  | .frz _ (.dK k) => .dK k
  | .frz _ (.dT k) => .dT k
  | o => o
/-- what is read in the one is read in the other -/
def Ex (H H' : Hp) : Prop := ∀ a o, H a = some o → ∃ o', H' a = some o' ∧ nf o' = nf o
/-- .. is the same in the other -/
def Sx (H H' : Hp) : Prop := ∀ a o, H a = some o → H' a = some o
theorem Ex.refl (H : Hp) : Ex H H := fun _ o h => ⟨o, h, rfl⟩
theorem Ex.trans {H H1 H2 : Hp} (a : Ex H H1) (b : Ex H1 H2) : Ex H H2 := fun x o h => by
  obtain ⟨o1, h1, e1⟩ := a x o h
  obtain ⟨o2, h2, e2⟩ := b x o1 h1
  exact ⟨o2, h2, e2.trans e1⟩
theorem Sx.refl (H : Hp) : Sx H H := fun _ _ h => h
theorem Sx.trans {H H1 H2 : Hp} (a : Sx H H1) (b : Sx H1 H2) : Sx H H2 := fun x o h => b x o (a x o h)
theorem Sx.ex {H H' : Hp} (a : Sx H H') : Ex H H' := fun x o h => ⟨o, a x o h, rfl⟩
theorem Sx.new {H : Hp} {p : Addr} {o : HO} (h : H p = none) : Sx H (upd H p o) := fun a u e => by
  rw [upd_ne (ne_of_none e h)]
  exact e
theorem Sx.free {H H' : Hp} (e : Sx H H') {l : Addr} (h : H' l = none) : H l = none := by
  cases q : H l with
  | none => rfl
  | some o =>
    rw [e l o q] at h
    cases h
/-- tuples kept -/
def Tx (H H' : Hp) : Prop := ∀ a ys, H a = some (.tup ys) → H' a = some (.tup ys)
theorem nf_lst {o : HO} {xs : List V} (h : nf o = .lst xs) : o = .lst xs := by
  cases o with
  | frz ob u => cases u <;> cases h
  | lst ys => exact h
  | _ => cases h
theorem nf_tup {o : HO} {xs : List V} (h : nf o = .tup xs) : o = .tup xs := by
  cases o with
  | frz ob u => cases u <;> cases h
  | tup ys => exact h
  | _ => cases h
theorem nf_ins {o : HO} {C dx : Addr} {fs : List (Str × V)} (h : nf o = .ins C dx fs) : o = .ins C dx fs := by
  cases o with
  | frz ob u => cases u <;> cases h
  | ins _ _ _ => exact h
  | _ => cases h
theorem nf_dK {o : HO} {k : List (Key × V)} (h : nf o = .dK k) : o = .dK k ∨ ∃ ob, o = .frz ob (.dK k) := by
  cases o with
  | frz ob u => cases u <;> first | (cases h; exact .inr ⟨_, rfl⟩) | cases h
  | dK _ => exact .inl h
  | _ => cases h
theorem nf_dT {o : HO} {k : List (List Key × V)} (h : nf o = .dT k) : o = .dT k ∨ ∃ ob, o = .frz ob (.dT k) := by
  cases o with
  | frz ob u => cases u <;> first | (cases h; exact .inr ⟨_, rfl⟩) | cases h
  | dT _ => exact .inl h
  | _ => cases h
theorem nf_frzL {o : HO} {ob : Obj} {xs : List V} (h : nf o = nf (.frz ob (.lst xs))) : o = .frz ob (.lst xs) := by
  cases o with
  | frz ob' u => cases u <;> first | exact h | cases h
  | _ => cases h
theorem nf_frzT {o : HO} {ob : Obj} {xs : List V} (h : nf o = nf (.frz ob (.tup xs))) : o = .frz ob (.tup xs) := by
  cases o with
  | frz ob' u => cases u <;> first | exact h | cases h
  | _ => cases h
theorem Ex.lst {H H' : Hp} {a : Addr} {xs : List V} (e : Ex H H') (h : H a = some (.lst xs)) : H' a = some (.lst xs) := by
  obtain ⟨o, h1, h2⟩ := e _ _ h
  rw [h1, nf_lst h2]
theorem Ex.tup {H H' : Hp} {a : Addr} {xs : List V} (e : Ex H H') (h : H a = some (.tup xs)) : H' a = some (.tup xs) := by
  obtain ⟨o, h1, h2⟩ := e _ _ h
  rw [h1, nf_tup h2]
theorem Ex.ins {H H' : Hp} {a C dx : Addr} {fs : List (Str × V)} (e : Ex H H') (h : H a = some (.ins C dx fs)) : H' a = some (.ins C dx fs) := by
  obtain ⟨o, h1, h2⟩ := e _ _ h
  rw [h1, nf_ins h2]
theorem Ex.dK {H H' : Hp} {a : Addr} {k : List (Key × V)} (e : Ex H H') (h : Rd H a (.dK k)) : Rd H' a (.dK k) := by
  have key : ∀ o, H a = some o → nf o = .dK k → Rd H' a (.dK k) := fun o h1 h2 => by
    obtain ⟨o', h3, h4⟩ := e _ _ h1
    rcases nf_dK (h4.trans h2) with q | ⟨ob, q⟩
    · exact .inl (by rw [h3, q])
    · exact .inr ⟨ob, by rw [h3, q]⟩
  rcases h with h | ⟨ob, h⟩
  · exact key _ h rfl
  · exact key _ h rfl
theorem Ex.dT {H H' : Hp} {a : Addr} {k : List (List Key × V)} (e : Ex H H') (h : Rd H a (.dT k)) : Rd H' a (.dT k) := by
  have key : ∀ o, H a = some o → nf o = .dT k → Rd H' a (.dT k) := fun o h1 h2 => by
    obtain ⟨o', h3, h4⟩ := e _ _ h1
    rcases nf_dT (h4.trans h2) with q | ⟨ob, q⟩
    · exact .inl (by rw [h3, q])
    · exact .inr ⟨ob, by rw [h3, q]⟩
  rcases h with h | ⟨ob, h⟩
  · exact key _ h rfl
  · exact key _ h rfl
theorem Ex.sqL {K : PySem.W.Frag} {H H' : Hp} {a : Addr} {xs : List V} (e : Ex H H') (h : SqL K H a xs) : SqL K H' a xs := by
  rcases h with (h | ⟨ob, h⟩) | h
  · exact .inl (.inl (e.lst h))
  · obtain ⟨o, h1, h2⟩ := e _ _ h
    exact .inl (.inr ⟨ob, by rw [h1, nf_frzL h2]⟩)
  · exact .inr h
theorem Ex.sqT {K : PySem.W.Frag} {H H' : Hp} {a : Addr} {xs : List V} (e : Ex H H') (h : SqT K H a xs) : SqT K H' a xs := by
  rcases h with (h | ⟨ob, h⟩) | h
  · exact .inl (.inl (e.tup h))
  · obtain ⟨o, h1, h2⟩ := e _ _ h
    exact .inl (.inr ⟨ob, by rw [h1, nf_frzT h2]⟩)
  · exact .inr h

/-! ### what stands for data -/
theorem Ex.rdL {H H' : Hp} {a : Addr} {xs : List V} (e : Ex H H') (h : Rd H a (.lst xs)) : Rd H' a (.lst xs) := by
  rcases h with h | ⟨ob, h⟩
  · exact .inl (e.lst h)
  · obtain ⟨o, h1, h2⟩ := e _ _ h
    exact .inr ⟨ob, by rw [h1, nf_frzL h2]⟩

structure Rel (α : Type) where
  r : Hp → V → α → Prop
  mono : ∀ {H H' : Hp} {v : V} {x : α}, Ex H H' → r H v x → r H' v x
class Imm {α : Type} (R : Rel α) : Prop where
  imm : ∀ {H H' : Hp} {v : V} {x : α}, Tx H H' → R.r H v x → R.r H' v x
/-- never None -/
class NN {α : Type} (R : Rel α) : Prop where
  nn : ∀ {H : Hp} {v : V} {x : α}, R.r H v x → v ≠ .non

theorem pimp {α β : Type} {F G : α → β → Prop} {l₁ : List α} {l₂ : List β} (h : Paired F l₁ l₂) (f : ∀ a b, F a b → G a b) : Paired G l₁ l₂ := Paired.mapP h f

def rInt : Rel Int := ⟨fun _ v x => v = .int x, fun _ h => h⟩
def rBool : Rel Bool := ⟨fun _ v x => v = .bl x, fun _ h => h⟩
def rStr : Rel Str := ⟨fun _ v x => v = .str x, fun _ h => h⟩
def rNon : Rel Unit := ⟨fun _ v _ => v = .non, fun _ h => h⟩
section
variable {α β γ : Type}
def rLst (R : Rel α) : Rel (List α) := ⟨fun H v xs => ∃ p vs, v = .ref p ∧ Rd H p (.lst vs) ∧ Paired (R.r H) vs xs, fun e h => by
  obtain ⟨p, vs, h1, h2, h3⟩ := h
  exact ⟨p, vs, h1, e.rdL h2, pimp h3 fun _ _ q => R.mono e q⟩⟩
def rTup (R : Rel α) : Rel (List α) := ⟨fun H v xs => ∃ p vs, v = .ref p ∧ H p = some (.tup vs) ∧ Paired (R.r H) vs xs, fun e h => by
  obtain ⟨p, vs, h1, h2, h3⟩ := h
  exact ⟨p, vs, h1, e.tup h2, pimp h3 fun _ _ q => R.mono e q⟩⟩
def rPr (R : Rel α) (S : Rel β) : Rel (α × β) := ⟨fun H v x => ∃ p a b, v = .ref p ∧ H p = some (.tup [a, b]) ∧ R.r H a x.1 ∧ S.r H b x.2, fun e h => by
  obtain ⟨p, a, b, h1, h2, h3, h4⟩ := h
  exact ⟨p, a, b, h1, e.tup h2, R.mono e h3, S.mono e h4⟩⟩
def rOpt (R : Rel α) : Rel (Option α) := ⟨fun H v x => match x with
  | none => v = .non
  | some y => v ≠ .non ∧ R.r H v y, fun {H H' v x} e h => by
  cases x with
  | none => exact h
  | some y => exact ⟨h.1, R.mono e h.2⟩⟩
instance : Imm rInt := ⟨fun _ h => h⟩
instance : Imm rBool := ⟨fun _ h => h⟩
instance : Imm rStr := ⟨fun _ h => h⟩
instance : Imm rNon := ⟨fun _ h => h⟩
instance {R : Rel α} [Imm R] : Imm (rTup R) := ⟨fun e h => by
  obtain ⟨p, vs, h1, h2, h3⟩ := h
  exact ⟨p, vs, h1, e _ _ h2, pimp h3 fun _ _ q => Imm.imm e q⟩⟩
instance {R : Rel α} {S : Rel β} [Imm R] [Imm S] : Imm (rPr R S) := ⟨fun e h => by
  obtain ⟨p, a, b, h1, h2, h3, h4⟩ := h
  exact ⟨p, a, b, h1, e _ _ h2, Imm.imm e h3, Imm.imm e h4⟩⟩
instance {R : Rel α} [Imm R] : Imm (rOpt R) := ⟨fun {H H' v x} e h => by
  cases x with
  | none => exact h
  | some y => exact ⟨h.1, Imm.imm e h.2⟩⟩
instance : NN rInt := ⟨fun h => by rw [h]; exact fun q => by cases q⟩
instance : NN rBool := ⟨fun h => by rw [h]; exact fun q => by cases q⟩
instance : NN rStr := ⟨fun h => by rw [h]; exact fun q => by cases q⟩
instance {R : Rel α} : NN (rLst R) := ⟨fun h => by obtain ⟨p, vs, h1, _⟩ := h; rw [h1]; exact fun q => by cases q⟩
instance {R : Rel α} : NN (rTup R) := ⟨fun h => by obtain ⟨p, vs, h1, _⟩ := h; rw [h1]; exact fun q => by cases q⟩
instance {R : Rel α} {S : Rel β} : NN (rPr R S) := ⟨fun h => by obtain ⟨p, a, b, h1, _⟩ := h; rw [h1]; exact fun q => by cases q⟩
end

/-! ### the state within a def -/
/-- the entry: what stays known (B0), all that is known (H0) -/
structure Ent where
  B0 : Hp
  H0 : Hp
abbrev Own := List (Addr × HO)
structure Stt (E : Ent) (own : Own) (B H : Hp) : Prop where
  b0 : Sx E.B0 B
  h0 : Sx E.H0 H
  bh : Sx B H
  tu : Tx H B
  fr : ∀ a o, B a = some o → E.B0 a = some o ∨ E.H0 a = none
  ow : ∀ q ∈ own, E.H0 q.1 = none ∧ B q.1 = none ∧ H q.1 = some q.2
  nd : (own.map (·.1)).Nodup
theorem upd_nd {own : Own} {p : Addr} (h : ∀ q ∈ own, q.1 ≠ p) : p ∉ own.map (·.1) := fun z => by
  obtain ⟨q, hq, e⟩ := List.mem_map.mp z
  exact h q hq e
section
variable {E : Ent} {own new : Own} {B H B' H' : Hp} {p : Addr} {o o' : HO}
theorem Stt.fresh (S : Stt E own B H) (h : H p = none) : E.H0 p = none ∧ B p = none := ⟨S.h0.free h, S.bh.free h⟩
/-- a new object, owned -/
theorem Stt.alloc (S : Stt E own B H) (h : H p = none) (nt : ∀ ys, o ≠ .tup ys) : Stt E ((p, o) :: own) B (upd H p o) where
  b0 := S.b0
  h0 := S.h0.trans (Sx.new h)
  bh := S.bh.trans (Sx.new h)
  tu := fun a ys e => by
    by_cases ha : a = p
    · subst ha
      rw [upd_same] at e
      exact absurd (Option.some.inj e) (nt ys)
    · rw [upd_ne ha] at e
      exact S.tu a ys e
  fr := S.fr
  ow := fun q hq => by
    rcases List.mem_cons.mp hq with rfl | hq
    · exact ⟨S.h0.free h, S.bh.free h, upd_same⟩
    · obtain ⟨h1, h2, h3⟩ := S.ow q hq
      refine ⟨h1, h2, ?_⟩
      rw [upd_ne (ne_of_none h3 h)]
      exact h3
  nd := List.nodup_cons.mpr ⟨upd_nd fun q hq => ne_of_none (S.ow q hq).2.2 h, S.nd⟩
/-- a new object that stays as it is -/
theorem Stt.lay (S : Stt E own B H) (h : H p = none) : Stt E own (upd B p o) (upd H p o) where
  b0 := S.b0.trans (Sx.new (S.bh.free h))
  h0 := S.h0.trans (Sx.new h)
  bh := fun a u e => by
    by_cases ha : a = p
    · subst ha
      rw [upd_same] at e ⊢
      exact e
    · rw [upd_ne ha] at e ⊢
      exact S.bh a u e
  tu := fun a ys e => by
    by_cases ha : a = p
    · subst ha
      rw [upd_same] at e ⊢
      exact e
    · rw [upd_ne ha] at e ⊢
      exact S.tu a ys e
  fr := fun a u e => by
    by_cases ha : a = p
    · subst ha
      exact .inr (S.h0.free h)
    · rw [upd_ne ha] at e
      exact S.fr a u e
  ow := fun q hq => by
    obtain ⟨h1, h2, h3⟩ := S.ow q hq
    have ne : q.1 ≠ p := ne_of_none h3 h
    rw [upd_ne ne, upd_ne ne]
    exact ⟨h1, h2, h3⟩
  nd := S.nd
theorem Stt.layB (S : Stt E own B H) (h : H p = none) : Sx B (upd B p o) := Sx.new (S.bh.free h)
/-- an owned object stays as it is from now on -/
theorem Stt.keep (S : Stt E ((p, o) :: own) B H) : Stt E own (upd B p o) H where
  b0 := S.b0.trans (Sx.new (S.ow _ (List.mem_cons_self ..)).2.1)
  h0 := S.h0
  bh := fun a u e => by
    by_cases ha : a = p
    · subst ha
      rw [upd_same] at e
      rw [← e]
      exact (S.ow _ (List.mem_cons_self ..)).2.2
    · rw [upd_ne ha] at e
      exact S.bh a u e
  tu := fun a ys e => by
    by_cases ha : a = p
    · subst ha
      rw [upd_same]
      rw [← e]
      exact (S.ow _ (List.mem_cons_self ..)).2.2.symm
    · rw [upd_ne ha]
      exact S.tu a ys e
  fr := fun a u e => by
    by_cases ha : a = p
    · subst ha
      exact .inr (S.ow _ (List.mem_cons_self ..)).1
    · rw [upd_ne ha] at e
      exact S.fr a u e
  ow := fun q hq => by
    obtain ⟨h1, h2, h3⟩ := S.ow q (List.mem_cons_of_mem _ hq)
    have ne : q.1 ≠ p := fun z => (List.nodup_cons.mp S.nd).1 (List.mem_map.mpr ⟨q, hq, z⟩)
    rw [upd_ne ne]
    exact ⟨h1, h2, h3⟩
  nd := (List.nodup_cons.mp S.nd).2
/-- fewer, or in another turn -/
theorem Stt.sub (S : Stt E own B H) (h : ∀ q ∈ new, q ∈ own) (hn : (new.map (·.1)).Nodup) : Stt E new B H := ⟨S.b0, S.h0, S.bh, S.tu, S.fr, fun q hq => S.ow q (h q hq), hn⟩
theorem Stt.drop (S : Stt E ((p, o) :: own) B H) : Stt E own B H := S.sub (fun _ h => List.mem_cons_of_mem _ h) (List.nodup_cons.mp S.nd).2
theorem Stt.drops (S : Stt E (new ++ own) B H) : Stt E own B H := by
  refine S.sub (fun _ h => List.mem_append_right _ h) ?_
  have := S.nd
  rw [List.map_append] at this
  exact (List.nodup_append.mp this).2.1
theorem Stt.none (S : Stt E own B H) : Stt E [] B H := S.sub (fun _ h => nomatch h) List.nodup_nil
theorem Stt.swap {q : Addr × HO} {r : Addr × HO} (S : Stt E (q :: r :: own) B H) : Stt E (r :: q :: own) B H := by
  refine S.sub (fun z h => ?_) ?_
  · rcases List.mem_cons.mp h with rfl | h
    · exact List.mem_cons_of_mem _ (List.mem_cons_self ..)
    · rcases List.mem_cons.mp h with rfl | h
      · exact List.mem_cons_self ..
      · exact List.mem_cons_of_mem _ (List.mem_cons_of_mem _ h)
  · have n := S.nd
    rw [List.map_cons, List.map_cons, List.nodup_cons, List.nodup_cons] at n
    rw [List.map_cons, List.map_cons, List.nodup_cons, List.nodup_cons]
    refine ⟨fun z => ?_, fun z => n.1 (List.mem_cons_of_mem _ z), n.2.2⟩
    rcases List.mem_cons.mp z with z | z
    · exact n.1 (by rw [z]; exact List.mem_cons_self ..)
    · exact n.2.1 z
/-- an owned object is written -/
theorem Stt.write (S : Stt E ((p, o) :: own) B H) (nt : ∀ ys, o' ≠ .tup ys) : Stt E ((p, o') :: own) B (upd H p o') where
  b0 := S.b0
  h0 := fun a u e => by
    rw [upd_ne fun z => by
      have := (S.ow _ (List.mem_cons_self ..)).1
      rw [← z, e] at this
      cases this]
    exact S.h0 a u e
  bh := fun a u e => by
    rw [upd_ne fun z => by
      have := (S.ow _ (List.mem_cons_self ..)).2.1
      rw [← z, e] at this
      cases this]
    exact S.bh a u e
  tu := fun a ys e => by
    by_cases ha : a = p
    · subst ha
      rw [upd_same] at e
      exact absurd (Option.some.inj e) (nt ys)
    · rw [upd_ne ha] at e
      exact S.tu a ys e
  fr := S.fr
  ow := fun q hq => by
    rcases List.mem_cons.mp hq with rfl | hq
    · have := S.ow _ (List.mem_cons_self ..)
      exact ⟨this.1, this.2.1, upd_same⟩
    · obtain ⟨h1, h2, h3⟩ := S.ow q (List.mem_cons_of_mem _ hq)
      have ne : q.1 ≠ p := fun z => (List.nodup_cons.mp S.nd).1 (List.mem_map.mpr ⟨q, hq, z⟩)
      rw [upd_ne ne]
      exact ⟨h1, h2, h3⟩
  nd := S.nd
/-- behind a call -/
theorem Stt.call (S : Stt E own B H) (T : Stt ⟨B, H⟩ new B' H') : Stt E (new ++ own) B' H' where
  b0 := S.b0.trans T.b0
  h0 := S.h0.trans T.h0
  bh := T.bh
  tu := T.tu
  fr := fun a u e => by
    rcases T.fr a u e with h | h
    · exact S.fr a u h
    · exact .inr (S.h0.free h)
  ow := fun q hq => by
    rcases List.mem_append.mp hq with hq | hq
    · obtain ⟨h1, h2, h3⟩ := T.ow q hq
      exact ⟨S.h0.free h1, h2, h3⟩
    · obtain ⟨h1, h2, h3⟩ := S.ow q hq
      refine ⟨h1, ?_, T.h0 _ _ h3⟩
      cases e : B' q.1 with
      | none => rfl
      | some u =>
        rcases T.fr _ _ e with z | z
        · have z' : B q.1 = some u := z
          rw [h2] at z'
          cases z'
        · have z' : H q.1 = Option.none := z
          rw [h3] at z'
          cases z'
  nd := by
    rw [List.map_append]
    refine List.nodup_append.mpr ⟨T.nd, S.nd, fun a ha b hb e => ?_⟩
    subst e
    obtain ⟨q, hq, e1⟩ := List.mem_map.mp ha
    obtain ⟨r, hr, e2⟩ := List.mem_map.mp hb
    have h1 := (T.ow q hq).1
    have h2 := (S.ow r hr).2.2
    have h1' : H q.1 = Option.none := h1
    rw [e1, ← e2, h2] at h1'
    cases h1'
theorem Stt.enter (b : Sx B H) (t : Tx H B) : Stt ⟨B, H⟩ [] B H := ⟨Sx.refl _, Sx.refl _, b, t, fun _ _ e => .inl e, (fun _ h => nomatch h), List.nodup_nil⟩
theorem Stt.own1 (S : Stt E ((p, o) :: own) B H) : H p = some o := (S.ow _ (List.mem_cons_self ..)).2.2
end
end Sg

namespace Sg
open PySem PySem.Spec PyProof.Rows L2

/-! ### the weakest readings -/
def WE (X : Cx) (e : Expr) : TE := fun σ H Q => ∀ (pins : List (Addr × Obj)) (s : Shared), Inv X pins σ H s → wpAny (model X.prog X.w) X.A (eval e X.env) (EP X pins σ Q) X.xe s
def WT (X : Cx) (e : Expr) : TT := fun σ H Q => ∀ (pins : List (Addr × Obj)) (s : Shared), Inv X pins σ H s → wpAny (model X.prog X.w) X.A (isTrue e X.env (eval e X.env)) (TP X pins σ Q) X.xe s
def WA (X : Cx) (es : List Expr) : TA := fun σ H Q => ∀ (pos : Pos) (pins : List (Addr × Obj)) (s : Shared), Inv X pins σ H s → wpAny (model X.prog X.w) X.A (spliced (backTo pos (starEach es X.env))) (AP X pins σ Q) X.xe s
def WSs (X : Cx) (st : List Stmt) : TS := fun D σ H => ∀ (pins : List (Addr × Obj)) (s : Shared), Inv X pins σ H s → wpAny (model X.prog X.w) X.A (execs st X.env) (SP X pins D) X.xe s
section
variable {X : Cx} {e : Expr} {es : List Expr} {st : List Stmt} {σ : L2.St} {H : Hp} {D : Ends}
theorem peW : PE X e (WE X e) := ⟨fun pins s _ _ _ I h => h pins s I⟩
theorem ptW : PT X e (WT X e) := ⟨fun pins s _ _ _ I h => h pins s I⟩
theorem paW : PA X es (WA X es) := ⟨fun pos pins s _ _ _ I h => h pos pins s I⟩
theorem pssW : PSs X st (WSs X st) := ⟨fun pins s _ _ _ I h => h pins s I⟩
/-- what a list's length may be -/
def Szd (H : Hp) : Prop := (∀ p vs, Rd H p (.lst vs) → vs.length ≤ sizeLine) ∧ (∀ p vs, Rd H p (.tup vs) → vs.length ≤ sizeLine) ∧ (∀ p ws, Rd H p (.dK ws) → ws.length ≤ sizeLine) ∧ ∀ p ws, Rd H p (.dT ws) → ws.length ≤ sizeLine
theorem Szd.of {pins : List (Addr × Obj)} {s : Shared} (I : Inv X pins σ H s) : Szd H := ⟨fun p vs hp => (hp.ok I.hok).1, fun p vs hp => (hp.ok I.hok).1, fun p vs hp => (hp.ok I.hok).1, fun p vs hp => (hp.ok I.hok).1⟩
theorem WE.sz {Q : VK} (h : WE X e σ H (fun v H' => Szd H' → Q v H')) : WE X e σ H Q := fun pins s I => wpAny_mono (h pins s I) (fun u s' ⟨v, H', I', r, q⟩ => ⟨v, H', I', r, q (Szd.of I')⟩) fun _ _ q => q
theorem WE.of {t : TE} {Q : VK} (h : PE X e t) (q : t σ H Q) : WE X e σ H Q := fun pins s I => h.run pins s σ H Q I q
theorem WT.of {t : TT} {Q : Bool → Hp → Prop} (h : PT X e t) (q : t σ H Q) : WT X e σ H Q := fun pins s I => h.run pins s σ H Q I q
theorem WA.of {t : TA} {Q : List V → Hp → Prop} (h : PA X es t) (q : t σ H Q) : WA X es σ H Q := fun pos pins s I => h.run pos pins s σ H Q I q
theorem WSs.of {t : TS} (h : PSs X st t) (q : t D σ H) : WSs X st D σ H := fun pins s I => h.run pins s σ H D I q
theorem WSs.cons {s1 : Stmt} {t : TS} (h : PS X s1 t) (q : t { D with nx := WSs X st D } σ H) : WSs X (s1 :: st) D σ H := WSs.of (pss_cons h pssW) q
end

/-! ### what an expression comes to -/
section
variable (X : Cx) (E : Ent) (own : Own) (B H : Hp) (σ : L2.St)
/-- .. looked at | kept for good | a new list of one's own | the truth of a test -/
def EvB {α : Type} (e : Expr) (R : Rel α) (x : α) : Prop := ∀ B1 H1, Stt E own B1 H1 → Ex B B1 → Ex H H1 → ∀ Q : VK,
  (∀ v B2 H2, Stt E own B2 H2 → Ex B1 B2 → Ex H1 H2 → R.r H2 v x → Q v H2) → WE X e σ H1 Q
def EvE {α : Type} (e : Expr) (R : Rel α) (x : α) : Prop := ∀ B1 H1, Stt E own B1 H1 → Ex B B1 → Ex H H1 → ∀ Q : VK,
  (∀ v B2 H2, Stt E own B2 H2 → Ex B1 B2 → Ex H1 H2 → R.r B2 v x → Q v H2) → WE X e σ H1 Q
def EvL {α : Type} (e : Expr) (R : Rel α) (xs : List α) : Prop := ∀ B1 H1, Stt E own B1 H1 → Ex B B1 → Ex H H1 → ∀ Q : VK,
  (∀ p vs B2 H2, Stt E ((p, .lst vs) :: own) B2 H2 → Ex B1 B2 → Ex H1 H2 → Paired (R.r B2) vs xs → Q (.ref p) H2) → WE X e σ H1 Q
def EvT (e : Expr) (b : Bool) : Prop := ∀ B1 H1, Stt E own B1 H1 → Ex B B1 → Ex H H1 → ∀ Q : Bool → Hp → Prop,
  (∀ B2 H2, Stt E own B2 H2 → Ex B1 B2 → Ex H1 H2 → Q b H2) → WT X e σ H1 Q
end
section
variable {X : Cx} {E : Ent} {own new : Own} {B H B' H' : Hp} {σ : L2.St} {α β γ : Type} {R : Rel α} {S : Rel β} {T : Rel γ} {e a b c : Expr} {x : α} {y : β} {p pos : Pos}
theorem EvB.up (h : EvB X E own B H σ e R x) (e1 : Ex B B') (e2 : Ex H H') : EvB X E own B' H' σ e R x := fun B1 H1 S a b => h B1 H1 S (e1.trans a) (e2.trans b)
theorem EvE.up (h : EvE X E own B H σ e R x) (e1 : Ex B B') (e2 : Ex H H') : EvE X E own B' H' σ e R x := fun B1 H1 S a b => h B1 H1 S (e1.trans a) (e2.trans b)
theorem EvL.up {xs : List α} (h : EvL X E own B H σ e R xs) (e1 : Ex B B') (e2 : Ex H H') : EvL X E own B' H' σ e R xs := fun B1 H1 S a b => h B1 H1 S (e1.trans a) (e2.trans b)
theorem EvT.up {b : Bool} (h : EvT X E own B H σ e b) (e1 : Ex B B') (e2 : Ex H H') : EvT X E own B' H' σ e b := fun B1 H1 S a b => h B1 H1 S (e1.trans a) (e2.trans b)
theorem EvE.toB (h : EvE X E own B H σ e R x) : EvB X E own B H σ e R x := fun B1 H1 S e1 e2 Q k => h B1 H1 S e1 e2 Q fun v B2 H2 S2 e3 e4 r => k v B2 H2 S2 e3 e4 (R.mono S2.bh.ex r)
theorem EvB.toE [Imm R] (h : EvB X E own B H σ e R x) : EvE X E own B H σ e R x := fun B1 H1 S e1 e2 Q k => h B1 H1 S e1 e2 Q fun v B2 H2 S2 e3 e4 r => k v B2 H2 S2 e3 e4 (Imm.imm S2.tu r)
theorem EvB.is {x' : α} (h : EvB X E own B H σ e R x) (q : x = x') : EvB X E own B H σ e R x' := q ▸ h
theorem EvT.is {b b' : Bool} (h : EvT X E own B H σ e b) (q : b = b') : EvT X E own B H σ e b' := q ▸ h
theorem EvL.is {xs xs' : List α} (h : EvL X E own B H σ e R xs) (q : xs = xs') : EvL X E own B H σ e R xs' := q ▸ h
/-- a new list kept as it is -/
theorem EvL.toE {xs : List α} (h : EvL X E own B H σ e R xs) : EvE X E own B H σ e (rLst R) xs := fun B1 H1 S e1 e2 Q k => h B1 H1 S e1 e2 Q fun p vs B2 H2 S2 e3 e4 r => by
  have n := (S2.ow _ (List.mem_cons_self ..)).2.1
  exact k (.ref p) _ H2 S2.keep (e3.trans (Sx.new n).ex) e4 ⟨p, vs, rfl, Rd.of upd_same, pimp r fun _ _ q => R.mono (Sx.new n).ex q⟩
theorem EvL.toB {xs : List α} (h : EvL X E own B H σ e R xs) : EvB X E own B H σ e (rLst R) xs := h.toE.toB
/-! names, constants -/
theorem ev_v {i : Nat} {v : V} (hp : PE X e (tVar i)) (h : σ[i]? = some (some v)) (r : R.r H v x) : EvB X E own B H σ e R x := fun B1 H1 S e1 e2 Q k => WE.of hp ⟨v, h, k v B1 H1 S (Ex.refl _) (Ex.refl _) (R.mono e2 r)⟩
theorem ee_v {i : Nat} {v : V} (hp : PE X e (tVar i)) (h : σ[i]? = some (some v)) (r : R.r B v x) : EvE X E own B H σ e R x := fun B1 H1 S e1 e2 Q k => WE.of hp ⟨v, h, k v B1 H1 S (Ex.refl _) (Ex.refl _) (R.mono e1 r)⟩
/-- an owned list looked at -/
theorem ev_own {i : Nat} {q : Addr} {vs : List V} {xs : List α} (hp : PE X e (tVar i)) (h : σ[i]? = some (some (.ref q))) (ho : (q, HO.lst vs) ∈ own) (r : Paired (R.r B) vs xs) : EvB X E own B H σ e (rLst R) xs :=
  fun B1 H1 S e1 e2 Q k => WE.of hp ⟨.ref q, h, k _ B1 H1 S (Ex.refl _) (Ex.refl _) ⟨q, vs, rfl, Rd.of (S.ow _ ho).2.2, pimp r fun _ _ z => R.mono (e1.trans S.bh.ex) z⟩⟩
theorem ev_c {v : V} (hp : PE X e (tC v)) (r : ∀ H, R.r H v x) : EvB X E own B H σ e R x := fun B1 H1 S e1 e2 Q k => WE.of hp (k v B1 H1 S (Ex.refl _) (Ex.refl _) (r _))
theorem ev_i {i : Int} {j} : EvB X E own B H σ (.Constant (.int i) j pos) rInt i := ev_c pe_int fun _ => rfl
theorem ev_bl {i : Bool} {j} : EvB X E own B H σ (.Constant (.bool i) j pos) rBool i := ev_c pe_bl fun _ => rfl
theorem ev_s {i : Str} {j} : EvB X E own B H σ (.Constant (.str i) j pos) rStr i := ev_c pe_str fun _ => rfl
theorem ev_n {j} : EvB X E own B H σ (.Constant .none j pos) rNon () := ev_c pe_non fun _ => rfl
/-- None where something or nothing is wanted -/
theorem ev_none {j} : EvB X E own B H σ (.Constant .none j pos) (rOpt R) none := ev_c pe_non fun _ => rfl
theorem ev_some [NN R] (h : EvB X E own B H σ e R x) : EvB X E own B H σ e (rOpt R) (some x) := fun B1 H1 S e1 e2 Q k => h B1 H1 S e1 e2 Q fun v B2 H2 S2 e3 e4 r => k v B2 H2 S2 e3 e4 ⟨NN.nn r, r⟩
theorem ee_some [NN R] (h : EvE X E own B H σ e R x) : EvE X E own B H σ e (rOpt R) (some x) := fun B1 H1 S e1 e2 Q k => h B1 H1 S e1 e2 Q fun v B2 H2 S2 e3 e4 r => k v B2 H2 S2 e3 e4 ⟨NN.nn r, r⟩
/-! operators -/
theorem ev_op {op : Operator} {r2 : R2} {z : γ} (ho : OpR X (binaryOp op) r2) (ha : EvB X E own B H σ a R x) (hb : EvB X E own B H σ b S y)
    (hr : ∀ H1 v w (Q : VK), R.r H1 v x → S.r H1 w y → (∀ u, T.r H1 u z → Q u H1) → r2 v w H1 Q) : EvB X E own B H σ (.BinOp a op b pos) T z := fun B1 H1 S1 e1 e2 Q k =>
  WE.of (pe_op ho peW peW) (ha B1 H1 S1 e1 e2 _ fun v B2 H2 S2 e3 e4 r => hb B2 H2 S2 (e1.trans e3) (e2.trans e4) _ fun w B3 H3 S3 e5 e6 s =>
    hr H3 v w Q (R.mono e6 r) s fun u t => k u B3 H3 S3 (e3.trans e5) (e4.trans e6) t)
theorem rI0_ok {g : Int → Int → Int} {i j : Int} (H1 : Hp) (v w : V) (Q : VK) (h1 : rInt.r H1 v i) (h2 : rInt.r H1 w j) (k : ∀ u, rInt.r H1 u (g i j) → Q u H1) : rI0 (fun i j => .int (g i j)) v w H1 Q := ⟨i, j, h1, h2, k _ rfl⟩
theorem rI_ok {C : Int → Int → Prop} {g : Int → Int → Int} {i j : Int} (hc : C i j) (H1 : Hp) (v w : V) (Q : VK) (h1 : rInt.r H1 v i) (h2 : rInt.r H1 w j) (k : ∀ u, rInt.r H1 u (g i j) → Q u H1) : rI C (fun i j => .int (g i j)) v w H1 Q := ⟨i, j, h1, h2, hc, k _ rfl⟩
variable {i j : Int}
theorem ev_add (ha : EvB X E own B H σ a rInt i) (hb : EvB X E own B H σ b rInt j) : EvB X E own B H σ (.BinOp a .Add b pos) rInt (i + j) := ev_op op_add ha hb rI0_ok
theorem ev_sub (ha : EvB X E own B H σ a rInt i) (hb : EvB X E own B H σ b rInt j) : EvB X E own B H σ (.BinOp a .Sub b pos) rInt (i - j) := ev_op op_sub ha hb rI0_ok
/-- one factor is small -/
theorem ev_mul (ha : EvB X E own B H σ a rInt i) (hb : EvB X E own B H σ b rInt j) (hc : CMul i j) : EvB X E own B H σ (.BinOp a .Mult b pos) rInt (i * j) := ev_op op_mul ha hb (rI_ok hc)
theorem ev_mulL (ha : EvB X E own B H σ a rInt i) (hb : EvB X E own B H σ b rInt j) (hc : (decide (-(2 ^ 64) < i) && decide (i < 2 ^ 64)) = true := by rfl) : EvB X E own B H σ (.BinOp a .Mult b pos) rInt (i * j) :=
  ev_mul ha hb (.inl (by rw [Bool.and_eq_true] at hc; exact ⟨of_decide_eq_true hc.1, of_decide_eq_true hc.2⟩))
theorem ev_mulR (ha : EvB X E own B H σ a rInt i) (hb : EvB X E own B H σ b rInt j) (hc : (decide (-(2 ^ 64) < j) && decide (j < 2 ^ 64)) = true := by rfl) : EvB X E own B H σ (.BinOp a .Mult b pos) rInt (i * j) :=
  ev_mul ha hb (.inr (by rw [Bool.and_eq_true] at hc; exact ⟨of_decide_eq_true hc.1, of_decide_eq_true hc.2⟩))
theorem ev_pow (ha : EvB X E own B H σ a rInt i) (hb : EvB X E own B H σ b rInt j) (hc : (decide (0 ≤ j) && decide (j ≤ 1000000) && decide (i.natAbs < 2 ^ 64)) = true := by rfl) : EvB X E own B H σ (.BinOp a .Pow b pos) rInt (i ^ j.toNat) :=
  ev_op op_pow ha hb (rI_ok (C := CPow) (g := fun i j => i ^ j.toNat) (by
    rw [Bool.and_eq_true, Bool.and_eq_true] at hc
    exact ⟨of_decide_eq_true hc.1.1, of_decide_eq_true hc.1.2, of_decide_eq_true hc.2⟩))
theorem ev_mod (ha : EvB X E own B H σ a rInt i) (hb : EvB X E own B H σ b rInt j) (hc : 0 < j) : EvB X E own B H σ (.BinOp a .Mod b pos) rInt (i % j) := ev_op op_mod ha hb (rI_ok hc)
theorem ev_div (ha : EvB X E own B H σ a rInt i) (hb : EvB X E own B H σ b rInt j) (hc : CDiv i j) : EvB X E own B H σ (.BinOp a .FloorDiv b pos) rInt (i / j) := ev_op op_fdiv ha hb (rI_ok hc)
theorem ev_neg (ha : EvB X E own B H σ a rInt i) : EvB X E own B H σ (.UnaryOp .USub a pos) rInt (-i) := fun B1 H1 S1 e1 e2 Q k =>
  WE.of (pe_un un_neg peW) (ha B1 H1 S1 e1 e2 _ fun v B2 H2 S2 e3 e4 r => ⟨i, r, k _ B2 H2 S2 e3 e4 rfl⟩)
/-! comparisons -/
theorem ev_cmp {op : CmpOp} {r2 : R2} {z : Bool} (ho : OpR X (compareOp op) r2) (ha : EvB X E own B H σ a R x) (hb : EvB X E own B H σ b S y) (hm : behindInMarks op b = false)
    (hr : ∀ H1 v w (Q : VK), R.r H1 v x → S.r H1 w y → Q (.bl z) H1 → r2 v w H1 Q) : EvB X E own B H σ (.Compare a [op] [b] pos) rBool z := fun B1 H1 S1 e1 e2 Q k =>
  WE.of (pe_cmpR ho peW peW hm) (ha B1 H1 S1 e1 e2 _ fun v B2 H2 S2 e3 e4 r => hb B2 H2 S2 (e1.trans e3) (e2.trans e4) _ fun w B3 H3 S3 e5 e6 s =>
    hr H3 v w Q (R.mono e6 r) s (k _ B3 H3 S3 (e3.trans e5) (e4.trans e6) rfl))
theorem et_cmp {op : CmpOp} {r2 : R2} {z : Bool} (ho : OpR X (compareOp op) r2) (ha : EvB X E own B H σ a R x) (hb : EvB X E own B H σ b S y) (hm : behindInMarks op b = false)
    (hr : ∀ H1 v w (Q : VK), R.r H1 v x → S.r H1 w y → Q (.bl z) H1 → r2 v w H1 Q) : EvT X E own B H σ (.Compare a [op] [b] pos) z := fun B1 H1 S1 e1 e2 Q k =>
  WT.of (pt_cmpR ho peW peW hm) (ha B1 H1 S1 e1 e2 _ fun v B2 H2 S2 e3 e4 r => hb B2 H2 S2 (e1.trans e3) (e2.trans e4) _ fun w B3 H3 S3 e5 e6 s =>
    hr H3 v w _ (R.mono e6 r) s ⟨z, rfl, k B3 H3 S3 (e3.trans e5) (e4.trans e6)⟩)
/-- a rule for a comparison of what R and S stand for -/
structure CmpR (X : Cx) (op : CmpOp) (R : Rel α) (S : Rel β) (f : α → β → Bool) : Prop where
  ok : ∃ r2 : R2, OpR X (compareOp op) r2 ∧ ∀ x y H1 v w (Q : VK), R.r H1 v x → S.r H1 w y → Q (.bl (f x y)) H1 → r2 v w H1 Q
  hm : ∀ b, behindInMarks op b = false
theorem CmpR.ev {op : CmpOp} {f : α → β → Bool} (c : CmpR X op R S f) (ha : EvB X E own B H σ a R x) (hb : EvB X E own B H σ b S y) : EvB X E own B H σ (.Compare a [op] [b] pos) rBool (f x y) := by
  obtain ⟨r2, ho, hr⟩ := c.ok
  exact ev_cmp ho ha hb (c.hm b) (hr x y)
theorem CmpR.et {op : CmpOp} {f : α → β → Bool} (c : CmpR X op R S f) (ha : EvB X E own B H σ a R x) (hb : EvB X E own B H σ b S y) : EvT X E own B H σ (.Compare a [op] [b] pos) (f x y) := by
  obtain ⟨r2, ho, hr⟩ := c.ok
  exact et_cmp ho ha hb (c.hm b) (hr x y)
theorem c_lt : CmpR X .Lt rInt rInt (fun i j => decide (i < j)) := ⟨⟨_, op_lt, fun x y _ _ _ _ h1 h2 k => ⟨x, y, h1, h2, k⟩⟩, fun b => nomark b⟩
theorem c_le : CmpR X .LtE rInt rInt (fun i j => decide (i ≤ j)) := ⟨⟨_, op_le, fun x y _ _ _ _ h1 h2 k => ⟨x, y, h1, h2, k⟩⟩, fun b => nomark b⟩
theorem c_gt : CmpR X .Gt rInt rInt (fun i j => decide (j < i)) := ⟨⟨_, op_gt, fun x y _ _ _ _ h1 h2 k => ⟨x, y, h1, h2, k⟩⟩, fun b => nomark b⟩
theorem c_ge : CmpR X .GtE rInt rInt (fun i j => decide (j ≤ i)) := ⟨⟨_, op_ge, fun x y _ _ _ _ h1 h2 k => ⟨x, y, h1, h2, k⟩⟩, fun b => nomark b⟩
theorem deci (i j : Int) : decide (V.int i = V.int j) = decide (i = j) := by simp
theorem decb (i j : Bool) : decide (V.bl i = V.bl j) = decide (i = j) := by simp
theorem decs (i j : Str) : decide (V.str i = V.str j) = decide (i = j) := by simp
theorem c_eqI : CmpR X .Eq rInt rInt (fun i j => decide (i = j)) := ⟨⟨_, op_eq, fun x y _ v w _ h1 h2 k => by rw [show v = .int x from h1, show w = .int y from h2]; exact ⟨rfl, by rw [deci]; exact k⟩⟩, fun b => nomark b⟩
theorem c_neI : CmpR X .NotEq rInt rInt (fun i j => !decide (i = j)) := ⟨⟨_, op_ne, fun x y _ v w _ h1 h2 k => by rw [show v = .int x from h1, show w = .int y from h2]; exact ⟨rfl, by rw [deci]; exact k⟩⟩, fun b => nomark b⟩
theorem c_eqB : CmpR X .Eq rBool rBool (fun i j => decide (i = j)) := ⟨⟨_, op_eq, fun x y _ v w _ h1 h2 k => by rw [show v = .bl x from h1, show w = .bl y from h2]; exact ⟨rfl, by rw [decb]; exact k⟩⟩, fun b => nomark b⟩
theorem c_neB : CmpR X .NotEq rBool rBool (fun i j => !decide (i = j)) := ⟨⟨_, op_ne, fun x y _ v w _ h1 h2 k => by rw [show v = .bl x from h1, show w = .bl y from h2]; exact ⟨rfl, by rw [decb]; exact k⟩⟩, fun b => nomark b⟩
theorem c_eqS : CmpR X .Eq rStr rStr (fun i j => decide (i = j)) := ⟨⟨_, op_eq, fun x y _ v w _ h1 h2 k => by rw [show v = .str x from h1, show w = .str y from h2]; exact ⟨rfl, by rw [decs]; exact k⟩⟩, fun b => nomark b⟩
theorem c_neS : CmpR X .NotEq rStr rStr (fun i j => !decide (i = j)) := ⟨⟨_, op_ne, fun x y _ v w _ h1 h2 k => by rw [show v = .str x from h1, show w = .str y from h2]; exact ⟨rfl, by rw [decs]; exact k⟩⟩, fun b => nomark b⟩
/-- is None of something or nothing -/
theorem opt_non {H1 : Hp} {v : V} {x : Option α} (h : (rOpt R).r H1 v x) : decide (v = .non) = x.isNone := by
  cases x with
  | none =>
    have h' : v = .non := h
    rw [h']
    rfl
  | some y => exact decide_eq_false h.1
theorem c_isN : CmpR X .Is (rOpt R) rNon (fun x _ => x.isNone) := ⟨⟨_, op_isN, fun x y _ v w _ h1 h2 k => ⟨h2, by rw [opt_non h1]; exact k⟩⟩, fun b => nomark b⟩
theorem c_notN : CmpR X .IsNot (rOpt R) rNon (fun x _ => !x.isNone) := ⟨⟨_, op_notN, fun x y _ v w _ h1 h2 k => ⟨h2, by rw [opt_non h1]; exact k⟩⟩, fun b => nomark b⟩
/-! data compared at any depth -/
class Dat (R : Rel α) where
  d : α → PyData
  K : PySem.W.Frag
  rd : ∀ {H : Hp} {v : V} {x : α}, R.r H v x → Dp K H v (d x)
  lay : ∀ x, (d x).canLay0 = true
  n : Nat
  dep : ∀ x, (d x).depth ≤ n
  eq : ∀ x y, PyData.eqv (d x) (d y) = true ↔ x = y
end
end Sg

namespace Sg
open PySem PySem.Spec PyProof.Rows L2

/-! data compared at any depth -/
class DatK (K : PySem.W.Frag) {α : Type} (R : Rel α) where
  d : α → PyData
  rd : ∀ {H : Hp} {v : V} {x : α}, R.r H v x → Dp K H v (d x)
  lay : ∀ x, (d x).canLay0 = true
  n : Nat
  dep : ∀ x, (d x).depth ≤ n
  eq : ∀ x y, PyData.eqv (d x) (d y) = true ↔ x = y
section
variable {K : PySem.W.Frag} {α β : Type} {R : Rel α} {S : Rel β}
instance : DatK K rInt := ⟨PyData.int, fun h => by rw [h]; exact .int _, fun _ => rfl, 0, fun _ => Nat.le_refl _, fun x y => by simp [PyData.eqv]⟩
instance : DatK K rBool := ⟨PyData.bool, fun h => by rw [h]; exact .bl _, fun _ => rfl, 0, fun _ => Nat.le_refl _, fun x y => by simp [PyData.eqv]⟩
theorem dpAll [D : DatK K R] {H : Hp} : ∀ {vs : List V} {xs : List α}, Paired (R.r H) vs xs → DpAll K H vs (xs.map D.d)
  | _, _, .nil => .nil
  | _, _, .cons h t => .cons (D.rd h) (dpAll t)
theorem layAll [D : DatK K R] : ∀ xs : List α, PyData.canLayAll0 (xs.map D.d) = true
  | [] => rfl
  | x :: r => by
    show (PyData.canLay0 (D.d x) && PyData.canLayAll0 (r.map D.d)) = true
    rw [D.lay, layAll r] <;> rfl
theorem depAll [D : DatK K R] : ∀ xs : List α, PyData.depthAll (xs.map D.d) ≤ D.n
  | [] => Nat.zero_le _
  | x :: r => by
    show max (PyData.depth (D.d x)) (PyData.depthAll (r.map D.d)) ≤ D.n
    exact Nat.max_le.mpr ⟨D.dep x, depAll r⟩
theorem eqAll [D : DatK K R] : ∀ xs ys : List α, PyData.eqvAll (xs.map D.d) (ys.map D.d) = true ↔ xs = ys
  | [], [] => by simp [PyData.eqvAll]
  | [], y :: r => by simp [PyData.eqvAll]
  | x :: r, [] => by simp [PyData.eqvAll]
  | x :: r, y :: q => by
    show (PyData.eqv (D.d x) (D.d y) && PyData.eqvAll (r.map D.d) (q.map D.d)) = true ↔ _
    rw [Bool.and_eq_true, D.eq, eqAll r q, List.cons.injEq]
instance [D : DatK K R] : DatK K (rLst R) := ⟨fun xs => .list (xs.map D.d), fun h => by
  obtain ⟨p, vs, h1, h2, h3⟩ := h
  rw [h1]
  exact .lst (.inl h2) (dpAll h3), fun xs => layAll xs, D.n + 1, fun xs => Nat.succ_le_succ (depAll xs), fun x y => eqAll x y⟩
instance [D : DatK K R] : DatK K (rTup R) := ⟨fun xs => .tuple (xs.map D.d), fun h => by
  obtain ⟨p, vs, h1, h2, h3⟩ := h
  rw [h1]
  exact .tup (SqT.of h2) (dpAll h3), fun xs => layAll xs, D.n + 1, fun xs => Nat.succ_le_succ (depAll xs), fun x y => eqAll x y⟩
instance [D : DatK K R] [F : DatK K S] : DatK K (rPr R S) := ⟨fun x => .tuple [D.d x.1, F.d x.2], fun h => by
  obtain ⟨p, a, b, h1, h2, h3, h4⟩ := h
  rw [h1]
  exact .tup (SqT.of h2) (.cons (D.rd h3) (.cons (F.rd h4) .nil)), fun x => by
    show (PyData.canLay0 (D.d x.1) && (PyData.canLay0 (F.d x.2) && true)) = true
    rw [D.lay, F.lay] <;> rfl, max D.n F.n + 1, fun x => by
    show max (PyData.depth (D.d x.1)) (max (PyData.depth (F.d x.2)) 0) + 1 ≤ max D.n F.n + 1
    have := D.dep x.1
    have := F.dep x.2
    omega, fun x y => by
    show (PyData.eqv (D.d x.1) (D.d y.1) && (PyData.eqv (F.d x.2) (F.d y.2) && true)) = true ↔ _
    rw [Bool.and_eq_true, Bool.and_true, D.eq, F.eq]
    exact ⟨fun h => Prod.ext h.1 h.2, fun h => by rw [h]; exact ⟨rfl, rfl⟩⟩⟩
end
/-- data that is never None -/
class NonD (K : PySem.W.Frag) {α : Type} (R : Rel α) [D : DatK K R] : Prop where
  nn : ∀ x, D.d x ≠ .none
section
variable {K : PySem.W.Frag} {α β : Type} {R : Rel α} {S : Rel β}
instance : NonD K rInt := ⟨fun _ h => by cases h⟩
instance [DatK K R] : NonD K (rLst R) := ⟨fun _ h => by cases h⟩
instance [DatK K R] : NonD K (rTup R) := ⟨fun _ h => by cases h⟩
instance [DatK K R] [DatK K S] : NonD K (rPr R S) := ⟨fun _ h => by cases h⟩
theorem eqv_none {d : PyData} (h : d ≠ .none) : PyData.eqv .none d = false ∧ PyData.eqv d .none = false := by
  cases d <;> first | exact absurd rfl h | exact ⟨rfl, rfl⟩
def optD (f : α → PyData) : Option α → PyData
  | none => .none
  | some x => f x
instance [D : DatK K R] [N : NonD K R] : DatK K (rOpt R) := ⟨optD D.d, fun {H v x} h => by
  cases x with
  | none =>
    have h' : v = .non := h
    rw [h']
    exact .non
  | some y => exact D.rd h.2, fun x => by
    cases x with
    | none => rfl
    | some y => exact D.lay y, D.n, fun x => by
    cases x with
    | none => exact Nat.zero_le _
    | some y => exact D.dep y, fun x y => by
    cases x with
    | none =>
      cases y with
      | none => exact ⟨fun _ => rfl, fun _ => rfl⟩
      | some y => exact ⟨fun h => (by rw [show PyData.eqv (optD D.d none) (optD D.d (some y)) = false from (eqv_none (N.nn y)).1] at h; cases h), fun h => (by cases h)⟩
    | some x =>
      cases y with
      | none => exact ⟨fun h => (by rw [show PyData.eqv (optD D.d (some x)) (optD D.d none) = false from (eqv_none (N.nn x)).2] at h; cases h), fun h => (by cases h)⟩
      | some y => exact ⟨fun h => congrArg some ((D.eq x y).mp h), fun h => (D.eq x y).mpr (Option.some.inj h)⟩⟩
end
section
variable {X : Cx} {E : Ent} {own new : Own} {B H B' H' : Hp} {σ : L2.St} {α β γ : Type} {R : Rel α} {S : Rel β} {T : Rel γ} {e a b c : Expr} {x : α} {y : β} {p pos : Pos} {i j : Int} {z w : Bool} {xs : List α}
theorem eqv_dec [DecidableEq α] [D : DatK X.K R] (x y : α) : PyData.eqv (D.d x) (D.d y) = decide (x = y) := by
  rw [Bool.eq_iff_iff, D.eq, decide_eq_true_iff]
theorem dat_sh [D : DatK X.K R] (h : D.n ≤ 64) (x : α) : SeqAt.shaped (D.d x) = true := by
  show (PyData.canLay0 (D.d x) && decide (PyData.depth (D.d x) ≤ 64)) = true
  rw [D.lay, decide_eq_true (Nat.le_trans (D.dep x) h)] <;> rfl
theorem c_eqD [DecidableEq α] [D : DatK X.K R] (hu : X.A.units + 64 < cLine) (h : D.n ≤ 64 := by exact Nat.le_of_ble_eq_true rfl) : CmpR X .Eq R R (fun x y => decide (x = y)) :=
  ⟨⟨_, op_eqD hu, fun x y _ v w _ h1 h2 k => ⟨_, _, D.rd h1, D.rd h2, dat_sh h x, dat_sh h y, by rw [eqv_dec]; exact k⟩⟩, fun b => nomark b⟩
theorem c_neD [DecidableEq α] [D : DatK X.K R] (hu : X.A.units + 64 < cLine) (h : D.n ≤ 64 := by exact Nat.le_of_ble_eq_true rfl) : CmpR X .NotEq R R (fun x y => !decide (x = y)) :=
  ⟨⟨_, op_neD hu, fun x y _ v w _ h1 h2 k => ⟨_, _, D.rd h1, D.rd h2, dat_sh h x, dat_sh h y, by rw [eqv_dec]; exact k⟩⟩, fun b => nomark b⟩

/-! ### tests -/
theorem et_val (ha : EvB X E own B H σ a rBool z) (he : ∀ whole, isTrue a X.env whole = (do let v ← whole; standAt a.pos; holding [v] (truthy v)) := by intro _; rfl) : EvT X E own B H σ a z := fun B1 H1 S1 e1 e2 Q k =>
  WT.of (pt_val peW he) (ha B1 H1 S1 e1 e2 _ fun v B2 H2 S2 e3 e4 r => ⟨z, r, k B2 H2 S2 e3 e4⟩)
theorem et_not (ha : EvT X E own B H σ a z) : EvT X E own B H σ (.UnaryOp .Not a pos) (!z) := fun B1 H1 S1 e1 e2 Q k =>
  WT.of (pt_not ptW) (ha B1 H1 S1 e1 e2 _ fun B2 H2 S2 e3 e4 => k B2 H2 S2 e3 e4)
def WW (X : Cx) (e : Expr) : TT := fun σ H Q => ∀ (whole : Sem Value) (pins : List (Addr × Obj)) (s : Shared), Inv X pins σ H s → wpAny (model X.prog X.w) X.A (isTrue e X.env whole) (TP X pins σ Q) X.xe s
theorem pwW : PW X e (WW X e) := ⟨fun wh pins s _ _ _ I h => h wh pins s I⟩
theorem WW.of {t : TT} {Q : Bool → Hp → Prop} (h : PW X e t) (q : t σ H Q) : WW X e σ H Q := fun wh pins s I => h.run wh pins s σ H Q I q
/-- a chain of and, or -/
def EvW (X : Cx) (E : Ent) (own : Own) (B H : Hp) (σ : L2.St) (e : Expr) (b : Bool) : Prop := ∀ B1 H1, Stt E own B1 H1 → Ex B B1 → Ex H H1 → ∀ Q : Bool → Hp → Prop,
  (∀ B2 H2, Stt E own B2 H2 → Ex B1 B2 → Ex H1 H2 → Q b H2) → WW X e σ H1 Q
theorem EvW.t (h : EvW X E own B H σ e z) : EvT X E own B H σ e z := fun B1 H1 S1 e1 e2 Q k => WT.of pwW.pt (h B1 H1 S1 e1 e2 Q k)
theorem ew_and1 (ha : EvT X E own B H σ a z) : EvW X E own B H σ (.BoolOp .And [a] pos) z := fun B1 H1 S1 e1 e2 Q k => WW.of (pw_and1 ptW) (ha B1 H1 S1 e1 e2 Q k)
theorem ew_or1 (ha : EvT X E own B H σ a z) : EvW X E own B H σ (.BoolOp .Or [a] pos) z := fun B1 H1 S1 e1 e2 Q k => WW.of (pw_or1 ptW) (ha B1 H1 S1 e1 e2 Q k)
variable {es : List Expr}
/-- the right part is asked only where the left one is true: w is the whole's truth -/
theorem ew_and (ha : EvT X E own B H σ a z) (hb : z = true → EvW X E own B H σ (.BoolOp .And (b :: es) pos) w) (hn : z = false → w = false) : EvW X E own B H σ (.BoolOp .And (a :: b :: es) pos) w := fun B1 H1 S1 e1 e2 Q k =>
  WW.of (pw_and ptW pwW) (ha B1 H1 S1 e1 e2 _ fun B2 H2 S2 e3 e4 => by
    cases z with
    | true => exact hb rfl B2 H2 S2 (e1.trans e3) (e2.trans e4) Q fun B3 H3 S3 e5 e6 => k B3 H3 S3 (e3.trans e5) (e4.trans e6)
    | false =>
      have hw := hn rfl
      subst hw
      exact k B2 H2 S2 e3 e4)
theorem ew_or (ha : EvT X E own B H σ a z) (hb : z = false → EvW X E own B H σ (.BoolOp .Or (b :: es) pos) w) (hn : z = true → w = true) : EvW X E own B H σ (.BoolOp .Or (a :: b :: es) pos) w := fun B1 H1 S1 e1 e2 Q k =>
  WW.of (pw_or ptW pwW) (ha B1 H1 S1 e1 e2 _ fun B2 H2 S2 e3 e4 => by
    cases z with
    | false => exact hb rfl B2 H2 S2 (e1.trans e3) (e2.trans e4) Q fun B3 H3 S3 e5 e6 => k B3 H3 S3 (e3.trans e5) (e4.trans e6)
    | true =>
      have hw := hn rfl
      subst hw
      exact k B2 H2 S2 e3 e4)
/-- total parts -/
theorem ew_and' (ha : EvT X E own B H σ a z) (hb : z = true → EvW X E own B H σ (.BoolOp .And (b :: es) pos) w) : EvW X E own B H σ (.BoolOp .And (a :: b :: es) pos) (z && w) :=
  ew_and ha (fun h => by rw [h]; exact hb h) fun h => by rw [h]; rfl
theorem ew_or' (ha : EvT X E own B H σ a z) (hb : z = false → EvW X E own B H σ (.BoolOp .Or (b :: es) pos) w) : EvW X E own B H σ (.BoolOp .Or (a :: b :: es) pos) (z || w) :=
  ew_or ha (fun h => by rw [h]; exact hb h) fun h => by rw [h]; rfl
/-! .. as values -/
theorem ev_one {op} (ha : EvB X E own B H σ a R x) : EvB X E own B H σ (.BoolOp op [a] pos) R x := fun B1 H1 S1 e1 e2 Q k => WE.of (pe_one peW) (ha B1 H1 S1 e1 e2 Q k)
theorem ev_and (ha : EvB X E own B H σ a rBool z) (hb : z = true → EvB X E own B H σ (.BoolOp .And (b :: es) pos) rBool w) (hn : z = false → w = false) : EvB X E own B H σ (.BoolOp .And (a :: b :: es) pos) rBool w := fun B1 H1 S1 e1 e2 Q k =>
  WE.of (pe_and peW peW) (ha B1 H1 S1 e1 e2 _ fun v B2 H2 S2 e3 e4 r => ⟨z, r, by
    cases z with
    | true => exact hb rfl B2 H2 S2 (e1.trans e3) (e2.trans e4) Q fun v B3 H3 S3 e5 e6 => k v B3 H3 S3 (e3.trans e5) (e4.trans e6)
    | false => exact k _ B2 H2 S2 e3 e4 (by rw [hn rfl]; rfl)⟩)
theorem ev_or (ha : EvB X E own B H σ a rBool z) (hb : z = false → EvB X E own B H σ (.BoolOp .Or (b :: es) pos) rBool w) (hn : z = true → w = true) : EvB X E own B H σ (.BoolOp .Or (a :: b :: es) pos) rBool w := fun B1 H1 S1 e1 e2 Q k =>
  WE.of (pe_or peW peW) (ha B1 H1 S1 e1 e2 _ fun v B2 H2 S2 e3 e4 r => ⟨z, r, by
    cases z with
    | false => exact hb rfl B2 H2 S2 (e1.trans e3) (e2.trans e4) Q fun v B3 H3 S3 e5 e6 => k v B3 H3 S3 (e3.trans e5) (e4.trans e6)
    | true => exact k _ B2 H2 S2 e3 e4 (by rw [hn rfl]; rfl)⟩)
theorem ev_and' (ha : EvB X E own B H σ a rBool z) (hb : z = true → EvB X E own B H σ (.BoolOp .And (b :: es) pos) rBool w) : EvB X E own B H σ (.BoolOp .And (a :: b :: es) pos) rBool (z && w) :=
  ev_and ha (fun h => by rw [h]; exact hb h) fun h => by rw [h]; rfl
theorem ev_or' (ha : EvB X E own B H σ a rBool z) (hb : z = false → EvB X E own B H σ (.BoolOp .Or (b :: es) pos) rBool w) : EvB X E own B H σ (.BoolOp .Or (a :: b :: es) pos) rBool (z || w) :=
  ev_or ha (fun h => by rw [h]; exact hb h) fun h => by rw [h]; rfl
theorem ev_not (ha : EvB X E own B H σ a rBool z) : EvB X E own B H σ (.UnaryOp .Not a pos) rBool (!z) := fun B1 H1 S1 e1 e2 Q k =>
  WE.of (pe_not peW) (ha B1 H1 S1 e1 e2 _ fun v B2 H2 S2 e3 e4 r => ⟨z, r, k _ B2 H2 S2 e3 e4 rfl⟩)
/-! ### calls of built-ins -/
/-- f(a), f told by its rule -/
theorem ev_b1 {f : α → γ} {r : List V → Hp → VK → Prop} (hp : PE X e (tCB r (tCons (WE X a) tNil))) (ha : EvB X E own B H σ a R x)
    (hr : ∀ H1 v (Q : VK), R.r H1 v x → (∀ u, T.r H1 u (f x) → Q u H1) → r [v] H1 Q) : EvB X E own B H σ e T (f x) := fun B1 H1 S1 e1 e2 Q k =>
  WE.of hp (ha B1 H1 S1 e1 e2 _ fun v B2 H2 S2 e3 e4 r => hr H2 v Q r fun u t => k u B2 H2 S2 e3 e4 t)
/-- f(a) that lays a new list -/
theorem el_b1 {ys : List γ} {r : List V → Hp → VK → Prop} (hp : PE X e (tCB r (tCons (WE X a) tNil))) (ha : EvB X E own B H σ a R x)
    (hr : ∀ H1 v (Q : VK), R.r H1 v x → (∀ p us, H1 p = none → Paired (T.r H1) us ys → Q (.ref p) (upd H1 p (.lst us))) → r [v] H1 Q) [Imm T] : EvL X E own B H σ e T ys := fun B1 H1 S1 e1 e2 Q k =>
  WE.of hp (ha B1 H1 S1 e1 e2 _ fun v B2 H2 S2 e3 e4 r => hr H2 v Q r fun p us np t => k p us B2 _ (S2.alloc np (fun ys z => by cases z)) e3 (e4.trans (Sx.new np).ex) (pimp t fun _ _ q => Imm.imm S2.tu q))
theorem ints_rel {H1 : Hp} : ∀ {vs : List V} {ns : List Int}, Paired (rInt.r H1) vs ns → vs = ns.map V.int
  | _, _, .nil => rfl
  | _, _, .cons h t => by rw [List.map_cons, ← ints_rel t, show _ = _ from h]
theorem ints_rel' {H1 : Hp} : ∀ ns : List Int, Paired (rInt.r H1) (ns.map V.int) ns
  | [] => .nil
  | n :: r => .cons rfl (ints_rel' r)
theorem bls_rel {H1 : Hp} : ∀ {vs : List V} {ns : List Bool}, Paired (rBool.r H1) vs ns → vs = ns.map V.bl
  | _, _, .nil => rfl
  | _, _, .cons h t => by rw [List.map_cons, ← bls_rel t, show _ = _ from h]
theorem plen {β' : Type} {F : α → β' → Prop} {l₁ : List α} {l₂ : List β'} (h : Paired F l₁ l₂) : l₁.length = l₂.length := Paired.length h
section
variable {k1 : X.mg "len" = none} {he : starEach (a :: []) X.env = (false, eval a X.env) :: starEach [] X.env}
abbrev St1 (X : Cx) (a : Expr) : Prop := starEach (a :: []) X.env = (false, eval a X.env) :: starEach [] X.env
theorem pa1 (hs : St1 X a) : PA X [a] (tCons (WE X a) tNil) := pa_cons peW pa_nil hs
theorem ev_lenL (hg : Gl X "len") (hm : X.mg "len" = none) (ha : EvB X E own B H σ a (rLst R) xs) (hs : St1 X a := by rfl) : EvB X E own B H σ (.Call (.Name "len" p) [a] [] pos) rInt (xs.length : Int) :=
  ev_b1 (f := fun l : List α => (l.length : Int)) (pe_callB call_len_seq hg hm PySem.boot_len (pa1 hs) (he := hs)) ha fun H1 v Q h k => by
    obtain ⟨p, vs, h1, h2, h3⟩ := h
    exact ⟨p, vs, by rw [h1], .inl (.inl h2), k _ (by rw [plen h3]; rfl)⟩
theorem ev_lenT (hg : Gl X "len") (hm : X.mg "len" = none) (ha : EvB X E own B H σ a (rTup R) xs) (hs : St1 X a := by rfl) : EvB X E own B H σ (.Call (.Name "len" p) [a] [] pos) rInt (xs.length : Int) :=
  ev_b1 (f := fun l : List α => (l.length : Int)) (pe_callB call_len_seq hg hm PySem.boot_len (pa1 hs) (he := hs)) ha fun H1 v Q h k => by
    obtain ⟨p, vs, h1, h2, h3⟩ := h
    exact ⟨p, vs, by rw [h1], .inr (SqT.of h2), k _ (by rw [plen h3]; rfl)⟩
/-- list(xs) -/
theorem el_listL [Imm R] (hg : Gl X "list") (hm : X.mg "list" = none) (ha : EvB X E own B H σ a (rLst R) xs) (hs : St1 X a := by rfl) : EvL X E own B H σ (.Call (.Name "list" p) [a] [] pos) R xs :=
  el_b1 (pe_callTy call_list_of hg hm (by decide +kernel) (pa1 hs) (he := hs)) ha fun H1 v Q h k => by
    obtain ⟨p, vs, h1, h2, h3⟩ := h
    exact ⟨p, vs, by rw [h1], .inl (.inl h2), fun l hl => k l vs hl h3⟩
theorem el_listT [Imm R] (hg : Gl X "list") (hm : X.mg "list" = none) (ha : EvB X E own B H σ a (rTup R) xs) (hs : St1 X a := by rfl) : EvL X E own B H σ (.Call (.Name "list" p) [a] [] pos) R xs :=
  el_b1 (pe_callTy call_list_of hg hm (by decide +kernel) (pa1 hs) (he := hs)) ha fun H1 v Q h k => by
    obtain ⟨p, vs, h1, h2, h3⟩ := h
    exact ⟨p, vs, by rw [h1], .inr (SqT.of h2), fun l hl => k l vs hl h3⟩
/-- tuple(xs) -/
theorem ee_tuple [Imm R] (hg : Gl X "tuple") (hm : X.mg "tuple" = none) (ha : EvB X E own B H σ a (rLst R) xs) (hs : St1 X a := by rfl) : EvE X E own B H σ (.Call (.Name "tuple" p) [a] [] pos) (rTup R) xs := fun B1 H1 S1 e1 e2 Q k =>
  WE.of (pe_callTy call_tuple_of hg hm (by decide +kernel) (pa1 hs) (he := hs)) (ha B1 H1 S1 e1 e2 _ fun v B2 H2 S2 e3 e4 r => by
    obtain ⟨p, vs, h1, h2, h3⟩ := r
    refine ⟨p, vs, by rw [h1], .inl ⟨.inl h2, fun l hl => ?_⟩⟩
    exact k (.ref l) _ _ (S2.lay hl) (e3.trans (S2.layB hl).ex) (e4.trans (Sx.new hl).ex) ⟨l, vs, rfl, upd_same, pimp h3 fun _ _ q => R.mono (S2.layB hl).ex (Imm.imm S2.tu q)⟩)
theorem ev_sum {ns : List Int} (hc : X.calm = true) (hg : Gl X "sum") (hm : X.mg "sum" = none) (ha : EvB X E own B H σ a (rLst rInt) ns) (hs : St1 X a := by rfl) : EvB X E own B H σ (.Call (.Name "sum" p) [a] [] pos) rInt ns.sum :=
  ev_b1 (f := List.sum) (pe_callB (cr_sum hc) hg hm (by decide +kernel) (pa1 hs) (he := hs)) ha fun H1 v Q h k => by
    obtain ⟨p, vs, h1, h2, h3⟩ := h
    rw [ints_rel h3] at h2
    exact ⟨p, _, by rw [h1], .inl h2, k _ rfl⟩
theorem ev_all {bs : List Bool} (hc : X.calm = true) (hg : Gl X "all") (hm : X.mg "all" = none) (ha : EvB X E own B H σ a (rLst rBool) bs) (hs : St1 X a := by rfl) : EvB X E own B H σ (.Call (.Name "all" p) [a] [] pos) rBool (bs.all id) :=
  ev_b1 (f := fun l => List.all l id) (pe_callB (cr_all hc) hg hm (by decide +kernel) (pa1 hs) (he := hs)) ha fun H1 v Q h k => by
    obtain ⟨p, vs, h1, h2, h3⟩ := h
    rw [bls_rel h3] at h2
    exact ⟨p, _, by rw [h1], .inl h2, k _ rfl⟩
theorem ev_any {bs : List Bool} (hc : X.calm = true) (hg : Gl X "any") (hm : X.mg "any" = none) (ha : EvB X E own B H σ a (rLst rBool) bs) (hs : St1 X a := by rfl) : EvB X E own B H σ (.Call (.Name "any" p) [a] [] pos) rBool (bs.any id) :=
  ev_b1 (f := fun l => List.any l id) (pe_callB (cr_any hc) hg hm (by decide +kernel) (pa1 hs) (he := hs)) ha fun H1 v Q h k => by
    obtain ⟨p, vs, h1, h2, h3⟩ := h
    rw [bls_rel h3] at h2
    exact ⟨p, _, by rw [h1], .inl h2, k _ rfl⟩
/-- in order -/
def sortI (ns : List Int) : List Int := ns.mergeSort (fun a b => decide (a ≤ b))
theorem sortI_perm (ns : List Int) : (sortI ns).Perm ns := List.mergeSort_perm ns _
theorem sortI_sorted (ns : List Int) : (sortI ns).Pairwise (· ≤ ·) := by
  have h := List.pairwise_mergeSort (le := fun a b : Int => decide (a ≤ b)) (fun a b c h1 h2 => by simp at *; omega) (fun a b => by simp; omega) ns
  exact h.imp fun h => of_decide_eq_true h
theorem sortI_unique {ns ms : List Int} (h : ms.Perm ns) (hs : ms.Pairwise (· ≤ ·)) : ms = sortI ns :=
  List.Perm.eq_of_pairwise (le := (· ≤ ·)) (fun a b _ _ h1 h2 => Int.le_antisymm h1 h2) hs (sortI_sorted ns) (h.trans (sortI_perm ns).symm)
theorem el_sortI {ns : List Int} (hg : Gl X "sorted") (hm : X.mg "sorted" = none) (ha : EvB X E own B H σ a (rLst rInt) ns) (hs : St1 X a := by rfl) : EvL X E own B H σ (.Call (.Name "sorted" p) [a] [] pos) rInt (sortI ns) :=
  el_b1 (pe_callB cr_sortedI hg hm (by decide +kernel) (pa1 hs) (he := hs)) ha fun H1 v Q h k => by
    obtain ⟨p, vs, h1, h2, h3⟩ := h
    rw [ints_rel h3] at h2
    refine ⟨p, _, by rw [h1], .inl h2, fun ns' l hp ho hl => ?_⟩
    rw [sortI_unique hp ho]
    exact k l _ hl (ints_rel' _)
end
end
end Sg

namespace Sg
open PySem PySem.Spec PyProof.Rows L2

/-! ### folds that may stop -/
def sel {α β : Type} {γ : Sort _} (f : α → γ) (g : β → γ) : α ⊕ β → γ
  | .inl u => f u
  | .inr a => g a
def forR {α τ ρ : Type} (step : τ → α → Res (ρ ⊕ τ)) : List α → τ → Res (ρ ⊕ τ)
  | [], a => .ok (.inr a)
  | x :: r, a => (step a x).bind (sel (fun y => .ok (.inl y)) (fun a' => forR step r a'))
def forM {α τ : Type} (step : τ → α → Res τ) : List α → τ → Res τ
  | [], a => .ok a
  | x :: r, a => (step a x).bind fun a' => forM step r a'
def whileR {τ ρ : Type} (step : τ → Res (ρ ⊕ τ)) : Nat → τ → Res ρ
  | 0, _ => .stuck
  | n + 1, a => (step a).bind (sel (fun y => .ok y) (fun a' => whileR step n a'))
/-- what a partial thing gives -/
theorem Fin.of {α β : Type} {P : β → Prop} {Er : Err → Prop} {o : Option α} {f : α → Res β} (h : Fin P Er ((Res.of o).bind f)) : ∃ x, o = some x ∧ Fin P Er (f x) := by
  cases o with
  | none => exact h.elim
  | some x => exact ⟨x, rfl, h⟩
abbrev NoErr : Err → Prop := fun _ => False
/-- what a call gives where nothing is raised -/
theorem Fin.get {α β : Type} {P : β → Prop} {m : Res α} {f : α → Res β} (h : Fin P NoErr (m.bind f)) : ∃ x, m = .ok x ∧ Fin P NoErr (f x) := by
  cases m with
  | ok x => exact ⟨x, rfl, h⟩
  | err e => exact h.elim
  | stuck => exact h.elim
theorem Fin.get0 {β : Type} {P : β → Prop} {m : Res β} (h : Fin P NoErr m) : ∃ x, m = .ok x ∧ P x := by
  cases m with
  | ok x => exact ⟨x, rfl, h⟩
  | err e => exact h.elim
  | stuck => exact h.elim
theorem Fin.tt {β : Type} {P : β → Prop} {Er : Err → Prop} {b : Bool} {m1 m2 : Res β} (h : Fin P Er (if b = true then m1 else m2)) (hb : b = true) : Fin P Er m1 := by
  rw [if_pos hb] at h
  exact h
theorem Fin.ff {β : Type} {P : β → Prop} {Er : Err → Prop} {b : Bool} {m1 m2 : Res β} (h : Fin P Er (if b = true then m1 else m2)) (hb : b = false) : Fin P Er m2 := by
  rw [if_neg (by rw [hb]; exact Bool.false_ne_true)] at h
  exact h
theorem Fin.eq {α : Type} {P : α → Prop} {Er : Err → Prop} {m : Res α} {x : α} (e : m = .ok x) (h : P x) : Fin P Er m := by
  rw [e]
  exact h
theorem Res.bind_ok {α β : Type} {m : Res α} {f : α → Res β} {y : β} (h : m.bind f = .ok y) : ∃ x, m = .ok x ∧ f x = .ok y := by
  cases m with
  | ok x => exact ⟨x, rfl, h⟩
  | err e => cases h
  | stuck => cases h
theorem Res.of_ok {α β : Type} {o : Option α} {f : α → Res β} {y : β} (h : (Res.of o).bind f = .ok y) : ∃ x, o = some x ∧ f x = .ok y := by
  cases o with
  | none => cases h
  | some x => exact ⟨x, rfl, h⟩
theorem Res.need_ok {α : Type} {c : Prop} [Decidable c] {m : Res α} {y : α} (h : Res.need c m = .ok y) : c ∧ m = .ok y := by
  unfold Res.need at h
  by_cases hc : c
  · rw [if_pos hc] at h
    exact ⟨hc, h⟩
  · rw [if_neg hc] at h
    cases h
theorem Res.ok_inj {α : Type} {x y : α} (h : Res.ok x = Res.ok y) : x = y := by
  cases h
  rfl
theorem Res.tt_ok {β : Type} {b : Bool} {m1 m2 : Res β} {y : β} (h : (if b = true then m1 else m2) = .ok y) (hb : b = true) : m1 = .ok y := by
  rw [if_pos hb] at h
  exact h
theorem Res.ff_ok {β : Type} {b : Bool} {m1 m2 : Res β} {y : β} (h : (if b = true then m1 else m2) = .ok y) (hb : b = false) : m2 = .ok y := by
  rw [if_neg (by rw [hb]; exact Bool.false_ne_true)] at h
  exact h

/-! ### what a def hands back -/
abbrev Kind (ρ : Type) := Ent → VK → ρ → Prop
def kE {ρ : Type} (R : Rel ρ) : Kind ρ := fun E Q x => ∀ v B H, Stt E [] B H → R.r B v x → Q v H
def kL {ρ : Type} (R : Rel ρ) : Kind (List ρ) := fun E Q xs => ∀ p vs B H, Stt E [(p, .lst vs)] B H → Paired (R.r B) vs xs → Q (.ref p) H

structure Slot (X : Cx) (i : Nat) (n : Str) : Prop where
  ix : X.N[i]? = some n
  loc : Loc X.env.scope n
  hf : X.fn n = true ∨ X.env.scope.names.lookup n = some .local
/-- the context of a body -/
structure Cok (X : Cx) (k : Nat) : Prop where
  calm : X.calm = true
  nd : X.N.Nodup
  room : Room k X.A
  own : PassesOwn (model X.prog X.w) X.A X.env X.xe
section
variable {X : Cx} {E : Ent} {own new own' : Own} {B H B' H' : Hp} {σ : L2.St} {α β γ τ ρ ρ' : Type} {R : Rel α} {S : Rel β} {T : Rel γ} {e a b c it : Expr} {x : α} {y : β} {p pos pos' : Pos} {i j k : Nat} {z w : Bool} {xs : List α}
variable {n m : Str} {rest body other : List Stmt} {D : Ends} {P : ρ → Prop} {Er : Err → Prop}
theorem WSs.nil (h : D.nx σ H) : WSs X [] D σ H := WSs.of pss_nil h
/-! assignments -/
theorem s_asg (C : Cok X k) (L : Slot X i n) (S0 : Stt E own B H) (he : EvE X E own B H σ e R x)
    (q : ∀ v B' H', Stt E own B' H' → Ex B B' → R.r B' v x → WSs X rest D (σ.set i (some v)) H') (hs : swapsWith e (some (.Name n pos')) pos.line X.env = pure false := by rfl) :
    WSs X (.Assign [.Name n pos'] e pos :: rest) D σ H :=
  WSs.cons (ps_set C.nd L.ix L.loc peW hs L.hf) (he B H S0 (Ex.refl _) (Ex.refl _) _ fun v B2 H2 S2 e1 _ r => q v B2 H2 S2 e1 r)
theorem s_asgI {x : Int} (C : Cok X k) (L : Slot X i n) (S0 : Stt E own B H) (he : EvB X E own B H σ e rInt x)
    (q : ∀ B' H', Stt E own B' H' → Ex B B' → WSs X rest D (σ.set i (some (.int x))) H') (hs : swapsWith e (some (.Name n pos')) pos.line X.env = pure false := by rfl) :
    WSs X (.Assign [.Name n pos'] e pos :: rest) D σ H :=
  s_asg C L S0 he.toE (fun v B' H' S' e1 r => by rw [show v = .int x from r]; exact q B' H' S' e1) hs
theorem s_asgB {x : Bool} (C : Cok X k) (L : Slot X i n) (S0 : Stt E own B H) (he : EvB X E own B H σ e rBool x)
    (q : ∀ B' H', Stt E own B' H' → Ex B B' → WSs X rest D (σ.set i (some (.bl x))) H') (hs : swapsWith e (some (.Name n pos')) pos.line X.env = pure false := by rfl) :
    WSs X (.Assign [.Name n pos'] e pos :: rest) D σ H :=
  s_asg C L S0 he.toE (fun v B' H' S' e1 r => by rw [show v = .bl x from r]; exact q B' H' S' e1) hs
theorem s_asgS {x : Str} (C : Cok X k) (L : Slot X i n) (S0 : Stt E own B H) (he : EvB X E own B H σ e rStr x)
    (q : ∀ B' H', Stt E own B' H' → Ex B B' → WSs X rest D (σ.set i (some (.str x))) H') (hs : swapsWith e (some (.Name n pos')) pos.line X.env = pure false := by rfl) :
    WSs X (.Assign [.Name n pos'] e pos :: rest) D σ H :=
  s_asg C L S0 he.toE (fun v B' H' S' e1 r => by rw [show v = .str x from r]; exact q B' H' S' e1) hs
/-- a name holds a new list of one's own -/
theorem s_asgL (C : Cok X k) (L : Slot X i n) (S0 : Stt E own B H) (he : EvL X E own B H σ e R xs)
    (q : ∀ p vs B' H', Stt E ((p, .lst vs) :: own) B' H' → Ex B B' → Paired (R.r B') vs xs → WSs X rest D (σ.set i (some (.ref p))) H') (hs : swapsWith e (some (.Name n pos')) pos.line X.env = pure false := by rfl) :
    WSs X (.Assign [.Name n pos'] e pos :: rest) D σ H :=
  WSs.cons (ps_set C.nd L.ix L.loc peW hs L.hf) (he B H S0 (Ex.refl _) (Ex.refl _) _ fun p vs B2 H2 S2 e1 _ r => q p vs B2 H2 S2 e1 r)
/-- x = [], x = [a, b] -/
theorem el_nil : EvL X E own B H σ (.List [] pos) R [] := fun B1 H1 S1 e1 e2 Q k =>
  WE.of (pe_lst pa_nil) ⟨Nat.zero_le _, fun p hp => k p [] B1 _ (S1.alloc hp fun ys q => by cases q) (Ex.refl _) (Sx.new hp).ex .nil⟩
/-! written lists and tuples -/
def EvA (X : Cx) (E : Ent) (own : Own) (B H : Hp) (σ : L2.St) (es : List Expr) (R : Rel α) (xs : List α) : Prop := ∀ B1 H1, Stt E own B1 H1 → Ex B B1 → Ex H H1 → ∀ Q : List V → Hp → Prop,
  (∀ vs B2 H2, Stt E own B2 H2 → Ex B1 B2 → Ex H1 H2 → Paired (R.r B2) vs xs → Q vs H2) → WA X es σ H1 Q
theorem ea_nil : EvA X E own B H σ [] R [] := fun B1 H1 S1 e1 e2 Q k => WA.of pa_nil (k [] B1 H1 S1 (Ex.refl _) (Ex.refl _) .nil)
theorem ea_cons {es : List Expr} (he : EvE X E own B H σ e R x) (hr : EvA X E own B H σ es R xs) (hs : starEach (e :: es) X.env = (false, eval e X.env) :: starEach es X.env := by rfl) : EvA X E own B H σ (e :: es) R (x :: xs) := fun B1 H1 S1 e1 e2 Q k =>
  WA.of (pa_cons peW paW hs) (he B1 H1 S1 e1 e2 _ fun v B2 H2 S2 e3 e4 r => hr B2 H2 S2 (e1.trans e3) (e2.trans e4) _ fun vs B3 H3 S3 e5 e6 q => k (v :: vs) B3 H3 S3 (e3.trans e5) (e4.trans e6) (.cons (R.mono e5 r) q))
theorem el_lst {es : List Expr} (ha : EvA X E own B H σ es R xs) (hz : xs.length ≤ sizeLine := by exact Nat.le_of_ble_eq_true rfl) : EvL X E own B H σ (.List es pos) R xs := fun B1 H1 S1 e1 e2 Q k =>
  WE.of (pe_lst paW) (ha B1 H1 S1 e1 e2 _ fun vs B2 H2 S2 e3 e4 r => ⟨by rw [plen r]; exact hz, fun p hp => k p vs B2 _ (S2.alloc hp fun ys q => by cases q) e3 (e4.trans (Sx.new hp).ex) r⟩)
theorem ee_tup {es : List Expr} {x1} (ha : EvA X E own B H σ es R xs) (hz : xs.length ≤ sizeLine := by exact Nat.le_of_ble_eq_true rfl) : EvE X E own B H σ (.Tuple es x1 pos) (rTup R) xs := fun B1 H1 S1 e1 e2 Q k =>
  WE.of (pe_tup paW) (ha B1 H1 S1 e1 e2 _ fun vs B2 H2 S2 e3 e4 r => ⟨by rw [plen r]; exact hz, fun p hp => k (.ref p) _ _ (S2.lay hp) (e3.trans (S2.layB hp).ex) (e4.trans (Sx.new hp).ex) ⟨p, vs, rfl, upd_same, pimp r fun _ _ q => R.mono (S2.layB hp).ex q⟩⟩)
theorem ee_pr {x1} (ha : EvE X E own B H σ a R x) (hb : EvE X E own B H σ b S y) (hs1 : starEach (a :: [b]) X.env = (false, eval a X.env) :: starEach [b] X.env := by rfl) (hs2 : St1 X b := by rfl) : EvE X E own B H σ (.Tuple [a, b] x1 pos) (rPr R S) (x, y) := fun B1 H1 S1 e1 e2 Q k =>
  WE.of (pe_tup (pa_cons peW (pa_cons peW pa_nil hs2) hs1)) (ha B1 H1 S1 e1 e2 _ fun v B2 H2 S2 e3 e4 r => hb B2 H2 S2 (e1.trans e3) (e2.trans e4) _ fun w B3 H3 S3 e5 e6 s =>
    ⟨by show 2 ≤ sizeLine; decide, fun p hp => k (.ref p) _ _ (S3.lay hp) ((e3.trans e5).trans (S3.layB hp).ex) ((e4.trans e6).trans (Sx.new hp).ex) ⟨p, v, w, rfl, upd_same, R.mono (e5.trans (S3.layB hp).ex) r, S.mono (S3.layB hp).ex s⟩⟩)
/-! expressions as statements -/
theorem s_drop (S0 : Stt E own B H) (he : EvB X E own B H σ e R x) (q : ∀ B' H', Stt E own B' H' → Ex B B' → WSs X rest D σ H') (hs : swapsWith e none pos.line X.env = pure false := by rfl) : WSs X (.Expr e pos :: rest) D σ H :=
  WSs.cons (ps_expr peW hs) (he B H S0 (Ex.refl _) (Ex.refl _) _ fun v B2 H2 S2 e1 _ _ => q B2 H2 S2 e1)
/-! owned things at their places -/
theorem set_mem {own : Own} {p : Addr} {o o' : HO} : ∀ {k : Nat} {q : Addr × HO}, own[k]? = some (p, o) → q ∈ own.set k (p, o') → q = (p, o') ∨ (q ∈ own) := by
  intro k q h hq
  rcases List.mem_or_eq_of_mem_set hq with h | h
  · exact .inr h
  · exact .inl h
theorem set_fst {own : Own} {p : Addr} {o o' : HO} {k : Nat} (h : own[k]? = some (p, o)) : (own.set k (p, o')).map (·.1) = own.map (·.1) := by
  rw [List.map_set]
  apply List.ext_getElem?
  intro j
  rw [List.getElem?_set]
  by_cases hj : k = j
  · subst hj
    rw [if_pos rfl, List.getElem?_map, h]
    have : k < (own.map (·.1)).length := by
      rw [List.length_map]
      exact (List.getElem?_eq_some_iff.mp h).1
    rw [if_pos this] <;> rfl
  · rw [if_neg hj]
theorem Stt.put {p : Addr} {o o' : HO} (S : Stt E own B H) (hk : own[k]? = some (p, o)) (nt : ∀ ys, o' ≠ .tup ys) : Stt E (own.set k (p, o')) B (upd H p o') := by
  have hm : (p, o) ∈ own := List.mem_of_getElem? hk
  obtain ⟨o1, o2, o3⟩ := S.ow _ hm
  refine ⟨S.b0, fun a u e => ?_, fun a u e => ?_, fun a ys e => ?_, S.fr, fun q hq => ?_, by rw [set_fst hk]; exact S.nd⟩
  · rw [upd_ne fun z => by
      subst z
      have o1' : E.H0 a = Option.none := o1
      rw [o1'] at e
      cases e]
    exact S.h0 a u e
  · rw [upd_ne fun z => by
      subst z
      have o2' : B a = Option.none := o2
      rw [o2'] at e
      cases e]
    exact S.bh a u e
  · by_cases ha : a = p
    · subst ha
      rw [upd_same] at e
      exact absurd (Option.some.inj e) (nt ys)
    · rw [upd_ne ha] at e
      exact S.tu a ys e
  · by_cases hq1 : q.1 = p
    · -- it is the one that was written
      obtain ⟨j, hj, ej⟩ := List.getElem_of_mem hq
      rw [List.getElem_set] at ej
      by_cases hkj : k = j
      · rw [if_pos hkj] at ej
        subst ej
        exact ⟨o1, o2, upd_same⟩
      · rw [if_neg hkj] at ej
        exfalso
        have hlen : j < own.length := by rwa [List.length_set] at hj
        have hk' := List.getElem?_eq_some_iff.mp hk
        obtain ⟨hk1, hk2⟩ := hk'
        have nd := S.nd
        have e1 : (own.map (·.1))[k]'(by rw [List.length_map]; exact hk1) = (own.map (·.1))[j]'(by rw [List.length_map]; exact hlen) := by
          rw [List.getElem_map, List.getElem_map, hk2, ej, hq1]
        exact hkj ((List.getElem_inj nd).mp e1)
    · have hq' : q ∈ own := by
        rcases List.mem_or_eq_of_mem_set hq with h | h
        · exact h
        · rw [h] at hq1
          exact absurd rfl hq1
      obtain ⟨h1, h2, h3⟩ := S.ow q hq'
      refine ⟨h1, h2, ?_⟩
      rw [upd_ne hq1]
      exact h3
theorem psnoc {α β : Type} {F : α → β → Prop} {l₁ : List α} {l₂ : List β} {u : α} {w : β} (h : Paired F l₁ l₂) (q : F u w) : Paired F (l₁ ++ [u]) (l₂ ++ [w]) := Paired.snoc h q
theorem pappend {α β : Type} {F : α → β → Prop} : ∀ {l₁ m₁ : List α} {l₂ m₂ : List β}, Paired F l₁ l₂ → Paired F m₁ m₂ → Paired F (l₁ ++ m₁) (l₂ ++ m₂)
  | _, _, _, _, .nil, s => s
  | _, _, _, _, .cons h t, s => .cons h (pappend t s)
/-- xs.append(e) of an owned list -/
abbrev BmT (X : Cx) (a : Expr) (m : Str) (apos : Pos) (es : List Expr) (e : Expr) (cpos : Pos) : Prop := (attributeBase a m X.env (eval a X.env) = eval a X.env) ∧ (((backTo cpos (starEach (e :: es) X.env)).all (fun x => !x.1) && (backToKw cpos (keywordEach [] X.env)).all (fun x => x.1.isSome)
      && decide ((e :: es).length + ([] : List Keyword).length + (if ([] : List Keyword).isEmpty then 0 else 1) < 30)) = true) ∧ ((apos.endLine == cpos.line) = true) ∧ (starEach (e :: es) X.env = (false, eval e X.env) :: starEach es X.env) ∧ ((backTo cpos (starEach es X.env)).any (·.1) = false)
abbrev BmT0 (X : Cx) (a : Expr) (m : Str) (apos cpos : Pos) : Prop := (attributeBase a m X.env (eval a X.env) = eval a X.env) ∧ ((apos.endLine == cpos.line) = true)
theorem pe_append {apos : Pos} (ha : PE X a (tVar i)) (t : BmT X a "append" apos [] e p) (hs : St1 X e) : PE X (.Call (.Attribute a "append" apos) [e] [] p) (tBM X.K "list" rAppend (tVar i) (tCons (WE X e) tNil)) :=
  pe_bm PySem.F.plainAttrs_list PySem.F.slot_list_append PySem.F.type_list_append mt_append ha (pa1 hs) t.1 t.2.1 t.2.2.1 t.2.2.2.1 t.2.2.2.2
theorem s_append {apos : Pos} {q : Addr} {vs : List V} (S0 : Stt E own B H) (ha : PE X a (tVar i)) (h : σ[i]? = some (some (.ref q))) (hk : own[k]? = some (q, .lst vs)) (r : Paired (R.r B) vs xs) (he : EvE X E own B H σ e R x) (hz : xs.length < sizeLine)
    (kt : ∀ v B' H', Stt E (own.set k (q, .lst (vs ++ [v]))) B' H' → Ex B B' → Paired (R.r B') (vs ++ [v]) (xs ++ [x]) → WSs X rest D σ H')
    (t : BmT X a "append" apos [] e p := by exact ⟨rfl, rfl, rfl, rfl, rfl⟩) (hs : St1 X e := by rfl) (hw : swapsWith (.Call (.Attribute a "append" apos) [e] [] p) none pos.line X.env = pure false := by rfl) :
    WSs X (.Expr (.Call (.Attribute a "append" apos) [e] [] p) pos :: rest) D σ H :=
  WSs.cons (ps_expr (pe_append ha t hs) hw) ⟨.ref q, h, .inl ⟨rfl, _, SqL.of (S0.ow _ (List.mem_of_getElem? hk)).2.2⟩, he B H S0 (Ex.refl _) (Ex.refl _) _ fun v B2 H2 S2 e1 e2 rv => by
    have hq := (S2.ow _ (List.mem_of_getElem? hk)).2.2
    refine ⟨q, vs, v, rfl, rfl, hq, by rw [plen r]; exact hz, ?_⟩
    exact kt v B2 _ (S2.put hk fun ys z => by cases z) e1 (psnoc (pimp r fun _ _ z => R.mono e1 z) rv)⟩
/-- here = xs.pop() -/
theorem s_pop {apos : Pos} {q : Addr} {vs : List V} (C : Cok X k) (L : Slot X j n) {k' : Nat} (S0 : Stt E own B H) (ha : PE X a (tVar i)) (h : σ[i]? = some (some (.ref q))) (hk : own[k']? = some (q, .lst vs)) (r : Paired (R.r B) vs xs) (hx : xs.getLast? = some x)
    (kt : ∀ v H', Stt E (own.set k' (q, .lst vs.dropLast)) B H' → R.r B v x → Paired (R.r B) vs.dropLast xs.dropLast → WSs X rest D (σ.set j (some v)) H')
    (t : BmT0 X a "pop" apos p := by exact ⟨rfl, rfl⟩) (hw : swapsWith (.Call (.Attribute a "pop" apos) [] [] p) (some (.Name n pos')) pos.line X.env = pure false := by rfl) :
    WSs X (.Assign [.Name n pos'] (.Call (.Attribute a "pop" apos) [] [] p) pos :: rest) D σ H :=
  WSs.cons (ps_set C.nd L.ix L.loc (pe_bm0 PySem.F.plainAttrs_list PySem.F.slot_list_pop PySem.F.type_list_pop mt_pop ha t.1 t.2) hw L.hf) (by
    have hq := (S0.ow _ (List.mem_of_getElem? hk)).2.2
    have key : ∃ v, vs[vs.length - 1]? = some v ∧ R.r B v x ∧ Paired (R.r B) vs.dropLast xs.dropLast := by
      clear kt h hk hq
      induction r generalizing x with
      | nil => cases hx
      | @cons u w us ws h1 t1 ih =>
        cases us with
        | nil =>
          cases t1
          cases hx
          exact ⟨u, rfl, h1, .nil⟩
        | cons u2 us =>
          cases t1 with
          | @cons _ w2 _ ws h2 t2 =>
            rw [List.getLast?_cons_cons] at hx
            obtain ⟨v, e1, e2, e3⟩ := ih hx
            exact ⟨v, e1, e2, .cons h1 e3⟩
    obtain ⟨v, e1, e2, e3⟩ := key
    refine ⟨.ref q, h, .inl ⟨rfl, _, SqL.of hq⟩, q, vs, v, rfl, rfl, hq, e1, ?_⟩
    exact kt v _ (S0.put hk fun ys z => by cases z) e2 e3)
/-! if, return -/
theorem s_if (S0 : Stt E own B H) (hc : EvT X E own B H σ c z)
    (h1 : z = true → ∀ B' H', Stt E own B' H' → Ex B B' → WSs X body { D with nx := WSs X rest D } σ H')
    (h2 : z = false → ∀ B' H', Stt E own B' H' → Ex B B' → WSs X other { D with nx := WSs X rest D } σ H') : WSs X (.If c body other pos :: rest) D σ H :=
  WSs.cons (ps_if ptW pssW pssW) (hc B H S0 (Ex.refl _) (Ex.refl _) _ fun B2 H2 S2 e1 _ => by
    cases z with
    | true => exact h1 rfl B2 H2 S2 e1
    | false => exact h2 rfl B2 H2 S2 e1)
theorem s_retE (S0 : Stt E own B H) (he : EvE X E own B H σ e R x) (F : kE R E D.rt x) : WSs X (.Return (some e) pos :: rest) D σ H :=
  WSs.cons (ps_ret peW) (he B H S0 (Ex.refl _) (Ex.refl _) _ fun v B2 H2 S2 _ _ r => F v B2 H2 S2.none r)
theorem s_retL (S0 : Stt E own B H) (he : EvL X E own B H σ e R xs) (F : kL R E D.rt xs) : WSs X (.Return (some e) pos :: rest) D σ H :=
  WSs.cons (ps_ret peW) (he B H S0 (Ex.refl _) (Ex.refl _) _ fun p vs B2 H2 S2 _ _ r => F p vs B2 H2 (S2.sub (fun q hq => by
    rcases List.mem_singleton.mp hq with rfl
    exact List.mem_cons_self ..) (by simp)) r)
/-- an owned list is handed back -/
theorem s_retO {q : Addr} {vs : List V} (S0 : Stt E own B H) (ha : PE X e (tVar i)) (h : σ[i]? = some (some (.ref q))) (hk : own[k]? = some (q, .lst vs)) (r : Paired (R.r B) vs xs) (F : kL R E D.rt xs) : WSs X (.Return (some e) pos :: rest) D σ H :=
  WSs.cons (ps_ret ha) ⟨.ref q, h, F q vs B H (S0.sub (fun z hz => by
    rcases List.mem_singleton.mp hz with rfl
    exact List.mem_of_getElem? hk) (by simp)) r⟩
theorem s_retN (S0 : Stt E own B H) (F : kE rNon E D.rt ()) : WSs X (.Return none pos :: rest) D σ H := WSs.cons ps_retN (F .non B H S0.none rfl)
theorem s_never {st : Stmt} (h : False) : WSs X (st :: rest) D σ H := h.elim
theorem s_cont (h : D.ct σ H) : WSs X (.Continue pos :: rest) D σ H := WSs.cons ps_continue h
theorem s_brk (h : D.bk σ H) : WSs X (.Break pos :: rest) D σ H := WSs.cons ps_break h
theorem s_pass (h : WSs X rest D σ H) : WSs X (.Pass pos :: rest) D σ H := WSs.cons ps_pass h
end
end Sg

namespace Sg
open PySem PySem.Spec PyProof.Rows L2

/-- an iterator J over xs: what it yields from a state of ours, while Ko holds of what is owned -/
structure Walk (E : Ent) (Ko : Own → Prop) (B2 : Hp) (J : It) {α : Type} (R : Rel α) (xs : List α) : Prop where
  go : ∀ i own' B' H', Stt E own' B' H' → Ex B2 B' → Ko own' → i < xs.length → J.go i H'
  stop : ∀ i own' B' H', Stt E own' B' H' → Ex B2 B' → Ko own' → xs.length ≤ i → J.stop i H'
  yld : ∀ i own' B' H' v H'' x, Stt E own' B' H' → Ex B2 B' → Ko own' → xs[i]? = some x → J.yld i H' v H'' → ∃ B'', Stt E own' B'' H'' ∧ Ex B' B'' ∧ Ex H' H'' ∧ R.r B'' v x
/-- what is walked by a for -/
def EvI (X : Cx) (E : Ent) (own : Own) (B H : Hp) (σ : L2.St) {α : Type} (tg it : Expr) (R : Rel α) (Ko : Own → Prop) (xs : List α) : Prop := ∃ wi : TI, PI X tg it wi ∧ ∀ B1 H1, Stt E own B1 H1 → Ex B B1 → Ex H H1 → ∀ Q : It → Hp → Prop,
  (∀ J B2 H2, Stt E own B2 H2 → Ex B1 B2 → Ex H1 H2 → Walk E Ko B2 J R xs → xs.length ≤ sizeLine → Q J H2) → wi σ H1 Q
/-- a target takes an item -/
def TgOk (X : Cx) (E : Ent) {α : Type} (tg : Expr) (R : Rel α) (T : α → Hp → L2.St → L2.St → Prop) : Prop := ∃ g : TG, PG X tg g ∧ ∀ own B H v x σ, Stt E own B H → R.r B v x → ∀ Q : L2.St → Hp → Prop, (∀ σ', T x B σ σ' → Q σ' H) → g v σ H Q
abbrev KoT : Own → Prop := fun _ => True
def noU {ρ : Type} (u : Empty) : Res ρ := nomatch u
section
variable {X : Cx} {E : Ent} {own new own' : Own} {B H B' H' : Hp} {σ : L2.St} {α β γ τ ρ ρ' : Type} {R : Rel α} {S : Rel β} {T : Rel γ} {e a b c it : Expr} {x : α} {y : β} {p pos pos' : Pos} {i j k : Nat} {z w : Bool} {xs : List α}
variable {n m : Str} {rest body other : List Stmt} {D : Ends} {P : ρ → Prop} {Er : Err → Prop}
/-! what is walked -/
theorem walk_list {q : Addr} {vs : List V} {Ko : Own → Prop} {K : PySem.W.Frag} (hl : ∀ own' B' H', Stt E own' B' H' → Ex B B' → Ko own' → Rd H' q (.lst vs)) (r : Paired (R.r B) vs xs) : Walk E Ko B (Itl K q) R xs := by
  refine ⟨fun i own' B' H' S' e k hi => ?_, fun i own' B' H' S' e k hi => ⟨vs, .inl (hl own' B' H' S' e k), by rw [plen r]; exact hi⟩, fun i own' B' H' v H'' x S' e k hx hy => ?_⟩
  · have h2 : i < vs.length := by rw [plen r]; exact hi
    exact ⟨vs, vs[i], .inl (hl own' B' H' S' e k), List.getElem?_eq_getElem h2⟩
  · obtain ⟨e1, h1⟩ := hy
    subst e1
    have hv := h1 vs (.inl (hl own' B' H'' S' e k))
    obtain ⟨x', hx', rx⟩ := L2.paired_get r hv
    rw [hx] at hx'
    cases hx'
    exact ⟨B', S', Ex.refl _, Ex.refl _, R.mono e rx⟩
theorem walk_tup {q : Addr} {vs : List V} {K : PySem.W.Frag} (hl : B q = some (.tup vs)) (r : Paired (R.r B) vs xs) : Walk E KoT B (Itt K q) R xs := by
  have key : ∀ own' B' H', Stt E own' B' H' → Ex B B' → SqT K H' q vs := fun own' B' H' S' e => SqT.of (S'.bh _ _ (e.tup hl))
  refine ⟨fun i own' B' H' S' e k hi => ?_, fun i own' B' H' S' e k hi => ⟨vs, key own' B' H' S' e, by rw [plen r]; exact hi⟩, fun i own' B' H' v H'' x S' e k hx hy => ?_⟩
  · have h2 : i < vs.length := by rw [plen r]; exact hi
    exact ⟨vs, vs[i], key own' B' H' S' e, List.getElem?_eq_getElem h2⟩
  · obtain ⟨e1, h1⟩ := hy
    subst e1
    have hv := h1 vs (key own' B' H'' S' e)
    obtain ⟨x', hx', rx⟩ := L2.paired_get r hv
    rw [hx] at hx'
    cases hx'
    exact ⟨B', S', Ex.refl _, Ex.refl _, R.mono e rx⟩
/-- a list that was handed in -/
theorem ei_0 [Imm R] {v : V} {tg : Expr} (hp : PE X e (tVar i)) (h : σ[i]? = some (some v)) (r : (rLst R).r E.H0 v xs) : EvI X E own B H σ tg e R KoT xs := ⟨_, pi_list (tl := WE X e) peW, fun B1 H1 S e1 e2 Q k => by
  obtain ⟨q, vs, h1, h2, h3⟩ := r
  subst h1
  exact WE.sz (WE.of hp ⟨_, h, fun sz => ⟨q, rfl, ⟨vs, .inl (S.h0.ex.rdL h2)⟩, k _ B1 H1 S (Ex.refl _) (Ex.refl _) (walk_list (fun own' B' H' S' _ _ => S'.h0.ex.rdL h2) (pimp h3 fun _ _ z => Imm.imm (fun a ys ha => S.tu a ys (S.h0 _ _ ha)) z)) (by rw [← plen h3]; exact sz.1 _ _ (S.h0.ex.rdL h2))⟩⟩)⟩
/-- a list kept for good -/
theorem ei_E {tg : Expr} (he : EvE X E own B H σ e (rLst R) xs) : EvI X E own B H σ tg e R KoT xs := ⟨_, pi_list (tl := WE X e) peW, fun B1 H1 S e1 e2 Q k => WE.sz (he B1 H1 S e1 e2 _ fun v B2 H2 S2 e3 e4 r sz => by
  obtain ⟨q, vs, h1, h2, h3⟩ := r
  subst h1
  exact ⟨q, rfl, ⟨vs, .inl (S2.bh.ex.rdL h2)⟩, k _ B2 H2 S2 e3 e4 (walk_list (fun own' B' H' S' e' _ => S'.bh.ex.rdL (e'.rdL h2)) h3) (by rw [← plen h3]; exact sz.1 _ _ (S2.bh.ex.rdL h2))⟩)⟩
theorem ei_L {tg : Expr} (he : EvL X E own B H σ e R xs) : EvI X E own B H σ tg e R KoT xs := ei_E he.toE
/-- an owned list that stays -/
theorem ei_own {q : Addr} {vs : List V} {k' : Nat} {tg : Expr} (hp : PE X e (tVar i)) (h : σ[i]? = some (some (.ref q))) (hk : own[k']? = some (q, .lst vs)) (r : Paired (R.r B) vs xs) : EvI X E own B H σ tg e R (fun o => (q, .lst vs) ∈ o) xs := ⟨_, pi_list (tl := WE X e) peW, fun B1 H1 S e1 e2 Q k =>
  WE.sz (WE.of hp ⟨_, h, fun sz => ⟨q, rfl, ⟨vs, .inl (.inl (S.ow _ (List.mem_of_getElem? hk)).2.2)⟩, k _ B1 H1 S (Ex.refl _) (Ex.refl _) (walk_list (fun own' B' H' S' _ hk' => .inl (S'.ow _ hk').2.2) (pimp r fun _ _ z => R.mono e1 z)) (by rw [← plen r]; exact sz.1 _ _ (.inl (S.ow _ (List.mem_of_getElem? hk)).2.2))⟩⟩)⟩
/-- a tuple -/
theorem ei_T {tg : Expr} (he : EvE X E own B H σ e (rTup R) xs) : EvI X E own B H σ tg e R KoT xs := ⟨_, pi_tup (tl := WE X e) peW, fun B1 H1 S e1 e2 Q k => WE.sz (he B1 H1 S e1 e2 _ fun v B2 H2 S2 e3 e4 r sz => by
  obtain ⟨q, vs, h1, h2, h3⟩ := r
  subst h1
  exact ⟨q, rfl, ⟨vs, SqT.of (S2.bh _ _ h2)⟩, k _ B2 H2 S2 e3 e4 (walk_tup h2 h3) (by rw [← plen h3]; exact sz.2.1 _ _ (.inl (S2.bh _ _ h2)))⟩)⟩
/-- range(n), range(a, b) -/
def rangeI (a b : Int) : List Int := (List.range (b - a).toNat).map fun i : Nat => a + (i : Int)
theorem rangeI_at {a b : Int} {i : Nat} (h : i < (b - a).toNat) : (rangeI a b)[i]? = some (a + (i : Int)) := by
  unfold rangeI
  rw [List.getElem?_map, List.getElem?_range h]
  rfl
theorem rangeI_len (a b : Int) : (rangeI a b).length = (b - a).toNat := by
  unfold rangeI
  rw [List.length_map, List.length_range]
theorem walk_range {lo hi : Int} : Walk E KoT B (Itr lo (hi - lo).toNat) rInt (rangeI lo hi) := by
  refine ⟨fun i own' B' H' S' e k h => by rw [rangeI_len] at h; exact h, fun i own' B' H' S' e k h => by rw [rangeI_len] at h; exact h, fun i own' B' H' v H'' x S' e k hx hy => ?_⟩
  obtain ⟨e1, h1⟩ := hy
  subst e1
  have hl : i < (hi - lo).toNat := by
    have := (List.getElem?_eq_some_iff.mp hx).1
    rwa [rangeI_len] at this
  rw [rangeI_at hl] at hx
  cases hx
  exact ⟨B', S', Ex.refl _, Ex.refl _, h1⟩
theorem ei_r1 {tg : Expr} {hi : Int} (hg : Gl X "range") (hm : X.mg "range" = none) (ha : EvB X E own B H σ a rInt hi) (hz : -8000000 ≤ hi ∧ hi ≤ 8000000) (hs : St1 X a := by rfl) (hs' : starEach [a] X.env = [(false, eval a X.env)] := by rfl) : EvI X E own B H σ tg (.Call (.Name "range" p) [a] [] pos) rInt KoT (rangeI 0 hi) :=
  ⟨_, pi_range1 hg hm (pa1 hs) hs', fun B1 H1 S e1 e2 Q k => ha B1 H1 S e1 e2 _ fun v B2 H2 S2 e3 e4 r => ⟨hi, by rw [show v = .int hi from r], by omega, by omega, k _ B2 H2 S2 e3 e4 (by
    have q := walk_range (E := E) (B := B2) (lo := 0) (hi := hi)
    rw [Int.sub_zero] at q
    exact q) (by rw [rangeI_len, sizeLine_eq]; omega)⟩⟩
theorem ei_r2 {tg : Expr} {lo hi : Int} (hg : Gl X "range") (hm : X.mg "range" = none) (ha : EvB X E own B H σ a rInt lo) (hb : EvB X E own B H σ b rInt hi) (hz : -8000000 ≤ lo ∧ lo ≤ 8000000 ∧ -8000000 ≤ hi ∧ hi ≤ 8000000)
    (hs : starEach (a :: [b]) X.env = (false, eval a X.env) :: starEach [b] X.env := by rfl) (hs1 : St1 X b := by rfl) (hs' : starEach [a, b] X.env = [(false, eval a X.env), (false, eval b X.env)] := by rfl) (hs2 : starEach [b] X.env = [(false, eval b X.env)] := by rfl) : EvI X E own B H σ tg (.Call (.Name "range" p) [a, b] [] pos) rInt KoT (rangeI lo hi) :=
  ⟨_, pi_range2 hg hm (pa_cons peW (pa1 hs1) hs) hs' hs2, fun B1 H1 S e1 e2 Q k => ha B1 H1 S e1 e2 _ fun v B2 H2 S2 e3 e4 r => hb B2 H2 S2 (e1.trans e3) (e2.trans e4) _ fun w B3 H3 S3 e5 e6 r' =>
    ⟨lo, hi, by rw [show v = .int lo from r, show w = .int hi from r'], by omega, k _ B3 H3 S3 (e3.trans e5) (e4.trans e6) walk_range (by rw [rangeI_len, sizeLine_eq]; omega)⟩⟩
/-- enumerate(list) -/
def enumI (a : Int) (xs : List α) : List (Int × α) := (rangeI a (a + xs.length)).zip xs
theorem enumI_at {a : Int} {xs : List α} {i : Nat} {x : α} (h : xs[i]? = some x) : (enumI a xs)[i]? = some (a + (i : Int), x) := by
  have hl : i < xs.length := (List.getElem?_eq_some_iff.mp h).1
  unfold enumI
  exact (List.getElem?_zip_eq_some (z := (a + (i : Int), x))).mpr ⟨rangeI_at (by omega), h⟩
theorem enumI_len (a : Int) (xs : List α) : (enumI a xs).length = xs.length := by
  unfold enumI
  rw [List.length_zip, rangeI_len]
  omega
theorem walk_enum {q : Addr} {vs : List V} {Ko : Own → Prop} {K : PySem.W.Frag} (hl : ∀ own' B' H', Stt E own' B' H' → Ex B B' → Ko own' → Rd H' q (.lst vs)) (r : Paired (R.r B) vs xs) : Walk E Ko B (Ite K q) (rPr rInt R) (enumI 0 xs) := by
  refine ⟨fun i own' B' H' S' e k hi => ?_, fun i own' B' H' S' e k hi => ⟨vs, .inl (hl own' B' H' S' e k), by rw [enumI_len] at hi; rw [plen r]; exact hi⟩, fun i own' B' H' v H'' x S' e k hx hy => ?_⟩
  · have h2 : i < vs.length := by rw [plen r, ← enumI_len 0 xs]; exact hi
    exact ⟨vs, vs[i], .inl (hl own' B' H' S' e k), List.getElem?_eq_getElem h2⟩
  · obtain ⟨T, u, h1, h2, h3, h4⟩ := hy
    subst h3
    have hv := h4 vs (.inl (hl own' B' H' S' e k))
    obtain ⟨x', hx', rx⟩ := L2.paired_get r hv
    rw [enumI_at hx'] at hx
    cases hx
    refine ⟨_, S'.lay h2, (S'.layB h2).ex, (Sx.new h2).ex, T, .int (i : Nat), u, h1, upd_same, ?_, R.mono (e.trans (S'.layB h2).ex) rx⟩
    show V.int _ = V.int _
    rw [Int.zero_add]
theorem ei_enum0 [Imm R] {v : V} {tgs : List Expr} {kk : Nat} {tpos : Pos} (hg : Gl X "enumerate") (hm : X.mg "enumerate" = none) (hp : PE X a (tVar i)) (h : σ[i]? = some (some v)) (r : (rLst R).r E.H0 v xs) (hs : St1 X a := by rfl) (hs' : starEach [a] X.env = [(false, eval a X.env)] := by rfl) :
    EvI X E own B H σ (.Tuple tgs kk tpos) (.Call (.Name "enumerate" p) [a] [] pos) (rPr rInt R) KoT (enumI 0 xs) := ⟨_, pi_enum hg hm (pa1 hs) hs', fun B1 H1 S e1 e2 Q k => by
  obtain ⟨q, vs, h1, h2, h3⟩ := r
  subst h1
  exact WE.sz (WE.of hp ⟨_, h, fun sz => ⟨q, vs, rfl, .inl (S.h0.ex.rdL h2), k _ B1 H1 S (Ex.refl _) (Ex.refl _) (walk_enum (fun own' B' H' S' _ _ => S'.h0.ex.rdL h2) (pimp h3 fun _ _ z => Imm.imm (fun a ys ha => S.tu a ys (S.h0 _ _ ha)) z)) (by rw [enumI_len, ← plen h3]; exact sz.1 _ _ (S.h0.ex.rdL h2))⟩⟩)⟩
theorem ei_enumE {tgs : List Expr} {kk : Nat} {tpos : Pos} (hg : Gl X "enumerate") (hm : X.mg "enumerate" = none) (he : EvE X E own B H σ a (rLst R) xs) (hs : St1 X a := by rfl) (hs' : starEach [a] X.env = [(false, eval a X.env)] := by rfl) :
    EvI X E own B H σ (.Tuple tgs kk tpos) (.Call (.Name "enumerate" p) [a] [] pos) (rPr rInt R) KoT (enumI 0 xs) := ⟨_, pi_enum hg hm (pa1 hs) hs', fun B1 H1 S e1 e2 Q k => WE.sz (he B1 H1 S e1 e2 _ fun v B2 H2 S2 e3 e4 r sz => by
  obtain ⟨q, vs, h1, h2, h3⟩ := r
  subst h1
  exact ⟨q, vs, rfl, .inl (S2.bh.ex.rdL h2), k _ B2 H2 S2 e3 e4 (walk_enum (fun own' B' H' S' e' _ => S'.bh.ex.rdL (e'.rdL h2)) h3) (by rw [enumI_len, ← plen h3]; exact sz.1 _ _ (S2.bh.ex.rdL h2))⟩)⟩
theorem ei_enumO {q : Addr} {vs : List V} {k' : Nat} {tgs : List Expr} {kk : Nat} {tpos : Pos} (hg : Gl X "enumerate") (hm : X.mg "enumerate" = none) (hp : PE X a (tVar i)) (h : σ[i]? = some (some (.ref q))) (hk : own[k']? = some (q, .lst vs)) (r : Paired (R.r B) vs xs) (hs : St1 X a := by rfl) (hs' : starEach [a] X.env = [(false, eval a X.env)] := by rfl) :
    EvI X E own B H σ (.Tuple tgs kk tpos) (.Call (.Name "enumerate" p) [a] [] pos) (rPr rInt R) (fun o => (q, .lst vs) ∈ o) (enumI 0 xs) := ⟨_, pi_enum hg hm (pa1 hs) hs', fun B1 H1 S e1 e2 Q k =>
  WE.sz (WE.of hp ⟨_, h, fun sz => ⟨q, vs, rfl, .inl (.inl (S.ow _ (List.mem_of_getElem? hk)).2.2), k _ B1 H1 S (Ex.refl _) (Ex.refl _) (walk_enum (fun own' B' H' S' _ hk' => .inl (S'.ow _ hk').2.2) (pimp r fun _ _ z => R.mono e1 z)) (by rw [enumI_len, ← plen r]; exact sz.1 _ _ (.inl (S.ow _ (List.mem_of_getElem? hk)).2.2))⟩⟩)⟩
/-- zip(list, list) -/
theorem walk_zip {q q2 : Addr} {vs us : List V} {ys : List β} {Ko : Own → Prop} {K : PySem.W.Frag} (hl : ∀ own' B' H', Stt E own' B' H' → Ex B B' → Ko own' → Rd H' q (.lst vs)) (hl2 : ∀ own' B' H', Stt E own' B' H' → Ex B B' → Ko own' → Rd H' q2 (.lst us)) (r : Paired (R.r B) vs xs) (r2 : Paired (S.r B) us ys) : Walk E Ko B (Itz K q q2) (rPr R S) (xs.zip ys) := by
  refine ⟨fun i own' B' H' S' e k hi => ?_, fun i own' B' H' S' e k hi => ⟨vs, us, .inl (hl own' B' H' S' e k), .inl (hl2 own' B' H' S' e k), ?_⟩, fun i own' B' H' v H'' x S' e k hx hy => ?_⟩
  · rw [List.length_zip] at hi
    have h2 : i < vs.length := by rw [plen r]; omega
    have h3 : i < us.length := by rw [plen r2]; omega
    exact ⟨vs, us, vs[i], us[i], .inl (hl own' B' H' S' e k), .inl (hl2 own' B' H' S' e k), List.getElem?_eq_getElem h2, List.getElem?_eq_getElem h3⟩
  · rw [List.length_zip] at hi
    rw [plen r, plen r2]
    omega
  · obtain ⟨T, u, w, h1, h2, h3, h4, h5⟩ := hy
    subst h3
    obtain ⟨x', hx', rx⟩ := L2.paired_get r (h4 vs (.inl (hl own' B' H' S' e k)))
    obtain ⟨y', hy', ry⟩ := L2.paired_get r2 (h5 us (.inl (hl2 own' B' H' S' e k)))
    rw [(List.getElem?_zip_eq_some (z := (x', y'))).mpr ⟨hx', hy'⟩] at hx
    cases hx
    exact ⟨_, S'.lay h2, (S'.layB h2).ex, (Sx.new h2).ex, T, u, w, h1, upd_same, R.mono (e.trans (S'.layB h2).ex) rx, S.mono (e.trans (S'.layB h2).ex) ry⟩
theorem ei_zip {ys : List β} {tgs : List Expr} {kk : Nat} {tpos : Pos} (hg : Gl X "zip") (hm : X.mg "zip" = none) (he : EvE X E own B H σ a (rLst R) xs) (he2 : EvE X E own B H σ b (rLst S) ys)
    (hs0 : starEach (a :: [b]) X.env = (false, eval a X.env) :: starEach [b] X.env := by rfl) (hs1 : St1 X b := by rfl) (hpl : (backTo pos (starEach [b] X.env)).any (·.1) = false := by rfl) :
    EvI X E own B H σ (.Tuple tgs kk tpos) (.Call (.Name "zip" p) [a, b] [] pos) (rPr R S) KoT (xs.zip ys) := ⟨_, pi_zip hg hm (pa_cons peW (pa1 hs1) hs0) hs0 hpl, fun B1 H1 S e1 e2 Q k => he B1 H1 S e1 e2 _ fun v B2 H2 S2 e3 e4 r => WE.sz (he2 B2 H2 S2 (e1.trans e3) (e2.trans e4) _ fun w B3 H3 S3 e5 e6 r' sz => by
  obtain ⟨q, vs, h1, h2, h3⟩ := Rel.mono _ e5 r
  obtain ⟨q2, us, h1', h2', h3'⟩ := r'
  subst h1
  subst h1'
  exact ⟨q, q2, vs, us, rfl, .inl (S3.bh.ex.rdL h2), .inl (S3.bh.ex.rdL h2'), k _ B3 H3 S3 (e3.trans e5) (e4.trans e6) (walk_zip (fun own' B' H' S' e' _ => S'.bh.ex.rdL (e'.rdL h2)) (fun own' B' H' S' e' _ => S'.bh.ex.rdL (e'.rdL h2')) h3 h3') (by rw [List.length_zip, ← plen h3]; exact Nat.le_trans (Nat.min_le_left _ _) (sz.1 _ _ (S3.bh.ex.rdL h2)))⟩)⟩
/-! targets -/
def tN (j : Nat) (R : Rel α) : α → Hp → L2.St → L2.St → Prop := fun x B σ σ' => ∃ v, R.r B v x ∧ σ' = σ.set j (some v)
def tP (i j : Nat) (R : Rel α) (S : Rel β) : α × β → Hp → L2.St → L2.St → Prop := fun x B σ σ' => ∃ v w, R.r B v x.1 ∧ S.r B w x.2 ∧ σ' = (σ.set i (some v)).set j (some w)
theorem tg_name {k0 : Nat} (C : Cok X k0) (L : Slot X j n) : TgOk X E (.Name n pos) R (tN j R) := ⟨_, pg_name (i := j) C.nd L.ix L.loc L.hf, fun own B H v x σ S r Q k => k _ ⟨v, r, rfl⟩⟩
theorem tg_pair {k0 : Nat} {m : Str} {k1 : Nat} {q : Pos} (C : Cok X k0) (L : Slot X i n) (L2 : Slot X j m) : TgOk X E (.Tuple [.Name n pos, .Name m pos'] k1 q) (rPr R S) (tP i j R S) :=
  ⟨_, pg_tup (n := 2) C.calm (pgs_cons (pg_name (i := i) C.nd L.ix L.loc L.hf) (pgs_cons (pg_name (i := j) C.nd L2.ix L2.loc L2.hf) pgs_nil)), fun own B H v x σ St r Q k => by
    obtain ⟨q, a, b, h1, h2, h3, h4⟩ := r
    exact ⟨q, [a, b], h1, SqT.of (St.bh _ _ h2), rfl, a, [b], rfl, b, [], rfl, rfl, k _ ⟨a, b, h3, h4, rfl⟩⟩⟩
/-- a turn's end -/
def TurnE (E : Ent) (B : Hp) (Q : τ → Prop) (Inv : τ → L2.St → Own → Hp → Prop) : L2.St → Hp → Prop := fun σ2 H2 => ∃ a' own2 B2, Q a' ∧ Stt E own2 B2 H2 ∧ Ex B B2 ∧ Inv a' σ2 own2 B2
theorem forR_cons {step : τ → α → Res (ρ' ⊕ τ)} {kr : ρ' → Res ρ} {kn : τ → Res ρ} {r : List α} {acc : τ} (F : Fin P Er ((forR step (x :: r) acc).bind (sel kr kn))) : Fin (sel (fun u => Fin P Er (kr u)) (fun a' => Fin P Er ((forR step r a').bind (sel kr kn)))) Er (step acc x) := by
  unfold forR at F
  cases hm : step acc x with
  | ok o =>
    rw [hm] at F
    cases o with
    | inl u => exact F
    | inr a' => exact F
  | err e =>
    rw [hm] at F
    exact F
  | stuck =>
    rw [hm] at F
    exact F
/-- for x in xs: with what may be handed back within -/
theorem s_forR {k0 : Nat} {tg : Expr} {Tg : α → Hp → L2.St → L2.St → Prop} {Ko : Own → Prop} {step : τ → α → Res (ρ' ⊕ τ)} {kr : ρ' → Res ρ} {kn : τ → Res ρ} {a0 : τ} (C : Cok X k0) (ht : TgOk X E tg R Tg) (S0 : Stt E own B H) (hit : EvI X E own B H σ tg it R Ko xs)
    (F : Fin P Er ((forR step xs a0).bind (sel kr kn)))
    (Inv : τ → L2.St → Own → Hp → Prop) (h0 : ∀ B1, Ex B B1 → Inv a0 σ own B1) (hK : ∀ a σ' own' B', Inv a σ' own' B' → Ko own')
    (hup : ∀ a σ' own' B' B'', Inv a σ' own' B' → Ex B' B'' → Inv a σ' own' B'')
    (hs : ∀ a x σ' σ2 own' B' H' (Q : τ → Prop), Inv a σ' own' B' → Stt E own' B' H' → Ex B B' → Tg x B' σ' σ2 → Fin (sel (fun u => Fin P Er (kr u)) Q) Er (step a x) →
      WSs X body { nx := TurnE E B' Q Inv, rt := D.rt, bk := fun σ2 H2 => ∃ a' own2 B2, Fin P Er (kn a') ∧ Stt E own2 B2 H2 ∧ Ex B' B2 ∧ Inv a' σ2 own2 B2, ct := TurnE E B' Q Inv } σ2 H')
    (hd : ∀ a σ' own' B' H', Inv a σ' own' B' → Stt E own' B' H' → Ex B B' → Fin P Er (kn a) → WSs X rest D σ' H')
    (hf : ∀ x, foldedSetIterable it X.env x = pure x := by intro _; rfl) : WSs X (.For tg it body [] pos :: rest) D σ H := by
  obtain ⟨g, pg, hg⟩ := ht
  obtain ⟨wi, pi, hw⟩ := hit
  refine WSs.cons (ps_for C.own C.calm pi pg pssW hf) (hw B H S0 (Ex.refl _) (Ex.refl _) _ fun J B2 H2 S2 e1 e2 W _ => ?_)
  refine ⟨fun i' mm σ' H' => mm = xs.length - i' ∧ i' ≤ xs.length ∧ ∃ a own' B', Fin P Er ((forR step (xs.drop i') a).bind (sel kr kn)) ∧ Stt E own' B' H' ∧ Ex B2 B' ∧ Inv a σ' own' B', ⟨xs.length, by simp, Nat.zero_le _, a0, own, B2, by rw [List.drop_zero]; exact F, S2, Ex.refl _, h0 B2 e1⟩, ?_⟩
  rintro i' mm σ' H' ⟨rfl, hi, a, own', B', F', S', e', iv⟩
  by_cases hlt : i' < xs.length
  · refine .inr ⟨W.go i' own' B' H' S' e' (hK _ _ _ _ iv) hlt, fun σ2 H2 => ∃ a own' B', Fin P Er ((forR step (xs.drop (i' + 1)) a).bind (sel kr kn)) ∧ Stt E own' B' H2 ∧ Ex B2 B' ∧ Inv a σ2 own' B', fun σ2 H2 q => ⟨xs.length - (i' + 1), by omega, rfl, hlt, q⟩, fun v H'' hy => ?_⟩
    have hx : xs[i']? = some xs[i'] := List.getElem?_eq_getElem hlt
    obtain ⟨B'', S'', e3, e4, rx⟩ := W.yld i' own' B' H' v H'' _ S' e' (hK _ _ _ _ iv) hx hy
    refine hg own' B'' H'' v _ σ' S'' rx _ fun σ2 tgx => ?_
    have hdrop : xs.drop i' = xs[i'] :: xs.drop (i' + 1) := List.drop_eq_getElem_cons hlt
    rw [hdrop] at F'
    have F2 := forR_cons F'
    have done := hs a _ σ' σ2 own' B'' H'' _ (hup _ _ _ _ _ iv e3) S'' ((e1.trans e').trans e3) tgx F2
    intro pins s I
    refine wpAny_mono (done pins s I) (fun f s' q => ?_) fun _ _ q => q
    cases f with
    | next =>
      obtain ⟨σ2, H2', I2, a', own2, B3, q1, q2, q3, q4⟩ := q
      exact ⟨σ2, H2', I2, a', own2, B3, q1, q2, (e'.trans e3).trans q3, q4⟩
    | cont =>
      obtain ⟨σ2, H2', I2, a', own2, B3, q1, q2, q3, q4⟩ := q
      exact ⟨σ2, H2', I2, a', own2, B3, q1, q2, (e'.trans e3).trans q3, q4⟩
    | brk =>
      obtain ⟨σ2, H2', I2, a', own2, B3, q1, q2, q3, q4⟩ := q
      exact ⟨σ2, H2', I2, hd a' σ2 own2 B3 H2' q4 q2 (((e1.trans e').trans e3).trans q3) q1⟩
    | ret u => exact q
  · have e : i' = xs.length := by omega
    subst e
    rw [List.drop_length] at F'
    exact .inl ⟨W.stop _ own' B' H' S' e' (hK _ _ _ _ iv) (Nat.le_refl _), hd a σ' own' B' H' iv S' (e1.trans e') F'⟩
/-- for x in xs: nothing is handed back within -/
theorem forM_R {step : τ → α → Res τ} : ∀ (xs : List α) (a : τ) (kn : τ → Res ρ), Fin P Er ((forM step xs a).bind kn) → Fin P Er ((forR (ρ := Empty) (fun a x => (step a x).bind fun a' => .ok (.inr a')) xs a).bind (sel noU kn))
  | [], a, kn, F => F
  | x :: r, a, kn, F => by
    unfold forM at F
    unfold forR
    cases hm : step a x with
    | ok a' =>
      rw [hm] at F
      exact forM_R r a' kn F
    | err e =>
      rw [hm] at F
      exact F
    | stuck =>
      rw [hm] at F
      exact F
theorem s_forM {k0 : Nat} {tg : Expr} {Tg : α → Hp → L2.St → L2.St → Prop} {Ko : Own → Prop} {step : τ → α → Res τ} {kn : τ → Res ρ} {a0 : τ} (C : Cok X k0) (ht : TgOk X E tg R Tg) (S0 : Stt E own B H) (hit : EvI X E own B H σ tg it R Ko xs)
    (F : Fin P Er ((forM step xs a0).bind kn))
    (Inv : τ → L2.St → Own → Hp → Prop) (h0 : ∀ B1, Ex B B1 → Inv a0 σ own B1) (hK : ∀ a σ' own' B', Inv a σ' own' B' → Ko own')
    (hup : ∀ a σ' own' B' B'', Inv a σ' own' B' → Ex B' B'' → Inv a σ' own' B'')
    (hs : ∀ a x σ' σ2 own' B' H' (Q : τ → Prop), Inv a σ' own' B' → Stt E own' B' H' → Ex B B' → Tg x B' σ' σ2 → Fin Q Er (step a x) →
      WSs X body { nx := TurnE E B' Q Inv, rt := D.rt, bk := fun _ _ => False, ct := TurnE E B' Q Inv } σ2 H')
    (hd : ∀ a σ' own' B' H', Inv a σ' own' B' → Stt E own' B' H' → Ex B B' → Fin P Er (kn a) → WSs X rest D σ' H')
    (hf : ∀ x, foldedSetIterable it X.env x = pure x := by intro _; rfl) : WSs X (.For tg it body [] pos :: rest) D σ H :=
  s_forR (ρ' := Empty) (step := fun a x => (step a x).bind fun a' => .ok (.inr a')) (kr := noU) (kn := kn) C ht S0 hit (forM_R xs a0 kn F) Inv h0 hK hup (fun a x σ' σ2 own' B' H' Q iv S' e' rx F' => by
    have F2 : Fin Q Er (step a x) := by
      cases hm : step a x with
      | ok a' =>
        rw [hm] at F'
        exact F'
      | err e =>
        rw [hm] at F'
        exact F'
      | stuck =>
        rw [hm] at F'
        exact F'
    have done := hs a x σ' σ2 own' B' H' Q iv S' e' rx F2
    intro pins s I
    refine wpAny_mono (done pins s I) (fun f s' q => ?_) fun _ _ q => q
    cases f with
    | next => exact q
    | cont => exact q
    | brk =>
      obtain ⟨_, _, _, q⟩ := q
      exact q.elim
    | ret u => exact q) hd hf
/-- while: the mirror's fuel falls -/
theorem s_while {k0 : Nat} {step : τ → Res (ρ' ⊕ τ)} {kn : ρ' → Res ρ} {a0 : τ} {fuel : Nat} (C : Cok X k0) (S0 : Stt E own B H)
    (F : Fin P Er ((whileR step fuel a0).bind kn))
    (Inv : τ → L2.St → Own → Hp → Prop) (h0 : Inv a0 σ own B)
    (hs : ∀ a σ' own' B' H' (Q : τ → Prop), Inv a σ' own' B' → Stt E own' B' H' → Ex B B' → Fin (sel (fun u => Fin P Er (kn u)) Q) Er (step a) →
      ∃ z, EvT X E own' B' H' σ' c z ∧ (z = true → ∀ B2 H2, Stt E own' B2 H2 → Ex B' B2 → WSs X body { nx := TurnE E B' Q Inv, rt := D.rt, bk := WSs X rest D, ct := TurnE E B' Q Inv } σ' H2) ∧
        (z = false → ∀ B2 H2, Stt E own' B2 H2 → Ex B' B2 → WSs X rest D σ' H2)) : WSs X (.While c body [] pos :: rest) D σ H :=
  WSs.cons (ps_while C.own ptW pssW) ⟨fun mm σ' H' => ∃ a own' B', Fin P Er ((whileR step mm a).bind kn) ∧ Stt E own' B' H' ∧ Ex B B' ∧ Inv a σ' own' B', ⟨fuel, a0, own, B, F, S0, Ex.refl _, h0⟩, fun mm σ' H' ⟨a, own', B', F', S', e', iv⟩ => by
    cases mm with
    | zero => exact F'.elim
    | succ mm =>
      have F2 : Fin (sel (fun u => Fin P Er (kn u)) (fun a' => Fin P Er ((whileR step mm a').bind kn))) Er (step a) := by
        unfold whileR at F'
        cases hm : step a with
        | ok o =>
          rw [hm] at F'
          cases o with
          | inl u => exact F'
          | inr a' => exact F'
        | err e =>
          rw [hm] at F'
          exact F'
        | stuck =>
          rw [hm] at F'
          exact F'
      obtain ⟨z, hz, h1, h2⟩ := hs a σ' own' B' H' _ iv S' e' F2
      refine hz B' H' S' (Ex.refl _) (Ex.refl _) _ fun B2 H2 S2 e3 _ => ?_
      cases z with
      | false => exact h2 rfl B2 H2 S2 e3
      | true =>
        refine ⟨fun σ2 H2 => ∃ a' own2 B2, Fin P Er ((whileR step mm a').bind kn) ∧ Stt E own2 B2 H2 ∧ Ex B B2 ∧ Inv a' σ2 own2 B2, fun σ2 H2 q => ⟨mm, Nat.lt_succ_self _, q⟩, ?_⟩
        have done := h1 rfl B2 H2 S2 e3
        intro pins s I
        refine wpAny_mono (done pins s I) (fun f s' q => ?_) fun _ _ q => q
        cases f with
        | next =>
          obtain ⟨σ2, H2', I2, a', own2, B3, q1, q2, q3, q4⟩ := q
          exact ⟨σ2, H2', I2, a', own2, B3, q1, q2, e'.trans q3, q4⟩
        | cont =>
          obtain ⟨σ2, H2', I2, a', own2, B3, q1, q2, q3, q4⟩ := q
          exact ⟨σ2, H2', I2, a', own2, B3, q1, q2, e'.trans q3, q4⟩
        | brk => exact q
        | ret u => exact q⟩
end
end Sg

namespace Sg
open PySem PySem.Spec PyProof.Rows L2

/-! ### names -/
structure Scp (X : Cx) (N : List Str) (sc : Scope) : Prop where
  n : X.N = N
  sc : X.env.scope = sc
def nmOk (sc : Scope) (t : List (Str × NameKind)) : Bool := t.all fun p => decide (sc.names.lookup p.1 = some p.2) && !(p.1 == ("__debug__" : Str)) && !(p.1 == ("__classdict__" : Str))
section
variable {X : Cx} {N : List Str} {sc : Scope} {t : List (Str × NameKind)} {x : Str} {pos : Pos} {kd : NameKind}
theorem nmOk.at (h : nmOk sc t = true) {j : Nat} (hj : t[j]? = some (x, kd)) : sc.names.lookup x = some kd ∧ (x == ("__debug__" : Str)) = false ∧ (x == ("__classdict__" : Str)) = false := by
  have q := List.all_eq_true.mp h _ (List.mem_of_getElem? hj)
  rw [Bool.and_eq_true, Bool.and_eq_true] at q
  obtain ⟨⟨q1, q2⟩, q3⟩ := q
  exact ⟨of_decide_eq_true q1, by simpa using q2, by simpa using q3⟩
theorem Scp.var (V : Scp X N sc) (h : nmOk sc t = true) (i j : Nat) (hi : N[i]? = some x := by rfl) (hj : t[j]? = some (x, kd) := by rfl) (hk : kd = .local ∨ kd = .cell ∨ kd = .free := by first | exact .inl rfl | exact .inr (.inl rfl) | exact .inr (.inr rfl)) : PE X (.Name x pos) (tVar i) := by
  obtain ⟨q1, q2, q3⟩ := nmOk.at h hj
  refine pe_var (by rw [V.n]; exact hi) ?_ q2 q3
  unfold Vis
  rw [V.sc, q1]
  rcases hk with rfl | rfl | rfl
  · exact .inl rfl
  · exact .inr (.inl rfl)
  · exact .inr (.inr rfl)
theorem Scp.gl (V : Scp X N sc) (h : nmOk sc t = true) (j : Nat) (hj : t[j]? = some (x, .globalImplicit) := by rfl) : Gl X x := by
  obtain ⟨q1, _⟩ := nmOk.at h hj
  show X.env.scope.names.lookup x = _
  rw [V.sc, q1]
theorem Scp.slot (V : Scp X N sc) (h : nmOk sc t = true) (fn : ∀ x, X.fn x = true) (i j : Nat) (hi : N[i]? = some x := by rfl) (hj : t[j]? = some (x, kd) := by rfl) (hk : kd = .local ∨ kd = .cell := by first | exact .inl rfl | exact .inr rfl) : Slot X i x := by
  obtain ⟨q1, _⟩ := nmOk.at h hj
  refine ⟨by rw [V.n]; exact hi, ?_, .inl (fn x)⟩
  unfold L2.Loc
  rw [V.sc, q1]
  rcases hk with rfl | rfl
  · exact .inl rfl
  · exact .inr rfl
end

/-! ### arguments -/
structure AR where
  r : List V → Hp → Hp → Prop
  mono : ∀ {B B' H H' : Hp} {vs : List V}, Ex B B' → Ex H H' → r vs B H → r vs B' H'
def aN : AR := ⟨fun vs _ _ => vs = [], fun _ _ h => h⟩
def aC {α : Type} (R : Rel α) (x : α) (A : AR) : AR := ⟨fun vs B H => ∃ v r, vs = v :: r ∧ R.r H v x ∧ A.r r B H, fun b e ⟨v, r, h1, h2, h3⟩ => ⟨v, r, h1, R.mono e h2, A.mono b e h3⟩⟩
/-- .. kept for good -/
def aK {α : Type} (R : Rel α) (x : α) (A : AR) : AR := ⟨fun vs B H => ∃ v r, vs = v :: r ∧ R.r B v x ∧ A.r r B H, fun b e ⟨v, r, h1, h2, h3⟩ => ⟨v, r, h1, R.mono b h2, A.mono b e h3⟩⟩
def EvAs (X : Cx) (E : Ent) (own : Own) (B H : Hp) (σ : L2.St) (es : List Expr) (A : AR) : Prop := ∀ B1 H1, Stt E own B1 H1 → Ex B B1 → Ex H H1 → ∀ Q : List V → Hp → Prop,
  (∀ vs B2 H2, Stt E own B2 H2 → Ex B1 B2 → Ex H1 H2 → A.r vs B2 H2 → Q vs H2) → WA X es σ H1 Q
/-- a def's promise -/
def SpA {δ ρ : Type} (args : δ → AR) (Kd : Kind ρ) (f : δ → Res ρ) : Sp := fun vs H Q _ => ∃ B d, Sx B H ∧ Tx H B ∧ (args d).r vs B H ∧ Fin (Kd ⟨B, H⟩ Q) NoErr (f d)
/-- a def of the module that may be called -/
def Cal (X : Cx) (k : Nat) (n : Str) (ps : List Str) (sp : Sp) : Prop := ∃ (f : Addr) (fd : FuncData), FnOk X.prog X.w X.K X.mg X.base CX0 k f fd ps sp ∧ X.mg n = some (.ref f) ∧ PySem.W.keepIn X.K (.ref f) = true ∧ Binds X.K fd ps []
/-- a method -/
def MCal (X : Cx) (k : Nat) (C : Addr) (n : Str) (ps : List Str) (sp : Sp) : Prop := ∃ (f : Addr) (fd : FuncData), FnOk X.prog X.w X.K X.mg X.base CX0 k f fd ps sp ∧ Meth X.K C n f ∧ Binds X.K fd ps []
section
variable {X : Cx} {E : Ent} {own new own' : Own} {B H B' H' : Hp} {σ : L2.St} {α β γ τ ρ δ : Type} {R : Rel α} {S : Rel β} {T : Rel γ} {e a b c o it : Expr} {x : α} {y : β} {p pos pos' apos : Pos} {i j k k0 : Nat} {z w : Bool} {xs : List α} {es : List Expr}
variable {n m : Str} {rest body other : List Stmt} {D : Ends} {P : ρ → Prop} {Er : Err → Prop} {ps : List Str} {A : AR}
theorem as_nil : EvAs X E own B H σ [] aN := fun B1 H1 S1 e1 e2 Q k => WA.of pa_nil (k [] B1 H1 S1 (Ex.refl _) (Ex.refl _) rfl)
theorem as_cons (he : EvB X E own B H σ e R x) (hr : EvAs X E own B H σ es A) (hs : starEach (e :: es) X.env = (false, eval e X.env) :: starEach es X.env := by rfl) : EvAs X E own B H σ (e :: es) (aC R x A) := fun B1 H1 S1 e1 e2 Q k =>
  WA.of (pa_cons peW paW hs) (he B1 H1 S1 e1 e2 _ fun v B2 H2 S2 e3 e4 r => hr B2 H2 S2 (e1.trans e3) (e2.trans e4) _ fun vs B3 H3 S3 e5 e6 q => k (v :: vs) B3 H3 S3 (e3.trans e5) (e4.trans e6) ⟨v, vs, rfl, R.mono e6 r, q⟩)
theorem ak_cons (he : EvE X E own B H σ e R x) (hr : EvAs X E own B H σ es A) (hs : starEach (e :: es) X.env = (false, eval e X.env) :: starEach es X.env := by rfl) : EvAs X E own B H σ (e :: es) (aK R x A) := fun B1 H1 S1 e1 e2 Q k =>
  WA.of (pa_cons peW paW hs) (he B1 H1 S1 e1 e2 _ fun v B2 H2 S2 e3 e4 r => hr B2 H2 S2 (e1.trans e3) (e2.trans e4) _ fun vs B3 H3 S3 e5 e6 q => k (v :: vs) B3 H3 S3 (e3.trans e5) (e4.trans e6) ⟨v, vs, rfl, R.mono e5 r, q⟩)
/-- how a call's end is told to the caller -/
theorem kE_call {f : δ → Res ρ} {RR : Rel ρ} {d : δ} {r : ρ} {Q : VK} (S2 : Stt E own B H) (hm : f d = .ok r) (k : ∀ v B2 H2, Stt E own B2 H2 → Ex B B2 → Ex H H2 → RR.r B2 v r → Q v H2) : Fin (kE RR ⟨B, H⟩ Q) NoErr (f d) :=
  Fin.eq hm fun v B3 H3 T q => k v B3 H3 (S2.call T) T.b0.ex T.h0.ex q
theorem kL_call {f : δ → Res (List ρ)} {RR : Rel ρ} {d : δ} {r : List ρ} {Q : VK} (S2 : Stt E own B H) (hm : f d = .ok r) (k : ∀ p vs B2 H2, Stt E ((p, .lst vs) :: own) B2 H2 → Ex B B2 → Ex H H2 → Paired (RR.r B2) vs r → Q (.ref p) H2) : Fin (kL RR ⟨B, H⟩ Q) NoErr (f d) :=
  Fin.eq hm fun p vs B3 H3 T q => k p vs B3 H3 (S2.call T) T.b0.ex T.h0.ex q
theorem pe_cal {sp : Sp} (C : Cok X k0) (G : Cal X k n ps sp) (hk : k ≤ k0) (hg : Gl X n) (hdb : (n == ("__debug__" : Str)) = false) (he : starEach (e :: es) X.env = (false, eval e X.env) :: starEach es X.env) (hpl : (backTo pos (starEach es X.env)).any (·.1) = false) :
    PE X (.Call (.Name n p) (e :: es) [] pos) (tCall sp [] E0 (WA X (e :: es))) := by
  obtain ⟨f, fd, F, hm, hkp, hb⟩ := G
  exact pe_call F (C.room.mono hk) hg hm hkp hb .nil pass0 paW hdb he hpl
/-- f(a, ..): something kept for good | a new list -/
theorem ee_call {args : δ → AR} {f : δ → Res ρ} {RR : Rel ρ} {d : δ} {r : ρ} (C : Cok X k0) (G : Cal X k n ps (SpA args (kE RR) f)) (hk : k ≤ k0) (hg : Gl X n) (ha : EvAs X E own B H σ (e :: es) (args d)) (hm : f d = .ok r)
    (hdb : (n == ("__debug__" : Str)) = false := by rfl) (he : starEach (e :: es) X.env = (false, eval e X.env) :: starEach es X.env := by rfl) (hpl : (backTo pos (starEach es X.env)).any (·.1) = false := by rfl) : EvE X E own B H σ (.Call (.Name n p) (e :: es) [] pos) RR r := fun B1 H1 S1 e1 e2 Q q =>
  WE.of (pe_cal C G hk hg hdb he hpl) (ha B1 H1 S1 e1 e2 _ fun vs B2 H2 S2 e3 e4 r => by
    rw [List.append_nil]
    exact ⟨B2, d, S2.bh, S2.tu, r, kE_call S2 hm fun v B3 H3 S3 e5 e6 r => q v B3 H3 S3 (e3.trans e5) (e4.trans e6) r⟩)
theorem el_call {args : δ → AR} {f : δ → Res (List ρ)} {RR : Rel ρ} {d : δ} {r : List ρ} (C : Cok X k0) (G : Cal X k n ps (SpA args (kL RR) f)) (hk : k ≤ k0) (hg : Gl X n) (ha : EvAs X E own B H σ (e :: es) (args d)) (hm : f d = .ok r)
    (hdb : (n == ("__debug__" : Str)) = false := by rfl) (he : starEach (e :: es) X.env = (false, eval e X.env) :: starEach es X.env := by rfl) (hpl : (backTo pos (starEach es X.env)).any (·.1) = false := by rfl) : EvL X E own B H σ (.Call (.Name n p) (e :: es) [] pos) RR r := fun B1 H1 S1 e1 e2 Q q =>
  WE.of (pe_cal C G hk hg hdb he hpl) (ha B1 H1 S1 e1 e2 _ fun vs B2 H2 S2 e3 e4 r => by
    rw [List.append_nil]
    exact ⟨B2, d, S2.bh, S2.tu, r, kL_call S2 hm fun p vs B3 H3 S3 e5 e6 r => q p vs B3 H3 S3 (e3.trans e5) (e4.trans e6) r⟩)
/-- an instance of the class at C, without a field of the method's name -/
def InsOf (C : Addr) (m : Str) (R : Rel α) : Prop := ∀ {H : Hp} {v : V} {x : α}, R.r H v x → ∃ a dx fs, v = .ref a ∧ H a = some (.ins C dx fs) ∧ fs.lookup m = none
theorem ee_meth {args : δ → AR} {f : δ → Res ρ} {RR : Rel ρ} {d : δ} {r : ρ} {CA : Addr} {pl : Sem Bool} (C : Cok X k0) (cls : Cls X.K CA) (G : MCal X k CA m ps (SpA args (kE RR) f)) (hk : k ≤ k0) (ho : EvB X E own B H σ o R x) (hi : InsOf CA m R) (ha : EvAs X E own B H σ (e :: es) A) (hA : args d = aC R x A) (hm : f d = .ok r)
    (hst : starEach (e :: es) X.env = (false, eval e X.env) :: starEach es X.env := by rfl) (hpl : (backTo pos (starEach es X.env)).any (·.1) = false := by rfl)
    (ht : eval (.Call (.Attribute o m apos) (e :: es) [] pos) X.env = (do
      let ov ← eval o X.env
      standAt apos.atName
      let (f, first) ← holding [ov] (getMethod ov m pl)
      callWith pos f first (backTo pos (starEach (e :: es) X.env)) (backToKw pos (keywordEach [] X.env))) := by rfl) : EvE X E own B H σ (.Call (.Attribute o m apos) (e :: es) [] pos) RR r := fun B1 H1 S1 e1 e2 Q q => by
  obtain ⟨f, fd, F, hM, hb⟩ := G
  refine WE.of (pe_meth (pl := pl) peW cls hM F (C.room.mono hk) hb .nil pass0 paW hst hpl ht) (ho B1 H1 S1 e1 e2 _ fun v B2 H2 S2 e3 e4 r => ?_)
  obtain ⟨a, dx, fs, h1, h2, h3⟩ := hi r
  refine ⟨a, dx, fs, h1, h2, h3, ha B2 H2 S2 (e1.trans e3) (e2.trans e4) _ fun vs B3 H3 S3 e5 e6 q2 => ?_⟩
  rw [List.append_nil]
  exact ⟨B3, d, S3.bh, S3.tu, by rw [hA]; exact ⟨v, vs, rfl, R.mono e6 r, q2⟩, kE_call S3 hm fun v B4 H4 S4 e7 e8 r => q v B4 H4 S4 ((e3.trans e5).trans e7) ((e4.trans e6).trans e8) r⟩
theorem el_meth0 {args : δ → AR} {f : δ → Res (List ρ)} {RR : Rel ρ} {d : δ} {r : List ρ} {CA : Addr} {pl : Sem Bool} (C : Cok X k0) (cls : Cls X.K CA) (G : MCal X k CA m ps (SpA args (kL RR) f)) (hk : k ≤ k0) (ho : EvB X E own B H σ o R x) (hi : InsOf CA m R) (hA : args d = aC R x aN) (hm : f d = .ok r)
    (ht : eval (.Call (.Attribute o m apos) [] [] pos) X.env = (do
      let ov ← eval o X.env
      standAt apos.atName
      let (f, first) ← holding [ov] (getMethod ov m pl)
      callWith pos f first (backTo pos (starEach [] X.env)) (backToKw pos (keywordEach [] X.env))) := by rfl) : EvL X E own B H σ (.Call (.Attribute o m apos) [] [] pos) RR r := fun B1 H1 S1 e1 e2 Q q => by
  obtain ⟨f, fd, F, hM, hb⟩ := G
  refine WE.of (pe_meth0 (pl := pl) peW cls hM F (C.room.mono hk) hb .nil pass0 ht) (ho B1 H1 S1 e1 e2 _ fun v B2 H2 S2 e3 e4 r => ?_)
  obtain ⟨a, dx, fs, h1, h2, h3⟩ := hi r
  exact ⟨a, dx, fs, h1, h2, h3, B2, d, S2.bh, S2.tu, by rw [hA]; exact ⟨v, [], rfl, r, rfl⟩, kL_call S2 hm fun p vs B4 H4 S4 e7 e8 r => q p vs B4 H4 S4 (e3.trans e7) (e4.trans e8) r⟩
end

/-! ### a def's promise from its body -/
section
variable {P : Program} {w : World} {K : PySem.W.Frag} {mg : Str → Option Value} {base : Heap}
theorem fun_ok {x qual : Str} {st : Stmt} {f : Addr} {fd : FuncData} {N ps : List Str} {k : Nat} {δ ρ : Type} {args : δ → AR} {Kd : Kind ρ} {g : δ → Res ρ} (F : Fun K x qual st f fd) (S : FnScope N ps (defScope st)) (hl : ∀ d vs B H, (args d).r vs B H → vs.length = ps.length)
    (body : ∀ X : Cx, X.prog = P → X.w = w → X.K = K → X.mg = mg → X.base = base → Cok X k → Scp X N (defScope st) → (∀ x, X.fn x = true) → ∀ B H vs d (Q : VK), Sx B H → Tx H B → (args d).r vs B H → Fin (Kd ⟨B, H⟩ Q) NoErr (g d) →
      WSs X (defBody st) { nx := fun _ H' => Q .non H', rt := Q } (start N vs) H) : FnOk P w K mg base CX0 (k + 1) f fd ps (SpA args Kd g) := by
  refine F.ok S (fun vs H Q E h => ?_) (fun cdv A outer s H vs Q E hr h => ?_)
  · obtain ⟨B, d, _, _, h3, _⟩ := h
    exact hl d vs B H h3
  · obtain ⟨B, d, h1, h2, h3, h4⟩ := h
    exact ⟨_, pssW, body ((cxOf CX0 P w K mg base N qual (defScope st) f cdv A outer s H E).nox) rfl rfl rfl rfl rfl ⟨rfl, S.nd, hr, PassesOwn.never⟩ ⟨rfl, rfl⟩ (fun _ => rfl) B H vs d Q h1 h2 h3 h4⟩
end
end Sg

namespace Sg
open PySem PySem.Spec PyProof.Rows L2

/-! ### dicts as lists of pairs -/
section
variable {κ κ' α β : Type} [DecidableEq κ] [DecidableEq κ']
def dget (kvs : List (κ × α)) (k : κ) : Option α := (kvs.find? fun kv => decide (kv.1 = k)).map (·.2)
def dput (kvs : List (κ × α)) (k : κ) (v : α) : List (κ × α) :=
  if (kvs.any fun kv => decide (kv.1 = k)) = true then kvs.map (fun kv => if kv.1 = k then (kv.1, v) else kv) else kvs ++ [(k, v)]
def dmerge (more : List (κ × α)) : List (κ × α) := more.foldl (fun acc kv => dput acc kv.1 kv.2) []
/-- the keys of w are those of k, told otherwise -/
theorem rel_any {f : κ' → κ} (hf : ∀ a b, f a = f b → a = b) {F : V → α → Prop} {k : κ'} : ∀ {ws : List (κ × V)} {kvs : List (κ' × α)}, Paired (fun w kv => w.1 = f kv.1 ∧ F w.2 kv.2) ws kvs → (ws.any fun w => decide (w.1 = f k)) = (kvs.any fun kv => decide (kv.1 = k))
  | _, _, .nil => rfl
  | _, _, .cons (a := w) (b := kv) h t => by
    rw [List.any_cons, List.any_cons, rel_any hf t, h.1]
    congr 1
    rw [Bool.eq_iff_iff, decide_eq_true_iff, decide_eq_true_iff]
    exact ⟨hf _ _, fun e => by rw [e]⟩
theorem rel_get {f : κ' → κ} (hf : ∀ a b, f a = f b → a = b) {F : V → α → Prop} {k : κ'} : ∀ {ws : List (κ × V)} {kvs : List (κ' × α)}, Paired (fun w kv => w.1 = f kv.1 ∧ F w.2 kv.2) ws kvs →
    match dget kvs k with
    | none => valV ws (f k) = none
    | some x => ∃ v, valV ws (f k) = some v ∧ F v x
  | _, _, .nil => rfl
  | _, _, .cons (a := w) (b := kv) h t => by
    have ih := rel_get hf (k := k) t
    by_cases e : kv.1 = k
    · have e2 : w.1 = f k := by rw [h.1, e]
      unfold dget
      rw [List.find?_cons_of_pos (by simp [e])]
      rw [valV_pos e2]
      exact ⟨w.2, rfl, h.2⟩
    · have e2 : ¬ w.1 = f k := fun q => e (hf _ _ (h.1.symm.trans q))
      unfold dget at ih ⊢
      rw [List.find?_cons_of_neg (by simp [e]), valV_neg e2]
      exact ih
theorem rel_map {f : κ' → κ} (hf : ∀ a b, f a = f b → a = b) {F : V → α → Prop} {k : κ'} {u : V} {x : α} (hx : F u x) : ∀ {ws : List (κ × V)} {kvs : List (κ' × α)}, Paired (fun w kv => w.1 = f kv.1 ∧ F w.2 kv.2) ws kvs →
    Paired (fun w kv => w.1 = f kv.1 ∧ F w.2 kv.2) (ws.map fun kv => if kv.1 = f k then (kv.1, u) else kv) (kvs.map fun kv => if kv.1 = k then (kv.1, x) else kv)
  | _, _, .nil => .nil
  | _, _, .cons (a := w) (b := kv) h t => by
    rw [List.map_cons, List.map_cons]
    refine .cons ?_ (rel_map hf hx t)
    by_cases e : kv.1 = k
    · have e2 : w.1 = f k := by rw [h.1, e]
      rw [if_pos e, if_pos e2]
      exact ⟨h.1, hx⟩
    · have e2 : ¬ w.1 = f k := fun q => e (hf _ _ (h.1.symm.trans q))
      rw [if_neg e, if_neg e2]
      exact h
theorem rel_put {f : κ' → κ} (hf : ∀ a b, f a = f b → a = b) {F : V → α → Prop} {k : κ'} {u : V} {x : α} (hx : F u x) {ws : List (κ × V)} {kvs : List (κ' × α)} (h : Paired (fun w kv => w.1 = f kv.1 ∧ F w.2 kv.2) ws kvs) :
    Paired (fun w kv => w.1 = f kv.1 ∧ F w.2 kv.2) (putK ws (f k) u) (dput kvs k x) := by
  unfold putK dput
  rw [rel_any hf h]
  by_cases e : (kvs.any fun kv => decide (kv.1 = k)) = true
  · rw [if_pos e, if_pos e]
    exact rel_map hf hx h
  · rw [if_neg e, if_neg e]
    exact psnoc h ⟨rfl, hx⟩
end
theorem inl_inj (a b : Int) (h : (Sum.inl a : Key) = Sum.inl b) : a = b := Sum.inl.inj h
theorem inr_inj (a b : Str) (h : (Sum.inr a : Key) = Sum.inr b) : a = b := Sum.inr.inj h
theorem inls_inj : ∀ (a b : List Int), a.map (Sum.inl (β := Str)) = b.map Sum.inl → a = b
  | [], [], _ => rfl
  | [], _ :: _, h => by cases h
  | _ :: _, [], h => by cases h
  | x :: r, y :: q, h => by
    rw [List.map_cons, List.map_cons] at h
    injection h with h1 h2
    rw [Sum.inl.inj h1, inls_inj r q h2]
/-- what a dict holds: ints | texts | tuples of ints as keys -/
def pI {α : Type} (R : Rel α) (H : Hp) (ws : List (Key × V)) (kvs : List (Int × α)) : Prop := Paired (fun w kv => w.1 = Sum.inl kv.1 ∧ R.r H w.2 kv.2) ws kvs
def pS {α : Type} (R : Rel α) (H : Hp) (ws : List (Key × V)) (kvs : List (Str × α)) : Prop := Paired (fun w kv => w.1 = Sum.inr kv.1 ∧ R.r H w.2 kv.2) ws kvs
def pT {α : Type} (R : Rel α) (H : Hp) (ws : List (List Key × V)) (kvs : List (List Int × α)) : Prop := Paired (fun w kv => w.1 = kv.1.map Sum.inl ∧ R.r H w.2 kv.2) ws kvs
section
variable {α : Type} {R : Rel α} {H H' : Hp}
theorem pI.up {ws : List (Key × V)} {kvs : List (Int × α)} (e : Ex H H') (h : pI R H ws kvs) : pI R H' ws kvs := pimp h fun _ _ q => ⟨q.1, R.mono e q.2⟩
theorem pS.up {ws : List (Key × V)} {kvs : List (Str × α)} (e : Ex H H') (h : pS R H ws kvs) : pS R H' ws kvs := pimp h fun _ _ q => ⟨q.1, R.mono e q.2⟩
theorem pT.up {ws : List (List Key × V)} {kvs : List (List Int × α)} (e : Ex H H') (h : pT R H ws kvs) : pT R H' ws kvs := pimp h fun _ _ q => ⟨q.1, R.mono e q.2⟩
end
section
variable {α : Type}
def rDI (R : Rel α) : Rel (List (Int × α)) := ⟨fun H v kvs => ∃ p ws, v = .ref p ∧ Rd H p (.dK ws) ∧ pI R H ws kvs, fun e ⟨p, ws, h1, h2, h3⟩ => ⟨p, ws, h1, e.dK h2, h3.up e⟩⟩
def rDS (R : Rel α) : Rel (List (Str × α)) := ⟨fun H v kvs => ∃ p ws, v = .ref p ∧ Rd H p (.dK ws) ∧ pS R H ws kvs, fun e ⟨p, ws, h1, h2, h3⟩ => ⟨p, ws, h1, e.dK h2, h3.up e⟩⟩
def rDT (R : Rel α) : Rel (List (List Int × α)) := ⟨fun H v kvs => ∃ p ws, v = .ref p ∧ Rd H p (.dT ws) ∧ pT R H ws kvs, fun e ⟨p, ws, h1, h2, h3⟩ => ⟨p, ws, h1, e.dT h2, h3.up e⟩⟩
instance {R : Rel α} : NN (rDI R) := ⟨fun h => by obtain ⟨p, vs, h1, _⟩ := h; rw [h1]; exact fun q => by cases q⟩
end
/-- a tuple of ints as a key -/
theorem tup_ints {H : Hp} {v : V} {ns : List Int} (h : (rTup rInt).r H v ns) : ∃ b, v = .ref b ∧ H b = some (.tup ((ns.map (Sum.inl (β := Str))).map kV)) := by
  obtain ⟨p, vs, h1, h2, h3⟩ := h
  refine ⟨p, h1, ?_⟩
  rw [h2, ints_rel h3, List.map_map]
  rfl
section
variable {X : Cx} {E : Ent} {own new own' : Own} {B H B' H' : Hp} {σ : L2.St} {α β γ τ ρ δ : Type} {R : Rel α} {S : Rel β} {T : Rel γ} {e a b c o it d : Expr} {x : α} {y : β} {p pos pos' apos : Pos} {i j k k0 : Nat} {z w : Bool} {xs : List α} {es : List Expr}
variable {n m : Str} {rest body other : List Stmt} {D : Ends} {P : ρ → Prop} {Er : Err → Prop} {ps : List Str} {A : AR}
/-- what is at a key -/
theorem dg_I {kvs : List (Int × α)} {u : Int} {v w : V} (h : (rDI R).r H v kvs) (hw : w = .int u) : ∃ a, v = .ref a ∧ IsD H a ∧ ∃ r, DGet H a w r ∧ (match dget kvs u with
    | none => r = none
    | some x => ∃ q, r = some q ∧ R.r H q x) := by
  obtain ⟨p, ws, h1, h2, h3⟩ := h
  refine ⟨p, h1, .inl ⟨ws, h2⟩, _, .inl ⟨ws, Sum.inl u, h2, hw, rfl⟩, ?_⟩
  exact rel_get (κ := Key) inl_inj h3
theorem dg_S {kvs : List (Str × α)} {u : Str} {v w : V} (h : (rDS R).r H v kvs) (hw : w = .str u) : ∃ a, v = .ref a ∧ IsD H a ∧ ∃ r, DGet H a w r ∧ (match dget kvs u with
    | none => r = none
    | some x => ∃ q, r = some q ∧ R.r H q x) := by
  obtain ⟨p, ws, h1, h2, h3⟩ := h
  refine ⟨p, h1, .inl ⟨ws, h2⟩, _, .inl ⟨ws, Sum.inr u, h2, hw, rfl⟩, ?_⟩
  exact rel_get (κ := Key) inr_inj h3
theorem dg_T {kvs : List (List Int × α)} {u : List Int} {v w : V} (h : (rDT R).r H v kvs) (hw : (rTup rInt).r H w u) : ∃ a, v = .ref a ∧ IsD H a ∧ ∃ r, DGet H a w r ∧ (match dget kvs u with
    | none => r = none
    | some x => ∃ q, r = some q ∧ R.r H q x) := by
  obtain ⟨p, ws, h1, h2, h3⟩ := h
  obtain ⟨b, hb1, hb2⟩ := tup_ints hw
  refine ⟨p, h1, .inr ⟨ws, h2⟩, _, .inr ⟨ws, u.map Sum.inl, b, h2, hb1, hb2, rfl⟩, ?_⟩
  exact rel_get (κ := List Key) (f := fun l : List Int => l.map (Sum.inl (β := Str))) inls_inj h3
/-- a kind of dicts: how it is read -/
structure DK (R : Rel α) (κ : Type) [DecidableEq κ] (RK : Rel κ) (RD : Rel (List (κ × α))) : Prop where
  d : ∀ {H : Hp} {kvs : List (κ × α)} {v : V}, RD.r H v kvs → ∃ a, v = .ref a ∧ IsD H a
  g : ∀ {H : Hp} {kvs : List (κ × α)} {u : κ} {a : Addr} {w : V}, RD.r H (.ref a) kvs → RK.r H w u → ∃ r, DGet H a w r ∧ (match dget kvs u with
    | none => r = none
    | some x => ∃ q, r = some q ∧ R.r H q x)
theorem dkI : DK R Int rInt (rDI R) := ⟨fun h => by
  obtain ⟨p, ws, h1, h2, h3⟩ := h
  exact ⟨p, h1, .inl ⟨ws, h2⟩⟩, fun h hw => by
  obtain ⟨b, e, _, q⟩ := dg_I h hw
  cases e
  exact q⟩
theorem dkS : DK R Str rStr (rDS R) := ⟨fun h => by
  obtain ⟨p, ws, h1, h2, h3⟩ := h
  exact ⟨p, h1, .inl ⟨ws, h2⟩⟩, fun h hw => by
  obtain ⟨b, e, _, q⟩ := dg_S h hw
  cases e
  exact q⟩
theorem dkT : DK R (List Int) (rTup rInt) (rDT R) := ⟨fun h => by
  obtain ⟨p, ws, h1, h2, h3⟩ := h
  exact ⟨p, h1, .inr ⟨ws, h2⟩⟩, fun h hw => by
  obtain ⟨b, e, _, q⟩ := dg_T h hw
  cases e
  exact q⟩
variable {κ : Type} [DecidableEq κ] {RK : Rel κ} {RD : Rel (List (κ × α))} {kvs : List (κ × α)} {u : κ}
theorem Cok.hu (C : Cok X k) : X.A.units + 1 < cLine := hu_of C.room
theorem Cok.hu64 (C : Cok X k) : X.A.units + 64 < cLine := C.room.units
/-- d.get(k) -/
theorem ev_dget1 (C : Cok X k0) (dk : DK R κ RK RD) [NN R] (ho : EvB X E own B H σ o RD kvs) (ha : EvB X E own B H σ a RK u) (m : M1 X o "get" apos a p := by exact ⟨rfl, rfl, rfl, rfl⟩) : EvB X E own B H σ (.Call (.Attribute o "get" apos) [a] [] p) (rOpt R) (dget kvs u) := fun B1 H1 S1 e1 e2 Q q =>
  WE.of (pe_dget1 C.hu peW peW m) (ho B1 H1 S1 e1 e2 _ fun v B2 H2 S2 e3 e4 r => by
    obtain ⟨da, hv, hd⟩ := dk.d r
    subst hv
    refine ⟨da, rfl, hd, ha B2 H2 S2 (e1.trans e3) (e2.trans e4) _ fun w B3 H3 S3 e5 e6 rw' => ?_⟩
    obtain ⟨r3, g1, g2⟩ := dk.g (RD.mono e6 r) rw'
    refine ⟨r3, g1, q _ B3 H3 S3 (e3.trans e5) (e4.trans e6) ?_⟩
    cases hq : dget kvs u with
    | none =>
      rw [hq] at g2
      have g2' : r3 = Option.none := g2
      subst g2'
      exact (show V.non = V.non from rfl)
    | some x =>
      rw [hq] at g2
      obtain ⟨z, g3, g4⟩ := g2
      subst g3
      exact ⟨NN.nn g4, g4⟩)
/-- d.get(k, y) -/
theorem ev_dget2 {x0 : α} (C : Cok X k0) (dk : DK R κ RK RD) (ho : EvB X E own B H σ o RD kvs) (ha : EvB X E own B H σ a RK u) (hb : EvB X E own B H σ b R x0) (m : M2 X o "get" apos a b p := by exact ⟨rfl, rfl, rfl, rfl⟩) : EvB X E own B H σ (.Call (.Attribute o "get" apos) [a, b] [] p) R ((dget kvs u).getD x0) := fun B1 H1 S1 e1 e2 Q q =>
  WE.of (pe_dget2 C.hu peW peW peW m) (ho B1 H1 S1 e1 e2 _ fun v B2 H2 S2 e3 e4 r => by
    obtain ⟨da, hv, hd⟩ := dk.d r
    subst hv
    refine ⟨da, rfl, hd, ha B2 H2 S2 (e1.trans e3) (e2.trans e4) _ fun w B3 H3 S3 e5 e6 rw' => hb B3 H3 S3 ((e1.trans e3).trans e5) ((e2.trans e4).trans e6) _ fun w2 B4 H4 S4 e7 e8 r0 => ?_⟩
    obtain ⟨r3, g1, g2⟩ := dk.g (RD.mono (e6.trans e8) r) (RK.mono e8 rw')
    refine ⟨r3, g1, q _ B4 H4 S4 ((e3.trans e5).trans e7) ((e4.trans e6).trans e8) ?_⟩
    cases hq : dget kvs u with
    | none =>
      rw [hq] at g2
      have g2' : r3 = Option.none := g2
      subst g2'
      exact r0
    | some x =>
      rw [hq] at g2
      obtain ⟨z, g3, g4⟩ := g2
      subst g3
      exact g4)
/-- d[k] -/
theorem ev_dix (C : Cok X k0) (dk : DK R κ RK RD) (ho : EvB X E own B H σ o RD kvs) (ha : EvB X E own B H σ a RK u) (hx : dget kvs u = some x) (hs : NoSl a := by exact fun _ _ => rfl) : EvB X E own B H σ (.Subscript o a p) R x := fun B1 H1 S1 e1 e2 Q q =>
  WE.of (pe_dget C.hu peW peW hs) (ho B1 H1 S1 e1 e2 _ fun v B2 H2 S2 e3 e4 r => ha B2 H2 S2 (e1.trans e3) (e2.trans e4) _ fun w B3 H3 S3 e5 e6 rw' => by
    obtain ⟨da, hv, hd⟩ := dk.d r
    subst hv
    obtain ⟨r3, g1, g2⟩ := dk.g (RD.mono e6 r) rw'
    rw [hx] at g2
    obtain ⟨z, g3, g4⟩ := g2
    subst g3
    exact ⟨da, z, rfl, g1, q z B3 H3 S3 (e3.trans e5) (e4.trans e6) g4⟩)
/-- k in d -/
theorem dg_some {r : Option V} (h : match dget kvs u with
    | none => r = none
    | some x => ∃ q, r = some q ∧ R.r H q x) : r.isSome = (dget kvs u).isSome := by
  cases hq : dget kvs u with
  | none =>
    rw [hq] at h
    have h' : r = Option.none := h
    rw [h'] <;> rfl
  | some x =>
    rw [hq] at h
    obtain ⟨z, g3, g4⟩ := h
    rw [g3] <;> rfl
theorem et_din (C : Cok X k0) (dk : DK R κ RK RD) (ha : EvB X E own B H σ a RK u) (ho : EvB X E own B H σ o RD kvs) (hm : behindInMarks .In o = false := by rfl) : EvT X E own B H σ (.Compare a [.In] [o] p) (dget kvs u).isSome := fun B1 H1 S1 e1 e2 Q q =>
  WT.of (pt_cmp (pc_din C.hu peW peW) hm) (ha B1 H1 S1 e1 e2 _ fun w B2 H2 S2 e3 e4 rw' => ho B2 H2 S2 (e1.trans e3) (e2.trans e4) _ fun v B3 H3 S3 e5 e6 r => by
    obtain ⟨da, hv, hd⟩ := dk.d r
    subst hv
    obtain ⟨r3, g1, g2⟩ := dk.g r (RK.mono e6 rw')
    exact ⟨da, r3, rfl, g1, _, rfl, by rw [dg_some g2]; exact q B3 H3 S3 (e3.trans e5) (e4.trans e6)⟩)
theorem et_dnin (C : Cok X k0) (dk : DK R κ RK RD) (ha : EvB X E own B H σ a RK u) (ho : EvB X E own B H σ o RD kvs) (hm : behindInMarks .NotIn o = false := by rfl) : EvT X E own B H σ (.Compare a [.NotIn] [o] p) (!(dget kvs u).isSome) := fun B1 H1 S1 e1 e2 Q q =>
  WT.of (pt_cmp (pc_dnotin C.hu peW peW) hm) (ha B1 H1 S1 e1 e2 _ fun w B2 H2 S2 e3 e4 rw' => ho B2 H2 S2 (e1.trans e3) (e2.trans e4) _ fun v B3 H3 S3 e5 e6 r => by
    obtain ⟨da, hv, hd⟩ := dk.d r
    subst hv
    obtain ⟨r3, g1, g2⟩ := dk.g r (RK.mono e6 rw')
    exact ⟨da, r3, rfl, g1, _, rfl, by rw [dg_some g2]; exact q B3 H3 S3 (e3.trans e5) (e4.trans e6)⟩)
theorem ev_din (C : Cok X k0) (dk : DK R κ RK RD) (ha : EvB X E own B H σ a RK u) (ho : EvB X E own B H σ o RD kvs) (hm : behindInMarks .In o = false := by rfl) : EvB X E own B H σ (.Compare a [.In] [o] p) rBool (dget kvs u).isSome := fun B1 H1 S1 e1 e2 Q q =>
  WE.of (pe_cmp (pc_din C.hu peW peW) hm) (ha B1 H1 S1 e1 e2 _ fun w B2 H2 S2 e3 e4 rw' => ho B2 H2 S2 (e1.trans e3) (e2.trans e4) _ fun v B3 H3 S3 e5 e6 r => by
    obtain ⟨da, hv, hd⟩ := dk.d r
    subst hv
    obtain ⟨r3, g1, g2⟩ := dk.g r (RK.mono e6 rw')
    exact ⟨da, r3, rfl, g1, q _ B3 H3 S3 (e3.trans e5) (e4.trans e6) (by rw [dg_some g2]; rfl)⟩)
theorem ev_dnin (C : Cok X k0) (dk : DK R κ RK RD) (ha : EvB X E own B H σ a RK u) (ho : EvB X E own B H σ o RD kvs) (hm : behindInMarks .NotIn o = false := by rfl) : EvB X E own B H σ (.Compare a [.NotIn] [o] p) rBool (!(dget kvs u).isSome) := fun B1 H1 S1 e1 e2 Q q =>
  WE.of (pe_cmp (pc_dnotin C.hu peW peW) hm) (ha B1 H1 S1 e1 e2 _ fun w B2 H2 S2 e3 e4 rw' => ho B2 H2 S2 (e1.trans e3) (e2.trans e4) _ fun v B3 H3 S3 e5 e6 r => by
    obtain ⟨da, hv, hd⟩ := dk.d r
    subst hv
    obtain ⟨r3, g1, g2⟩ := dk.g r (RK.mono e6 rw')
    exact ⟨da, r3, rfl, g1, q _ B3 H3 S3 (e3.trans e5) (e4.trans e6) (by rw [dg_some g2]; rfl)⟩)
/-! owned dicts -/
theorem ev_ownDI {q : Addr} {ws : List (Key × V)} {kvs : List (Int × α)} (hp : PE X e (tVar i)) (h : σ[i]? = some (some (.ref q))) (ho : (q, HO.dK ws) ∈ own) (r : pI R B ws kvs) : EvB X E own B H σ e (rDI R) kvs :=
  fun B1 H1 S e1 e2 Q k => WE.of hp ⟨.ref q, h, k _ B1 H1 S (Ex.refl _) (Ex.refl _) ⟨q, ws, rfl, Rd.of (S.ow _ ho).2.2, r.up (e1.trans S.bh.ex)⟩⟩
theorem ev_ownDT {q : Addr} {ws : List (List Key × V)} {kvs : List (List Int × α)} (hp : PE X e (tVar i)) (h : σ[i]? = some (some (.ref q))) (ho : (q, HO.dT ws) ∈ own) (r : pT R B ws kvs) : EvB X E own B H σ e (rDT R) kvs :=
  fun B1 H1 S e1 e2 Q k => WE.of hp ⟨.ref q, h, k _ B1 H1 S (Ex.refl _) (Ex.refl _) ⟨q, ws, rfl, Rd.of (S.ow _ ho).2.2, r.up (e1.trans S.bh.ex)⟩⟩
theorem ev_ownDS {q : Addr} {ws : List (Key × V)} {kvs : List (Str × α)} (hp : PE X e (tVar i)) (h : σ[i]? = some (some (.ref q))) (ho : (q, HO.dK ws) ∈ own) (r : pS R B ws kvs) : EvB X E own B H σ e (rDS R) kvs :=
  fun B1 H1 S e1 e2 Q k => WE.of hp ⟨.ref q, h, k _ B1 H1 S (Ex.refl _) (Ex.refl _) ⟨q, ws, rfl, Rd.of (S.ow _ ho).2.2, r.up (e1.trans S.bh.ex)⟩⟩
/-- x = {} -/
theorem s_asgDK (C : Cok X k) (L : Slot X i n) (S0 : Stt E own B H)
    (q : ∀ p H', Stt E ((p, .dK []) :: own) B H' → WSs X rest D (σ.set i (some (.ref p))) H') (hs : swapsWith (.Dict [] [] p) (some (.Name n pos')) pos.line X.env = pure false := by rfl) :
    WSs X (.Assign [.Name n pos'] (.Dict [] [] p) pos :: rest) D σ H :=
  WSs.cons (ps_set C.nd L.ix L.loc pe_dnewK hs L.hf) fun p np => q p _ (S0.alloc np fun ys z => by cases z)
theorem s_asgDT (C : Cok X k) (L : Slot X i n) (S0 : Stt E own B H)
    (q : ∀ p H', Stt E ((p, .dT []) :: own) B H' → WSs X rest D (σ.set i (some (.ref p))) H') (hs : swapsWith (.Dict [] [] p) (some (.Name n pos')) pos.line X.env = pure false := by rfl) :
    WSs X (.Assign [.Name n pos'] (.Dict [] [] p) pos :: rest) D σ H :=
  WSs.cons (ps_set C.nd L.ix L.loc pe_dnewT hs L.hf) fun p np => q p _ (S0.alloc np fun ys z => by cases z)
/-- d[k] = v -/
theorem s_dputI {q : Addr} {ws : List (Key × V)} {kvs : List (Int × α)} {u : Int} (C : Cok X k0) (S0 : Stt E own B H) (ho : PE X o (tVar i)) (h : σ[i]? = some (some (.ref q))) (hk : own[k]? = some (q, .dK ws)) (r : pI R B ws kvs)
    (hv : EvE X E own B H σ e R x) (ha : EvB X E own B H σ a rInt u) (hz : kvs.length < sizeLine)
    (kt : ∀ ws' B' H', Stt E (own.set k (q, .dK ws')) B' H' → Ex B B' → pI R B' ws' (dput kvs u x) → WSs X rest D σ H')
    (hs : NoSl a := by exact fun _ _ => rfl) (hw : swapsWith e (some (.Subscript o a pos')) pos.line X.env = pure false := by rfl) : WSs X (.Assign [.Subscript o a pos'] e pos :: rest) D σ H :=
  WSs.cons (ps_dput C.hu ho peW peW hw) (hv B H S0 (Ex.refl _) (Ex.refl _) _ fun v B2 H2 S2 e1 e2 rv => ⟨.ref q, h, ha B2 H2 S2 e1 e2 _ fun w B3 H3 S3 e3 e4 rw' => by
    have hq := (S3.ow _ (List.mem_of_getElem? hk)).2.2
    have rw'' : w = .int u := rw'
    refine ⟨q, _, rfl, .inl ⟨ws, Sum.inl u, hq, rw'', by rw [plen r]; exact hz, rfl⟩, ?_⟩
    exact kt _ B3 _ (S3.put hk fun ys z => by cases z) (e1.trans e3) (rel_put (κ := Key) inl_inj (R.mono e3 rv) (r.up (e1.trans e3)))⟩)
theorem s_dputT {q : Addr} {ws : List (List Key × V)} {kvs : List (List Int × α)} {u : List Int} (C : Cok X k0) (S0 : Stt E own B H) (ho : PE X o (tVar i)) (h : σ[i]? = some (some (.ref q))) (hk : own[k]? = some (q, .dT ws)) (r : pT R B ws kvs)
    (hv : EvE X E own B H σ e R x) (ha : EvB X E own B H σ a (rTup rInt) u) (hz : kvs.length < sizeLine)
    (kt : ∀ ws' B' H', Stt E (own.set k (q, .dT ws')) B' H' → Ex B B' → pT R B' ws' (dput kvs u x) → WSs X rest D σ H')
    (hs : NoSl a := by exact fun _ _ => rfl) (hw : swapsWith e (some (.Subscript o a pos')) pos.line X.env = pure false := by rfl) : WSs X (.Assign [.Subscript o a pos'] e pos :: rest) D σ H :=
  WSs.cons (ps_dput C.hu ho peW peW hw) (hv B H S0 (Ex.refl _) (Ex.refl _) _ fun v B2 H2 S2 e1 e2 rv => ⟨.ref q, h, ha B2 H2 S2 e1 e2 _ fun w B3 H3 S3 e3 e4 rw' => by
    have hq := (S3.ow _ (List.mem_of_getElem? hk)).2.2
    obtain ⟨b, hb1, hb2⟩ := tup_ints rw'
    refine ⟨q, _, rfl, .inr ⟨ws, u.map Sum.inl, b, hq, hb1, hb2, by rw [plen r]; exact hz, rfl⟩, ?_⟩
    exact kt _ B3 _ (S3.put hk fun ys z => by cases z) (e1.trans e3) (rel_put (κ := List Key) (f := fun l : List Int => l.map (Sum.inl (β := Str))) inls_inj (R.mono e3 rv) (r.up (e1.trans e3)))⟩)
end
end Sg

namespace Sg
open PySem PySem.Spec PyProof.Rows L2
/-- a field of an instance -/
structure FldOf (C : Addr) (f : Str) {α β : Type} (R : Rel α) (S : Rel β) (pr : α → β) : Prop where
  g : ∀ {H : Hp} {v : V} {x : α}, R.r H v x → ∃ a dx fs u, v = .ref a ∧ H a = some (.ins C dx fs) ∧ fs.lookup f = some u ∧ S.r H u (pr x)
section
variable {X : Cx} {E : Ent} {own new own' : Own} {B H B' H' : Hp} {σ : L2.St} {α β γ τ ρ δ : Type} {R : Rel α} {S : Rel β} {T : Rel γ} {e a b c o it d : Expr} {x : α} {y : β} {p pos pos' apos : Pos} {i j k k0 : Nat} {z w : Bool} {xs : List α} {es : List Expr}
variable {n m f : Str} {rest body other : List Stmt} {D : Ends} {P : ρ → Prop} {Er : Err → Prop} {ps : List Str} {A : AR} {CA : Addr} {pr : α → β}
theorem ev_fld (cls : Cls X.K CA) (na : NoAttr X.K CA f) (F : FldOf CA f R S pr) (ho : EvB X E own B H σ o R x) (hb : attributeBase o f X.env (eval o X.env) = eval o X.env := by rfl) : EvB X E own B H σ (.Attribute o f pos) S (pr x) := fun B1 H1 S1 e1 e2 Q q =>
  WE.of (pe_fld peW hb) (ho B1 H1 S1 e1 e2 _ fun v B2 H2 S2 e3 e4 r => by
    obtain ⟨a, dx, fs, u, h1, h2, h3, h4⟩ := F.g r
    exact ⟨a, CA, dx, fs, u, h1, h2, cls, na, h3, q u B2 H2 S2 e3 e4 h4⟩)
end
/-! ### a table -/
structure Tab where
  ranks : List (Int × Int)
  parts : List (Int × List Int)
  closed : List Int
  wholes : List (List Int × Int)
  deriving DecidableEq
def tabF (d1 d2 d3 d4 : V) : List (Str × V) := [("ranks", d1), ("parts", d2), ("closed", d3), ("wholes", d4)]
def rTab (C : Addr) : Rel Tab := ⟨fun H v t => ∃ a dx d1 d2 d3 d4, v = .ref a ∧ H a = some (.ins C dx (tabF d1 d2 d3 d4)) ∧ (rDI rInt).r H d1 t.ranks ∧ (rDI (rTup rInt)).r H d2 t.parts ∧ (rLst rInt).r H d3 t.closed ∧ (rDT rInt).r H d4 t.wholes,
  fun e ⟨a, dx, d1, d2, d3, d4, h1, h2, h3, h4, h5, h6⟩ => ⟨a, dx, d1, d2, d3, d4, h1, e.ins h2, Rel.mono _ e h3, Rel.mono _ e h4, Rel.mono _ e h5, Rel.mono _ e h6⟩⟩
theorem tabF_no {m : Str} (h : [("ranks" : Str), "parts", "closed", "wholes"].all (fun x => !(m == x)) = true) (d1 d2 d3 d4 : V) : (tabF d1 d2 d3 d4).lookup m = none := by
  simp only [List.all_cons, List.all_nil, Bool.and_eq_true, Bool.not_eq_true', Bool.and_true] at h
  obtain ⟨h1, h2, h3, h4⟩ := h
  unfold tabF
  rw [List.lookup_cons, h1, List.lookup_cons, h2, List.lookup_cons, h3, List.lookup_cons, h4]
  rfl
theorem insTab {C : Addr} {m : Str} (h : [("ranks" : Str), "parts", "closed", "wholes"].all (fun x => !(m == x)) = true) : InsOf C m (rTab C) := fun r => by
  obtain ⟨a, dx, d1, d2, d3, d4, h1, h2, _⟩ := r
  exact ⟨a, dx, _, h1, h2, tabF_no h _ _ _ _⟩
theorem fldRanks {C : Addr} : FldOf C "ranks" (rTab C) (rDI rInt) Tab.ranks := ⟨fun r => by
  obtain ⟨a, dx, d1, d2, d3, d4, h1, h2, h3, h4, h5, h6⟩ := r
  exact ⟨a, dx, _, d1, h1, h2, rfl, h3⟩⟩
theorem fldParts {C : Addr} : FldOf C "parts" (rTab C) (rDI (rTup rInt)) Tab.parts := ⟨fun r => by
  obtain ⟨a, dx, d1, d2, d3, d4, h1, h2, h3, h4, h5, h6⟩ := r
  exact ⟨a, dx, _, d2, h1, h2, rfl, h4⟩⟩
theorem fldClosed {C : Addr} : FldOf C "closed" (rTab C) (rLst rInt) Tab.closed := ⟨fun r => by
  obtain ⟨a, dx, d1, d2, d3, d4, h1, h2, h3, h4, h5, h6⟩ := r
  exact ⟨a, dx, _, d3, h1, h2, rfl, h5⟩⟩
theorem fldWholes {C : Addr} : FldOf C "wholes" (rTab C) (rDT rInt) Tab.wholes := ⟨fun r => by
  obtain ⟨a, dx, d1, d2, d3, d4, h1, h2, h3, h4, h5, h6⟩ := r
  exact ⟨a, dx, _, d4, h1, h2, rfl, h6⟩⟩
end Sg

namespace Sg
open PySem PySem.Spec PyProof.Rows L2

/-- a comprehension's block -/
def Blk (X : Cx) (scope : Scope) (Xb : Cx) : Prop := ∃ s H C cl fp, Xb = X.blk s H scope (compEnvC scope cl C X.env) fp
/-- kept: condition, element, one by one -/
def mfM {α β : Type} (c : α → Res Bool) (f : α → Res β) : List α → Res (List β)
  | [] => .ok []
  | x :: r => (c x).bind fun b => if b = true then (f x).bind fun y => (mfM c f r).bind fun ys => .ok (y :: ys) else mfM c f r
theorem mfM_cons {α β : Type} {c : α → Res Bool} {f : α → Res β} {x : α} {r : List α} {ys : List β} (h : mfM c f (x :: r) = .ok ys) : ∃ b, c x = .ok b ∧ (b = true → ∃ y zs, f x = .ok y ∧ mfM c f r = .ok zs ∧ ys = y :: zs) ∧ (b = false → mfM c f r = .ok ys) := by
  unfold mfM at h
  obtain ⟨b, hb, h⟩ := Res.bind_ok h
  refine ⟨b, hb, fun e => ?_, fun e => ?_⟩
  · rw [if_pos e] at h
    obtain ⟨y, hy, h⟩ := Res.bind_ok h
    obtain ⟨zs, hz, h⟩ := Res.bind_ok h
    exact ⟨y, zs, hy, hz, (Res.ok_inj h).symm⟩
  · rw [if_neg (by rw [e]; exact Bool.false_ne_true)] at h
    exact h
section
variable {X Xb : Cx} {E : Ent} {own new own' : Own} {B H B' H' : Hp} {σ : L2.St} {α β γ τ ρ δ : Type} {R : Rel α} {S : Rel β} {T : Rel γ} {e a b c o it d elt tg : Expr} {x : α} {y : β} {p pos pos' apos : Pos} {i j k k0 : Nat} {z w : Bool} {xs : List α} {ys : List β} {es : List Expr}
variable {n m f : Str} {rest body other : List Stmt} {D : Ends} {P : ρ → Prop} {Er : Err → Prop} {ps : List Str} {A : AR} {CA : Addr} {scope sc : Scope} {N : List Str}
theorem Blk.cok (h : Blk X scope Xb) (C : Cok X k) : Cok Xb k := by
  obtain ⟨s, H, Cc, cl, fp, rfl⟩ := h
  exact ⟨C.calm, C.nd, C.room, PassesOwn.never⟩
theorem Blk.scp (h : Blk X scope Xb) (V : Scp X N sc) : Scp Xb N (relS scope sc) := by
  obtain ⟨s, H, Cc, cl, fp, rfl⟩ := h
  refine ⟨V.n, ?_⟩
  show relS scope X.env.scope = _
  rw [V.sc]
theorem Blk.cal {sp : Sp} (h : Blk X scope Xb) (G : Cal X k n ps sp) : Cal Xb k n ps sp := by
  obtain ⟨s, H, Cc, cl, fp, rfl⟩ := h
  exact G
theorem Blk.mcal {sp : Sp} (h : Blk X scope Xb) (G : MCal X k CA n ps sp) : MCal Xb k CA n ps sp := by
  obtain ⟨s, H, Cc, cl, fp, rfl⟩ := h
  exact G
theorem Blk.mg (h : Blk X scope Xb) : Xb.mg = X.mg := by
  obtain ⟨s, H, Cc, cl, fp, rfl⟩ := h
  rfl
theorem Blk.K (h : Blk X scope Xb) : Xb.K = X.K := by
  obtain ⟨s, H, Cc, cl, fp, rfl⟩ := h
  rfl
/-- a slot of the block's own name -/
theorem Blk.slot {t : List (Str × NameKind)} (h : Blk X scope Xb) (V : Scp X N sc) (ht : nmOk (relS scope sc) t = true) (i j : Nat) (hi : N[i]? = some n := by rfl) (hj : t[j]? = some (n, .local) := by rfl) : Slot Xb i n := by
  have V2 := h.scp V
  obtain ⟨q1, _⟩ := nmOk.at ht hj
  have e : Xb.env.scope.names.lookup n = some .local := by rw [V2.sc, q1]
  exact ⟨by rw [V2.n]; exact hi, .inl e, .inr e⟩
/-- a block's truth of its test -/
def EvTs (X : Cx) (E : Ent) (own : Own) (B H : Hp) (σ : L2.St) (ifs : List Expr) (b : Bool) : Prop := ∃ tt : TT, PTs X ifs tt ∧ ∀ B1 H1, Stt E own B1 H1 → Ex B B1 → Ex H H1 → ∀ Q : Bool → Hp → Prop,
  (∀ B2 H2, Stt E own B2 H2 → Ex B1 B2 → Ex H1 H2 → Q b H2) → tt σ H1 Q
theorem ets_nil : EvTs X E own B H σ [] true := ⟨tYes, pts_nil, fun B1 H1 S1 e1 e2 Q k => k B1 H1 S1 (Ex.refl _) (Ex.refl _)⟩
theorem ets_one (h : EvT X E own B H σ c z) : EvTs X E own B H σ [c] z := ⟨WT X c, pts_one ptW, h⟩
def WG (X : Cx) (tg : Expr) : TG := fun v σ H Q => ∀ (pins : List (Addr × Obj)) (s : Shared) (u : Value), Inv X pins σ H s → RelV v u → wpAny (model X.prog X.w) X.A (assign tg X.env u) (fun _ s' => ∃ σ' H', Inv X pins σ' H' s' ∧ Q σ' H') X.xe s
def WTs (X : Cx) (ifs : List Expr) : TT := fun σ H Q => ∀ (pins : List (Addr × Obj)) (s : Shared), Inv X pins σ H s →
    wpAny (model X.prog X.w) X.A (forIn ifs true fun c r => if r = true then do let ok ← isTrue c X.env (eval c X.env); pure (ForInStep.yield ok) else pure (ForInStep.yield r)) (TP X pins σ Q) X.xe s
/-- the readings of a block's parts, whatever block it is -/
def gB (X : Cx) (scope : Scope) (tg : Expr) : TG := fun v σ H Q => ∀ Xb, Blk X scope Xb → WG Xb tg v σ H Q
def ttB (X : Cx) (scope : Scope) (ifs : List Expr) : TT := fun σ H Q => ∀ Xb, Blk X scope Xb → WTs Xb ifs σ H Q
def teB (X : Cx) (scope : Scope) (e : Expr) : TE := fun σ H Q => ∀ Xb, Blk X scope Xb → WE Xb e σ H Q
/-- [elt for tg in it if ..] -/
theorem lc_read {Tg : α → Hp → L2.St → L2.St → Prop} {Ko : Own → Prop} {cm : α → Res Bool} {fm : α → Res β} {ifs : List Expr} {vs : List Nat} {Q : VK} {J : It} {B2 H2 : Hp} (S2 : Stt E own B2 H2) (W : Walk E Ko B2 J R xs) (hz : xs.length ≤ sizeLine)
    (hK : ∀ D acc, Ko ((D, .lst acc) :: own)) (ht : ∀ Xb, Blk X scope Xb → TgOk Xb E tg R Tg) (hm : mfM cm fm xs = .ok ys)
    (hc : ∀ Xb x σ2 acc Dd B3 H3 b, Blk X scope Xb → Stt E ((Dd, .lst acc) :: own) B3 H3 → Ex B2 B3 → Tg x B3 (wipe σ vs) σ2 → cm x = .ok b → EvTs Xb E ((Dd, .lst acc) :: own) B3 H3 σ2 ifs b)
    (he : ∀ Xb x y σ2 acc Dd B3 H3, Blk X scope Xb → Stt E ((Dd, .lst acc) :: own) B3 H3 → Ex B2 B3 → Tg x B3 (wipe σ vs) σ2 → cm x = .ok true → fm x = .ok y → EvE Xb E ((Dd, .lst acc) :: own) B3 H3 σ2 elt S y)
    (hwp : ∀ x B3 σ2, Tg x B3 (wipe σ vs) σ2 → wipe σ2 vs = wipe σ vs)
    (hup : ∀ x B3 B4 σ2, Tg x B3 (wipe σ vs) σ2 → Ex B3 B4 → Tg x B4 (wipe σ vs) σ2)
    (kq : ∀ p us B3 H3, Stt E ((p, .lst us) :: own) B3 H3 → Ex B2 B3 → Ex H2 H3 → Paired (S.r B3) us ys → Q (.ref p) H3) :
    ∀ D, H2 D = none → ∃ W : Nat → Nat → Hp → Prop, (∃ m, W 0 m (upd H2 D (.lst []))) ∧ ∀ i m H, W i m H →
      (J.stop i H ∧ Q (.ref D) H) ∨ (J.go i H ∧ ∃ Nx : Hp → Prop, (∀ H', Nx H' → ∃ m', m' < m ∧ W (i + 1) m' H') ∧ ∀ x H', J.yld i H x H' → gB X scope tg x (wipe σ vs) H' fun σ2 H2 => wipe σ2 vs = wipe σ vs ∧ ttB X scope ifs σ2 H2 fun b H3 =>
        if b = true then teB X scope elt σ2 H3 fun y H4 => ∃ acc, H4 D = some (.lst acc) ∧ acc.length < sizeLine ∧ Nx (upd H4 D (.lst (acc ++ [y]))) else Nx H3) := by
  intro Dd hD
  refine ⟨fun i mm H' => mm = xs.length - i ∧ i ≤ xs.length ∧ ∃ acc B' done left, Stt E ((Dd, .lst acc) :: own) B' H' ∧ Ex B2 B' ∧ Ex H2 H' ∧ Paired (S.r B') acc done ∧ mfM cm fm (xs.drop i) = .ok left ∧ done ++ left = ys ∧ acc.length ≤ i,
    ⟨xs.length, by simp, Nat.zero_le _, [], B2, [], ys, S2.alloc hD (fun ys z => by cases z), Ex.refl _, (Sx.new hD).ex, .nil, by rw [List.drop_zero]; exact hm, rfl, Nat.le_refl _⟩, ?_⟩
  rintro i mm H' ⟨rfl, hi, acc, B', done, left, S', e', eh, rp, hmf, hdl, hal⟩
  by_cases hlt : i < xs.length
  · refine .inr ⟨W.go i _ B' H' S' e' (hK _ _) hlt, fun H' => ∃ acc B' done left, Stt E ((Dd, .lst acc) :: own) B' H' ∧ Ex B2 B' ∧ Ex H2 H' ∧ Paired (S.r B') acc done ∧ mfM cm fm (xs.drop (i + 1)) = .ok left ∧ done ++ left = ys ∧ acc.length ≤ i + 1, fun H' q => ⟨xs.length - (i + 1), by omega, rfl, hlt, q⟩, fun v H'' hy => ?_⟩
    have hx : xs[i]? = some xs[i] := List.getElem?_eq_getElem hlt
    obtain ⟨B'', S'', e3, e4, rx⟩ := W.yld i _ B' H' v H'' _ S' e' (hK _ _) hx hy
    rw [List.drop_eq_getElem_cons hlt] at hmf
    obtain ⟨b, hb, h1, h2⟩ := mfM_cons hmf
    intro Xb hX
    obtain ⟨g, pg, hg⟩ := ht Xb hX
    intro pins s u I ru
    refine pg.run pins s _ H'' v u _ I ru (hg _ B'' H'' v _ _ S'' rx _ fun σ2 tgx => ⟨hwp _ _ _ tgx, fun Xc hXc => ?_⟩)
    obtain ⟨tt, pt, htt⟩ := hc Xc _ σ2 acc Dd B'' H'' b hXc S'' (e'.trans e3) tgx hb
    intro pins s I
    refine pt.run pins s σ2 H'' _ I (htt B'' H'' S'' (Ex.refl _) (Ex.refl _) _ fun B4 H4 S4 e5 e6 => ?_)
    cases b with
    | false => exact ⟨acc, B4, done, left, S4, (e'.trans e3).trans e5, (eh.trans e4).trans e6, pimp rp fun _ _ z => S.mono (e3.trans e5) z, h2 rfl, hdl, Nat.le_succ_of_le hal⟩
    | true =>
      obtain ⟨y, zs, hy1, hy2, hy3⟩ := h1 rfl
      intro Xd hXd
      refine he Xd _ y σ2 acc Dd B4 H4 hXd S4 ((e'.trans e3).trans e5) (hup _ _ _ _ tgx e5) hb hy1 B4 H4 S4 (Ex.refl _) (Ex.refl _) _ fun w B5 H5 S5 e7 e8 rw' => ?_
      have hq := (S5.ow _ (List.mem_cons_self ..)).2.2
      refine ⟨acc, hq, Nat.lt_of_le_of_lt hal (Nat.lt_of_lt_of_le hlt hz), acc ++ [w], B5, done ++ [y], zs, S5.write (fun ys z => by cases z), ((e'.trans e3).trans e5).trans e7, ?_, psnoc (pimp rp fun _ _ z => S.mono ((e3.trans e5).trans e7) z) rw', hy2, by rw [List.append_assoc]; rw [← hdl, hy3]; rfl, by rw [List.length_append, List.length_singleton]; omega⟩
      intro a o ha
      have ne : a ≠ Dd := fun z => by
        rw [z, hD] at ha
        cases ha
      rw [upd_ne ne]
      exact ((eh.trans e4).trans (e6.trans e8)) a o ha
  · have e : i = xs.length := by omega
    subst e
    rw [List.drop_length] at hmf
    have hn : left = [] := (Res.ok_inj hmf).symm
    subst hn
    rw [List.append_nil] at hdl
    subst hdl
    exact .inl ⟨W.stop _ _ B' H' S' e' (hK _ _) (Nat.le_refl _), kq Dd acc B' H' S' e' eh rp⟩
theorem pe_lcB {wi : TI} {ifs : List Expr} {ownN : List (Str × Nat)} (C : Cok X k0) (hi : PI X tg it wi) (ok : BlkOk X.N X.env.scope scope ownN) (hs : ∀ x, foldedSetIterable it X.env x = pure x := by intro _; rfl) :
    PE X (.ListComp elt [⟨tg, it, ifs, 0⟩] scope pos) (tLc wi (gB X scope tg) (ttB X scope ifs) (teB X scope elt) (ownN.map (·.2))) :=
  pe_lc C.calm C.nd hi ok (fun s H Cc cl fp => ⟨fun pins s' σ H' v u Q I r h => h _ ⟨s, H, Cc, cl, fp, rfl⟩ pins s' u I r⟩) (fun s H Cc cl fp => ⟨fun pins s' σ H' Q I h => h _ ⟨s, H, Cc, cl, fp, rfl⟩ pins s' I⟩) (fun s H Cc cl fp => ⟨fun pins s' σ H' Q I h => h _ ⟨s, H, Cc, cl, fp, rfl⟩ pins s' I⟩) hs
theorem ps_lcB {wi : TI} {ifs : List Expr} {ownN : List (Str × Nat)} (C : Cok X k0) (hy : X.N[i]? = some n) (hyl : X.env.scope.names.lookup n = some .local) (hsw : swapsWith (.ListComp elt [⟨tg, it, ifs, 0⟩] scope pos) (some (.Name n pos')) p.line X.env = pure true)
    (hi : PI X tg it wi) (ok : BlkOk X.N X.env.scope scope ownN) (hs : ∀ x, foldedSetIterable it X.env x = pure x := by intro _; rfl) :
    PS X (.Assign [.Name n pos'] (.ListComp elt [⟨tg, it, ifs, 0⟩] scope pos) p) (tAsg (tLc wi (gB X scope tg) (ttB X scope ifs) (teB X scope elt) (ownN.map (·.2))) (gName i)) :=
  ps_setLc C.calm C.nd hy hyl hsw hi ok (fun s H Cc cl fp => ⟨fun pins s' σ H' v u Q I r h => h _ ⟨s, H, Cc, cl, fp, rfl⟩ pins s' u I r⟩) (fun s H Cc cl fp => ⟨fun pins s' σ H' Q I h => h _ ⟨s, H, Cc, cl, fp, rfl⟩ pins s' I⟩) (fun s H Cc cl fp => ⟨fun pins s' σ H' Q I h => h _ ⟨s, H, Cc, cl, fp, rfl⟩ pins s' I⟩) hs
/-- a comprehension as a value -/
theorem el_lc {Tg : α → Hp → L2.St → L2.St → Prop} {Ko : Own → Prop} {cm : α → Res Bool} {fm : α → Res β} {ifs : List Expr} {ownN : List (Str × Nat)} (C : Cok X k0) (ok : BlkOk X.N X.env.scope scope ownN) (hit : EvI X E own B H σ tg it R Ko xs)
    (hK : ∀ D acc, Ko ((D, .lst acc) :: own)) (ht : ∀ Xb, Blk X scope Xb → TgOk Xb E tg R Tg) (hm : mfM cm fm xs = .ok ys)
    (hc : ∀ Xb x σ2 acc Dd B3 H3 b, Blk X scope Xb → Stt E ((Dd, .lst acc) :: own) B3 H3 → Ex B B3 → Tg x B3 (wipe σ (ownN.map (·.2))) σ2 → cm x = .ok b → EvTs Xb E ((Dd, .lst acc) :: own) B3 H3 σ2 ifs b)
    (he : ∀ Xb x y σ2 acc Dd B3 H3, Blk X scope Xb → Stt E ((Dd, .lst acc) :: own) B3 H3 → Ex B B3 → Tg x B3 (wipe σ (ownN.map (·.2))) σ2 → cm x = .ok true → fm x = .ok y → EvE Xb E ((Dd, .lst acc) :: own) B3 H3 σ2 elt S y)
    (hwp : ∀ x B3 σ2, Tg x B3 (wipe σ (ownN.map (·.2))) σ2 → wipe σ2 (ownN.map (·.2)) = wipe σ (ownN.map (·.2)))
    (hup : ∀ x B3 B4 σ2, Tg x B3 (wipe σ (ownN.map (·.2))) σ2 → Ex B3 B4 → Tg x B4 (wipe σ (ownN.map (·.2))) σ2)
    (hs : ∀ x, foldedSetIterable it X.env x = pure x := by intro _; rfl) : EvL X E own B H σ (.ListComp elt [⟨tg, it, ifs, 0⟩] scope pos) S ys := fun B1 H1 S1 e1 e2 Q k => by
  obtain ⟨wi, pi, hw⟩ := hit
  exact WE.of (pe_lcB C pi ok hs) (hw B1 H1 S1 e1 e2 _ fun J B2 H2 S2 e3 e4 W hz => lc_read S2 W hz hK ht hm (fun Xb x σ2 acc Dd B3 H3 b hX S3 e5 => hc Xb x σ2 acc Dd B3 H3 b hX S3 ((e1.trans e3).trans e5)) (fun Xb x y σ2 acc Dd B3 H3 hX S3 e5 => he Xb x y σ2 acc Dd B3 H3 hX S3 ((e1.trans e3).trans e5)) hwp hup
    fun p us B3 H3 S3 e5 e6 r => k p us B3 H3 S3 (e3.trans e5) (e4.trans e6) r)
/-- y = [..] on one line -/
theorem s_asgLc {Tg : α → Hp → L2.St → L2.St → Prop} {Ko : Own → Prop} {cm : α → Res Bool} {fm : α → Res β} {ifs : List Expr} {ownN : List (Str × Nat)} (C : Cok X k0) (hy : X.N[i]? = some n) (hyl : X.env.scope.names.lookup n = some .local) (hsw : swapsWith (.ListComp elt [⟨tg, it, ifs, 0⟩] scope pos) (some (.Name n pos')) p.line X.env = pure true) (S0 : Stt E own B H)
    (ok : BlkOk X.N X.env.scope scope ownN) (hit : EvI X E own B H σ tg it R Ko xs)
    (hK : ∀ D acc, Ko ((D, .lst acc) :: own)) (ht : ∀ Xb, Blk X scope Xb → TgOk Xb E tg R Tg) (hm : mfM cm fm xs = .ok ys)
    (hc : ∀ Xb x σ2 acc Dd B3 H3 b, Blk X scope Xb → Stt E ((Dd, .lst acc) :: own) B3 H3 → Ex B B3 → Tg x B3 (wipe σ (ownN.map (·.2))) σ2 → cm x = .ok b → EvTs Xb E ((Dd, .lst acc) :: own) B3 H3 σ2 ifs b)
    (he : ∀ Xb x y σ2 acc Dd B3 H3, Blk X scope Xb → Stt E ((Dd, .lst acc) :: own) B3 H3 → Ex B B3 → Tg x B3 (wipe σ (ownN.map (·.2))) σ2 → cm x = .ok true → fm x = .ok y → EvE Xb E ((Dd, .lst acc) :: own) B3 H3 σ2 elt S y)
    (hwp : ∀ x B3 σ2, Tg x B3 (wipe σ (ownN.map (·.2))) σ2 → wipe σ2 (ownN.map (·.2)) = wipe σ (ownN.map (·.2)))
    (hup : ∀ x B3 B4 σ2, Tg x B3 (wipe σ (ownN.map (·.2))) σ2 → Ex B3 B4 → Tg x B4 (wipe σ (ownN.map (·.2))) σ2)
    (q : ∀ p vs B' H', Stt E ((p, .lst vs) :: own) B' H' → Ex B B' → Paired (S.r B') vs ys → WSs X rest D (σ.set i (some (.ref p))) H')
    (hs : ∀ x, foldedSetIterable it X.env x = pure x := by intro _; rfl) : WSs X (.Assign [.Name n pos'] (.ListComp elt [⟨tg, it, ifs, 0⟩] scope pos) p :: rest) D σ H := by
  obtain ⟨wi, pi, hw⟩ := hit
  exact WSs.cons (ps_lcB C hy hyl hsw pi ok hs) (hw B H S0 (Ex.refl _) (Ex.refl _) _ fun J B2 H2 S2 e3 e4 W hz => lc_read (Q := fun v H1 => WSs X rest D (σ.set i (some v)) H1) S2 W hz hK ht hm (fun Xb x σ2 acc Dd B3 H3 b hX S3 e5 => hc Xb x σ2 acc Dd B3 H3 b hX S3 (e3.trans e5)) (fun Xb x y σ2 acc Dd B3 H3 hX S3 e5 => he Xb x y σ2 acc Dd B3 H3 hX S3 (e3.trans e5)) hwp hup
    fun p us B3 H3 S3 e5 e6 r => q p us B3 H3 S3 (e3.trans e5) r)
end
end Sg

namespace Sg
open PySem PySem.Spec PyProof.Rows L2

/-- xs[lo:hi] -/
def cut {α : Type} (xs : List α) (lo hi : Option Int) : List α := (xs.drop (HT.sIx xs.length 0 lo)).take (HT.sIx xs.length xs.length hi - HT.sIx xs.length 0 lo)
theorem pdrop {α β : Type} {F : α → β → Prop} : ∀ {l₁ : List α} {l₂ : List β} (n : Nat), Paired F l₁ l₂ → Paired F (l₁.drop n) (l₂.drop n)
  | _, _, 0, h => h
  | _, _, _ + 1, .nil => .nil
  | _, _, n + 1, .cons _ t => pdrop n t
theorem ptake {α β : Type} {F : α → β → Prop} : ∀ {l₁ : List α} {l₂ : List β} (n : Nat), Paired F l₁ l₂ → Paired F (l₁.take n) (l₂.take n)
  | _, _, 0, _ => .nil
  | _, _, _ + 1, .nil => .nil
  | _, _, n + 1, .cons h t => .cons h (ptake n t)
theorem pcut {α β : Type} {F : α → β → Prop} {l₁ : List α} {l₂ : List β} (lo hi : Option Int) (h : Paired F l₁ l₂) : Paired F (cut l₁ lo hi) (cut l₂ lo hi) := by
  unfold cut
  rw [plen h]
  exact ptake _ (pdrop _ h)
theorem prev {α β : Type} {F : α → β → Prop} : ∀ {l₁ : List α} {l₂ : List β}, Paired F l₁ l₂ → Paired F l₁.reverse l₂.reverse
  | _, _, .nil => .nil
  | _, _, .cons h t => by
    rw [List.reverse_cons, List.reverse_cons]
    exact psnoc (prev t) h
theorem pat {α β : Type} {F : α → β → Prop} {l₁ : List α} {l₂ : List β} {i : Int} {y : β} (h : Paired F l₁ l₂) (hy : atI l₂ i = some y) : ∃ x, atI l₁ i = some x ∧ F x y := by
  unfold atI at hy ⊢
  rw [plen h]
  cases e : ixN l₂.length i with
  | none => rw [e] at hy; cases hy
  | some j =>
    rw [e] at hy
    have hy' : l₂[j]? = some y := hy
    have hl : j < l₁.length := by
      rw [plen h]
      exact (List.getElem?_eq_some_iff.mp hy').1
    obtain ⟨z, hz, hF⟩ := L2.paired_get h (List.getElem?_eq_getElem hl)
    rw [hy'] at hz
    cases hz
    exact ⟨l₁[j], List.getElem?_eq_getElem hl, hF⟩
theorem pset {α β : Type} {F : α → β → Prop} {u : α} {w : β} (q : F u w) : ∀ {l₁ : List α} {l₂ : List β} (n : Nat), Paired F l₁ l₂ → Paired F (l₁.set n u) (l₂.set n w)
  | _, _, _, .nil => .nil
  | _, _, 0, .cons _ t => .cons q t
  | _, _, n + 1, .cons h t => .cons h (pset q n t)
section
variable {X : Cx} {E : Ent} {own new own' : Own} {B H B' H' : Hp} {σ : L2.St} {α β γ τ ρ δ ε : Type} {R : Rel α} {S : Rel β} {T : Rel γ} {U : Rel ε} {e a b c o it d : Expr} {x : α} {y : β} {u : γ} {t : ε} {p pos pos' apos : Pos} {i j k k0 : Nat} {z w : Bool} {xs ys : List α} {es : List Expr}
variable {n m f : Str} {rest body other : List Stmt} {D : Ends} {P : ρ → Prop} {Er : Err → Prop} {ps : List Str} {A : AR} {CA : Addr}
/-! subscripts -/
theorem ev_ixL {q : Int} (ho : EvB X E own B H σ o (rLst R) xs) (ha : EvB X E own B H σ a rInt q) (hx : atI xs q = some x) (hs : PlainIx a := by exact fun _ _ => rfl) : EvB X E own B H σ (.Subscript o a pos) R x := fun B1 H1 S1 e1 e2 Q k =>
  WE.of (pe_ix ix_list peW peW hs) (ho B1 H1 S1 e1 e2 _ fun v B2 H2 S2 e3 e4 r => ha B2 H2 S2 (e1.trans e3) (e2.trans e4) _ fun w B3 H3 S3 e5 e6 r' => by
    obtain ⟨l, vs, h1, h2, h3⟩ := Rel.mono _ e6 r
    obtain ⟨u, hu, hF⟩ := pat h3 hx
    exact ⟨l, vs, q, u, h1, r', .inl h2, hu, k u B3 H3 S3 (e3.trans e5) (e4.trans e6) hF⟩)
theorem ev_ixT {q : Int} (ho : EvB X E own B H σ o (rTup R) xs) (ha : EvB X E own B H σ a rInt q) (hx : atI xs q = some x) (hs : PlainIx a := by exact fun _ _ => rfl) : EvB X E own B H σ (.Subscript o a pos) R x := fun B1 H1 S1 e1 e2 Q k =>
  WE.of (pe_ix ix_tup peW peW hs) (ho B1 H1 S1 e1 e2 _ fun v B2 H2 S2 e3 e4 r => ha B2 H2 S2 (e1.trans e3) (e2.trans e4) _ fun w B3 H3 S3 e5 e6 r' => by
    obtain ⟨l, vs, h1, h2, h3⟩ := Rel.mono _ e6 r
    obtain ⟨u, hu, hF⟩ := pat h3 hx
    exact ⟨l, vs, q, u, h1, r', SqT.of h2, hu, k u B3 H3 S3 (e3.trans e5) (e4.trans e6) hF⟩)
/-- t[0], t[1] of a pair -/
theorem ev_fst {q : α × β} {kk} {pp : Pos} (ho : EvB X E own B H σ o (rPr R S) q) : EvB X E own B H σ (.Subscript o (.Constant (.int 0) kk pp) pos) R q.1 := fun B1 H1 S1 e1 e2 Q k =>
  WE.of (pe_ix ix_tup peW pe_int (fun _ _ => rfl)) (ho B1 H1 S1 e1 e2 _ fun v B2 H2 S2 e3 e4 r => by
    obtain ⟨l, c, d, h1, h2, h3, h4⟩ := r
    exact ⟨l, [c, d], 0, c, h1, rfl, SqT.of h2, rfl, k c B2 H2 S2 e3 e4 h3⟩)
theorem ev_snd {q : α × β} {kk} {pp : Pos} (ho : EvB X E own B H σ o (rPr R S) q) : EvB X E own B H σ (.Subscript o (.Constant (.int 1) kk pp) pos) S q.2 := fun B1 H1 S1 e1 e2 Q k =>
  WE.of (pe_ix ix_tup peW pe_int (fun _ _ => rfl)) (ho B1 H1 S1 e1 e2 _ fun v B2 H2 S2 e3 e4 r => by
    obtain ⟨l, c, d, h1, h2, h3, h4⟩ := r
    exact ⟨l, [c, d], 1, d, h1, rfl, SqT.of h2, rfl, k d B2 H2 S2 e3 e4 h4⟩)
/-! slices -/
def EvP (X : Cx) (E : Ent) (own : Own) (B H : Hp) (σ : L2.St) (e : Option Expr) (o : Option Int) : Prop := ∃ t : TO, PO X e t ∧ ∀ B1 H1, Stt E own B1 H1 → Ex B B1 → Ex H H1 → ∀ Q : Option Int → Hp → Prop,
  (∀ B2 H2, Stt E own B2 H2 → Ex B1 B2 → Ex H1 H2 → Q o H2) → t σ H1 Q
theorem ep_n : EvP X E own B H σ none none := ⟨_, po_none, fun B1 H1 S1 e1 e2 Q k => k B1 H1 S1 (Ex.refl _) (Ex.refl _)⟩
theorem ep_s {q : Int} (h : EvB X E own B H σ a rInt q) : EvP X E own B H σ (some a) (some q) := ⟨_, po_some peW, fun B1 H1 S1 e1 e2 Q k => h B1 H1 S1 e1 e2 _ fun v B2 H2 S2 e3 e4 r => ⟨q, r, k B2 H2 S2 e3 e4⟩⟩
theorem el_cut [Imm R] {lo hi : Option Expr} {l u : Option Int} (ho : EvB X E own B H σ o (rLst R) xs) (hl : EvP X E own B H σ lo l) (hu : EvP X E own B H σ hi u) : EvL X E own B H σ (.Subscript o (.Slice lo hi none p) pos) R (cut xs l u) := fun B1 H1 S1 e1 e2 Q k => by
  obtain ⟨tl, pl, hl⟩ := hl
  obtain ⟨tu, pu, hu⟩ := hu
  exact WE.of (pe_slice sl_list peW pl pu) (ho B1 H1 S1 e1 e2 _ fun v B2 H2 S2 e3 e4 r => hl B2 H2 S2 (e1.trans e3) (e2.trans e4) _ fun B3 H3 S3 e5 e6 => hu B3 H3 S3 ((e1.trans e3).trans e5) ((e2.trans e4).trans e6) _ fun B4 H4 S4 e7 e8 => by
    obtain ⟨q, vs, h1, h2, h3⟩ := Rel.mono _ (e6.trans e8) r
    exact ⟨q, vs, h1, .inl h2, fun p np => k p _ B4 _ (S4.alloc np fun ys z => by cases z) ((e3.trans e5).trans e7) (((e4.trans e6).trans e8).trans (Sx.new np).ex) (pcut l u (pimp h3 fun _ _ z => Imm.imm S4.tu z))⟩)
/-! list + list -/
theorem Inv.rdL {pins : List (Addr × Obj)} {s : Shared} {l : Addr} {vs : List V} (I : Inv X pins σ H s) (h : Rd H l (.lst vs)) : vs.length ≤ sizeLine ∧ ∃ (its : List Value) (n : Nat), Vals vs its ∧ vs.length = its.length ∧ s.heap.get? l = some { cls := .type "list", data := .seq its.toArray n } := by
  obtain ⟨z, its, n, r, e⟩ := h.ok I.hok
  exact ⟨z, its, n, r, r.length, e⟩
def rCatR : R2 := fun x y H Q => ∃ l b xs zs, x = .ref l ∧ y = .ref b ∧ Rd H l (.lst xs) ∧ Rd H b (.lst zs) ∧ xs.length + zs.length ≤ sizeLine ∧ ∀ p, H p = none → Q (.ref p) (upd H p (.lst (xs ++ zs)))
theorem op_catR : OpR X (binaryOp .Add) rCatR := by
  intro pins s σ H x y v u Q I rx ry h
  obtain ⟨l, b, xs, zs, rfl, rfl, hH, hB, hz, q⟩ := h
  cases rx
  cases ry
  obtain ⟨z, its, n, r, hl, e⟩ := Inv.rdL I hH
  obtain ⟨z2, its2, n2, r2, hl2, e2⟩ := Inv.rdL I hB
  refine PySem.P.add_list e e2 ?_ (by rw [List.size_toArray, List.size_toArray]; omega)
  have ea : its.toArray ++ its2.toArray = (its ++ its2).toArray := by simp
  rw [ea]
  exact ⟨.ref _, _, I.lnew (t' := s.toks) (r.append r2) (by rw [List.length_append]; omega), rfl, q _ I.fresh⟩
theorem el_cat [Imm R] (ha : EvB X E own B H σ a (rLst R) xs) (hb : EvB X E own B H σ b (rLst R) ys) (hz : xs.length + ys.length ≤ sizeLine) : EvL X E own B H σ (.BinOp a .Add b pos) R (xs ++ ys) := fun B1 H1 S1 e1 e2 Q k =>
  WE.of (pe_op op_catR peW peW) (ha B1 H1 S1 e1 e2 _ fun v B2 H2 S2 e3 e4 r => hb B2 H2 S2 (e1.trans e3) (e2.trans e4) _ fun w B3 H3 S3 e5 e6 r' => by
    obtain ⟨l, vs, h1, h2, h3⟩ := Rel.mono _ e6 r
    obtain ⟨l2, us, h1', h2', h3'⟩ := r'
    exact ⟨l, l2, vs, us, h1, h1', h2, h2', by rw [plen h3, plen h3']; exact hz, fun p np => k p _ B3 _ (S3.alloc np fun ys z => by cases z) (e3.trans e5) ((e4.trans e6).trans (Sx.new np).ex) (pimp (pappend h3 h3') fun _ _ z => Imm.imm S3.tu z)⟩)
/-- [..] * n -/
def rRepR : R2 := fun x y H Q => ∃ l k xs, x = .ref l ∧ y = .int k ∧ H l = some (.lst xs) ∧ -(2 ^ 63) ≤ k ∧ k < 2 ^ 63 ∧ xs.length * k.toNat ≤ sizeLine ∧
  ∀ p, H p = none → Q (.ref p) (upd H p (.lst (List.replicate k.toNat xs).flatten))
theorem prep {α β : Type} {F : α → β → Prop} {l₁ : List α} {l₂ : List β} (h : Paired F l₁ l₂) : ∀ n : Nat, Paired F (List.replicate n l₁).flatten (List.replicate n l₂).flatten
  | 0 => .nil
  | n + 1 => by
    rw [List.replicate_succ, List.replicate_succ, List.flatten_cons, List.flatten_cons]
    exact pappend h (prep h n)
theorem el_rep {q : Int} (ha : EvL X E own B H σ a R xs) (hb : ∀ own' B' H', Ex B B' → Ex H H' → EvB X E own' B' H' σ b rInt q) (hz : -(2 ^ 63) ≤ q ∧ q < 2 ^ 63 ∧ xs.length * q.toNat ≤ sizeLine) : EvL X E own B H σ (.BinOp a .Mult b pos) R (List.replicate q.toNat xs).flatten := fun B1 H1 S1 e1 e2 Q k =>
  WE.of (pe_op (show OpR X (binaryOp .Mult) rRepR from op_rep) peW peW) (ha B1 H1 S1 e1 e2 _ fun l vs B2 H2 S2 e3 e4 r => hb _ B2 H2 (e1.trans e3) (e2.trans e4) B2 H2 S2 (Ex.refl _) (Ex.refl _) _ fun w B3 H3 S3 e5 e6 r' => by
    refine ⟨l, q, vs, rfl, r', S3.own1, hz.1, hz.2.1, by rw [plen r]; exact hz.2.2, fun p np => ?_⟩
    have S4 := (S3.alloc np (o := .lst (List.replicate q.toNat vs).flatten) fun ys z => by cases z).swap.drop
    exact k p _ B3 _ S4 (e3.trans e5) ((e4.trans e6).trans (Sx.new np).ex) (prep (pimp r fun _ _ z => R.mono e5 z) _))
/-! x in xs -/
class Flat (R : Rel α) [DecidableEq α] : Prop where
  f : ∀ {H : Hp} {v : V} {x : α}, R.r H v x → flatV v = true
  eq : ∀ {H : Hp} {v w : V} {x y : α}, R.r H v x → R.r H w y → eqV v w = decide (x = y)
instance : Flat rInt := ⟨fun h => by rw [show _ = _ from h]; rfl, fun h h' => by
  rw [show _ = _ from h, show _ = _ from h']
  show (_ == _) = _
  rw [Bool.eq_iff_iff]
  simp⟩
instance : Flat rStr := ⟨fun h => by rw [show _ = _ from h]; rfl, fun h h' => by
  rw [show _ = _ from h, show _ = _ from h']
  show (_ == _) = _
  rw [Bool.eq_iff_iff]
  simp⟩
theorem in_rel [DecidableEq α] [Flat R] {H1 : Hp} {v : V} {x : α} (hx : R.r H1 v x) : ∀ {vs : List V} {xs : List α}, Paired (R.r H1) vs xs → vs.all flatV = true ∧ inV v vs = decide (x ∈ xs)
  | _, _, .nil => ⟨rfl, by simp [inV]⟩
  | _, _, .cons (a := w) (b := y) h t => by
    obtain ⟨h1, h2⟩ := in_rel hx t
    refine ⟨by rw [List.all_cons, Flat.f h, h1] <;> rfl, ?_⟩
    show (eqV w v || inV v _) = _
    rw [h2, Flat.eq h hx, Bool.eq_iff_iff]
    simp only [Bool.or_eq_true, decide_eq_true_iff, List.mem_cons]
    exact ⟨fun h => h.imp Eq.symm id, fun h => h.imp Eq.symm id⟩
theorem in_bh (b : Expr) : True := trivial
theorem ev_in [DecidableEq α] [Flat R] (ha : EvB X E own B H σ a R x) (ho : EvB X E own B H σ o (rLst R) xs) (hm : behindInMarks .In o = false := by rfl) : EvB X E own B H σ (.Compare a [.In] [o] pos) rBool (decide (x ∈ xs)) :=
  ev_cmp op_in_seq ha ho hm fun H1 v w Q h1 h2 k => by
    obtain ⟨l, vs, g1, g2, g3⟩ := h2
    obtain ⟨q1, q2⟩ := in_rel h1 g3
    refine ⟨l, vs, g1, .inl (.inl g2), Flat.f h1, q1, ?_⟩
    rw [q2]
    exact k
theorem et_in [DecidableEq α] [Flat R] (ha : EvB X E own B H σ a R x) (ho : EvB X E own B H σ o (rLst R) xs) (hm : behindInMarks .In o = false := by rfl) : EvT X E own B H σ (.Compare a [.In] [o] pos) (decide (x ∈ xs)) :=
  et_cmp op_in_seq ha ho hm fun H1 v w Q h1 h2 k => by
    obtain ⟨l, vs, g1, g2, g3⟩ := h2
    obtain ⟨q1, q2⟩ := in_rel h1 g3
    refine ⟨l, vs, g1, .inl (.inl g2), Flat.f h1, q1, ?_⟩
    rw [q2]
    exact k
theorem ev_nin [DecidableEq α] [Flat R] (ha : EvB X E own B H σ a R x) (ho : EvB X E own B H σ o (rLst R) xs) (hm : behindInMarks .NotIn o = false := by rfl) : EvB X E own B H σ (.Compare a [.NotIn] [o] pos) rBool (!decide (x ∈ xs)) :=
  ev_cmp op_notIn_seq ha ho hm fun H1 v w Q h1 h2 k => by
    obtain ⟨l, vs, g1, g2, g3⟩ := h2
    obtain ⟨q1, q2⟩ := in_rel h1 g3
    refine ⟨l, vs, g1, .inl (.inl g2), Flat.f h1, q1, ?_⟩
    rw [q2]
    exact k
theorem et_nin [DecidableEq α] [Flat R] (ha : EvB X E own B H σ a R x) (ho : EvB X E own B H σ o (rLst R) xs) (hm : behindInMarks .NotIn o = false := by rfl) : EvT X E own B H σ (.Compare a [.NotIn] [o] pos) (!decide (x ∈ xs)) :=
  et_cmp op_notIn_seq ha ho hm fun H1 v w Q h1 h2 k => by
    obtain ⟨l, vs, g1, g2, g3⟩ := h2
    obtain ⟨q1, q2⟩ := in_rel h1 g3
    refine ⟨l, vs, g1, .inl (.inl g2), Flat.f h1, q1, ?_⟩
    rw [q2]
    exact k
/-! a if t else b -/
theorem ev_ife (hc : EvT X E own B H σ c z) (h1 : z = true → EvB X E own B H σ a R x) (h2 : z = false → EvB X E own B H σ b R x) : EvB X E own B H σ (.IfExp c a b pos) R x := fun B1 H1 S1 e1 e2 Q k =>
  WE.of (pe_ifExp ptW peW peW) (hc B1 H1 S1 e1 e2 _ fun B2 H2 S2 e3 e4 => by
    cases z with
    | true => exact h1 rfl B2 H2 S2 (e1.trans e3) (e2.trans e4) Q fun v B3 H3 S3 e5 e6 => k v B3 H3 S3 (e3.trans e5) (e4.trans e6)
    | false => exact h2 rfl B2 H2 S2 (e1.trans e3) (e2.trans e4) Q fun v B3 H3 S3 e5 e6 => k v B3 H3 S3 (e3.trans e5) (e4.trans e6))
/-! min, max of two -/
theorem pa2 (hs0 : starEach (a :: [b]) X.env = (false, eval a X.env) :: starEach [b] X.env) (hs1 : St1 X b) : PA X [a, b] (tCons (WE X a) (tCons (WE X b) tNil)) := pa_cons peW (pa1 hs1) hs0
theorem ev_max2 {i j : Int} (hc : X.calm = true) (hg : Gl X "max") (hm : X.mg "max" = none) (ha : EvB X E own B H σ a rInt i) (hb : EvB X E own B H σ b rInt j) (hs0 : starEach (a :: [b]) X.env = (false, eval a X.env) :: starEach [b] X.env := by rfl) (hs1 : St1 X b := by rfl) (hpl : (backTo pos (starEach [b] X.env)).any (·.1) = false := by rfl) : EvB X E own B H σ (.Call (.Name "max" p) [a, b] [] pos) rInt (if j > i then j else i) := fun B1 H1 S1 e1 e2 Q k =>
  WE.of (pe_callB (call_max2 hc) hg hm (by decide +kernel) (pa2 hs0 hs1) (he := hs0) (hpl := hpl)) (ha B1 H1 S1 e1 e2 _ fun v B2 H2 S2 e3 e4 r => hb B2 H2 S2 (e1.trans e3) (e2.trans e4) _ fun w B3 H3 S3 e5 e6 r' => ⟨i, j, by rw [show v = .int i from r, show w = .int j from r'], k _ B3 H3 S3 (e3.trans e5) (e4.trans e6) rfl⟩)
theorem ev_min2 {i j : Int} (hc : X.calm = true) (hg : Gl X "min") (hm : X.mg "min" = none) (ha : EvB X E own B H σ a rInt i) (hb : EvB X E own B H σ b rInt j) (hs0 : starEach (a :: [b]) X.env = (false, eval a X.env) :: starEach [b] X.env := by rfl) (hs1 : St1 X b := by rfl) (hpl : (backTo pos (starEach [b] X.env)).any (·.1) = false := by rfl) : EvB X E own B H σ (.Call (.Name "min" p) [a, b] [] pos) rInt (if j < i then j else i) := fun B1 H1 S1 e1 e2 Q k =>
  WE.of (pe_callB (call_min2 hc) hg hm (by decide +kernel) (pa2 hs0 hs1) (he := hs0) (hpl := hpl)) (ha B1 H1 S1 e1 e2 _ fun v B2 H2 S2 e3 e4 r => hb B2 H2 S2 (e1.trans e3) (e2.trans e4) _ fun w B3 H3 S3 e5 e6 r' => ⟨i, j, by rw [show v = .int i from r, show w = .int j from r'], k _ B3 H3 S3 (e3.trans e5) (e4.trans e6) rfl⟩)
/-! int(bool), int(int) -/
theorem ev_intB (hg : Gl X "int") (hm : X.mg "int" = none) (ha : EvB X E own B H σ a rBool z) (hs : St1 X a := by rfl) : EvB X E own B H σ (.Call (.Name "int" p) [a] [] pos) rInt (b2i z) :=
  ev_b1 (f := b2i) (pe_callTy call_int1 hg hm (by decide +kernel) (pa1 hs) (he := hs)) ha fun H1 v Q h k => .inr ⟨z, by rw [show v = .bl z from h], k _ rfl⟩
/-! list(d), sorted(d), dict(pairs) -/
theorem keys_rel {H1 : Hp} : ∀ {ws : List (Key × V)} {kvs : List (Int × α)}, pI R H1 ws kvs → ws.map (·.1) = (kvs.map (·.1)).map Sum.inl
  | _, _, .nil => rfl
  | _, _, .cons h t => by rw [List.map_cons, List.map_cons, List.map_cons, keys_rel t, h.1]
theorem keys_relV {H1 : Hp} : ∀ {ws : List (Key × V)} {kvs : List (Int × α)}, pI R H1 ws kvs → ws.map (fun kv => kV kv.1) = (kvs.map (·.1)).map V.int
  | _, _, .nil => rfl
  | _, _, .cons h t => by rw [List.map_cons, List.map_cons, List.map_cons, keys_relV t, h.1]; rfl
theorem el_listD {kvs : List (Int × α)} (hc : X.calm = true) (hg : Gl X "list") (hm : X.mg "list" = none) (ha : EvB X E own B H σ a (rDI R) kvs) (hs : St1 X a := by rfl) : EvL X E own B H σ (.Call (.Name "list" p) [a] [] pos) rInt (kvs.map (·.1)) :=
  el_b1 (pe_callTy (call_listD hc) hg hm (by decide +kernel) (pa1 hs) (he := hs)) ha fun H1 v Q h k => by
    obtain ⟨q, ws, h1, h2, h3⟩ := h
    refine ⟨q, ws, by rw [h1], h2, fun l hl => ?_⟩
    rw [keys_relV h3]
    exact k l _ hl (ints_rel' _)
theorem el_sortD {kvs : List (Int × α)} (hc : X.calm = true) (hg : Gl X "sorted") (hm : X.mg "sorted" = none) (ha : EvB X E own B H σ a (rDI R) kvs) (hz : kvs.length < 64) (hs : St1 X a := by rfl) : EvL X E own B H σ (.Call (.Name "sorted" p) [a] [] pos) rInt (sortI (kvs.map (·.1))) :=
  el_b1 (pe_callB (call_sortedDI hc) hg hm (by decide +kernel) (pa1 hs) (he := hs)) ha fun H1 v Q h k => by
    obtain ⟨q, ws, h1, h2, h3⟩ := h
    refine ⟨q, ws, kvs.map (·.1), by rw [h1], h2, keys_rel h3, by rw [List.length_map]; exact hz, fun ys l hp ho hl => ?_⟩
    rw [sortI_unique hp ho]
    exact k l _ hl (ints_rel' _)
/-- an owned dict made -/
def EvDI {α : Type} (X : Cx) (E : Ent) (own : Own) (B H : Hp) (σ : L2.St) (e : Expr) (R : Rel α) (kvs : List (Int × α)) : Prop := ∀ B1 H1, Stt E own B1 H1 → Ex B B1 → Ex H H1 → ∀ Q : VK,
  (∀ p ws B2 H2, Stt E ((p, .dK ws) :: own) B2 H2 → Ex B1 B2 → Ex H1 H2 → pI R B2 ws kvs → Q (.ref p) H2) → WE X e σ H1 Q
theorem EvDI.toE {kvs : List (Int × α)} (h : EvDI X E own B H σ e R kvs) : EvE X E own B H σ e (rDI R) kvs := fun B1 H1 S e1 e2 Q k => h B1 H1 S e1 e2 Q fun p ws B2 H2 S2 e3 e4 r => by
  have n := (S2.ow _ (List.mem_cons_self ..)).2.1
  exact k (.ref p) _ H2 S2.keep (e3.trans (Sx.new n).ex) e4 ⟨p, ws, rfl, Rd.of upd_same, r.up (Sx.new n).ex⟩
theorem pairs_split [Imm R] {B2 H2 : Hp} (tu : Tx H2 B2) : ∀ {vs : List V} {kvs : List (Int × α)}, Paired ((rPr rInt R).r H2) vs kvs → ∃ (ps : List Addr) (ws : List (Key × V)), vs = ps.map V.ref ∧ Paired (fun p (kv : Key × V) => SqT X.K H2 p [kV kv.1, kv.2]) ps ws ∧ pI R B2 ws kvs
  | _, _, .nil => ⟨[], [], rfl, .nil, .nil⟩
  | _, _, .cons (b := kv) h t => by
    obtain ⟨ps, ws, h1, h2, h3⟩ := pairs_split tu t
    obtain ⟨q, a, b, g1, g2, g3, g4⟩ := h
    have g3' : a = .int kv.1 := g3
    subst g3'
    exact ⟨q :: ps, (Sum.inl kv.1, b) :: ws, by rw [g1, h1] <;> rfl, .cons (SqT.of g2) h2, .cons ⟨rfl, Imm.imm tu g4⟩ h3⟩
theorem merge_rel {B2 : Hp} : ∀ {ws acc : List (Key × V)} {kvs acc' : List (Int × α)}, pI R B2 ws kvs → pI R B2 acc acc' → pI R B2 (mergeK acc ws) (kvs.foldl (fun acc kv => dput acc kv.1 kv.2) acc')
  | _, _, _, _, .nil, h => h
  | _, _, _, _, .cons h t, h' => by
    show pI R B2 (mergeK (putK _ _ _) _) (List.foldl _ (dput _ _ _) _)
    rw [h.1]
    exact merge_rel t (rel_put (κ := Key) inl_inj h.2 h')
theorem ed_dict [Imm R] {kvs : List (Int × α)} (hc : X.calm = true) (hg : Gl X "dict") (hm : X.mg "dict" = none) (ha : EvB X E own B H σ a (rLst (rPr rInt R)) kvs) (hs : St1 X a := by rfl) : EvDI X E own B H σ (.Call (.Name "dict" p) [a] [] pos) R (dmerge kvs) := fun B1 H1 S1 e1 e2 Q k =>
  WE.of (pe_callTy (call_dictP hc) hg hm (by decide +kernel) (pa1 hs) (he := hs)) (ha B1 H1 S1 e1 e2 _ fun v B2 H2 S2 e3 e4 r => by
    obtain ⟨l, vs, h1, h2, h3⟩ := r
    obtain ⟨ps, ws, g1, g2, g3⟩ := pairs_split (X := X) S2.tu h3
    subst g1
    exact ⟨l, ps, ws, by rw [h1], .inl h2, g2, fun q nq => k q _ B2 _ (S2.alloc nq fun ys z => by cases z) e3 (e4.trans (Sx.new nq).ex) (merge_rel g3 .nil)⟩)
end
end Sg

namespace Sg
open PySem PySem.Spec PyProof.Rows L2
abbrev powI (i j : Int) : Int := i ^ j.toNat
instance {i j : Int} : Decidable (CDiv i j) := by unfold CDiv; infer_instance
instance {i j : Int} : Decidable (CMul i j) := by unfold CMul; infer_instance
/-- the class of tables in the written part -/
structure TabTxt (K : PySem.W.Frag) (CT : Addr) : Prop where
  cls : Cls K CT
  n_ranks : NoAttr K CT "ranks"
  n_parts : NoAttr K CT "parts"
  n_closed : NoAttr K CT "closed"
  n_wholes : NoAttr K CT "wholes"
/-! names without a value in the module: built-ins -/
structure Blt (mg : Str → Option Value) : Prop where
  len : mg "len" = none
  list : mg "list" = none
  sorted : mg "sorted" = none
  isinstance : mg "isinstance" = none
  range : mg "range" = none
  dict : mg "dict" = none
  all : mg "all" = none
  any : mg "any" = none
  min : mg "min" = none
  max : mg "max" = none
  sum : mg "sum" = none
  reversed : mg "reversed" = none
  int : mg "int" = none
  str : mg "str" = none
  enumerate : mg "enumerate" = none
  zip : mg "zip" = none
  tuple : mg "tuple" = none
  abs : mg "abs" = none
  bool : mg "bool" = none
theorem Fin.inl {ρ ρ' τ : Type} {P : ρ → Prop} {Er : Err → Prop} {kn : ρ' → Res ρ} {Q : τ → Prop} {u : ρ'} (F : Fin (sel (fun u => Fin P Er (kn u)) Q) Er (.ok (.inl u))) : Fin P Er (kn u) := F
theorem Fin.inlr {ρ ρ' τ θ : Type} {P : ρ → Prop} {Er : Err → Prop} {f : ρ' → Res ρ} {g : θ → Res ρ} {Q : τ → Prop} {u : θ} (F : Fin (sel (fun u => Fin P Er (sel f g u)) Q) Er (.ok (.inl (.inr u)))) : Fin P Er (g u) := F
theorem mfM_map {α β : Type} (f : α → β) : ∀ xs : List α, mfM (fun _ => .ok true) (fun x => .ok (f x)) xs = .ok (xs.map f)
  | [] => rfl
  | x :: r => by
    have h := mfM_map f r
    unfold mfM
    rw [h]
    rfl
theorem mfM_fm {α β : Type} (c : α → Bool) (f : α → β) : ∀ xs : List α, mfM (fun x => .ok (c x)) (fun x => .ok (f x)) xs = .ok ((xs.filter c).map f)
  | [] => rfl
  | x :: r => by
    have h0 := mfM_fm c f r
    unfold mfM
    rw [h0, List.filter_cons]
    show (if c x = true then _ else _) = _
    by_cases h : c x = true
    · rw [if_pos h, if_pos h]
      rfl
    · rw [if_neg h, if_neg h]
section
variable {X Xb : Cx} {E : Ent} {own new own' : Own} {B H B' H' : Hp} {σ : L2.St} {α β γ δ τ ρ ρ' : Type} {R : Rel α} {S : Rel β} {T : Rel γ} {U : Rel δ} {e a b c d o it : Expr} {x : α} {y : β} {p pos pos' apos : Pos} {i j k k0 : Nat} {z w : Bool} {xs : List α} {ys : List β} {es : List Expr}
variable {n m : Str} {rest body other : List Stmt} {D : Ends} {P : ρ → Prop} {Er : Err → Prop} {scope sc : Scope} {N : List Str} {t : List (Str × NameKind)} {kd : NameKind}
theorem Scp.blk {ownN : List (Str × Nat)} (V : Scp X N sc) (h : blkC N sc scope ownN = true) : BlkOk X.N X.env.scope scope ownN := by
  rw [V.n, V.sc]
  exact blkOk_by h
theorem Scp.lk {x : Str} (V : Scp X N sc) (h : nmOk sc t = true) (j : Nat) (hj : t[j]? = some (x, kd) := by rfl) : X.env.scope.names.lookup x = some kd := by
  rw [V.sc]
  exact (nmOk.at h hj).1
/-! what is owned: kept, picked -/
theorem getE {own : Own} {k : Nat} {q : Addr × HO} (h : own[k]? = some q) : q ∈ own := List.mem_of_getElem? h
theorem Stt.keepAt {q : Addr} {oo : HO} (S0 : Stt E own B H) (hk : own[k]? = some (q, oo)) : Stt E (own.eraseIdx k) (upd B q oo) H where
  b0 := S0.b0.trans (Sx.new (S0.ow _ (getE hk)).2.1)
  h0 := S0.h0
  bh := fun a u e => by
    by_cases ha : a = q
    · subst ha
      rw [upd_same] at e
      rw [← e]
      exact (S0.ow _ (getE hk)).2.2
    · rw [upd_ne ha] at e
      exact S0.bh a u e
  tu := fun a ys e => by
    by_cases ha : a = q
    · subst ha
      rw [upd_same]
      rw [← e]
      exact (S0.ow _ (getE hk)).2.2.symm
    · rw [upd_ne ha]
      exact S0.tu a ys e
  fr := fun a u e => by
    by_cases ha : a = q
    · subst ha
      exact .inr (S0.ow _ (getE hk)).1
    · rw [upd_ne ha] at e
      exact S0.fr a u e
  ow := fun r hr => by
    obtain ⟨h1, h2, h3⟩ := S0.ow r (List.mem_of_mem_eraseIdx hr)
    have ne : r.1 ≠ q := fun z => by
      obtain ⟨j, hj, ej⟩ := List.getElem_of_mem hr
      have hk' := List.getElem?_eq_some_iff.mp hk
      obtain ⟨hk1, hk2⟩ := hk'
      rw [List.getElem_eraseIdx] at ej
      have nd := S0.nd
      have key : ∀ (l : Nat) (hl : l < own.length), own[l] = r → l = k := fun l hl el => by
        have e1 : (own.map (·.1))[l]'(by rw [List.length_map]; exact hl) = (own.map (·.1))[k]'(by rw [List.length_map]; exact hk1) := by
          rw [List.getElem_map, List.getElem_map, hk2, el, z]
        exact (List.getElem_inj nd).mp e1
      split at ej
      · have := key j _ ej
        omega
      · have := key (j + 1) _ ej
        omega
    rw [upd_ne ne]
    exact ⟨h1, h2, h3⟩
  nd := by
    exact S0.nd.sublist ((List.eraseIdx_sublist own k).map _)
theorem rl_keep {q : Addr} {vs : List V} (S0 : Stt E own B H) (hk : own[k]? = some (q, .lst vs)) (r : Paired (R.r B) vs xs) : ∃ B', Stt E (own.eraseIdx k) B' H ∧ Ex B B' ∧ (rLst R).r B' (.ref q) xs := by
  have e := (Sx.new (o := .lst vs) (S0.ow _ (getE hk)).2.1).ex
  exact ⟨_, S0.keepAt hk, e, q, vs, rfl, Rd.of upd_same, pimp r fun _ _ z => R.mono e z⟩
theorem rdi_keep {q : Addr} {ws : List (Key × V)} {kvs : List (Int × α)} (S0 : Stt E own B H) (hk : own[k]? = some (q, .dK ws)) (r : pI R B ws kvs) : ∃ B', Stt E (own.eraseIdx k) B' H ∧ Ex B B' ∧ (rDI R).r B' (.ref q) kvs := by
  have e := (Sx.new (o := .dK ws) (S0.ow _ (getE hk)).2.1).ex
  exact ⟨_, S0.keepAt hk, e, q, ws, rfl, Rd.of upd_same, r.up e⟩
theorem rds_keep {q : Addr} {ws : List (Key × V)} {kvs : List (Str × α)} (S0 : Stt E own B H) (hk : own[k]? = some (q, .dK ws)) (r : pS R B ws kvs) : ∃ B', Stt E (own.eraseIdx k) B' H ∧ Ex B B' ∧ (rDS R).r B' (.ref q) kvs := by
  have e := (Sx.new (o := .dK ws) (S0.ow _ (getE hk)).2.1).ex
  exact ⟨_, S0.keepAt hk, e, q, ws, rfl, Rd.of upd_same, r.up e⟩
theorem rdt_keep {q : Addr} {ws : List (List Key × V)} {kvs : List (List Int × α)} (S0 : Stt E own B H) (hk : own[k]? = some (q, .dT ws)) (r : pT R B ws kvs) : ∃ B', Stt E (own.eraseIdx k) B' H ∧ Ex B B' ∧ (rDT R).r B' (.ref q) kvs := by
  have e := (Sx.new (o := .dT ws) (S0.ow _ (getE hk)).2.1).ex
  exact ⟨_, S0.keepAt hk, e, q, ws, rfl, Rd.of upd_same, r.up e⟩
def pick (own : Own) : List Nat → Own
  | [] => []
  | i :: is => (match own[i]? with | some q => q :: pick own is | none => pick own is)
theorem pick_mem {own : Own} {q : Addr × HO} : ∀ {is : List Nat}, q ∈ pick own is → ∃ i ∈ is, own[i]? = some q
  | i :: is, h => by
    unfold pick at h
    split at h
    · rename_i r hr
      rcases List.mem_cons.mp h with rfl | h
      · exact ⟨i, List.mem_cons_self .., hr⟩
      · obtain ⟨j, hj, e⟩ := pick_mem h
        exact ⟨j, List.mem_cons_of_mem _ hj, e⟩
    · obtain ⟨j, hj, e⟩ := pick_mem h
      exact ⟨j, List.mem_cons_of_mem _ hj, e⟩
theorem pick_nd {own : Own} (nd : (own.map (·.1)).Nodup) : ∀ {is : List Nat}, is.Nodup → ((pick own is).map (·.1)).Nodup
  | [], _ => List.nodup_nil
  | i :: is, h => by
    obtain ⟨h1, h2⟩ := List.nodup_cons.mp h
    unfold pick
    split
    · rename_i r hr
      rw [List.map_cons]
      refine List.nodup_cons.mpr ⟨fun z => ?_, pick_nd nd h2⟩
      obtain ⟨s, hs, es⟩ := List.mem_map.mp z
      obtain ⟨j, hj, ej⟩ := pick_mem hs
      have hi := List.getElem?_eq_some_iff.mp hr
      have hj' := List.getElem?_eq_some_iff.mp ej
      obtain ⟨i1, i2⟩ := hi
      obtain ⟨j1, j2⟩ := hj'
      have e1 : (own.map (·.1))[j]'(by rw [List.length_map]; exact j1) = (own.map (·.1))[i]'(by rw [List.length_map]; exact i1) := by
        rw [List.getElem_map, List.getElem_map, i2, j2, es]
      have e2 := (List.getElem_inj nd).mp e1
      subst e2
      exact h1 hj
    · exact pick_nd nd h2
theorem Stt.pick (is : List Nat) (S0 : Stt E own B H) (hn : is.Nodup := by decide) : Stt E (Sg.pick own is) B H := S0.sub (fun q hq => by
  obtain ⟨i, _, e⟩ := pick_mem hq
  exact List.mem_of_getElem? e) (pick_nd S0.nd hn)
/-! something where something or nothing is -/
theorem ev_unopt {y : Option α} (h : EvB X E own B H σ e (rOpt R) y) (hy : y = some x) : EvB X E own B H σ e R x := fun B1 H1 S1 e1 e2 Q q => h B1 H1 S1 e1 e2 Q fun v B2 H2 S2 e3 e4 r => q v B2 H2 S2 e3 e4 (by subst hy; exact r.2)
theorem ee_unopt {y : Option α} (h : EvE X E own B H σ e (rOpt R) y) (hy : y = some x) : EvE X E own B H σ e R x := fun B1 H1 S1 e1 e2 Q q => h B1 H1 S1 e1 e2 Q fun v B2 H2 S2 e3 e4 r => q v B2 H2 S2 e3 e4 (by subst hy; exact r.2)
theorem ev_ifeP {x' : α} (hc : EvT X E own B H σ c z) (h1 : EvB X E own B H σ a R x) (h2 : EvB X E own B H σ b R x') : EvB X E own B H σ (.IfExp c a b pos) R (if z = true then x else x') :=
  ev_ife hc (fun hz => by rw [if_pos hz]; exact h1) (fun hz => by rw [if_neg (by rw [hz]; exact Bool.false_ne_true)]; exact h2)
/-! a join behind an if -/
theorem WSs.nxm {st : List Stmt} {nx' : L2.St → Hp → Prop} (h : WSs X st { D with nx := nx' } σ H) (f : ∀ σ H, nx' σ H → D.nx σ H) : WSs X st D σ H := fun pins s I =>
  wpAny_mono (h pins s I) (fun fl s' q => by
    cases fl with
    | next =>
      obtain ⟨σ2, H2, I2, q⟩ := q
      exact ⟨σ2, H2, I2, f _ _ q⟩
    | cont => exact q
    | brk => exact q
    | ret u => exact q) fun _ _ q => q
theorem s_ifJ {m1 m2 : Res τ} {kn : τ → Res ρ} (S0 : Stt E own B H) (hc : EvT X E own B H σ c z) (F : Fin P Er ((if z = true then m1 else m2).bind kn)) (Inv : τ → L2.St → Own → Hp → Prop)
    (h1 : z = true → ∀ B' H', Stt E own B' H' → Ex B B' → ∀ Q : τ → Prop, Fin Q Er m1 → WSs X body { D with nx := TurnE E B' Q Inv } σ H')
    (h2 : z = false → ∀ B' H', Stt E own B' H' → Ex B B' → ∀ Q : τ → Prop, Fin Q Er m2 → WSs X other { D with nx := TurnE E B' Q Inv } σ H')
    (hd : ∀ a σ' own' B' H', Inv a σ' own' B' → Stt E own' B' H' → Ex B B' → Fin P Er (kn a) → WSs X rest D σ' H') : WSs X (.If c body other pos :: rest) D σ H :=
  s_if S0 hc (fun hz B' H' S' e' => WSs.nxm (D := { D with nx := WSs X rest D }) (h1 hz B' H' S' e' _ (Fin.bind (by rw [if_pos hz] at F; exact F))) fun σ2 H2 ⟨a', own2, B2, q1, q2, q3, q4⟩ => hd a' σ2 own2 B2 H2 q4 q2 (e'.trans q3) q1)
    (fun hz B' H' S' e' => WSs.nxm (D := { D with nx := WSs X rest D }) (h2 hz B' H' S' e' _ (Fin.bind (by rw [if_neg (by rw [hz]; exact Bool.false_ne_true)] at F; exact F))) fun σ2 H2 ⟨a', own2, B2, q1, q2, q3, q4⟩ => hd a' σ2 own2 B2 H2 q4 q2 (e'.trans q3) q1)
/-! a, b = e -/
theorem s_unp2 {q : α × β} {n1 n2 : Str} {i1 i2 : Nat} {p1 p2 tp : Pos} {kk : Nat} (C : Cok X k) (L1 : Slot X i1 n1) (L2' : Slot X i2 n2) (S0 : Stt E own B H) (he : EvE X E own B H σ e (rPr R S) q)
    (kt : ∀ v w B' H', Stt E own B' H' → Ex B B' → R.r B' v q.1 → S.r B' w q.2 → WSs X rest D ((σ.set i1 (some v)).set i2 (some w)) H')
    (hs : swapsWithSole [.Tuple [.Name n1 p1, .Name n2 p2] kk tp] e pos.line X.env = pure false := by rfl) (hw : swappedStores [.Tuple [.Name n1 p1, .Name n2 p2] kk tp] e X.env = pure none := by rfl) :
    WSs X (.Assign [.Tuple [.Name n1 p1, .Name n2 p2] kk tp] e pos :: rest) D σ H :=
  WSs.cons (ps_asg peW (pg_tup (n := 2) C.calm (pgs_cons (pg_name (i := i1) C.nd L1.ix L1.loc L1.hf) (pgs_cons (pg_name (i := i2) C.nd L2'.ix L2'.loc L2'.hf) pgs_nil))) hs hw) (he B H S0 (Ex.refl _) (Ex.refl _) _ fun v B2 H2 S2 e1 _ r => by
    obtain ⟨l, a, b, h1, h2, h3, h4⟩ := r
    exact ⟨l, [a, b], h1, SqT.of (S2.bh _ _ h2), rfl, a, [b], rfl, b, [], rfl, rfl, kt a b B2 H2 S2 e1 h3 h4⟩)
/-! three, four -/
def rT3 (R : Rel α) (S : Rel β) (T : Rel γ) : Rel (α × β × γ) := ⟨fun H v x => ∃ p a b c, v = .ref p ∧ H p = some (.tup [a, b, c]) ∧ R.r H a x.1 ∧ S.r H b x.2.1 ∧ T.r H c x.2.2, fun e ⟨p, a, b, c, h1, h2, h3, h4, h5⟩ => ⟨p, a, b, c, h1, e.tup h2, R.mono e h3, S.mono e h4, T.mono e h5⟩⟩
def rT4 (R : Rel α) (S : Rel β) (T : Rel γ) (U : Rel δ) : Rel (α × β × γ × δ) := ⟨fun H v x => ∃ p a b c d, v = .ref p ∧ H p = some (.tup [a, b, c, d]) ∧ R.r H a x.1 ∧ S.r H b x.2.1 ∧ T.r H c x.2.2.1 ∧ U.r H d x.2.2.2, fun e ⟨p, a, b, c, d, h1, h2, h3, h4, h5, h6⟩ => ⟨p, a, b, c, d, h1, e.tup h2, R.mono e h3, S.mono e h4, T.mono e h5, U.mono e h6⟩⟩
instance [Imm R] [Imm S] [Imm T] : Imm (rT3 R S T) := ⟨fun e ⟨p, a, b, c, h1, h2, h3, h4, h5⟩ => ⟨p, a, b, c, h1, e _ _ h2, Imm.imm e h3, Imm.imm e h4, Imm.imm e h5⟩⟩
instance [Imm R] [Imm S] [Imm T] [Imm U] : Imm (rT4 R S T U) := ⟨fun e ⟨p, a, b, c, d, h1, h2, h3, h4, h5, h6⟩ => ⟨p, a, b, c, d, h1, e _ _ h2, Imm.imm e h3, Imm.imm e h4, Imm.imm e h5, Imm.imm e h6⟩⟩
instance : NN (rT3 R S T) := ⟨fun ⟨p, a, b, c, h1, _⟩ => by rw [h1]; exact fun q => by cases q⟩
instance : NN (rT4 R S T U) := ⟨fun ⟨p, a, b, c, d, h1, _⟩ => by rw [h1]; exact fun q => by cases q⟩
theorem ee_t3 {x1} {u : γ} (ha : EvE X E own B H σ a R x) (hb : EvE X E own B H σ b S y) (hc : EvE X E own B H σ c T u) (hs1 : starEach (a :: [b, c]) X.env = (false, eval a X.env) :: starEach [b, c] X.env := by rfl) (hs2 : starEach (b :: [c]) X.env = (false, eval b X.env) :: starEach [c] X.env := by rfl) (hs3 : St1 X c := by rfl) : EvE X E own B H σ (.Tuple [a, b, c] x1 pos) (rT3 R S T) (x, y, u) := fun B1 H1 S1 e1 e2 Q k =>
  WE.of (pe_tup (pa_cons peW (pa_cons peW (pa_cons peW pa_nil hs3) hs2) hs1)) (ha B1 H1 S1 e1 e2 _ fun v B2 H2 S2 e3 e4 r => hb B2 H2 S2 (e1.trans e3) (e2.trans e4) _ fun w B3 H3 S3 e5 e6 s => hc B3 H3 S3 ((e1.trans e3).trans e5) ((e2.trans e4).trans e6) _ fun w2 B4 H4 S4 e7 e8 t =>
    ⟨by show 3 ≤ sizeLine; decide, fun p hp => k (.ref p) _ _ (S4.lay hp) (((e3.trans e5).trans e7).trans (S4.layB hp).ex) (((e4.trans e6).trans e8).trans (Sx.new hp).ex) ⟨p, v, w, w2, rfl, upd_same, R.mono ((e5.trans e7).trans (S4.layB hp).ex) r, S.mono (e7.trans (S4.layB hp).ex) s, T.mono (S4.layB hp).ex t⟩⟩)
theorem ee_t4 {x1} {u : γ} {u2 : δ} (ha : EvE X E own B H σ a R x) (hb : EvE X E own B H σ b S y) (hc : EvE X E own B H σ c T u) (hd : EvE X E own B H σ d U u2) (hs1 : starEach (a :: [b, c, d]) X.env = (false, eval a X.env) :: starEach [b, c, d] X.env := by rfl) (hs2 : starEach (b :: [c, d]) X.env = (false, eval b X.env) :: starEach [c, d] X.env := by rfl) (hs3 : starEach (c :: [d]) X.env = (false, eval c X.env) :: starEach [d] X.env := by rfl) (hs4 : St1 X d := by rfl) : EvE X E own B H σ (.Tuple [a, b, c, d] x1 pos) (rT4 R S T U) (x, y, u, u2) := fun B1 H1 S1 e1 e2 Q k =>
  WE.of (pe_tup (pa_cons peW (pa_cons peW (pa_cons peW (pa_cons peW pa_nil hs4) hs3) hs2) hs1)) (ha B1 H1 S1 e1 e2 _ fun v B2 H2 S2 e3 e4 r => hb B2 H2 S2 (e1.trans e3) (e2.trans e4) _ fun w B3 H3 S3 e5 e6 s => hc B3 H3 S3 ((e1.trans e3).trans e5) ((e2.trans e4).trans e6) _ fun w2 B4 H4 S4 e7 e8 t => hd B4 H4 S4 (((e1.trans e3).trans e5).trans e7) (((e2.trans e4).trans e6).trans e8) _ fun w3 B5 H5 S5 e9 e10 t2 =>
    ⟨by show 4 ≤ sizeLine; decide, fun p hp => k (.ref p) _ _ (S5.lay hp) ((((e3.trans e5).trans e7).trans e9).trans (S5.layB hp).ex) ((((e4.trans e6).trans e8).trans e10).trans (Sx.new hp).ex) ⟨p, v, w, w2, w3, rfl, upd_same, R.mono (((e5.trans e7).trans e9).trans (S5.layB hp).ex) r, S.mono ((e7.trans e9).trans (S5.layB hp).ex) s, T.mono (e9.trans (S5.layB hp).ex) t, U.mono (S5.layB hp).ex t2⟩⟩)
theorem ev_t30 {q : α × β × γ} {kk} {pp : Pos} (ho : EvB X E own B H σ o (rT3 R S T) q) : EvB X E own B H σ (.Subscript o (.Constant (.int 0) kk pp) pos) R q.1 := fun B1 H1 S1 e1 e2 Q k =>
  WE.of (pe_ix ix_tup peW pe_int (fun _ _ => rfl)) (ho B1 H1 S1 e1 e2 _ fun v B2 H2 S2 e3 e4 r => by
    obtain ⟨l, c, d, e, h1, h2, h3, h4, h5⟩ := r
    exact ⟨l, [c, d, e], 0, c, h1, rfl, SqT.of h2, rfl, k c B2 H2 S2 e3 e4 h3⟩)
theorem ev_t31 {q : α × β × γ} {kk} {pp : Pos} (ho : EvB X E own B H σ o (rT3 R S T) q) : EvB X E own B H σ (.Subscript o (.Constant (.int 1) kk pp) pos) S q.2.1 := fun B1 H1 S1 e1 e2 Q k =>
  WE.of (pe_ix ix_tup peW pe_int (fun _ _ => rfl)) (ho B1 H1 S1 e1 e2 _ fun v B2 H2 S2 e3 e4 r => by
    obtain ⟨l, c, d, e, h1, h2, h3, h4, h5⟩ := r
    exact ⟨l, [c, d, e], 1, d, h1, rfl, SqT.of h2, rfl, k d B2 H2 S2 e3 e4 h4⟩)
theorem ev_t32 {q : α × β × γ} {kk} {pp : Pos} (ho : EvB X E own B H σ o (rT3 R S T) q) : EvB X E own B H σ (.Subscript o (.Constant (.int 2) kk pp) pos) T q.2.2 := fun B1 H1 S1 e1 e2 Q k =>
  WE.of (pe_ix ix_tup peW pe_int (fun _ _ => rfl)) (ho B1 H1 S1 e1 e2 _ fun v B2 H2 S2 e3 e4 r => by
    obtain ⟨l, c, d, e, h1, h2, h3, h4, h5⟩ := r
    exact ⟨l, [c, d, e], 2, e, h1, rfl, SqT.of h2, rfl, k e B2 H2 S2 e3 e4 h5⟩)
theorem ev_t40 {q : α × β × γ × δ} {kk} {pp : Pos} (ho : EvB X E own B H σ o (rT4 R S T U) q) : EvB X E own B H σ (.Subscript o (.Constant (.int 0) kk pp) pos) R q.1 := fun B1 H1 S1 e1 e2 Q k =>
  WE.of (pe_ix ix_tup peW pe_int (fun _ _ => rfl)) (ho B1 H1 S1 e1 e2 _ fun v B2 H2 S2 e3 e4 r => by
    obtain ⟨l, c, d, e, f, h1, h2, h3, h4, h5, h6⟩ := r
    exact ⟨l, [c, d, e, f], 0, c, h1, rfl, SqT.of h2, rfl, k c B2 H2 S2 e3 e4 h3⟩)
theorem ev_t41 {q : α × β × γ × δ} {kk} {pp : Pos} (ho : EvB X E own B H σ o (rT4 R S T U) q) : EvB X E own B H σ (.Subscript o (.Constant (.int 1) kk pp) pos) S q.2.1 := fun B1 H1 S1 e1 e2 Q k =>
  WE.of (pe_ix ix_tup peW pe_int (fun _ _ => rfl)) (ho B1 H1 S1 e1 e2 _ fun v B2 H2 S2 e3 e4 r => by
    obtain ⟨l, c, d, e, f, h1, h2, h3, h4, h5, h6⟩ := r
    exact ⟨l, [c, d, e, f], 1, d, h1, rfl, SqT.of h2, rfl, k d B2 H2 S2 e3 e4 h4⟩)
theorem ev_t42 {q : α × β × γ × δ} {kk} {pp : Pos} (ho : EvB X E own B H σ o (rT4 R S T U) q) : EvB X E own B H σ (.Subscript o (.Constant (.int 2) kk pp) pos) T q.2.2.1 := fun B1 H1 S1 e1 e2 Q k =>
  WE.of (pe_ix ix_tup peW pe_int (fun _ _ => rfl)) (ho B1 H1 S1 e1 e2 _ fun v B2 H2 S2 e3 e4 r => by
    obtain ⟨l, c, d, e, f, h1, h2, h3, h4, h5, h6⟩ := r
    exact ⟨l, [c, d, e, f], 2, e, h1, rfl, SqT.of h2, rfl, k e B2 H2 S2 e3 e4 h5⟩)
theorem ev_t43 {q : α × β × γ × δ} {kk} {pp : Pos} (ho : EvB X E own B H σ o (rT4 R S T U) q) : EvB X E own B H σ (.Subscript o (.Constant (.int 3) kk pp) pos) U q.2.2.2 := fun B1 H1 S1 e1 e2 Q k =>
  WE.of (pe_ix ix_tup peW pe_int (fun _ _ => rfl)) (ho B1 H1 S1 e1 e2 _ fun v B2 H2 S2 e3 e4 r => by
    obtain ⟨l, c, d, e, f, h1, h2, h3, h4, h5, h6⟩ := r
    exact ⟨l, [c, d, e, f], 3, f, h1, rfl, SqT.of h2, rfl, k f B2 H2 S2 e3 e4 h6⟩)
theorem ee_fst {q : α × β} {kk} {pp : Pos} (ho : EvE X E own B H σ o (rPr R S) q) : EvE X E own B H σ (.Subscript o (.Constant (.int 0) kk pp) pos) R q.1 := fun B1 H1 S1 e1 e2 Q k =>
  WE.of (pe_ix ix_tup peW pe_int (fun _ _ => rfl)) (ho B1 H1 S1 e1 e2 _ fun v B2 H2 S2 e3 e4 r => by
    obtain ⟨l, c, d, h1, h2, h3, h4⟩ := r
    exact ⟨l, [c, d], 0, c, h1, rfl, SqT.of (S2.bh _ _ h2), rfl, k c B2 H2 S2 e3 e4 h3⟩)
theorem ee_snd {q : α × β} {kk} {pp : Pos} (ho : EvE X E own B H σ o (rPr R S) q) : EvE X E own B H σ (.Subscript o (.Constant (.int 1) kk pp) pos) S q.2 := fun B1 H1 S1 e1 e2 Q k =>
  WE.of (pe_ix ix_tup peW pe_int (fun _ _ => rfl)) (ho B1 H1 S1 e1 e2 _ fun v B2 H2 S2 e3 e4 r => by
    obtain ⟨l, c, d, h1, h2, h3, h4⟩ := r
    exact ⟨l, [c, d], 1, d, h1, rfl, SqT.of (S2.bh _ _ h2), rfl, k d B2 H2 S2 e3 e4 h4⟩)
theorem ee_t30 {q : α × β × γ} {kk} {pp : Pos} (ho : EvE X E own B H σ o (rT3 R S T) q) : EvE X E own B H σ (.Subscript o (.Constant (.int 0) kk pp) pos) R q.1 := fun B1 H1 S1 e1 e2 Q k =>
  WE.of (pe_ix ix_tup peW pe_int (fun _ _ => rfl)) (ho B1 H1 S1 e1 e2 _ fun v B2 H2 S2 e3 e4 r => by
    obtain ⟨l, c, d, e, h1, h2, h3, h4, h5⟩ := r
    exact ⟨l, [c, d, e], 0, c, h1, rfl, SqT.of (S2.bh _ _ h2), rfl, k c B2 H2 S2 e3 e4 h3⟩)
theorem ee_t31 {q : α × β × γ} {kk} {pp : Pos} (ho : EvE X E own B H σ o (rT3 R S T) q) : EvE X E own B H σ (.Subscript o (.Constant (.int 1) kk pp) pos) S q.2.1 := fun B1 H1 S1 e1 e2 Q k =>
  WE.of (pe_ix ix_tup peW pe_int (fun _ _ => rfl)) (ho B1 H1 S1 e1 e2 _ fun v B2 H2 S2 e3 e4 r => by
    obtain ⟨l, c, d, e, h1, h2, h3, h4, h5⟩ := r
    exact ⟨l, [c, d, e], 1, d, h1, rfl, SqT.of (S2.bh _ _ h2), rfl, k d B2 H2 S2 e3 e4 h4⟩)
theorem ee_t32 {q : α × β × γ} {kk} {pp : Pos} (ho : EvE X E own B H σ o (rT3 R S T) q) : EvE X E own B H σ (.Subscript o (.Constant (.int 2) kk pp) pos) T q.2.2 := fun B1 H1 S1 e1 e2 Q k =>
  WE.of (pe_ix ix_tup peW pe_int (fun _ _ => rfl)) (ho B1 H1 S1 e1 e2 _ fun v B2 H2 S2 e3 e4 r => by
    obtain ⟨l, c, d, e, h1, h2, h3, h4, h5⟩ := r
    exact ⟨l, [c, d, e], 2, e, h1, rfl, SqT.of (S2.bh _ _ h2), rfl, k e B2 H2 S2 e3 e4 h5⟩)
theorem ee_t40 {q : α × β × γ × δ} {kk} {pp : Pos} (ho : EvE X E own B H σ o (rT4 R S T U) q) : EvE X E own B H σ (.Subscript o (.Constant (.int 0) kk pp) pos) R q.1 := fun B1 H1 S1 e1 e2 Q k =>
  WE.of (pe_ix ix_tup peW pe_int (fun _ _ => rfl)) (ho B1 H1 S1 e1 e2 _ fun v B2 H2 S2 e3 e4 r => by
    obtain ⟨l, c, d, e, f, h1, h2, h3, h4, h5, h6⟩ := r
    exact ⟨l, [c, d, e, f], 0, c, h1, rfl, SqT.of (S2.bh _ _ h2), rfl, k c B2 H2 S2 e3 e4 h3⟩)
theorem ee_t41 {q : α × β × γ × δ} {kk} {pp : Pos} (ho : EvE X E own B H σ o (rT4 R S T U) q) : EvE X E own B H σ (.Subscript o (.Constant (.int 1) kk pp) pos) S q.2.1 := fun B1 H1 S1 e1 e2 Q k =>
  WE.of (pe_ix ix_tup peW pe_int (fun _ _ => rfl)) (ho B1 H1 S1 e1 e2 _ fun v B2 H2 S2 e3 e4 r => by
    obtain ⟨l, c, d, e, f, h1, h2, h3, h4, h5, h6⟩ := r
    exact ⟨l, [c, d, e, f], 1, d, h1, rfl, SqT.of (S2.bh _ _ h2), rfl, k d B2 H2 S2 e3 e4 h4⟩)
theorem ee_t42 {q : α × β × γ × δ} {kk} {pp : Pos} (ho : EvE X E own B H σ o (rT4 R S T U) q) : EvE X E own B H σ (.Subscript o (.Constant (.int 2) kk pp) pos) T q.2.2.1 := fun B1 H1 S1 e1 e2 Q k =>
  WE.of (pe_ix ix_tup peW pe_int (fun _ _ => rfl)) (ho B1 H1 S1 e1 e2 _ fun v B2 H2 S2 e3 e4 r => by
    obtain ⟨l, c, d, e, f, h1, h2, h3, h4, h5, h6⟩ := r
    exact ⟨l, [c, d, e, f], 2, e, h1, rfl, SqT.of (S2.bh _ _ h2), rfl, k e B2 H2 S2 e3 e4 h5⟩)
theorem ee_t43 {q : α × β × γ × δ} {kk} {pp : Pos} (ho : EvE X E own B H σ o (rT4 R S T U) q) : EvE X E own B H σ (.Subscript o (.Constant (.int 3) kk pp) pos) U q.2.2.2 := fun B1 H1 S1 e1 e2 Q k =>
  WE.of (pe_ix ix_tup peW pe_int (fun _ _ => rfl)) (ho B1 H1 S1 e1 e2 _ fun v B2 H2 S2 e3 e4 r => by
    obtain ⟨l, c, d, e, f, h1, h2, h3, h4, h5, h6⟩ := r
    exact ⟨l, [c, d, e, f], 3, f, h1, rfl, SqT.of (S2.bh _ _ h2), rfl, k f B2 H2 S2 e3 e4 h6⟩)
theorem s_unp3 {q : α × β × γ} {n1 n2 n3 : Str} {i1 i2 i3 : Nat} {p1 p2 p3 tp : Pos} {kk : Nat} (C : Cok X k) (L1 : Slot X i1 n1) (L2' : Slot X i2 n2) (L3 : Slot X i3 n3) (S0 : Stt E own B H) (he : EvE X E own B H σ e (rT3 R S T) q)
    (kt : ∀ v w u B' H', Stt E own B' H' → Ex B B' → R.r B' v q.1 → S.r B' w q.2.1 → T.r B' u q.2.2 → WSs X rest D (((σ.set i1 (some v)).set i2 (some w)).set i3 (some u)) H')
    (hs : swapsWithSole [.Tuple [.Name n1 p1, .Name n2 p2, .Name n3 p3] kk tp] e pos.line X.env = pure false := by rfl) (hw : swappedStores [.Tuple [.Name n1 p1, .Name n2 p2, .Name n3 p3] kk tp] e X.env = pure none := by rfl) :
    WSs X (.Assign [.Tuple [.Name n1 p1, .Name n2 p2, .Name n3 p3] kk tp] e pos :: rest) D σ H :=
  WSs.cons (ps_asg peW (pg_tup (n := 3) C.calm (pgs_cons (pg_name (i := i1) C.nd L1.ix L1.loc L1.hf) (pgs_cons (pg_name (i := i2) C.nd L2'.ix L2'.loc L2'.hf) (pgs_cons (pg_name (i := i3) C.nd L3.ix L3.loc L3.hf) pgs_nil)))) hs hw) (he B H S0 (Ex.refl _) (Ex.refl _) _ fun v B2 H2 S2 e1 _ r => by
    obtain ⟨l, a, b, c, h1, h2, h3, h4, h5⟩ := r
    exact ⟨l, [a, b, c], h1, SqT.of (S2.bh _ _ h2), rfl, a, [b, c], rfl, b, [c], rfl, c, [], rfl, rfl, kt a b c B2 H2 S2 e1 h3 h4 h5⟩)
theorem s_unp4 {q : α × β × γ × δ} {n1 n2 n3 n4 : Str} {i1 i2 i3 i4 : Nat} {p1 p2 p3 p4 tp : Pos} {kk : Nat} (C : Cok X k) (L1 : Slot X i1 n1) (L2' : Slot X i2 n2) (L3 : Slot X i3 n3) (L4 : Slot X i4 n4) (S0 : Stt E own B H) (he : EvE X E own B H σ e (rT4 R S T U) q)
    (kt : ∀ v w u u2 B' H', Stt E own B' H' → Ex B B' → R.r B' v q.1 → S.r B' w q.2.1 → T.r B' u q.2.2.1 → U.r B' u2 q.2.2.2 → WSs X rest D ((((σ.set i1 (some v)).set i2 (some w)).set i3 (some u)).set i4 (some u2)) H')
    (hs : swapsWithSole [.Tuple [.Name n1 p1, .Name n2 p2, .Name n3 p3, .Name n4 p4] kk tp] e pos.line X.env = pure false := by rfl) (hw : swappedStores [.Tuple [.Name n1 p1, .Name n2 p2, .Name n3 p3, .Name n4 p4] kk tp] e X.env = pure none := by rfl) :
    WSs X (.Assign [.Tuple [.Name n1 p1, .Name n2 p2, .Name n3 p3, .Name n4 p4] kk tp] e pos :: rest) D σ H :=
  WSs.cons (ps_asg peW (pg_tup (n := 4) C.calm (pgs_cons (pg_name (i := i1) C.nd L1.ix L1.loc L1.hf) (pgs_cons (pg_name (i := i2) C.nd L2'.ix L2'.loc L2'.hf) (pgs_cons (pg_name (i := i3) C.nd L3.ix L3.loc L3.hf) (pgs_cons (pg_name (i := i4) C.nd L4.ix L4.loc L4.hf) pgs_nil))))) hs hw) (he B H S0 (Ex.refl _) (Ex.refl _) _ fun v B2 H2 S2 e1 _ r => by
    obtain ⟨l, a, b, c, d, h1, h2, h3, h4, h5, h6⟩ := r
    exact ⟨l, [a, b, c, d], h1, SqT.of (S2.bh _ _ h2), rfl, a, [b, c, d], rfl, b, [c, d], rfl, c, [d], rfl, d, [], rfl, rfl, kt a b c d B2 H2 S2 e1 h3 h4 h5 h6⟩)
def tP3 (i j l : Nat) (R : Rel α) (S : Rel β) (T : Rel γ) : α × β × γ → Hp → L2.St → L2.St → Prop := fun x B σ σ' => ∃ v w u, R.r B v x.1 ∧ S.r B w x.2.1 ∧ T.r B u x.2.2 ∧ σ' = ((σ.set i (some v)).set j (some w)).set l (some u)
theorem tg_t3 {n3 : Str} {i1 i2 i3 : Nat} {m : Str} {p1 p2 p3 : Pos} {k1 : Nat} {q : Pos} (C : Cok X k0) (L1 : Slot X i1 n) (L2' : Slot X i2 m) (L3 : Slot X i3 n3) : TgOk X E (.Tuple [.Name n p1, .Name m p2, .Name n3 p3] k1 q) (rT3 R S T) (tP3 i1 i2 i3 R S T) :=
  ⟨_, pg_tup (n := 3) C.calm (pgs_cons (pg_name (i := i1) C.nd L1.ix L1.loc L1.hf) (pgs_cons (pg_name (i := i2) C.nd L2'.ix L2'.loc L2'.hf) (pgs_cons (pg_name (i := i3) C.nd L3.ix L3.loc L3.hf) pgs_nil))), fun own B H v x σ St r Q k => by
    obtain ⟨q, a, b, c, h1, h2, h3, h4, h5⟩ := r
    exact ⟨q, [a, b, c], h1, SqT.of (St.bh _ _ h2), rfl, a, [b, c], rfl, b, [c], rfl, c, [], rfl, rfl, k _ ⟨a, b, c, h3, h4, h5, rfl⟩⟩⟩
/-! an owned list changed -/
theorem s_reverse {apos : Pos} {q : Addr} {vs : List V} (S0 : Stt E own B H) (ha : PE X a (tVar i)) (h : σ[i]? = some (some (.ref q))) (hk : own[k]? = some (q, .lst vs)) (r : Paired (R.r B) vs xs)
    (kt : ∀ H', Stt E (own.set k (q, .lst vs.reverse)) B H' → Paired (R.r B) vs.reverse xs.reverse → WSs X rest D σ H')
    (t : BmT0 X a "reverse" apos p := by exact ⟨rfl, rfl⟩) (hw : swapsWith (.Call (.Attribute a "reverse" apos) [] [] p) none pos.line X.env = pure false := by rfl) :
    WSs X (.Expr (.Call (.Attribute a "reverse" apos) [] [] p) pos :: rest) D σ H :=
  WSs.cons (ps_expr (pe_bm0 PySem.F.plainAttrs_list PySem.F.slot_list_reverse PySem.F.type_list_reverse mt_reverse ha t.1 t.2) hw) (by
    have hq := (S0.ow _ (getE hk)).2.2
    exact ⟨.ref q, h, .inl ⟨rfl, _, SqL.of hq⟩, q, vs, rfl, rfl, hq, kt _ (S0.put hk fun ys z => by cases z) (prev r)⟩)
theorem s_clear {apos : Pos} {q : Addr} {vs : List V} (S0 : Stt E own B H) (ha : PE X a (tVar i)) (h : σ[i]? = some (some (.ref q))) (hk : own[k]? = some (q, .lst vs)) (r : Paired (R.r B) vs xs)
    (kt : ∀ H', Stt E (own.set k (q, .lst [])) B H' → Paired (R.r B) [] [] → WSs X rest D σ H')
    (t : BmT0 X a "clear" apos p := by exact ⟨rfl, rfl⟩) (hw : swapsWith (.Call (.Attribute a "clear" apos) [] [] p) none pos.line X.env = pure false := by rfl) :
    WSs X (.Expr (.Call (.Attribute a "clear" apos) [] [] p) pos :: rest) D σ H :=
  WSs.cons (ps_expr (pe_bm0 PySem.F.plainAttrs_list PySem.F.slot_list_clear PySem.F.type_list_clear mt_clear ha t.1 t.2) hw) (by
    have hq := (S0.ow _ (getE hk)).2.2
    exact ⟨.ref q, h, .inl ⟨rfl, _, SqL.of hq⟩, q, vs, rfl, rfl, hq, kt _ (S0.put hk fun ys z => by cases z) .nil⟩)
end
end Sg

namespace Sg
open PySem PySem.Spec PyProof.Rows L2
/-! a block over a dict: the dict is locked, the block runs as a call would -/
def lkB (d : Addr) (f : HO) (B : Hp) : Hp := fun a => if a = d then (B d).map (fun _ => f) else B a
def unB (d : Addr) (B1 B3 : Hp) : Hp := fun a => if a = d then B1 d else B3 a
theorem lkB_ne {d a : Addr} {f : HO} {B : Hp} (h : a ≠ d) : lkB d f B a = B a := if_neg h
theorem lkB_at {d : Addr} {f : HO} {B : Hp} : lkB d f B d = (B d).map (fun _ => f) := if_pos rfl
theorem unB_ne {d a : Addr} {B1 B3 : Hp} (h : a ≠ d) : unB d B1 B3 a = B3 a := if_neg h
theorem unB_at {d : Addr} {B1 B3 : Hp} : unB d B1 B3 d = B1 d := if_pos rfl
section
variable {X Xb : Cx} {E : Ent} {own new own' : Own} {B H B' H' : Hp} {σ : L2.St} {α β γ δ τ ρ ρ' : Type} {R : Rel α} {S : Rel β} {T : Rel γ} {U : Rel δ} {e a b c d o it tg elt : Expr} {x : α} {y : β} {p pos pos' apos : Pos} {i j k k0 : Nat} {z w : Bool} {xs : List α} {ys : List β} {es : List Expr}
variable {n m : Str} {rest body other : List Stmt} {D : Ends} {P : ρ → Prop} {Er : Err → Prop} {scope sc : Scope} {N : List Str} {t : List (Str × NameKind)} {kd : NameKind}
theorem lk_enter {q : Addr} {ws : List (Key × V)} {ob : Obj} (S1 : Stt E own B H) (h : H q = some (.dK ws)) : Stt ⟨lkB q (.frz ob (.dK ws)) B, upd H q (.frz ob (.dK ws))⟩ [] (lkB q (.frz ob (.dK ws)) B) (upd H q (.frz ob (.dK ws))) :=
  Stt.enter (fun a u e => by
    by_cases ha : a = q
    · subst ha
      rw [lkB_at] at e
      rw [upd_same]
      cases hb : B a with
      | none => rw [hb] at e; cases e
      | some v => rw [hb] at e; exact e
    · rw [lkB_ne ha] at e
      rw [upd_ne ha]
      exact S1.bh a u e) fun a ys e => by
    by_cases ha : a = q
    · subst ha
      rw [upd_same] at e
      cases e
    · rw [upd_ne ha] at e
      rw [lkB_ne ha]
      exact S1.tu a ys e
theorem lk_exB {q : Addr} {ws : List (Key × V)} {ob : Obj} (S1 : Stt E own B H) (h : H q = some (.dK ws)) : Ex B (lkB q (.frz ob (.dK ws)) B) := fun a u e => by
  by_cases ha : a = q
  · subst ha
    have e2 := S1.bh a u e
    rw [h] at e2
    cases e2
    exact ⟨.frz ob (.dK ws), by rw [lkB_at, e] <;> rfl, rfl⟩
  · exact ⟨u, by rw [lkB_ne ha]; exact e, rfl⟩
theorem lk_exH {q : Addr} {ws : List (Key × V)} {ob : Obj} (h : H q = some (.dK ws)) : Ex H (upd H q (.frz ob (.dK ws))) := fun a u e => by
  by_cases ha : a = q
  · subst ha
    rw [h] at e
    cases e
    exact ⟨_, upd_same, rfl⟩
  · exact ⟨u, by rw [upd_ne ha]; exact e, rfl⟩
theorem lk_back {q : Addr} {ws : List (Key × V)} {ob : Obj} {B3 H3 : Hp} {r : Addr × HO} (S1 : Stt E own B H) (h : H q = some (.dK ws)) (S3 : Stt ⟨lkB q (.frz ob (.dK ws)) B, upd H q (.frz ob (.dK ws))⟩ [r] B3 H3) : Stt ⟨B, H⟩ [r] (unB q B B3) (upd H3 q (.dK ws)) where
  b0 := fun a u e => by
    by_cases ha : a = q
    · subst ha
      rw [unB_at]
      exact e
    · rw [unB_ne ha]
      exact S3.b0 a u (by show lkB _ _ _ _ = _; rw [lkB_ne ha]; exact e)
  h0 := fun a u e => by
    by_cases ha : a = q
    · subst ha
      have e' : H a = some u := e
      rw [h] at e'
      rw [upd_same]
      exact e'
    · rw [upd_ne ha]
      exact S3.h0 a u (by show upd _ _ _ _ = _; rw [upd_ne ha]; exact e)
  bh := fun a u e => by
    by_cases ha : a = q
    · subst ha
      rw [unB_at] at e
      have e2 := S1.bh a u e
      rw [h] at e2
      rw [upd_same]
      exact e2
    · rw [unB_ne ha] at e
      rw [upd_ne ha]
      exact S3.bh a u e
  tu := fun a ys e => by
    by_cases ha : a = q
    · subst ha
      rw [upd_same] at e
      cases e
    · rw [upd_ne ha] at e
      rw [unB_ne ha]
      exact S3.tu a ys e
  fr := fun a u e => by
    by_cases ha : a = q
    · subst ha
      rw [unB_at] at e
      exact .inl e
    · rw [unB_ne ha] at e
      rcases S3.fr a u e with z | z
      · have z' : lkB q (.frz ob (.dK ws)) B a = some u := z
        rw [lkB_ne ha] at z'
        exact .inl z'
      · have z' : upd H q (.frz ob (.dK ws)) a = Option.none := z
        rw [upd_ne ha] at z'
        exact .inr z'
  ow := fun s hs => by
    obtain ⟨h1, h2, h3⟩ := S3.ow s hs
    have h1' : upd H q (.frz ob (.dK ws)) s.1 = Option.none := h1
    have ne : s.1 ≠ q := fun z => by
      rw [z, upd_same] at h1'
      cases h1'
    rw [upd_ne ne] at h1'
    exact ⟨h1', by rw [unB_ne ne]; exact h2, by rw [upd_ne ne]; exact h3⟩
  nd := S3.nd
theorem lk_exBack {q : Addr} {ws : List (Key × V)} {ob : Obj} {B3 H3 : Hp} {own3 : Own} (S1 : Stt E own B H) (h : H q = some (.dK ws)) (S3 : Stt ⟨lkB q (.frz ob (.dK ws)) B, upd H q (.frz ob (.dK ws))⟩ own3 B3 H3) : Ex B3 (unB q B B3) := fun a u e => by
  by_cases ha : a = q
  · subst ha
    rcases S3.fr a u e with z | z
    · have z' : lkB a (.frz ob (.dK ws)) B a = some u := z
      rw [lkB_at] at z'
      cases hb : B a with
      | none => rw [hb] at z'; cases z'
      | some v =>
        rw [hb] at z'
        cases z'
        have e2 := S1.bh a v hb
        rw [h] at e2
        cases e2
        exact ⟨.dK ws, by rw [unB_at]; exact hb, rfl⟩
    · have z' : upd H a (.frz ob (.dK ws)) a = Option.none := z
      rw [upd_same] at z'
      cases z'
  · exact ⟨u, by rw [unB_ne ha]; exact e, rfl⟩
theorem WE.szI {Q : VK} (h : Szd H → WE X e σ H Q) : WE X e σ H Q := fun pins s I => h (Szd.of I) pins s I
/-- a dict that stands at one place, whoever looks -/
def EvK (X : Cx) (B H : Hp) (σ : L2.St) (e : Expr) (R : Rel α) (kvs : List (Int × α)) : Prop := ∃ q ws, (∀ H', Tx H H' → ∀ Q : VK, Q (.ref q) H' → WE X e σ H' Q) ∧ Rd H q (.dK ws) ∧ pI R H ws kvs
theorem ek_v {v : V} {kvs : List (Int × α)} (hp : PE X e (tVar i)) (h : σ[i]? = some (some v)) (r : (rDI R).r H v kvs) : EvK X B H σ e R kvs := by
  obtain ⟨q, ws, rfl, h2, h3⟩ := r
  exact ⟨q, ws, fun H' _ Q k => WE.of hp ⟨_, h, k⟩, h2, h3⟩
theorem ek_own {q : Addr} {ws : List (Key × V)} {kvs : List (Int × α)} (S0 : Stt E own B H) (hp : PE X e (tVar i)) (h : σ[i]? = some (some (.ref q))) (ho : (q, HO.dK ws) ∈ own) (r : pI R B ws kvs) : EvK X B H σ e R kvs :=
  ⟨q, ws, fun H' _ Q k => WE.of hp ⟨_, h, k⟩, Rd.of (S0.ow _ ho).2.2, r.up S0.bh.ex⟩
/-- .. at a place of a tuple -/
structure TupAt (H : Hp) (v u : V) (j : Int) : Prop where
  t : ∃ p vs, v = .ref p ∧ H p = some (.tup vs) ∧ atI vs j = some u
theorem ek_at {v u : V} {j : Nat} {kvs : List (Int × α)} {kk} {pp : Pos} (hp : PE X o (tVar i)) (h : σ[i]? = some (some v)) (ht : TupAt H v u j) (r : (rDI R).r H u kvs) : EvK X B H σ (.Subscript o (.Constant (.int j) kk pp) pos) R kvs := by
  obtain ⟨q, ws, rfl, h2, h3⟩ := r
  obtain ⟨p, vs, rfl, h5, h6⟩ := ht
  exact ⟨q, ws, fun H' tx Q k => WE.of (pe_ix ix_tup hp pe_int (fun _ _ => rfl)) ⟨_, h, p, vs, j, .ref q, rfl, rfl, SqT.of (tx _ _ h5), h6, k⟩, h2, h3⟩
theorem walk_keysE {q : Addr} {ws : List (Key × V)} {ob : Obj} {kvs : List (Int × α)} {B2 : Hp} (h : E.H0 q = some (.frz ob (.dK ws))) (r : ws.map (·.1) = (kvs.map (·.1)).map (Sum.inl (β := Str))) : Walk E KoT B2 (Itk q ob ws) rInt (kvs.map (·.1)) := by
  have hl : ws.length = (kvs.map (·.1)).length := by
    have := congrArg List.length r
    simpa using this
  refine ⟨fun i own' B' H' S' e k hi => ?_, fun i own' B' H' S' e k hi => ?_, fun i own' B' H' v H'' x S' e k hx hy => ?_⟩
  · exact ⟨S'.h0 _ _ h, by rw [hl]; exact hi⟩
  · exact ⟨S'.h0 _ _ h, by rw [hl]; exact hi⟩
  · obtain ⟨e1, kk, vv, h1, h2⟩ := hy
    subst e1
    refine ⟨B', S', Ex.refl _, Ex.refl _, ?_⟩
    have e3 : (ws.map (·.1))[i]? = some kk := by rw [List.getElem?_map, h1]; rfl
    rw [r, List.getElem?_map, hx] at e3
    have e4 : kk = Sum.inl x := (Option.some.inj e3).symm
    rw [h2, e4]
    rfl
theorem el_lcD {Tg : Int → Hp → L2.St → L2.St → Prop} {cm : Int → Res Bool} {fm : Int → Res β} {ifs : List Expr} {ownN : List (Str × Nat)} {kvs : List (Int × α)} (C : Cok X k0) (ok : BlkOk X.N X.env.scope scope ownN) (hit : EvK X B H σ it R kvs)
    (ht : ∀ Xb Eb, Blk X scope Xb → TgOk Xb Eb tg rInt Tg) (hm : mfM cm fm (kvs.map (·.1)) = .ok ys)
    (hc : ∀ (Eb : Ent) Xb x σ2 acc Dd B3 H3 b, Ex B Eb.B0 → Ex H Eb.H0 → Blk X scope Xb → Stt Eb [(Dd, .lst acc)] B3 H3 → Ex Eb.B0 B3 → Tg x B3 (wipe σ (ownN.map (·.2))) σ2 → cm x = .ok b → EvTs Xb Eb [(Dd, .lst acc)] B3 H3 σ2 ifs b)
    (he : ∀ (Eb : Ent) Xb x y σ2 acc Dd B3 H3, Ex B Eb.B0 → Ex H Eb.H0 → Blk X scope Xb → Stt Eb [(Dd, .lst acc)] B3 H3 → Ex Eb.B0 B3 → Tg x B3 (wipe σ (ownN.map (·.2))) σ2 → cm x = .ok true → fm x = .ok y → EvE Xb Eb [(Dd, .lst acc)] B3 H3 σ2 elt S y)
    (hwp : ∀ x B3 σ2, Tg x B3 (wipe σ (ownN.map (·.2))) σ2 → wipe σ2 (ownN.map (·.2)) = wipe σ (ownN.map (·.2)))
    (hup : ∀ x B3 B4 σ2, Tg x B3 (wipe σ (ownN.map (·.2))) σ2 → Ex B3 B4 → Tg x B4 (wipe σ (ownN.map (·.2))) σ2)
    (hs : ∀ x, foldedSetIterable it X.env x = pure x := by intro _; rfl) : EvL X E own B H σ (.ListComp elt [⟨tg, it, ifs, 0⟩] scope pos) S ys := fun B1 H1 S1 e1 e2 Q k => by
  obtain ⟨q, ws, hv, hq, hp⟩ := hit
  have hq1 := e2.dK hq
  have tx1 : Tx H H1 := fun a ys h => e2.tup h
  have kr := keys_rel hp
  refine WE.szI fun sz => ?_
  have hz : (kvs.map (·.1)).length ≤ sizeLine := by
    have := sz.2.2.1 _ _ hq1
    rw [List.length_map, ← plen hp]
    exact this
  rcases hq1 with hq1 | ⟨ob, hq1⟩
  · refine WE.of (pe_lock (pe_lcB C (pi_keys peW) ok hs)) ⟨q, .dK ws, hq1, trivial, fun ob => ?_⟩
    refine hv _ (fun a ys h => ?_) _ ⟨q, ob, rfl, .inl ⟨ws, upd_same, ?_⟩⟩
    · have h1 := tx1 a ys h
      rw [upd_ne fun z => by rw [z, hq1] at h1; cases h1]
      exact h1
    · have eb := e1.trans (lk_exB (ob := ob) S1 hq1)
      have eh := e2.trans (lk_exH (ob := ob) hq1)
      refine lc_read (Q := fun v H' => H' q = some (.frz ob (.dK ws)) ∧ Q v (upd H' q (.dK ws))) (lk_enter S1 hq1) (walk_keysE upd_same kr) hz (fun _ _ => trivial) (fun Xb hb => ht Xb _ hb) hm (fun Xb x σ2 acc Dd B3 H3 b hX S3 e5 => hc _ Xb x σ2 acc Dd B3 H3 b eb eh hX S3 e5) (fun Xb x y σ2 acc Dd B3 H3 hX S3 e5 => he _ Xb x y σ2 acc Dd B3 H3 eb eh hX S3 e5) hwp hup fun p us B3 H3 S3 e5 e6 r => ?_
      have T := lk_back S1 hq1 S3
      exact ⟨S3.h0 _ _ upd_same, k p us _ _ (S1.call T) T.b0.ex T.h0.ex (pimp r fun _ _ z => S.mono (lk_exBack S1 hq1 S3) z)⟩
  · refine WE.of (pe_lcB C (pi_keys peW) ok hs) (hv _ tx1 _ ⟨q, ob, rfl, .inl ⟨ws, hq1, ?_⟩⟩)
    exact lc_read (Q := Q) (Stt.enter S1.bh S1.tu) (walk_keysE hq1 kr) hz (fun _ _ => trivial) (fun Xb hb => ht Xb _ hb) hm (fun Xb x σ2 acc Dd B3 H3 b hX S3 e5 => hc _ Xb x σ2 acc Dd B3 H3 b e1 e2 hX S3 e5) (fun Xb x y σ2 acc Dd B3 H3 hX S3 e5 => he _ Xb x y σ2 acc Dd B3 H3 e1 e2 hX S3 e5) hwp hup fun p us B3 H3 S3 e5 e6 r =>
      k p us _ _ (S1.call S3) e5 e6 r
/-- y = [.. for x in d ..] on one line -/
theorem s_asgLcD {Tg : Int → Hp → L2.St → L2.St → Prop} {cm : Int → Res Bool} {fm : Int → Res β} {ifs : List Expr} {ownN : List (Str × Nat)} {kvs : List (Int × α)} (C : Cok X k0) (hy : X.N[i]? = some n) (hyl : X.env.scope.names.lookup n = some .local) (hsw : swapsWith (.ListComp elt [⟨tg, it, ifs, 0⟩] scope pos) (some (.Name n pos')) p.line X.env = pure true) (S1 : Stt E own B H)
    (ok : BlkOk X.N X.env.scope scope ownN) (hit : EvK X B H σ it R kvs)
    (ht : ∀ Xb Eb, Blk X scope Xb → TgOk Xb Eb tg rInt Tg) (hm : mfM cm fm (kvs.map (·.1)) = .ok ys)
    (hc : ∀ (Eb : Ent) Xb x σ2 acc Dd B3 H3 b, Ex B Eb.B0 → Ex H Eb.H0 → Blk X scope Xb → Stt Eb [(Dd, .lst acc)] B3 H3 → Ex Eb.B0 B3 → Tg x B3 (wipe σ (ownN.map (·.2))) σ2 → cm x = .ok b → EvTs Xb Eb [(Dd, .lst acc)] B3 H3 σ2 ifs b)
    (he : ∀ (Eb : Ent) Xb x y σ2 acc Dd B3 H3, Ex B Eb.B0 → Ex H Eb.H0 → Blk X scope Xb → Stt Eb [(Dd, .lst acc)] B3 H3 → Ex Eb.B0 B3 → Tg x B3 (wipe σ (ownN.map (·.2))) σ2 → cm x = .ok true → fm x = .ok y → EvE Xb Eb [(Dd, .lst acc)] B3 H3 σ2 elt S y)
    (hwp : ∀ x B3 σ2, Tg x B3 (wipe σ (ownN.map (·.2))) σ2 → wipe σ2 (ownN.map (·.2)) = wipe σ (ownN.map (·.2)))
    (hup : ∀ x B3 B4 σ2, Tg x B3 (wipe σ (ownN.map (·.2))) σ2 → Ex B3 B4 → Tg x B4 (wipe σ (ownN.map (·.2))) σ2)
    (kt : ∀ p vs B' H', Stt E ((p, .lst vs) :: own) B' H' → Ex B B' → Paired (S.r B') vs ys → WSs X rest D (σ.set i (some (.ref p))) H')
    (hs : ∀ x, foldedSetIterable it X.env x = pure x := by intro _; rfl) : WSs X (.Assign [.Name n pos'] (.ListComp elt [⟨tg, it, ifs, 0⟩] scope pos) p :: rest) D σ H := by
  obtain ⟨q, ws, hv, hq1, hp⟩ := hit
  have kr := keys_rel hp
  intro pins s I
  have sz := Szd.of I
  revert pins s
  have hz : (kvs.map (·.1)).length ≤ sizeLine := by
    have := sz.2.2.1 _ _ hq1
    rw [List.length_map, ← plen hp]
    exact this
  show WSs X _ D σ H
  rcases hq1 with hq1 | ⟨ob, hq1⟩
  · refine WSs.cons (ps_lock (ps_lcB C hy hyl hsw (pi_keys peW) ok hs)) ⟨q, .dK ws, hq1, trivial, fun ob => ?_⟩
    refine hv _ (fun a ys h => ?_) _ ⟨q, ob, rfl, .inl ⟨ws, upd_same, ?_⟩⟩
    · rw [upd_ne fun z => by rw [z, hq1] at h; cases h]
      exact h
    · have eb := lk_exB (ob := ob) S1 hq1
      have eh := lk_exH (ob := ob) hq1
      refine lc_read (Q := fun v H1 => H1 q = some (.frz ob (.dK ws)) ∧ WSs X rest D (σ.set i (some v)) (upd H1 q (.dK ws))) (lk_enter S1 hq1) (walk_keysE upd_same kr) hz (fun _ _ => trivial) (fun Xb hb => ht Xb _ hb) hm (fun Xb x σ2 acc Dd B3 H3 b hX S3 e5 => hc _ Xb x σ2 acc Dd B3 H3 b eb eh hX S3 e5) (fun Xb x y σ2 acc Dd B3 H3 hX S3 e5 => he _ Xb x y σ2 acc Dd B3 H3 eb eh hX S3 e5) hwp hup fun p us B3 H3 S3 e5 e6 r => ?_
      have T := lk_back S1 hq1 S3
      exact ⟨S3.h0 _ _ upd_same, kt p us _ _ (S1.call T) T.b0.ex (pimp r fun _ _ z => S.mono (lk_exBack S1 hq1 S3) z)⟩
  · refine WSs.cons (ps_lcB C hy hyl hsw (pi_keys peW) ok hs) (hv _ (fun _ _ h => h) _ ⟨q, ob, rfl, .inl ⟨ws, hq1, ?_⟩⟩)
    exact lc_read (Q := fun v H1 => WSs X rest D (σ.set i (some v)) H1) (Stt.enter S1.bh S1.tu) (walk_keysE hq1 kr) hz (fun _ _ => trivial) (fun Xb hb => ht Xb _ hb) hm (fun Xb x σ2 acc Dd B3 H3 b hX S3 e5 => hc _ Xb x σ2 acc Dd B3 H3 b (Ex.refl _) (Ex.refl _) hX S3 e5) (fun Xb x y σ2 acc Dd B3 H3 hX S3 e5 => he _ Xb x y σ2 acc Dd B3 H3 (Ex.refl _) (Ex.refl _) hX S3 e5) hwp hup fun p us B3 H3 S3 e5 e6 r =>
      kt p us _ _ (S1.call S3) e5 r
end
end Sg

namespace Sg
open PySem PySem.Spec PyProof.Rows L2
/-! list(reversed(x)): a list's own iterator taken up by list -/
structure SelfSrc (prog : Program) (w : World) (T : String) (it d : Addr) (n : Nat) (P : Nat → Value → Prop) (OK : Heap → Prop) : Prop where
  ty : ∀ s : Shared, OK s.heap → s.TypeIs (.ref it) T
  there : ∀ h : Heap, OK h → it < h.objs.size ∧ d < h.objs.size
  keep : ∀ h h' : Heap, OK h → (∀ b, b = it ∨ b = d → ∀ o, h.get? b = some o → h'.get? b = some o) → OK h'
  notList : (Value.type T == Value.type "list") = false
  notTuple : (Value.type T == Value.type "tuple") = false
  hint : ∀ (A : Around) (E : Value → Shared → Prop) (s : Shared) (Q : Bool → Shared → Prop), OK s.heap → (∀ b tk, Q b { s with toks := tk }) → wpAny (model prog w) A (Builtin.List.listLengthHint (.ref it)) Q E s
  iter : ∀ (A : Around) (E : Value → Shared → Prop) (s : Shared) (Q : Value → Shared → Prop), OK s.heap → Q (.ref it) s → wpAny (model prog w) A (pyIter (.ref it)) Q E s
  walk : ∀ A : Around, A.handled = none → ∃ (St : Nat → Heap → Prop), Walks prog w A it [it, d] [it] n P St ∧ ∀ h, OK h → St 0 h
section
variable {prog : Program} {w : World} {A : Around} {E : Value → Shared → Prop} {s : Shared} {T : String} {it d : Addr} {n : Nat} {P : Nat → Value → Prop} {OK : Heap → Prop}
theorem self_extend {R : Result → Shared → Prop} (K : SelfSrc prog w T it d n P OK) (hh : A.handled = none) (hok : OK s.heap) (S : Addr) (hSr : S ≠ it) (hSd : S ≠ d) (res : Value) (c₀ : Nat) (hS : s.heap.get? S = some { cls := .type "list", data := .seq #[] c₀ })
    (hR : ∀ h' tk acc' c', (∀ b o, b ≠ S → b ≠ it → s.heap.get? b = some o → h'.get? b = some o) → h'.get? S = some { cls := .type "list", dict := none, data := .seq acc' c', slots := #[] } → ItemsOf P acc' n → R (.ok (.ret res)) { s with heap := h', toks := tk }) (hn : n ≤ sizeLine) :
    wpAny (model prog w) A.in1 (Builtin.List.listExtendWith (.ref S) (.ref it) res)
      (fun fin s' => match fin with | .done f => R (.ok f) s' | .again c' => c'.quiet = true ∧ codeAny (model prog w) A c' R s') (fun e s' => R (.error e) s') s := by
  have hSf : S ∉ [it, d] := by simp only [List.mem_cons, List.not_mem_nil, or_false, not_or]; exact ⟨hSr, hSd⟩
  obtain ⟨St, W, st⟩ := K.walk A.in1 hh
  unfold Builtin.List.listExtendWith
  refine wpAny_bind (wpAny_typeOf (T := T) (K.ty s hok) ?_)
  have h1 : Builtin.List.listSameRef (.ref S) (.ref it) = false := by simp [Builtin.List.listSameRef, hSr]
  simp only [h1, K.notList, K.notTuple, Bool.or_false, Bool.false_eq_true, if_false]
  have key : ∀ (h : Heap) (c₁ tk : Nat), OK h → (∀ b o, b ≠ S → s.heap.get? b = some o → h.get? b = some o) →
      h.get? S = some { cls := .type "list", data := .seq #[] c₁ } → codeAny (model prog w) A (.builtin "list.extend.loop" ⟨[.ref S, .ref it, res], []⟩) R { s with heap := h, toks := tk } := by
    intro h c₁ tk hst hk hS₁
    refine codeAny_extend_loopS W.toS hn S hSf res n 0 _ #[] c₁ rfl (Nat.zero_le _) (st _ hst) hS₁ (ItemsOf.nil _) fun s' acc' c' hm hS' hacc => ?_
    rw [Moved.eq_with hm]
    refine hR s'.heap s'.toks acc' c' (fun b o hb hb2 e => hm.heap b o (fun hmem => ?_) (hk b o hb e)) hS' hacc
    rcases List.mem_cons.mp hmem with e' | hmem
    · exact hb e'
    · exact hb2 (List.mem_singleton.mp hmem)
  refine wpAny_bind (K.iter _ _ _ _ hok ?_)
  refine wpAny_bind (wpAny_holding (K.hint _ _ _ _ hok fun bb tk => ?_))
  refine wpAny_ite_split (fun _ => ?_) (fun _ => wpAny_pure ⟨plainId_quiet PySem.F.plain_extend_loop _, key _ c₀ _ hok (fun b o _ e => e) hS⟩)
  refine wpAny_bind (wpAny_rule ?_)
  refine wpAny_bind ?_
  show wpAny _ _ (updateSeq S (·.push .none) >>= fun _ => updateSeq S (·.pop)) _ _ _
  refine wpAny_bind (wpAny_updateSeq (s := { s with toks := tk }) hS rfl ?_)
  have hS₂ := Heap.get?_update_self (Obj.mapSeq (·.push Value.none)) hS rfl
  refine wpAny_updateSeq (hz := by seq_fits) hS₂ rfl ?_
  have hS₃ := Heap.get?_update_self (Obj.mapSeq (·.pop)) hS₂ rfl
  refine wpAny_pure ⟨plainId_quiet PySem.F.plain_extend_loop _, key _ _ _ (K.keep _ _ hok fun b hb o e => ?_) (fun b o hb e => ?_) hS₃⟩
  · have hbS : b ≠ S := by rcases hb with rfl | rfl; exact hSr.symm; exact hSd.symm
    exact (Heap.get?_update_other _ _ (Ne.symm hbS)).trans ((Heap.get?_update_other _ _ (Ne.symm hbS)).trans e)
  · exact (Heap.get?_update_other _ _ (Ne.symm hb)).trans ((Heap.get?_update_other _ _ (Ne.symm hb)).trans e)
theorem self_init {R : Result → Shared → Prop} (K : SelfSrc prog w T it d n P OK) (hh : A.handled = none) (hok : OK s.heap) (S : Addr) (hSr : S ≠ it) (hSd : S ≠ d) (hS : s.heap.get? S = some { cls := .type "list", data := .seq #[] })
    (hR : ∀ h' tk acc' c', (∀ b o, b ≠ S → b ≠ it → s.heap.get? b = some o → h'.get? b = some o) → h'.get? S = some { cls := .type "list", dict := none, data := .seq acc' c', slots := #[] } → ItemsOf P acc' n → R (.ok (.ret .none)) { s with heap := h', toks := tk }) (hn : n ≤ sizeLine) :
    wpAny (model prog w) A.in1 (Builtin.«list.__init__» ⟨[.ref S, .ref it], []⟩)
      (fun fin s' => match fin with | .done f => R (.ok f) s' | .again c' => c'.quiet = true ∧ codeAny (model prog w) A c' R s') (fun e s' => R (.error e) s') s := by
  show wpAny _ _ (do let old ← Builtin.List.listItems (.ref S); Builtin.List.listUpdate (.ref S) (fun _ => #[]); letGo old.toList.reverse; Builtin.List.listExtendWith (.ref S) (.ref it) .none) _ _ s
  refine wpAny_bind ?_
  unfold Builtin.List.listItems
  refine wpAny_bind (wpAny_seqItems hS rfl (wpAny_pure ?_))
  show wpAny _ _ (updateSeq S (fun _ => #[]) >>= fun _ => letGo (#[] : Array Value).toList.reverse >>= fun _ => Builtin.List.listExtendWith (.ref S) (.ref it) .none) _ _ s
  refine wpAny_bind (wpAny_updateSeq hS rfl ?_)
  have hS2 := Heap.get?_update_self (Obj.mapSeq (fun _ => (#[] : Array Value))) hS rfl
  have oth : ∀ b o, b ≠ S → s.heap.get? b = some o → (s.heap.update S (Obj.mapSeq (fun _ => (#[] : Array Value)))).get? b = some o :=
    fun b o hb e => (Heap.get?_update_other _ _ (Ne.symm hb)).trans e
  refine wpAny_bind (wpAny_letGo ?_)
  refine self_extend K hh (K.keep _ _ hok fun b hb o e => oth b o (by rcases hb with rfl | rfl; exact hSr.symm; exact hSd.symm) e) S hSr hSd .none _ hS2 (fun h' tk acc' c' hk hS' hacc => ?_) hn
  exact hR h' tk acc' c' (fun b o hb hb2 e => hk b o hb hb2 (oth b o hb e)) hS' hacc
theorem self_call {Q : Value → Shared → Prop} (K : SelfSrc prog w T it d n P OK) (hh : A.handled = none) (hok : OK s.heap) (hn : n ≤ sizeLine)
    (hQ : ∀ h' tk acc' c', (∀ b o, b ≠ it → s.heap.get? b = some o → h'.get? b = some o) → h'.get? s.heap.objs.size = some { cls := .type "list", dict := none, data := .seq acc' c', slots := #[] } → ItemsOf P acc' n → Q (.ref s.heap.objs.size) { s with heap := h', toks := tk }) :
    wpAny (model prog w) A (call (.type "list") [.ref it]) Q E s := by
  refine callType_codes (Q₁ := fun obj s₁ => obj = .ref s.heap.objs.size ∧ s₁ = { s with heap := s.heap.push { cls := .type "list", data := .seq #[] } }) PySem.F.called_list (PySem.F.typeCall_list_1 _) PySem.F.entry_list_init
    (code_list_new _ ⟨rfl, rfl⟩) fun obj s₁ h₁ => ?_
  obtain ⟨rfl, rfl⟩ := h₁
  have hS : (s.heap.push { cls := .type "list", data := .seq #[] }).get? s.heap.objs.size = some { cls := .type "list", data := .seq #[] } := Heap.get?_push_size _ rfl
  have hlt := K.there _ hok
  refine ⟨⟨_, hS, rfl⟩, PySem.F.args_list_init_2 _ _, self_init (A := A.in1) K hh (K.keep _ _ hok fun b _ o e => Heap.get?_push_of_some _ e) _ (Nat.ne_of_gt hlt.1) (Nat.ne_of_gt hlt.2) hS (fun h' tk acc' c' hk hS' hacc => ?_) hn⟩
  exact ⟨rfl, hQ h' tk acc' c' (fun b o hb e => hk b o (Nat.ne_of_lt (Heap.lt_size e)) hb (Heap.get?_push_of_some _ e)) hS' hacc⟩
theorem src_lri {l : Addr} {items : Array Value} (hne : l ≠ it) : SelfSrc prog w "list_reverseiterator" it l items.size (fun i v => items[items.size - 1 - i]? = some v) (fun h => h.IsRevIter it l ((items.size : Int) - 1) ∧ h.IsList l items) where
  ty := fun s h => h.1.typeIs
  there := fun h x => ⟨let ⟨_, e, _⟩ := x.1; Heap.lt_size e, let ⟨_, e, _⟩ := x.2; Heap.lt_size e⟩
  keep := fun h h' x k => ⟨x.1.at fun o e => k it (.inl rfl) o e, x.2.at fun o e => k l (.inr rfl) o e⟩
  notList := by decide
  notTuple := by decide
  hint := fun A E s Q x q => by
    have hT := x.1.typeIs
    unfold Builtin.List.listLengthHint
    refine wpAny_bind (wpAny_specialOf hT RT.nolen_lri ?_)
    show wpAny _ A (specialOf (Value.ref it) (Str.ofString "__length_hint__") >>= _) _ _ _
    refine wpAny_bind (wpAny_specialOf hT RT.hint_lri ?_)
    generalize hid : ("list_reverseiterator.__length_hint__" : String) = id0
    wp_delta
    rw [show splitId id0 = some ("list_reverseiterator", "__length_hint__") from by subst hid; decide +kernel]
    subst hid
    refine wpAny_bind (wpAny_isInstance (b := true) hT (by rw [isSubtype_type]; kernel_rfl) ?_)
    exact wpAny_pure (q false s.toks)
  iter := fun A E s Q x q => wpAny_pyIter_revIter x.1 q
  walk := fun A hh => ⟨_, Walks.listRev hh it l hne items, fun h x => ⟨Nat.zero_le _, by rw [show ((items.size : Nat) : Int) - 1 - ((0 : Nat) : Int) = (items.size : Int) - 1 from by omega]; exact x.1, x.2⟩⟩
theorem nolen_rt : typeLookup (.type "reversed") "__len__" = pure none := by rw [typeLookup_type, builtinLookup_eq_fast]; kernel_rfl
theorem hint_rt : typeLookup (.type "reversed") "__length_hint__" = pure (some (.builtin "reversed.__length_hint__")) := by rw [typeLookup_type, builtinLookup_eq_fast]; kernel_rfl
theorem slot_rt_hint : PySem.Slot "reversed" "__length_hint__" "reversed.__length_hint__" :=
  .of (owner := "reversed") (n := "__length_hint__") (by rw [typeLookup_type, builtinLookup_eq_fast]; kernel_rfl) (by decide +kernel) (by decide +kernel) (by decide +kernel)
    (by first | exact .inl (by decide +kernel) | exact .inr (by decide +kernel)) (by rw [isSubtype_type]; kernel_rfl)
theorem entry_rt_hint : entryFor table "reversed.__length_hint__" = some Builtin.«reversed.__length_hint__» := entryFor_of_tree (by kernel_rfl)
theorem args_rt_hint (a : Value) : argsOk "reversed.__length_hint__" ⟨[a], []⟩ := by
  unfold argsOk; rw [signature?_of (id := "reversed.__length_hint__") (n := ['_', '_', 't', 'n', 'i', 'h', '_', 'h', 't', 'g', 'n', 'e', 'l', '_', '_']) (o := ['d', 'e', 's', 'r', 'e', 'v', 'e', 'r']) (by kernel_rfl) RT.owner_rt]; kernel_rfl
theorem fits63 {n : Nat} (h : n ≤ sizeLine) : Builtin.List.listFitsIndex (n : Int) = true ∧ Builtin.List.listTooLong (n : Int).toNat = false := by
  rw [sizeLine_eq] at h
  refine ⟨?_, ?_⟩
  · unfold Builtin.List.listFitsIndex
    rw [Bool.and_eq_true]
    exact ⟨decide_eq_true (by omega), decide_eq_true (by omega)⟩
  · unfold Builtin.List.listTooLong
    rw [sizeLine_eq]
    exact decide_eq_false (by omega)
theorem walks_rt {t : Addr} {items : Array Value} (hh : A.handled = none) (hne : t ≠ it) (hn : items.size ≤ sizeLine) :
    Walks prog w A it [it, t] [it] items.size (fun i v => items[items.size - 1 - i]? = some v) (fun i h => i ≤ items.size ∧ RT.IsRt h it t ((items.size : Int) - 1 - (i : Int)) ∧ IsTup h t items) where
  sub := fun b hb => by simp at hb; simp [hb]
  frame := fun _ _ _ x hk => ⟨x.1, x.2.1.at fun o e => hk it (by simp) o e, (let ⟨o, ho, r⟩ := x.2.2; ⟨o, hk t (by simp) o ho, r⟩)⟩
  item := fun i s Q E hi x hQ => by
    have e : (items.size : Int) - 1 - (i : Int) = ((items.size - 1 - i : Nat) : Int) := by omega
    have hit := x.2.1
    rw [e] at hit
    have hx : items[items.size - 1 - i]? = some (items[items.size - 1 - i]'(by omega)) := Array.getElem?_eq_getElem (by omega)
    refine RT.next_rt_item hit x.2.2 hx hn fun h' hit' hs' => ?_
    have e2 : ((items.size - 1 - i : Nat) : Int) - 1 = (items.size : Int) - 1 - ((i + 1 : Nat) : Int) := by omega
    rw [e2] at hit'
    exact hQ _ h' _ hx ⟨hi, hit', (let ⟨o, ho, r⟩ := x.2.2; ⟨o, (hs'.2 t hne).trans ho, r⟩)⟩ fun b o hb eo => hs'.extBut b o (fun h => hb (by simp [h])) eo
  done := fun s Q E x hQ => by
    have e : (items.size : Int) - 1 - (items.size : Int) = -1 := by omega
    have hit := x.2.1
    rw [e] at hit
    exact RT.next_rt_end hh hit fun h' he' => hQ h' s.toks fun b o hb eo => he' b o (fun h => hb (by simp [h])) eo
  self := fun _ _ _ _ x hQ => RT.iter_rt x.2.1 hQ
theorem src_rt {t : Addr} {items : Array Value} (hne : t ≠ it) (hn : items.size ≤ sizeLine) : SelfSrc prog w "reversed" it t items.size (fun i v => items[items.size - 1 - i]? = some v) (fun h => RT.IsRt h it t ((items.size : Int) - 1) ∧ IsTup h t items) where
  ty := fun s h => h.1.typeIs
  there := fun h x => ⟨let ⟨_, e, _⟩ := x.1; Heap.lt_size e, let ⟨_, e, _⟩ := x.2; Heap.lt_size e⟩
  keep := fun h h' x k => ⟨x.1.at fun o e => k it (.inl rfl) o e, (let ⟨o, ho, r⟩ := x.2; ⟨o, k t (.inr rfl) o ho, r⟩)⟩
  notList := by decide
  notTuple := by decide
  hint := fun A E s Q x q => by
    have hT := x.1.typeIs
    have h1 := x.1
    unfold Builtin.List.listLengthHint
    refine wpAny_bind (wpAny_specialOf hT nolen_rt ?_)
    show wpAny _ A (specialOf (Value.ref it) (Str.ofString "__length_hint__") >>= _) _ _ _
    refine wpAny_bind (wpAny_specialOf hT hint_rt ?_)
    generalize hid : ("reversed.__length_hint__" : String) = id0
    wp_delta
    rw [show splitId id0 = some ("reversed", "__length_hint__") from by subst hid; decide +kernel]
    subst hid
    refine wpAny_bind (wpAny_isInstance (b := true) hT (by rw [isSubtype_type]; kernel_rfl) ?_)
    refine wpAny_ite_split (fun z => absurd z (by decide)) fun _ => ?_
    try dsimp only
    refine wpAny_ite_split (fun z => ?_) fun _ => ?_
    · exact absurd z (by decide)
    refine wpAny_bind (wpAny_rule ?_)
    try dsimp only
    refine wpAny_bind (wpAny_of_eq (slot_rt_hint.bind _) ?_)
    try dsimp only
    refine wpAny_bind (wpAny_attempt ?_)
    refine wpAny_call_entry slot_rt_hint hT entry_rt_hint ?_ (args_rt_hint _)
    obtain ⟨o, ho, hc, hd⟩ := id h1
    unfold Builtin.«reversed.__length_hint__»
    refine wpAny_bind (wpAny_of_eq (a := Value.ref it) rfl ?_)
    try dsimp only
    refine wpAny_bind (wpAny_field ho hd (x := .ref t) rfl ?_)
    try dsimp only
    refine wpAny_ite_split (fun z => absurd z (by simp)) fun _ => ?_
    try dsimp only
    refine wpAny_bind (PyProof.Rows.len_tuple x.2 (by rw [sizeLine_eq] at hn; have := line63; omega) ?_)
    refine wpAny_bind (wpAny_of_eq (a := some ((items.size : Nat) : Int)) rfl ?_)
    try dsimp only
    refine wpAny_bind (wpAny_field (s := { s with toks := _ }) ho hd (x := rawInt ((items.size : Int) - 1)) rfl ?_)
    show wpAny _ _ (if (items.size : Int) < (items.size : Int) - 1 + 1 then _ else _) _ _ _
    rw [if_neg (by omega)]
    refine wpAny_bind (wpAny_mkInt ?_)
    refine wpAny_pure ?_
    refine ⟨_, rfl, ?_⟩
    try dsimp only
    have en : (items.size : Int) - 1 + 1 = (items.size : Int) := by omega
    rw [en]
    generalize hk : ((items.size : Nat) : Int) = kk
    show wpAny _ _ (asInt? (.int kk _) >>= _) _ _ _
    refine wpAny_bind (wpAny_of_eq (a := some kk) rfl ?_)
    subst hk
    try dsimp only
    obtain ⟨f1, f2⟩ := fits63 hn
    rw [f1, f2, if_neg (by decide), if_neg (Int.not_lt.mpr (Int.natCast_nonneg _)), if_neg (by decide)]
    exact wpAny_pure (q _ _)
  iter := fun A E s Q x q => RT.iter_rt x.1 q
  walk := fun A hh => ⟨_, walks_rt hh hne hn, fun h x => ⟨Nat.zero_le _, by rw [show ((items.size : Nat) : Int) - 1 - ((0 : Nat) : Int) = (items.size : Int) - 1 from by omega]; exact x.1, x.2⟩⟩
end
def tListRev (K : PySem.W.Frag) (te : TE) : TE := fun σ H Q => te σ H fun v H1 => ∃ (a : Addr) (xs : List V), v = .ref a ∧ (SqL K H1 a xs ∨ SqT K H1 a xs) ∧ ∀ q, H1 q = none → Q (.ref q) (upd H1 q (.lst xs.reverse))
section
variable {X : Cx}
theorem pe_listRev {e : Expr} {te : TE} {p p2 pos pos2 : Pos} (hc : X.calm = true) (hg : Gl X "list") (hm : X.mg "list" = none) (hg2 : Gl X "reversed") (hm2 : X.mg "reversed" = none) (he : PE X e te)
    (hs : starEach [e] X.env = (false, eval e X.env) :: starEach [] X.env := by rfl)
    (hs2 : starEach [.Call (.Name "reversed" p2) [e] [] pos2] X.env = (false, eval (.Call (.Name "reversed" p2) [e] [] pos2) X.env) :: starEach [] X.env := by rfl) :
    PE X (.Call (.Name "list" p) [.Call (.Name "reversed" p2) [e] [] pos2] [] pos) (tListRev X.K te) := by
  refine ⟨fun pins s σ H Q I h => ?_⟩
  refine Call_ (ld_blt I hg hm (show bootBuiltins "list" = some (.type "list") from by decide +kernel) (PyProof.Rows.callWith_type1 (args_cons (Call_ (ld_blt I hg2 hm2 PyProof.Rows.boot_reversed (PyProof.Rows.callWith_type1 (args_cons (thn (he.run pins s σ H _ I h) fun u s1 ⟨v, H1, I1, r1, q1⟩ => args_nil ?_) hs) hs rfl))) hs2) hs2 rfl))
  obtain ⟨a, xs, ev, hq, q⟩ := q1
  subst ev
  obtain rfl : u = Value.ref a := r1
  have fin : ∀ (s2 : Shared) (T : String) (n : Nat) (its : List Value) (OK : Heap → Prop) (it : Addr), Vals xs its → n = its.toArray.size → n ≤ sizeLine → Inv X pins σ H1 s2 → FpOk X pins H1 it → OK s2.heap →
      SelfSrc X.prog X.w T it a n (fun i v => its.toArray[its.toArray.size - 1 - i]? = some v) OK →
      wpAny (model X.prog X.w) X.A (call (.type "list") [.ref it]) (EP X pins σ Q) X.xe s2 := by
    intro s2 T n its OK it rv en hn I2 hf ok src
    refine self_call src (I1.ok.hd hc) ok hn fun h' tk acc c' hk hS hacc => ?_
    subst en
    have hT : H1 s2.heap.objs.size = none := I2.hok.fresh (Nat.le_refl _)
    refine ⟨.ref s2.heap.objs.size, _, I2.turnedNew (ch := [it]) (fun b o hb e => hk b o (by simpa using hb) e) (fun b hb => by rw [List.mem_singleton.mp hb]; exact hf) (Nat.le_refl _) (show ObjOk X.prog X.w _ _ _ (.lst xs.reverse) from ⟨by rw [List.length_reverse, rv.length, ← List.size_toArray]; exact hn, acc.toList, c', RT.vals_rev rv hacc, ?_⟩), rfl, q _ hT⟩
    rw [Array.toArray_toList]
    exact hS
  rcases hq with hq | hq
  · obtain ⟨its, rv, p', hz⟩ := I1.list hq
    refine call_reversed_list p'.isList (args_nil ?_)
    have k0 : ∀ b o, s1.heap.get? b = some o → (s1.heap.push (revObj a ((its.toArray.size : Int) - 1))).get? b = some o := fun b o e => Heap.get?_push_of_some _ e
    obtain ⟨ol, hol, _⟩ := id p'.isList
    have hne : a ≠ s1.heap.objs.size := Nat.ne_of_lt (Heap.lt_size hol)
    exact fin { s1 with heap := s1.heap.push (revObj a ((its.toArray.size : Int) - 1)) } _ _ its _ _ rv rfl (by rw [List.size_toArray, ← rv.length]; exact hz) (I1.kept (t' := s1.toks) k0) (I1.fpOk (H' := H1) (b := s1.heap.objs.size) (Nat.le_refl _) (I1.hok.fresh (Nat.le_refl _))) ⟨⟨_, Heap.get?_push_size _ rfl, rfl, rfl⟩, p'.isList.push _⟩ (src_lri hne)
  · obtain ⟨its, rv, p', hz⟩ := I1.tuple hq
    have hn := line63
    refine RT.call_reversed_tup p' (fun A E Q k => PyProof.Rows.len_tuple p' (by simp only [List.size_toArray] <;> (have := rv.length; omega)) k) (args_nil ?_)
    have k0 : ∀ b o, s1.heap.get? b = some o → (s1.heap.push (RT.rtObj a ((its.toArray.size : Int) - 1))).get? b = some o := fun b o e => Heap.get?_push_of_some _ e
    obtain ⟨ol, hol, _⟩ := id p'
    have hne : a ≠ s1.heap.objs.size := Nat.ne_of_lt (Heap.lt_size hol)
    have hz2 : its.toArray.size ≤ sizeLine := by rw [List.size_toArray, ← rv.length]; exact hz
    exact fin { s1 with heap := s1.heap.push (RT.rtObj a ((its.toArray.size : Int) - 1)), toks := s1.toks + 1 + 1 } _ _ its _ _ rv rfl hz2 (I1.kept (t' := s1.toks + 1 + 1) k0) (I1.fpOk (H' := H1) (b := s1.heap.objs.size) (Nat.le_refl _) (I1.hok.fresh (Nat.le_refl _))) ⟨⟨_, Heap.get?_push_size _ rfl, rfl, rfl⟩, p'.push _⟩ (src_rt hne hz2)
end
end Sg

namespace Sg
open PySem PySem.Spec PyProof.Rows L2
section
variable {X Xb : Cx} {E : Ent} {own new own' : Own} {B H B' H' : Hp} {σ : L2.St} {α β γ δ τ ρ ρ' : Type} {R : Rel α} {S : Rel β} {T : Rel γ} {U : Rel δ} {e a b c d o it tg : Expr} {x : α} {y : β} {p pos pos' apos : Pos} {i j k k0 : Nat} {z w : Bool} {xs : List α} {ys : List β} {es : List Expr}
variable {n m : Str} {rest body other : List Stmt} {D : Ends} {P : ρ → Prop} {Er : Err → Prop} {scope sc : Scope} {N : List Str} {t : List (Str × NameKind)} {kd : NameKind}
/-! list(reversed(x)) -/
theorem el_listRL [Imm R] {p2 pos2 : Pos} (hc : X.calm = true) (hg : Gl X "list") (hm : X.mg "list" = none) (hg2 : Gl X "reversed") (hm2 : X.mg "reversed" = none) (ha : EvB X E own B H σ a (rLst R) xs) (hs : St1 X a := by rfl)
    (hs2 : starEach [.Call (.Name "reversed" p2) [a] [] pos2] X.env = (false, eval (.Call (.Name "reversed" p2) [a] [] pos2) X.env) :: starEach [] X.env := by rfl) : EvL X E own B H σ (.Call (.Name "list" p) [.Call (.Name "reversed" p2) [a] [] pos2] [] pos) R xs.reverse := fun B1 H1 S1 e1 e2 Q k =>
  WE.of (pe_listRev hc hg hm hg2 hm2 peW hs hs2) (ha B1 H1 S1 e1 e2 _ fun v B2 H2 S2 e3 e4 r => by
    obtain ⟨q, vs, h1, h2, h3⟩ := r
    exact ⟨q, vs, h1, .inl (.inl h2), fun l hl => k l _ B2 _ (S2.alloc hl fun ys z => by cases z) e3 (e4.trans (Sx.new hl).ex) (prev (pimp h3 fun _ _ z => Imm.imm S2.tu z))⟩)
theorem el_listRT [Imm R] {p2 pos2 : Pos} (hc : X.calm = true) (hg : Gl X "list") (hm : X.mg "list" = none) (hg2 : Gl X "reversed") (hm2 : X.mg "reversed" = none) (ha : EvB X E own B H σ a (rTup R) xs) (hs : St1 X a := by rfl)
    (hs2 : starEach [.Call (.Name "reversed" p2) [a] [] pos2] X.env = (false, eval (.Call (.Name "reversed" p2) [a] [] pos2) X.env) :: starEach [] X.env := by rfl) : EvL X E own B H σ (.Call (.Name "list" p) [.Call (.Name "reversed" p2) [a] [] pos2] [] pos) R xs.reverse := fun B1 H1 S1 e1 e2 Q k =>
  WE.of (pe_listRev hc hg hm hg2 hm2 peW hs hs2) (ha B1 H1 S1 e1 e2 _ fun v B2 H2 S2 e3 e4 r => by
    obtain ⟨q, vs, h1, h2, h3⟩ := r
    exact ⟨q, vs, h1, .inr (SqT.of h2), fun l hl => k l _ B2 _ (S2.alloc hl fun ys z => by cases z) e3 (e4.trans (Sx.new hl).ex) (prev (pimp h3 fun _ _ z => Imm.imm S2.tu z))⟩)
/-! xs[::-1] -/
theorem el_rev [Imm R] {p1 p2 p3 : Pos} {k1} (ha : EvB X E own B H σ a (rLst R) xs) : EvL X E own B H σ (.Subscript a (.Slice none none (some (.UnaryOp .USub (.Constant (.int 1) k1 p1) p2)) p3) pos) R xs.reverse := fun B1 H1 S1 e1 e2 Q k =>
  WE.of (pe_revL peW) (ha B1 H1 S1 e1 e2 _ fun v B2 H2 S2 e3 e4 r => by
    obtain ⟨q, vs, h1, h2, h3⟩ := r
    exact ⟨q, vs, h1, .inl h2, fun l hl => k l _ B2 _ (S2.alloc hl fun ys z => by cases z) e3 (e4.trans (Sx.new hl).ex) (prev (pimp h3 fun _ _ z => Imm.imm S2.tu z))⟩)
/-! range with a step above 0 -/
def rangeS (a b c : Int) : List Int := (List.range (Builtin.Range.rangeSize a b c).toNat).map fun i : Nat => a + (i : Int) * c
theorem rangeS_at {a b c : Int} {i : Nat} (h : i < (Builtin.Range.rangeSize a b c).toNat) : (rangeS a b c)[i]? = some (a + (i : Int) * c) := by
  unfold rangeS
  rw [List.getElem?_map, List.getElem?_range h]
  rfl
theorem rangeS_len (a b c : Int) : (rangeS a b c).length = (Builtin.Range.rangeSize a b c).toNat := by
  unfold rangeS
  rw [List.length_map, List.length_range]
theorem rsz_le {a b c : Int} (hc : 0 < c) (h : -8000000 ≤ a ∧ a ≤ 8000000 ∧ -8000000 ≤ b ∧ b ≤ 8000000) : (Builtin.Range.rangeSize a b c).toNat ≤ 16000001 ∧ 0 ≤ Builtin.Range.rangeSize a b c := by
  unfold Builtin.Range.rangeSize
  rw [if_pos hc]
  by_cases hl : a < b
  · rw [if_pos hl]
    have h1 : (b - a - 1) / c ≤ b - a - 1 := Int.ediv_le_self _ (by omega)
    have h2 : 0 ≤ (b - a - 1) / c := Int.ediv_nonneg (by omega) (by omega)
    omega
  · rw [if_neg hl]
    omega
theorem small_pos {a b c : Int} (hc : 0 < c) (hc' : c < 1000000) (h : -8000000 ≤ a ∧ a ≤ 8000000 ∧ -8000000 ≤ b ∧ b ≤ 8000000) : Builtin.Range.small a b c = true := by
  have q := rsz_le hc h
  unfold Builtin.Range.small
  simp only [Builtin.Range.rangeFitsLong, Bool.and_eq_true, Bool.or_eq_true, decide_eq_true_eq, beq_iff_eq, if_pos hc]
  generalize Builtin.Range.rangeSize a b c = n at q ⊢
  omega
theorem ei_r3 {tg : Expr} {lo hi st : Int} (hg : Gl X "range") (hm : X.mg "range" = none) (ha : EvB X E own B H σ a rInt lo) (hb : EvB X E own B H σ b rInt hi) (hc : EvB X E own B H σ c rInt st) (hz : -8000000 ≤ lo ∧ lo ≤ 8000000 ∧ -8000000 ≤ hi ∧ hi ≤ 8000000) (h0 : 0 < st) (h1 : st < 1000000)
    (hs : starEach [a, b, c] X.env = (false, eval a X.env) :: starEach [b, c] X.env := by rfl) (hs1 : starEach (b :: [c]) X.env = (false, eval b X.env) :: starEach [c] X.env := by rfl) (hs2 : St1 X c := by rfl) (hpl : (backTo pos (starEach [b, c] X.env)).any (·.1) = false := by rfl) : EvI X E own B H σ tg (.Call (.Name "range" p) [a, b, c] [] pos) rInt KoT (rangeS lo hi st) :=
  ⟨_, pi_range3 hg hm (pa_cons peW (pa_cons peW (pa1 hs2) hs1) hs) hs hpl, fun B1 H1 S e1 e2 Q k => ha B1 H1 S e1 e2 _ fun v B2 H2 S2 e3 e4 r => hb B2 H2 S2 (e1.trans e3) (e2.trans e4) _ fun w B3 H3 S3 e5 e6 r' => hc B3 H3 S3 ((e1.trans e3).trans e5) ((e2.trans e4).trans e6) _ fun u B4 H4 S4 e7 e8 r'' => by
    have q := rsz_le h0 hz
    refine ⟨lo, hi, st, (Builtin.Range.rangeSize lo hi st).toNat, by rw [show v = .int lo from r, show w = .int hi from r', show u = .int st from r''], ⟨by omega, by omega, small_pos h0 h1 hz, by omega⟩, k _ B4 H4 S4 ((e3.trans e5).trans e7) ((e4.trans e6).trans e8) ?_ (by rw [rangeS_len, sizeLine_eq]; omega)⟩
    refine ⟨fun i own' B' H' S' e k h => by rw [rangeS_len] at h; exact h, fun i own' B' H' S' e k h => by rw [rangeS_len] at h; exact h, fun i own' B' H' v H'' x S' e k hx hy => ?_⟩
    obtain ⟨e1, h1⟩ := hy
    subst e1
    have hl : i < (Builtin.Range.rangeSize lo hi st).toNat := by
      have := (List.getElem?_eq_some_iff.mp hx).1
      rwa [rangeS_len] at this
    rw [rangeS_at hl] at hx
    cases hx
    exact ⟨B', S', Ex.refl _, Ex.refl _, h1⟩⟩
/-! for x in reversed(list) -/
theorem walk_rev {q : Addr} {vs : List V} {Ko : Own → Prop} {K : PySem.W.Frag} (hl : ∀ own' B' H', Stt E own' B' H' → Ex B B' → Ko own' → Rd H' q (.lst vs)) (r : Paired (R.r B) vs xs) : Walk E Ko B (Itv K q vs.length) R xs.reverse := by
  have hlen := plen r
  refine ⟨fun i own' B' H' S' e k hi => ?_, fun i own' B' H' S' e k hi => by rw [List.length_reverse] at hi; show vs.length ≤ i; rw [hlen]; exact hi, fun i own' B' H' v H'' x S' e k hx hy => ?_⟩
  · rw [List.length_reverse, ← hlen] at hi
    exact ⟨hi, vs, vs[vs.length - 1 - i]'(by omega), .inl (hl own' B' H' S' e k), List.getElem?_eq_getElem _⟩
  · obtain ⟨e1, h1⟩ := hy
    subst e1
    have hi : i < xs.length := by
      have := (List.getElem?_eq_some_iff.mp hx).1
      rwa [List.length_reverse] at this
    have hv := h1 vs (.inl (hl own' B' H'' S' e k))
    obtain ⟨x', hx', rx⟩ := L2.paired_get r hv
    rw [List.getElem?_reverse hi, ← hlen, hx'] at hx
    cases hx
    exact ⟨B', S', Ex.refl _, Ex.refl _, R.mono e rx⟩
theorem ei_revE {tg : Expr} (hg : Gl X "reversed") (hm : X.mg "reversed" = none) (he : EvE X E own B H σ a (rLst R) xs) (hs : St1 X a := by rfl) : EvI X E own B H σ tg (.Call (.Name "reversed" p) [a] [] pos) R KoT xs.reverse := ⟨_, RT.pi_revA hg hm peW hs, fun B1 H1 S e1 e2 Q k => WE.sz (he B1 H1 S e1 e2 _ fun v B2 H2 S2 e3 e4 r sz => by
  obtain ⟨q, vs, h1, h2, h3⟩ := r
  subst h1
  exact ⟨q, vs, rfl, .inl ⟨.inl (S2.bh.ex.rdL h2), k _ B2 H2 S2 e3 e4 (walk_rev (fun own' B' H' S' e' _ => S'.bh.ex.rdL (e'.rdL h2)) h3) (by rw [List.length_reverse, ← plen h3]; exact sz.1 _ _ (S2.bh.ex.rdL h2))⟩⟩)⟩
theorem ei_rev0 [Imm R] {v : V} {tg : Expr} (hg : Gl X "reversed") (hm : X.mg "reversed" = none) (hp : PE X a (tVar i)) (h : σ[i]? = some (some v)) (r : (rLst R).r E.H0 v xs) (hs : St1 X a := by rfl) : EvI X E own B H σ tg (.Call (.Name "reversed" p) [a] [] pos) R KoT xs.reverse := ⟨_, RT.pi_revA hg hm peW hs, fun B1 H1 S e1 e2 Q k => by
  obtain ⟨q, vs, h1, h2, h3⟩ := r
  subst h1
  exact WE.sz (WE.of hp ⟨_, h, fun sz => ⟨q, vs, rfl, .inl ⟨.inl (S.h0.ex.rdL h2), k _ B1 H1 S (Ex.refl _) (Ex.refl _) (walk_rev (fun own' B' H' S' _ _ => S'.h0.ex.rdL h2) (pimp h3 fun _ _ z => Imm.imm (fun a ys ha => S.tu a ys (S.h0 _ _ ha)) z)) (by rw [List.length_reverse, ← plen h3]; exact sz.1 _ _ (S.h0.ex.rdL h2))⟩⟩⟩)⟩
/-! isinstance -/
class TyR (R : Rel α) (T : outParam String) : Prop where
  ty : ∀ {K : PySem.W.Frag} {H : Hp} {v : V} {x : α}, R.r H v x → TyX K H v (.type T)
instance : TyR rInt "int" := ⟨fun {K H v x} h => by rw [show v = .int x from h]; exact .base (.int _)⟩
instance : TyR rBool "bool" := ⟨fun {K H v x} h => by rw [show v = .bl x from h]; exact .base (.bl _)⟩
instance : TyR rStr "str" := ⟨fun {K H v x} h => by rw [show v = .str x from h]; exact .base (.str _)⟩
instance : TyR rNon "NoneType" := ⟨fun {K H v x} h => by rw [show v = .non from h]; exact .base .non⟩
instance : TyR (rLst R) "list" := ⟨fun {K H v x} h => by
  obtain ⟨q, vs, h1, h2 | ⟨ob, h2⟩, h3⟩ := h
  · rw [h1]; exact .base (.lst h2)
  · rw [h1]; exact .base (.frz h2)⟩
instance : TyR (rTup R) "tuple" := ⟨fun {K H v x} h => by
  obtain ⟨q, vs, h1, h2, h3⟩ := h
  rw [h1]; exact .base (.tup h2)⟩
instance : TyR (rPr R S) "tuple" := ⟨fun {K H v x} h => by
  obtain ⟨q, a, b, h1, h2, h3⟩ := h
  rw [h1]; exact .base (.tup h2)⟩
instance : TyR (rT3 R S T) "tuple" := ⟨fun {K H v x} h => by
  obtain ⟨q, a, b, c, h1, h2, h3⟩ := h
  rw [h1]; exact .base (.tup h2)⟩
instance : TyR (rT4 R S T U) "tuple" := ⟨fun {K H v x} h => by
  obtain ⟨q, a, b, c, d, h1, h2, h3⟩ := h
  rw [h1]; exact .base (.tup h2)⟩
instance : TyR (rDI R) "dict" := ⟨fun {K H v x} h => by
  obtain ⟨q, ws, h1, h2 | ⟨ob, h2⟩, h3⟩ := h
  · rw [h1]; exact .base (.dK h2)
  · rw [h1]; exact .fDict h2⟩
theorem ev_isi {tn cn : String} {z : Bool} {cs : Str} {p2 : Pos} [ty : TyR R tn] (hg : Gl X "isinstance") (hm : X.mg "isinstance" = none) (hgc : Gl X cs) (hmc : X.mg cs = none) (hv : bootBuiltins cs = some (.type cn)) (ha : EvB X E own B H σ a R x) (hk : kitB tn cn = some z)
    (hn : cs ≠ "__name__" := by decide) (hd : (cs == ("__debug__" : Str)) = false := by decide)
    (hs : starEach (a :: [.Name cs p2]) X.env = (false, eval a X.env) :: starEach [.Name cs p2] X.env := by rfl) (hs2 : St1 X (.Name cs p2) := by rfl) (hpl : (backTo pos (starEach [.Name cs p2] X.env)).any (·.1) = false := by rfl) :
    EvB X E own B H σ (.Call (.Name "isinstance" p) [a, .Name cs p2] [] pos) rBool z := fun B1 H1 S1 e1 e2 Q k =>
  WE.of (pe_callB call_isi hg hm (by decide +kernel) (pa_cons peW (pa_cons (pe_bltn (v := .ty cn) hgc hmc hv rfl hn hd) pa_nil hs2) hs) (he := hs) (hpl := hpl)) (ha B1 H1 S1 e1 e2 _ fun v B2 H2 S2 e3 e4 r => ⟨v, .ty cn, .type tn, .type cn, z, rfl, .ty cn, ty.ty r, kit_ty hk, k _ B2 H2 S2 e3 e4 rfl⟩)
/-! is True, is False -/
theorem op_isIB : OpR X (compareOp .Is) (fun x y H Q => ∃ (i : Int) (b : Bool), x = .int i ∧ y = .bl b ∧ Q (.bl false) H) := by
  intro pins s σ H x y v u Q I rx ry h
  obtain ⟨i, b, rfl, rfl, q⟩ := h
  obtain ⟨t, rfl⟩ := rx
  cases (show u = Value.bool b from ry)
  exact wpAny_is_other rfl (fun z => by cases z) ⟨.bl false, H, I, rfl, q⟩
theorem c_isIB : CmpR X .Is rInt rBool (fun _ _ => false) := ⟨⟨_, op_isIB, fun x y _ v w _ h1 h2 k => ⟨x, y, h1, h2, k⟩⟩, fun b => nomark b⟩
theorem c_isBB : CmpR X .Is rBool rBool (fun i j => decide (i = j)) := ⟨⟨_, op_isBl, fun x y _ v w _ h1 h2 k => ⟨x, y, h1, h2, k⟩⟩, fun b => nomark b⟩
/-! xs.extend(a new list) -/
theorem s_extendL {apos : Pos} {q : Addr} {vs : List V} {xs zs : List α} (S0 : Stt E own B H) (ha : PE X a (tVar i)) (h : σ[i]? = some (some (.ref q))) (hk : own[k]? = some (q, .lst vs)) (r : Paired (R.r B) vs xs) (he : EvL X E own B H σ e R zs) (hz : xs.length + zs.length ≤ sizeLine)
    (kt : ∀ us B' H', Stt E (own.set k (q, .lst (vs ++ us))) B' H' → Ex B B' → Paired (R.r B') (vs ++ us) (xs ++ zs) → WSs X rest D σ H')
    (t : BmT X a "extend" apos [] e p := by exact ⟨rfl, rfl, rfl, rfl, rfl⟩) (hs : St1 X e := by rfl) (hw : swapsWith (.Call (.Attribute a "extend" apos) [e] [] p) none pos.line X.env = pure false := by rfl) :
    WSs X (.Expr (.Call (.Attribute a "extend" apos) [e] [] p) pos :: rest) D σ H :=
  WSs.cons (ps_expr (pe_bm PySem.F.plainAttrs_list PySem.F.slot_list_extend PySem.F.type_list_extend mt_extend ha (pa1 hs) t.1 t.2.1 t.2.2.1 t.2.2.2.1 t.2.2.2.2) hw) ⟨.ref q, h, .inl ⟨rfl, _, SqL.of (S0.ow _ (getE hk)).2.2⟩, he B H S0 (Ex.refl _) (Ex.refl _) _ fun l us B2 H2 S2 e1 e2 ru => by
    have hq := (S2.ow _ (List.mem_cons_of_mem _ (getE hk))).2.2
    have hl := S2.own1
    refine ⟨q, l, vs, us, rfl, rfl, hq, hl, by rw [plen r, plen ru]; exact hz, ?_⟩
    have hk2 : ((l, HO.lst us) :: own)[k + 1]? = some (q, .lst vs) := hk
    have S3 := (S2.put hk2 (o' := .lst (vs ++ us)) fun ys z => by cases z)
    exact kt us B2 _ S3.drop e1 (pappend (pimp r fun _ _ z => R.mono e1 z) ru)⟩
/-! chains -/
theorem ev_ch {op op' : CmpOp} {r1 r2 : R2} {z1 z2 : Bool} {x : α} {y : β} {u : γ} (h1 : OpR X (compareOp op) r1) (h2 : OpR X (compareOp op') r2) (hm : lastMarks [op, op'] [b, c] = false) (ha : EvB X E own B H σ a R x) (hb : EvB X E own B H σ b S y) (hc : EvB X E own B H σ c T u)
    (k1 : ∀ H1 v w (Q : VK), R.r H1 v x → S.r H1 w y → Q (.bl z1) H1 → r1 v w H1 Q) (k2 : ∀ H1 v w (Q : VK), S.r H1 v y → T.r H1 w u → Q (.bl z2) H1 → r2 v w H1 Q) : EvB X E own B H σ (.Compare a [op, op'] [b, c] pos) rBool (z1 && z2) := fun B1 H1 S1 e1 e2 Q k =>
  WE.of (pe_chain h1 h2 peW peW peW hm) (ha B1 H1 S1 e1 e2 _ fun v B2 H2 S2 e3 e4 r => hb B2 H2 S2 (e1.trans e3) (e2.trans e4) _ fun w B3 H3 S3 e5 e6 s => k1 H3 v w _ (R.mono e6 r) s ⟨z1, rfl, by
    cases z1 with
    | true => exact hc B3 H3 S3 ((e1.trans e3).trans e5) ((e2.trans e4).trans e6) _ fun w2 B4 H4 S4 e7 e8 t => k2 H4 w w2 Q (S.mono e8 s) t (k _ B4 H4 S4 ((e3.trans e5).trans e7) ((e4.trans e6).trans e8) rfl)
    | false => exact k _ B3 H3 S3 (e3.trans e5) (e4.trans e6) rfl⟩)
variable {i0 j0 l0 : Int}
theorem ev_ch_lt_lt (ha : EvB X E own B H σ a rInt i0) (hb : EvB X E own B H σ b rInt j0) (hc : EvB X E own B H σ c rInt l0) (hm : lastMarks [.Lt, .Lt] [b, c] = false := by rfl) : EvB X E own B H σ (.Compare a [.Lt, .Lt] [b, c] pos) rBool (decide (i0 < j0) && decide (j0 < l0)) := ev_ch op_lt op_lt hm ha hb hc (fun _ _ _ _ h1 h2 k => ⟨_, _, h1, h2, k⟩) (fun _ _ _ _ h1 h2 k => ⟨_, _, h1, h2, k⟩)
theorem ev_ch_le_lt (ha : EvB X E own B H σ a rInt i0) (hb : EvB X E own B H σ b rInt j0) (hc : EvB X E own B H σ c rInt l0) (hm : lastMarks [.LtE, .Lt] [b, c] = false := by rfl) : EvB X E own B H σ (.Compare a [.LtE, .Lt] [b, c] pos) rBool (decide (i0 ≤ j0) && decide (j0 < l0)) := ev_ch op_le op_lt hm ha hb hc (fun _ _ _ _ h1 h2 k => ⟨_, _, h1, h2, k⟩) (fun _ _ _ _ h1 h2 k => ⟨_, _, h1, h2, k⟩)
theorem ev_ch_lt_le (ha : EvB X E own B H σ a rInt i0) (hb : EvB X E own B H σ b rInt j0) (hc : EvB X E own B H σ c rInt l0) (hm : lastMarks [.Lt, .LtE] [b, c] = false := by rfl) : EvB X E own B H σ (.Compare a [.Lt, .LtE] [b, c] pos) rBool (decide (i0 < j0) && decide (j0 ≤ l0)) := ev_ch op_lt op_le hm ha hb hc (fun _ _ _ _ h1 h2 k => ⟨_, _, h1, h2, k⟩) (fun _ _ _ _ h1 h2 k => ⟨_, _, h1, h2, k⟩)
theorem ev_ch_le_le (ha : EvB X E own B H σ a rInt i0) (hb : EvB X E own B H σ b rInt j0) (hc : EvB X E own B H σ c rInt l0) (hm : lastMarks [.LtE, .LtE] [b, c] = false := by rfl) : EvB X E own B H σ (.Compare a [.LtE, .LtE] [b, c] pos) rBool (decide (i0 ≤ j0) && decide (j0 ≤ l0)) := ev_ch op_le op_le hm ha hb hc (fun _ _ _ _ h1 h2 k => ⟨_, _, h1, h2, k⟩) (fun _ _ _ _ h1 h2 k => ⟨_, _, h1, h2, k⟩)
theorem et_ch {op op' : CmpOp} {r1 r2 : R2} {z1 z2 : Bool} {x : α} {y : β} {u : γ} (h1 : OpR X (compareOp op) r1) (h2 : OpR X (compareOp op') r2) (hm : lastMarks [op, op'] [b, c] = false) (ha : EvB X E own B H σ a R x) (hb : EvB X E own B H σ b S y) (hc : EvB X E own B H σ c T u)
    (k1 : ∀ H1 v w (Q : VK), R.r H1 v x → S.r H1 w y → Q (.bl z1) H1 → r1 v w H1 Q) (k2 : ∀ H1 v w (Q : VK), S.r H1 v y → T.r H1 w u → Q (.bl z2) H1 → r2 v w H1 Q) : EvT X E own B H σ (.Compare a [op, op'] [b, c] pos) (z1 && z2) := fun B1 H1 S1 e1 e2 Q k =>
  WT.of (pt_chain h1 h2 peW peW peW hm) (ha B1 H1 S1 e1 e2 _ fun v B2 H2 S2 e3 e4 r => hb B2 H2 S2 (e1.trans e3) (e2.trans e4) _ fun w B3 H3 S3 e5 e6 s => k1 H3 v w _ (R.mono e6 r) s ⟨z1, rfl, by
    cases z1 with
    | true => exact hc B3 H3 S3 ((e1.trans e3).trans e5) ((e2.trans e4).trans e6) _ fun w2 B4 H4 S4 e7 e8 t => k2 H4 w w2 _ (S.mono e8 s) t ⟨_, rfl, k B4 H4 S4 ((e3.trans e5).trans e7) ((e4.trans e6).trans e8)⟩
    | false => exact ⟨_, rfl, k B3 H3 S3 (e3.trans e5) (e4.trans e6)⟩⟩)
theorem et_ch_lt_lt (ha : EvB X E own B H σ a rInt i0) (hb : EvB X E own B H σ b rInt j0) (hc : EvB X E own B H σ c rInt l0) (hm : lastMarks [.Lt, .Lt] [b, c] = false := by rfl) : EvT X E own B H σ (.Compare a [.Lt, .Lt] [b, c] pos) (decide (i0 < j0) && decide (j0 < l0)) := et_ch op_lt op_lt hm ha hb hc (fun _ _ _ _ h1 h2 k => ⟨_, _, h1, h2, k⟩) (fun _ _ _ _ h1 h2 k => ⟨_, _, h1, h2, k⟩)
theorem et_ch_lt_le (ha : EvB X E own B H σ a rInt i0) (hb : EvB X E own B H σ b rInt j0) (hc : EvB X E own B H σ c rInt l0) (hm : lastMarks [.Lt, .LtE] [b, c] = false := by rfl) : EvT X E own B H σ (.Compare a [.Lt, .LtE] [b, c] pos) (decide (i0 < j0) && decide (j0 ≤ l0)) := et_ch op_lt op_le hm ha hb hc (fun _ _ _ _ h1 h2 k => ⟨_, _, h1, h2, k⟩) (fun _ _ _ _ h1 h2 k => ⟨_, _, h1, h2, k⟩)
theorem et_ch_le_lt (ha : EvB X E own B H σ a rInt i0) (hb : EvB X E own B H σ b rInt j0) (hc : EvB X E own B H σ c rInt l0) (hm : lastMarks [.LtE, .Lt] [b, c] = false := by rfl) : EvT X E own B H σ (.Compare a [.LtE, .Lt] [b, c] pos) (decide (i0 ≤ j0) && decide (j0 < l0)) := et_ch op_le op_lt hm ha hb hc (fun _ _ _ _ h1 h2 k => ⟨_, _, h1, h2, k⟩) (fun _ _ _ _ h1 h2 k => ⟨_, _, h1, h2, k⟩)
theorem et_ch_le_le (ha : EvB X E own B H σ a rInt i0) (hb : EvB X E own B H σ b rInt j0) (hc : EvB X E own B H σ c rInt l0) (hm : lastMarks [.LtE, .LtE] [b, c] = false := by rfl) : EvT X E own B H σ (.Compare a [.LtE, .LtE] [b, c] pos) (decide (i0 ≤ j0) && decide (j0 ≤ l0)) := et_ch op_le op_le hm ha hb hc (fun _ _ _ _ h1 h2 k => ⟨_, _, h1, h2, k⟩) (fun _ _ _ _ h1 h2 k => ⟨_, _, h1, h2, k⟩)
end
end Sg

namespace Sg
open PySem PySem.Spec PyProof.Rows L2
theorem putF_new {f : Str} {v : V} : ∀ {fs : List (Str × V)}, (fs.map (·.1)).all (fun g => !(g == f)) = true → putF f v fs = fs ++ [(f, v)]
  | [], _ => rfl
  | (g, x) :: r, h => by
    rw [List.map_cons, List.all_cons, Bool.and_eq_true] at h
    have h1 : g ≠ f := by simpa using h.1
    unfold putF
    rw [if_neg h1, putF_new h.2]
    rfl
/-- what __init__ of a table promises -/
def kTab (CT a dx : Addr) : Ent → VK → Tab → Prop := fun E Q t => ∀ d1 d2 d3 d4 B H, Stt E [(a, .ins CT dx (tabF d1 d2 d3 d4))] B H → (rDI rInt).r B d1 t.ranks → (rDI (rTup rInt)).r B d2 t.parts → (rLst rInt).r B d3 t.closed → (rDT rInt).r B d4 t.wholes → Q .non H
def SpInit {δ : Type} (CT : Addr) (args : δ → AR) (f : δ → Res Tab) : Sp := fun vs H Q _ => ∃ B H0 d a dx us, vs = .ref a :: us ∧ H = upd H0 a (.ins CT dx []) ∧ H0 a = none ∧ Sx B H0 ∧ Tx H0 B ∧ (args d).r us B H0 ∧ Fin (kTab CT a dx ⟨B, H0⟩ Q) NoErr (f d)
section
variable {X Xb : Cx} {E : Ent} {own new own' : Own} {B H B' H' : Hp} {σ : L2.St} {α β γ δ τ ρ ρ' : Type} {R : Rel α} {S : Rel β} {T : Rel γ} {U : Rel δ} {e a b c d o it tg : Expr} {x : α} {y : β} {p pos pos' apos : Pos} {i j k k0 : Nat} {z w : Bool} {xs : List α} {ys : List β} {es : List Expr}
variable {n m f : Str} {rest body other : List Stmt} {D : Ends} {P : ρ → Prop} {Er : Err → Prop} {CT : Addr}
/-- self.f = e, the instance one's own -/
theorem s_fset {q dx : Addr} {fs : List (Str × V)} (S0 : Stt E own B H) (hp : PE X o (tVar i)) (h : σ[i]? = some (some (.ref q))) (hk : own[k]? = some (q, .ins CT dx fs)) (cls : Cls X.K CT) (na : NoAttr X.K CT f) (he : EvE X E own B H σ e R x)
    (hl : fs.length < 1000) (hn : (fs.map (·.1)).all (fun g => !(g == f)) = true)
    (kt : ∀ v B' H', Stt E (own.set k (q, .ins CT dx (fs ++ [(f, v)]))) B' H' → Ex B B' → R.r B' v x → WSs X rest D σ H')
    (hs : swapsWith e (some (.Attribute o f pos')) pos.line X.env = pure false := by rfl) : WSs X (.Assign [.Attribute o f pos'] e pos :: rest) D σ H :=
  WSs.cons (ps_fld hp peW hs) (he B H S0 (Ex.refl _) (Ex.refl _) _ fun v B2 H2 S2 e1 e2 r => ⟨.ref q, h, q, CT, dx, fs, rfl, (S2.ow _ (getE hk)).2.2, cls, na, hl, by
    rw [putF_new hn]
    exact kt v B2 _ (S2.put hk fun ys z => by cases z) e1 r⟩)
theorem ee_ofld {q dx : Addr} {fs : List (Str × V)} {u : V} (hp : PE X o (tVar i)) (h : σ[i]? = some (some (.ref q))) (hk : own[k]? = some (q, .ins CT dx fs)) (cls : Cls X.K CT) (na : NoAttr X.K CT f) (hf : fs.lookup f = some u) (r : R.r B u x)
    (hb : attributeBase o f X.env (eval o X.env) = eval o X.env := by rfl) : EvE X E own B H σ (.Attribute o f pos) R x := fun B1 H1 S1 e1 e2 Q qq =>
  WE.of (pe_fld hp hb) ⟨.ref q, h, q, CT, dx, fs, u, rfl, (S1.ow _ (getE hk)).2.2, cls, na, hf, qq u B1 H1 S1 (Ex.refl _) (Ex.refl _) (R.mono e1 r)⟩
/-- Table(..) -/
def MkT (X : Cx) (k : Nat) (n : Str) (CT : Addr) (ps : List Str) (sp : Sp) : Prop := ∃ (f : Addr) (fd : FuncData), Mk X.K CT f ∧ FnOk X.prog X.w X.K X.mg X.base CX0 k f fd ps sp ∧ X.mg n = some (.ref CT) ∧ Binds X.K fd ps []
theorem Blk.mkt {scope : Scope} {ps : List Str} {sp : Sp} (h : Blk X scope Xb) (G : MkT X k n CT ps sp) : MkT Xb k n CT ps sp := by
  obtain ⟨s, H, Cc, cl, fp, rfl⟩ := h
  exact G
theorem ee_make {ps : List Str} {args : δ → AR} {g : δ → Res Tab} {d : δ} {r : Tab} (C : Cok X k0) (G : MkT X k n CT ps (SpInit CT args g)) (hk : k + 1 ≤ k0) (hg : Gl X n) (ha : EvAs X E own B H σ (e :: es) (args d)) (hm : g d = .ok r)
    (hdb : (n == ("__debug__" : Str)) = false := by rfl) (hst : starEach (e :: es) X.env = (false, eval e X.env) :: starEach es X.env := by rfl) (hpl : (backTo pos (starEach es X.env)).any (·.1) = false := by rfl) : EvE X E own B H σ (.Call (.Name n p) (e :: es) [] pos) (rTab CT) r := fun B1 H1 S1 e1 e2 Q kq => by
  obtain ⟨f, fd, M, F, hmg, hb⟩ := G
  refine WE.of (pe_make (dvs := []) (ds := []) M F (C.room.mono hk) hg hmg hb .nil pass0 paW hdb hst hpl) (ha B1 H1 S1 e1 e2 _ fun vs B2 H2 S2 e3 e4 ra => ?_)
  intro x dx hx hdx hne
  rw [List.append_nil]
  have S3 : Stt E own (upd B2 dx (.own x)) (upd H2 dx (.own x)) := S2.lay hdx
  have hx3 : upd H2 dx (.own x) x = none := by rw [upd_ne hne.symm]; exact hx
  refine ⟨upd B2 dx (.own x), upd H2 dx (.own x), d, x, dx, vs, rfl, rfl, hx3, S3.bh, S3.tu, (args d).mono (S2.layB hdx).ex (Sx.new hdx).ex ra, Fin.eq hm fun d1 d2 d3 d4 B4 H4 T h1 h2 h3 h4 => ⟨rfl, ?_⟩⟩
  have S4 := S3.call T
  have nB := (S4.ow _ (List.mem_cons_self ..)).2.1
  have eB := (Sx.new (o := .ins CT dx (tabF d1 d2 d3 d4)) nB).ex
  exact kq (.ref x) _ H4 S4.keep (e3.trans (((S2.layB hdx).ex.trans T.b0.ex).trans eB)) (e4.trans ((Sx.new hdx).ex.trans T.h0.ex)) ⟨x, dx, d1, d2, d3, d4, rfl, upd_same, Rel.mono _ eB h1, Rel.mono _ eB h2, Rel.mono _ eB h3, Rel.mono _ eB h4⟩
end
section
variable {P : Program} {w : World} {K : PySem.W.Frag} {mg : Str → Option Value} {base : Heap}
theorem init_ok {x qual : Str} {st : Stmt} {f : Addr} {fd : FuncData} {N ps : List Str} {k : Nat} {δ : Type} {CT : Addr} {args : δ → AR} {g : δ → Res Tab} (F : Fun K x qual st f fd) (S : FnScope N ps (defScope st)) (hl : ∀ d vs B H, (args d).r vs B H → vs.length + 1 = ps.length)
    (body : ∀ X : Cx, X.prog = P → X.w = w → X.K = K → X.mg = mg → X.base = base → Cok X k → Scp X N (defScope st) → (∀ x, X.fn x = true) → ∀ B H0 a dx us d (Q : VK), H0 a = none → Sx B H0 → Tx H0 B → (args d).r us B H0 → Fin (kTab CT a dx ⟨B, H0⟩ Q) NoErr (g d) →
      WSs X (defBody st) { nx := fun _ H' => Q .non H', rt := Q } (start N (.ref a :: us)) (upd H0 a (.ins CT dx []))) : FnOk P w K mg base CX0 (k + 1) f fd ps (SpInit CT args g) := by
  refine F.ok S (fun vs H Q E h => ?_) (fun cdv A outer s H vs Q E hr h => ?_)
  · obtain ⟨B, H0, d, a, dx, us, rfl, _, _, _, _, h3, _⟩ := h
    exact hl d us B H0 h3
  · obtain ⟨B, H0, d, a, dx, us, rfl, rfl, h0, h1, h2, h3, h4⟩ := h
    exact ⟨_, pssW, body ((cxOf CX0 P w K mg base N qual (defScope st) f cdv A outer s _ E).nox) rfl rfl rfl rfl rfl ⟨rfl, S.nd, hr, PassesOwn.never⟩ ⟨rfl, rfl⟩ (fun _ => rfl) B H0 a dx us d Q h0 h1 h2 h3 h4⟩
end
/-! what is owned, looked at from within a lock -/
section
variable {E : Ent} {own : Own} {B H H' : Hp} {α β γ δ : Type} {R : Rel α} {S : Rel β} {T : Rel γ} {U : Rel δ} {k : Nat}
theorem own_p0 {q : Addr} {vs : List V} {xs : List α} (S0 : Stt E own B H) (hk : own[k]? = some (q, .lst vs)) (r : Paired (R.r B) vs xs) (e : Ex H H') : (rLst R).r H' (.ref q) xs := Rel.mono _ e ⟨q, vs, rfl, Rd.of (S0.ow _ (getE hk)).2.2, pimp r fun _ _ z => R.mono S0.bh.ex z⟩
theorem own_p0I {q : Addr} {ws : List (Key × V)} {xs : List (Int × α)} (S0 : Stt E own B H) (hk : own[k]? = some (q, .dK ws)) (r : pI R B ws xs) (e : Ex H H') : (rDI R).r H' (.ref q) xs := Rel.mono _ e ⟨q, ws, rfl, Rd.of (S0.ow _ (getE hk)).2.2, r.up S0.bh.ex⟩
theorem own_p0S {q : Addr} {ws : List (Key × V)} {xs : List (Str × α)} (S0 : Stt E own B H) (hk : own[k]? = some (q, .dK ws)) (r : pS R B ws xs) (e : Ex H H') : (rDS R).r H' (.ref q) xs := Rel.mono _ e ⟨q, ws, rfl, Rd.of (S0.ow _ (getE hk)).2.2, r.up S0.bh.ex⟩
theorem own_p0T {q : Addr} {ws : List (List Key × V)} {xs : List (List Int × α)} (S0 : Stt E own B H) (hk : own[k]? = some (q, .dT ws)) (r : pT R B ws xs) (e : Ex H H') : (rDT R).r H' (.ref q) xs := Rel.mono _ e ⟨q, ws, rfl, Rd.of (S0.ow _ (getE hk)).2.2, r.up S0.bh.ex⟩
variable {X : Cx} {σ : L2.St} {o : Expr} {pos : Pos} {i : Nat} {v : V}
theorem ek_t41 {x : α × List (Int × β) × γ × δ} {kk} {pp : Pos} (hp : PE X o (tVar i)) (h : σ[i]? = some (some v)) (r : (rT4 R (rDI S) T U).r H v x) : EvK X B H σ (.Subscript o (.Constant (.int 1) kk pp) pos) S x.2.1 := by
  obtain ⟨p, a, b, c, d, h1, h2, h3, h4, h5, h6⟩ := r
  exact ek_at (j := 1) hp h ⟨p, [a, b, c, d], h1, h2, rfl⟩ h4
theorem ek_t42 {x : α × β × List (Int × γ) × δ} {kk} {pp : Pos} (hp : PE X o (tVar i)) (h : σ[i]? = some (some v)) (r : (rT4 R S (rDI T) U).r H v x) : EvK X B H σ (.Subscript o (.Constant (.int 2) kk pp) pos) T x.2.2.1 := by
  obtain ⟨p, a, b, c, d, h1, h2, h3, h4, h5, h6⟩ := r
  exact ek_at (j := 2) hp h ⟨p, [a, b, c, d], h1, h2, rfl⟩ h5
theorem ek_t31 {x : α × List (Int × β) × γ} {kk} {pp : Pos} (hp : PE X o (tVar i)) (h : σ[i]? = some (some v)) (r : (rT3 R (rDI S) T).r H v x) : EvK X B H σ (.Subscript o (.Constant (.int 1) kk pp) pos) S x.2.1 := by
  obtain ⟨p, a, b, c, h1, h2, h3, h4, h5⟩ := r
  exact ek_at (j := 1) hp h ⟨p, [a, b, c], h1, h2, rfl⟩ h4
theorem ek_t32 {x : α × β × List (Int × γ)} {kk} {pp : Pos} (hp : PE X o (tVar i)) (h : σ[i]? = some (some v)) (r : (rT3 R S (rDI T)).r H v x) : EvK X B H σ (.Subscript o (.Constant (.int 2) kk pp) pos) T x.2.2 := by
  obtain ⟨p, a, b, c, h1, h2, h3, h4, h5⟩ := r
  exact ek_at (j := 2) hp h ⟨p, [a, b, c], h1, h2, rfl⟩ h5
end
/-! a name that blocks catch holds a comprehension's list -/
theorem sw_cell {X : Cx} {n : Str} {elt : Expr} {gs : List Comprehension} {sc : Scope} {p1 p2 : Pos} {l : Nat} (h : X.env.scope.names.lookup n = some .cell) : swapsWith (.ListComp elt gs sc p1) (some (.Name n p2)) l X.env = pure false := by
  unfold swapsWith
  have h2 : X.env.kindOf n = some .cell := h
  show pure _ = pure _
  rw [h2]
  have : (some NameKind.cell == some NameKind.local) = false := rfl
  rw [this, Bool.and_false, Bool.false_and, Bool.false_and]
theorem sw_loc {X : Cx} {N : List Str} {sc : Scope} {n : Str} {elt : Expr} {gs : List Comprehension} {sc2 : Scope} {p1 p2 : Pos} {l : Nat} (V : Scp X N sc) (hk : sc.kind = .function) (h : X.env.scope.names.lookup n = some .local) (hl : (p2.line == p1.line) = true := by rfl) (hs : (sc2.names.any fun q => q.1 == n && (q.2 == .local || q.2 == .cell)) = false := by rfl) : swapsWith (.ListComp elt gs sc2 p1) (some (.Name n p2)) l X.env = pure true := by
  unfold swapsWith
  have h2 : X.env.kindOf n = some .local := h
  have h3 : X.env.blockKind = .function := by
    unfold Env.blockKind
    rw [V.sc, hk]
    rfl
  show pure _ = pure _
  have h4 : (some NameKind.local == some NameKind.local) = true := rfl
  have h5 : (ScopeKind.function == ScopeKind.function) = true := rfl
  have h6 : (Expr.ListComp elt gs sc2 p1).pos.line = p1.line := rfl
  have h7 : (sc2.names.any fun (n_1, k) => n_1 == n && (k == NameKind.local || k == NameKind.cell)) = false := hs
  rw [h2, h3, h4, h5, h6, hl, h7]
  rfl
/-! dicts made -/
section
variable {X Xb : Cx} {E : Ent} {own new own' : Own} {B H B' H' : Hp} {σ : L2.St} {α β γ δ : Type} {R : Rel α} {e : Expr} {p pos pos' : Pos} {i j k k0 : Nat} {n : Str} {rest : List Stmt} {D : Ends}
def EvDT {α : Type} (X : Cx) (E : Ent) (own : Own) (B H : Hp) (σ : L2.St) (e : Expr) (R : Rel α) (kvs : List (List Int × α)) : Prop := ∀ B1 H1, Stt E own B1 H1 → Ex B B1 → Ex H H1 → ∀ Q : VK,
  (∀ p ws B2 H2, Stt E ((p, .dT ws) :: own) B2 H2 → Ex B1 B2 → Ex H1 H2 → pT R B2 ws kvs → Q (.ref p) H2) → WE X e σ H1 Q
def EvDS {α : Type} (X : Cx) (E : Ent) (own : Own) (B H : Hp) (σ : L2.St) (e : Expr) (R : Rel α) (kvs : List (Str × α)) : Prop := ∀ B1 H1, Stt E own B1 H1 → Ex B B1 → Ex H H1 → ∀ Q : VK,
  (∀ p ws B2 H2, Stt E ((p, .dK ws) :: own) B2 H2 → Ex B1 B2 → Ex H1 H2 → pS R B2 ws kvs → Q (.ref p) H2) → WE X e σ H1 Q
theorem EvDT.toE {kvs : List (List Int × α)} (h : EvDT X E own B H σ e R kvs) : EvE X E own B H σ e (rDT R) kvs := fun B1 H1 S e1 e2 Q k => h B1 H1 S e1 e2 Q fun p ws B2 H2 S2 e3 e4 r => by
  have n := (S2.ow _ (List.mem_cons_self ..)).2.1
  exact k (.ref p) _ H2 S2.keep (e3.trans (Sx.new n).ex) e4 ⟨p, ws, rfl, Rd.of upd_same, r.up (Sx.new n).ex⟩
theorem EvDS.toE {kvs : List (Str × α)} (h : EvDS X E own B H σ e R kvs) : EvE X E own B H σ e (rDS R) kvs := fun B1 H1 S e1 e2 Q k => h B1 H1 S e1 e2 Q fun p ws B2 H2 S2 e3 e4 r => by
  have n := (S2.ow _ (List.mem_cons_self ..)).2.1
  exact k (.ref p) _ H2 S2.keep (e3.trans (Sx.new n).ex) e4 ⟨p, ws, rfl, Rd.of upd_same, r.up (Sx.new n).ex⟩
theorem ed_nI : EvDI X E own B H σ (.Dict [] [] pos) R [] := fun B1 H1 S1 e1 e2 Q k => WE.of pe_dnewK fun p hp => k p [] B1 _ (S1.alloc hp fun ys z => by cases z) (Ex.refl _) (Sx.new hp).ex .nil
theorem ed_nS : EvDS X E own B H σ (.Dict [] [] pos) R [] := fun B1 H1 S1 e1 e2 Q k => WE.of pe_dnewK fun p hp => k p [] B1 _ (S1.alloc hp fun ys z => by cases z) (Ex.refl _) (Sx.new hp).ex .nil
theorem ed_nT : EvDT X E own B H σ (.Dict [] [] pos) R [] := fun B1 H1 S1 e1 e2 Q k => WE.of pe_dnewT fun p hp => k p [] B1 _ (S1.alloc hp fun ys z => by cases z) (Ex.refl _) (Sx.new hp).ex .nil
theorem s_asgDI {kvs : List (Int × α)} (C : Cok X k) (L : Slot X i n) (S0 : Stt E own B H) (he : EvDI X E own B H σ e R kvs)
    (q : ∀ p ws B' H', Stt E ((p, .dK ws) :: own) B' H' → Ex B B' → pI R B' ws kvs → WSs X rest D (σ.set i (some (.ref p))) H') (hs : swapsWith e (some (.Name n pos')) pos.line X.env = pure false := by rfl) :
    WSs X (.Assign [.Name n pos'] e pos :: rest) D σ H :=
  WSs.cons (ps_set C.nd L.ix L.loc peW hs L.hf) (he B H S0 (Ex.refl _) (Ex.refl _) _ fun p ws B2 H2 S2 e1 _ r => q p ws B2 H2 S2 e1 r)
theorem s_asgDS {kvs : List (Str × α)} (C : Cok X k) (L : Slot X i n) (S0 : Stt E own B H) (he : EvDS X E own B H σ e R kvs)
    (q : ∀ p ws B' H', Stt E ((p, .dK ws) :: own) B' H' → Ex B B' → pS R B' ws kvs → WSs X rest D (σ.set i (some (.ref p))) H') (hs : swapsWith e (some (.Name n pos')) pos.line X.env = pure false := by rfl) :
    WSs X (.Assign [.Name n pos'] e pos :: rest) D σ H :=
  WSs.cons (ps_set C.nd L.ix L.loc peW hs L.hf) (he B H S0 (Ex.refl _) (Ex.refl _) _ fun p ws B2 H2 S2 e1 _ r => q p ws B2 H2 S2 e1 r)
theorem s_asgDT' {kvs : List (List Int × α)} (C : Cok X k) (L : Slot X i n) (S0 : Stt E own B H) (he : EvDT X E own B H σ e R kvs)
    (q : ∀ p ws B' H', Stt E ((p, .dT ws) :: own) B' H' → Ex B B' → pT R B' ws kvs → WSs X rest D (σ.set i (some (.ref p))) H') (hs : swapsWith e (some (.Name n pos')) pos.line X.env = pure false := by rfl) :
    WSs X (.Assign [.Name n pos'] e pos :: rest) D σ H :=
  WSs.cons (ps_set C.nd L.ix L.loc peW hs L.hf) (he B H S0 (Ex.refl _) (Ex.refl _) _ fun p ws B2 H2 S2 e1 _ r => q p ws B2 H2 S2 e1 r)
end
/-! constants of the module -/
section
variable {X Xb : Cx} {E : Ent} {own : Own} {B H : Hp} {σ : L2.St} {n : Str} {pos : Pos} {scope : Scope}
theorem ev_globI {z : Int} (V : ∃ t, X.mg n = some (.int z t)) (hg : Gl X n) (hd : (n == ("__debug__" : Str)) = false := by rfl) : EvB X E own B H σ (.Name n pos) rInt z := by
  obtain ⟨t, h⟩ := V
  exact ev_c (v := .int z) (pe_glob hg h ⟨_, rfl⟩ hd) fun _ => rfl
theorem ev_globS {z : Str} (V : ∃ t, X.mg n = some (.str z t)) (hg : Gl X n) (hd : (n == ("__debug__" : Str)) = false := by rfl) : EvB X E own B H σ (.Name n pos) rStr z := by
  obtain ⟨t, h⟩ := V
  exact ev_c (v := .str z) (pe_glob hg h ⟨_, rfl⟩ hd) fun _ => rfl
theorem Blk.gvI {z : Int} (h : Blk X scope Xb) (V : ∃ t, X.mg n = some (.int z t)) : ∃ t, Xb.mg n = some (.int z t) := by
  rw [h.mg]
  exact V
theorem Blk.gvS {z : Str} (h : Blk X scope Xb) (V : ∃ t, X.mg n = some (.str z t)) : ∃ t, Xb.mg n = some (.str z t) := by
  rw [h.mg]
  exact V
end
end Sg

namespace Sg
open PySem PySem.Spec PyProof.Rows L2
/-! ### the law as a whole -/
/-- no list stands in the written part -/
def noLst (K : PySem.W.Frag) : Bool := K.all fun p => match p.2.cls with
  | .type n => !(n == "list")
  | _ => true
theorem lookup_mem {β : Type} {a : Addr} {b : β} : ∀ {l : List (Addr × β)}, l.lookup a = some b → (a, b) ∈ l
  | [], h => nomatch h
  | (x, y) :: r, h => by
    rw [List.lookup_cons] at h
    cases hx : a == x with
    | true =>
      rw [hx] at h
      have e1 : a = x := by simpa using hx
      have e2 : y = b := Option.some.inj h
      rw [e1, e2]
      exact List.mem_cons_self ..
    | false =>
      rw [hx] at h
      exact List.mem_cons_of_mem _ (lookup_mem h)
theorem noLst.out {K : PySem.W.Frag} (h : noLst K = true) {a : Addr} {o : Obj} (hl : K.lookup a = some o) (hc : o.cls = .type "list") : False := by
  have q := List.all_eq_true.mp h _ (lookup_mem hl)
  simp only [hc] at q
  exact absurd q (by decide)
def spLaw : Sp := fun vs H Q _ => ∃ (a : Addr) (ns : List Int), vs = [.ref a] ∧ Rd H a (.lst (ns.map V.int)) ∧ ns.length ≤ 63 ∧ ∀ H', Q (.bl true) H'
def CalM (P : Program) (w : World) (K : PySem.W.Frag) (mg : Str → Option Value) (base : Heap) (k : Nat) (n : Str) (ps : List Str) (sp : Sp) : Prop := ∃ (f : Addr) (fd : FuncData), FnOk P w K mg base CX0 k f fd ps sp ∧ mg n = some (.ref f) ∧ PySem.W.keepIn K (.ref f) = true ∧ Binds K fd ps []
def MCalM (P : Program) (w : World) (K : PySem.W.Frag) (mg : Str → Option Value) (base : Heap) (k : Nat) (C : Addr) (n : Str) (ps : List Str) (sp : Sp) : Prop := ∃ (f : Addr) (fd : FuncData), FnOk P w K mg base CX0 k f fd ps sp ∧ Meth K C n f ∧ Binds K fd ps []
def MkTM (P : Program) (w : World) (K : PySem.W.Frag) (mg : Str → Option Value) (base : Heap) (k : Nat) (n : Str) (CT : Addr) (ps : List Str) (sp : Sp) : Prop := ∃ (f : Addr) (fd : FuncData), Mk K CT f ∧ FnOk P w K mg base CX0 k f fd ps sp ∧ mg n = some (.ref CT) ∧ Binds K fd ps []
theorem fn_law {P : Program} {w : World} {K : PySem.W.Frag} {mg : Str → Option Value} {base : Heap} {k : Nat} {f : Addr} {fd : FuncData} {p : Str} {m : List Int → Res Bool}
    {args : List Int → AR} (F : FnOk P w K mg base CX0 k f fd [p] (SpA args (kE rBool) m)) (h : ∀ ns : List Int, ns.length ≤ 63 → m ns = .ok true) (ha : ∀ (H : Hp) (v : V) (ns : List Int), (rLst rInt).r H v ns → (args ns).r [v] H H := by exact fun H v ns h => ⟨_, _, rfl, h, rfl⟩) : FnOk P w K mg base CX0 k f fd [p] spLaw := by
  refine F.imp fun vs H Q E hs => ?_
  obtain ⟨a, ns, rfl, hr, hl, hq⟩ := hs
  refine ⟨H, ns, Sx.refl _, fun _ _ e => e, ha _ _ _ ⟨a, _, rfl, hr, ints_rel' ns⟩, ?_⟩
  rw [h ns hl]
  intro v B2 H2 _ r
  rw [show v = .bl true from r]
  exact hq H2
theorem walk_law {l : PySem.W.OpenLaw} {q : Program} {loose : List Str} {XP : (Str → Option Value) → Heap → Prop} {YP : World → Heap → Prop} {d : DefRec} {K : Params → PySem.W.Frag} {k : Nat} {p : Str} (hn : l.most = some 63) (hdf : d.params.defaults = []) (hr : Room k callerA)
    (hY : ∀ (w : World) (h : Heap), YP w h → (K w.params).In h) (hN : ∀ w : World, noLst (K w.params) = true)
    (F : ∀ (w : World) (mg : Str → Option Value) (fa : Addr) (h : Heap), (K w.params).In h → h.Ns mainGlobals mg → mg d.name = some (.ref fa) →
      ∃ fd : FuncData, (∀ (s : Shared) (u : Value), BindsTo s fd ⟨[u], []⟩ [(p, u)]) ∧ ∀ base : Heap, (K w.params).In base → base.Ns mainGlobals mg → FnOk l.prog w (K w.params) mg base CX0 k fa fd [p] spLaw) :
    PySem.W.WalkO q loose XP YP l.row.toRowW d [] (fun f vs => PySem.call f vs) :=
  L2.walk_of (n := 63) (k := k) (x := p) (CX := fun _ => CX0) (sp := fun _ => spLaw) hn (by decide) hdf hr hY F (fun w _ a ns hl _ hS => ⟨a, ns, rfl, by
    rcases hS with h | ⟨o, its, n, h1, h2, _⟩
    · exact h
    · exact (noLst.out (hN w) h1 h2).elim, hl, fun _ => rfl⟩) fun _ _ _ _ _ z => z
end Sg

namespace Sg
open PySem PySem.Spec PyProof.Rows L2
theorem ltSl {n : Nat} (h : n < 1000) : n < sizeLine := by rw [sizeLine_eq]; omega
/-! a list of one's own lists -/
abbrev refs (qs : List (Addr × List V)) : List V := qs.map fun q => V.ref q.1
abbrev lsts (qs : List (Addr × List V)) : Own := qs.map fun q => (q.1, HO.lst q.2)
def rAny : Rel Unit := ⟨fun _ _ _ => True, fun _ h => h⟩
theorem pAny {H : Hp} : ∀ vs : List V, Paired (rAny.r H) vs (vs.map fun _ => ())
  | [] => .nil
  | v :: r => .cons trivial (pAny r)
section
variable {X Xb : Cx} {E : Ent} {own new own' : Own} {B H B' H' : Hp} {σ : L2.St} {α β γ δ τ ρ ρ' : Type} {R : Rel α} {S : Rel β} {T : Rel γ} {U : Rel δ} {e a b c d o it tg : Expr} {x : α} {y : β} {p pos pos' apos : Pos} {i j k k0 : Nat} {z w : Bool} {xs : List α} {ys : List β} {es : List Expr}
variable {n m f : Str} {rest body other : List Stmt} {D : Ends} {P : ρ → Prop} {Er : Err → Prop}
/-- x = [a, b], new lists both -/
theorem s_asgOL2 (C : Cok X k) (L : Slot X i n) (S0 : Stt E own B H) (ha : EvL X E own B H σ a R xs) (hb : ∀ own' B' H', Stt E own' B' H' → Ex B B' → Ex H H' → EvL X E own' B' H' σ b S ys)
    (q : ∀ p q0 q1 us vs B' H', Stt E ((p, .lst [.ref q0, .ref q1]) :: (q0, .lst us) :: (q1, .lst vs) :: own) B' H' → Ex B B' → Paired (R.r B') us xs → Paired (S.r B') vs ys → WSs X rest D (σ.set i (some (.ref p))) H')
    (hst : starEach (a :: [b]) X.env = (false, eval a X.env) :: starEach [b] X.env := by rfl) (hst2 : St1 X b := by rfl)
    (hs : swapsWith (.List [a, b] pos') (some (.Name n p)) pos.line X.env = pure false := by rfl) : WSs X (.Assign [.Name n p] (.List [a, b] pos') pos :: rest) D σ H :=
  WSs.cons (ps_set C.nd L.ix L.loc (pe_lst (pa_cons peW (pa1 hst2) hst)) hs L.hf) (ha B H S0 (Ex.refl _) (Ex.refl _) _ fun q0 us B2 H2 S2 e1 e2 r1 => hb _ B2 H2 S2 e1 e2 B2 H2 S2 (Ex.refl _) (Ex.refl _) _ fun q1 vs B3 H3 S3 e3 e4 r2 =>
    ⟨by show 2 ≤ sizeLine; decide, fun pp hp => q pp q0 q1 us vs B3 _ ((S3.swap.alloc hp fun ys z => by cases z)) (e1.trans e3) (pimp r1 fun _ _ z => R.mono e3 z) r2⟩)
/-- xs.append(a new list) -/
theorem s_appendO {apos : Pos} {q : Addr} {vs : List V} (S0 : Stt E own B H) (ha : PE X a (tVar i)) (h : σ[i]? = some (some (.ref q))) (hk : own[k]? = some (q, .lst vs)) (he : EvL X E own B H σ e R xs) (hz : vs.length < sizeLine)
    (kt : ∀ q2 us B' H', Stt E ((q2, .lst us) :: own.set k (q, .lst (vs ++ [.ref q2]))) B' H' → Ex B B' → Paired (R.r B') us xs → WSs X rest D σ H')
    (t : BmT X a "append" apos [] e p := by exact ⟨rfl, rfl, rfl, rfl, rfl⟩) (hs : St1 X e := by rfl) (hw : swapsWith (.Call (.Attribute a "append" apos) [e] [] p) none pos.line X.env = pure false := by rfl) :
    WSs X (.Expr (.Call (.Attribute a "append" apos) [e] [] p) pos :: rest) D σ H :=
  WSs.cons (ps_expr (pe_append ha t hs) hw) ⟨.ref q, h, .inl ⟨rfl, _, SqL.of (S0.ow _ (getE hk)).2.2⟩, he B H S0 (Ex.refl _) (Ex.refl _) _ fun q2 us B2 H2 S2 e1 e2 ru => by
    have hq := (S2.ow _ (List.mem_cons_of_mem _ (getE hk))).2.2
    refine ⟨q, vs, .ref q2, rfl, rfl, hq, hz, ?_⟩
    have hk2 : ((q2, HO.lst us) :: own)[k + 1]? = some (q, .lst vs) := hk
    have S3 := S2.put (o' := HO.lst (vs ++ [V.ref q2])) hk2 (fun ys z => by cases z)
    exact kt q2 us B2 _ S3 e1 ru⟩
/-- xs[j] of such a list -/
theorem ev_ixO {q qj : Addr} {vs us : List V} {jj : Int} {kk} {pp : Pos} (hp : PE X o (tVar i)) (h : σ[i]? = some (some (.ref q))) (hk : (q, HO.lst vs) ∈ own) (hv : atI vs jj = some (.ref qj)) (hj : (qj, HO.lst us) ∈ own) (r : Paired (R.r B) us xs) : EvB X E own B H σ (.Subscript o (.Constant (.int jj) kk pp) pos) (rLst R) xs := fun B1 H1 S1 e1 e2 Q kq =>
  WE.of (pe_ix ix_list hp pe_int (fun _ _ => rfl)) ⟨.ref q, h, q, vs, jj, .ref qj, rfl, rfl, SqL.of (S1.ow _ hk).2.2, hv, kq _ B1 H1 S1 (Ex.refl _) (Ex.refl _) ⟨qj, us, rfl, Rd.of (S1.ow _ hj).2.2, pimp r fun _ _ z => R.mono (e1.trans S1.bh.ex) z⟩⟩
/-- for x in xs: x.f() -/
theorem s_forOL {g : List V → List V} {tn : Str} {tp : Pos} {q : Addr} {qs : List (Addr × List V)} {own0 : Own} (C : Cok X k) (L : Slot X j tn) (S0 : Stt E ((q, .lst (refs qs)) :: (lsts qs ++ own0)) B H) (hp : PE X it (tVar i)) (h : σ[i]? = some (some (.ref q))) (hj : j < σ.length)
    (hb : ∀ own' B' H' σ' k' qk vk (D' : Ends), Stt E own' B' H' → σ'[j]? = some (some (.ref qk)) → own'[k']? = some (qk, .lst vk) → (∀ H2, Stt E (own'.set k' (qk, .lst (g vk))) B' H2 → D'.nx σ' H2) → WSs X body D' σ' H')
    (hq : qs ≠ []) (kt : ∀ v H', Stt E ((q, .lst (refs qs)) :: (lsts (qs.map fun u => (u.1, g u.2)) ++ own0)) B H' → WSs X rest D (σ.set j v) H')
    (hf : ∀ x, foldedSetIterable it X.env x = pure x := by intro _; rfl) : WSs X (.For (.Name tn tp) it body [] pos :: rest) D σ H := by
  refine WSs.cons (ps_for C.own C.calm (pi_list (tl := WE X it) peW) (pg_name (i := j) C.nd L.ix L.loc L.hf) pssW hf) (WE.of hp ⟨_, h, q, rfl, ⟨refs qs, SqL.of (S0.ow _ (List.mem_cons_self ..)).2.2⟩, ?_⟩)
  refine ⟨fun i' mm σ' H' => mm = qs.length - i' ∧ i' ≤ qs.length ∧ (∃ v, σ' = (if i' = 0 then σ else σ.set j v)) ∧ Stt E ((q, .lst (refs qs)) :: (lsts ((qs.take i').map fun u => (u.1, g u.2)) ++ (lsts (qs.drop i') ++ own0))) B H', ⟨qs.length, rfl, Nat.zero_le _, ⟨none, by rw [if_pos rfl]⟩, by simpa using S0⟩, ?_⟩
  rintro i' mm σ' H' ⟨rfl, hi, ⟨v0, rfl⟩, S'⟩
  have hl := (S'.ow _ (List.mem_cons_self ..)).2.2
  have len : (refs qs).length = qs.length := List.length_map _
  by_cases hlt : i' < qs.length
  · refine .inr ⟨⟨refs qs, (refs qs)[i']'(by rw [len]; exact hlt), SqL.of hl, List.getElem?_eq_getElem _⟩, fun σ2 H2 => (∃ v, σ2 = σ.set j v) ∧ Stt E ((q, .lst (refs qs)) :: (lsts ((qs.take (i' + 1)).map fun u => (u.1, g u.2)) ++ (lsts (qs.drop (i' + 1)) ++ own0))) B H2, fun σ2 H2 ⟨⟨v1, q1⟩, q2⟩ => ⟨qs.length - (i' + 1), by omega, rfl, hlt, ⟨v1, by rw [if_neg (Nat.succ_ne_zero _)]; exact q1⟩, q2⟩, fun v H'' hy => ?_⟩
    obtain ⟨e1, hv⟩ := hy
    subst e1
    have hv1 := hv _ (SqL.of hl)
    rw [List.getElem?_map, List.getElem?_eq_getElem hlt] at hv1
    have hv2 : v = .ref (qs[i']).1 := (Option.some.inj hv1).symm
    subst hv2
    have hset : (if i' = 0 then σ else σ.set j v0).set j (some (V.ref (qs[i']).1)) = σ.set j (some (.ref (qs[i']).1)) := by
      by_cases h0 : i' = 0
      · rw [if_pos h0]
      · rw [if_neg h0, List.set_set]
    show WSs X body _ ((if i' = 0 then σ else σ.set j v0).set j (some (V.ref (qs[i']).1))) H''
    rw [hset]
    have hd : lsts (qs.drop i') = ((qs[i']).1, HO.lst (qs[i']).2) :: lsts (qs.drop (i' + 1)) := by
      rw [List.drop_eq_getElem_cons hlt]
      rfl
    have ht : lsts ((qs.take (i' + 1)).map fun u => (u.1, g u.2)) = lsts ((qs.take i').map fun u => (u.1, g u.2)) ++ [((qs[i']).1, HO.lst (g (qs[i']).2))] := by
      rw [List.take_succ_eq_append_getElem hlt, List.map_append]
      exact List.map_append
    rw [hd] at S'
    rw [ht]
    generalize lsts ((qs.take i').map fun u => (u.1, g u.2)) = A at S' ⊢
    refine hb _ B H'' _ (A.length + 1) (qs[i']).1 (qs[i']).2 _ S' (List.getElem?_set_self hj) (by simp) fun H2 S2 => ⟨⟨_, rfl⟩, ?_⟩
    have e2 : ((q, HO.lst (refs qs)) :: (A ++ (((qs[i']).1, HO.lst (qs[i']).2) :: lsts (qs.drop (i' + 1)) ++ own0))).set (A.length + 1) ((qs[i']).1, .lst (g (qs[i']).2)) = ((q, .lst (refs qs)) :: (A ++ [((qs[i']).1, HO.lst (g (qs[i']).2))] ++ (lsts (qs.drop (i' + 1)) ++ own0))) := by
      simp
    rw [← e2]
    exact S2
  · have e : i' = qs.length := by omega
    subst e
    refine .inl ⟨⟨refs qs, SqL.of hl, Nat.le_of_eq len⟩, ?_⟩
    rw [List.take_length, List.drop_length] at S'
    have := kt v0 H' S'
    rw [if_neg (by intro z; exact hq (List.eq_nil_of_length_eq_zero z))]
    exact this
/-! x in a list of data -/
theorem Cok.hu65 (C : Cok X k) : X.A.units + 65 < cLine := by
  have := C.room.un
  omega
theorem any_in [F : DatK X.K R] (x : α) (xs : List α) [dd : Decidable (x ∈ xs)] : ((xs.map F.d).any fun z => PyData.eqv z (F.d x)) = decide (x ∈ xs) := by
  rw [List.any_map, Bool.eq_iff_iff, List.any_eq_true, decide_eq_true_iff]
  constructor
  · rintro ⟨z, hz, e⟩
    rw [← (F.eq z x).mp e]
    exact hz
  · intro h
    exact ⟨x, h, (F.eq x x).mpr rfl⟩
theorem ev_inD [F : DatK X.K R] [dd : Decidable (x ∈ xs)] (hu : X.A.units + 65 < cLine) (ha : EvB X E own B H σ a R x) (ho : EvB X E own B H σ o (rLst R) xs) (hn : F.n + 1 ≤ 64 := by exact Nat.le_of_ble_eq_true rfl) (hm : behindInMarks .In o = false := by rfl) : EvB X E own B H σ (.Compare a [.In] [o] pos) rBool (decide (x ∈ xs)) :=
  ev_cmp (op_inD hu) ha ho hm fun H1 v w Q h1 h2 k => ⟨F.d x, xs.map F.d, F.rd h1, DatK.rd (R := rLst R) h2, dat_sh (by omega) x, dat_sh (X := X) (R := rLst R) hn xs, by rw [any_in]; exact k⟩
theorem et_inD [F : DatK X.K R] [dd : Decidable (x ∈ xs)] (hu : X.A.units + 65 < cLine) (ha : EvB X E own B H σ a R x) (ho : EvB X E own B H σ o (rLst R) xs) (hn : F.n + 1 ≤ 64 := by exact Nat.le_of_ble_eq_true rfl) (hm : behindInMarks .In o = false := by rfl) : EvT X E own B H σ (.Compare a [.In] [o] pos) (decide (x ∈ xs)) :=
  et_cmp (op_inD hu) ha ho hm fun H1 v w Q h1 h2 k => ⟨F.d x, xs.map F.d, F.rd h1, DatK.rd (R := rLst R) h2, dat_sh (by omega) x, dat_sh (X := X) (R := rLst R) hn xs, by rw [any_in]; exact k⟩
theorem ev_ninD [F : DatK X.K R] [dd : Decidable (x ∈ xs)] (hu : X.A.units + 65 < cLine) (ha : EvB X E own B H σ a R x) (ho : EvB X E own B H σ o (rLst R) xs) (hn : F.n + 1 ≤ 64 := by exact Nat.le_of_ble_eq_true rfl) (hm : behindInMarks .NotIn o = false := by rfl) : EvB X E own B H σ (.Compare a [.NotIn] [o] pos) rBool (!decide (x ∈ xs)) :=
  ev_cmp (op_notInD hu) ha ho hm fun H1 v w Q h1 h2 k => ⟨F.d x, xs.map F.d, F.rd h1, DatK.rd (R := rLst R) h2, dat_sh (by omega) x, dat_sh (X := X) (R := rLst R) hn xs, by rw [any_in]; exact k⟩
theorem et_ninD [F : DatK X.K R] [dd : Decidable (x ∈ xs)] (hu : X.A.units + 65 < cLine) (ha : EvB X E own B H σ a R x) (ho : EvB X E own B H σ o (rLst R) xs) (hn : F.n + 1 ≤ 64 := by exact Nat.le_of_ble_eq_true rfl) (hm : behindInMarks .NotIn o = false := by rfl) : EvT X E own B H σ (.Compare a [.NotIn] [o] pos) (!decide (x ∈ xs)) :=
  et_cmp (op_notInD hu) ha ho hm fun H1 v w Q h1 h2 k => ⟨F.d x, xs.map F.d, F.rd h1, DatK.rd (R := rLst R) h2, dat_sh (by omega) x, dat_sh (X := X) (R := rLst R) hn xs, by rw [any_in]; exact k⟩
end
end Sg

namespace Sg
open PySem PySem.Spec PyProof.Rows L2
/-! xs.extend(a tuple) -/
theorem ext_tup (l : Addr) (items : Array Value) (n : Nat) (b : Addr) (items2 : Array Value) (n2 : Nat) (od : Option Addr) (sl : Array (Option Value)) (hs0 : ¬(!items.isEmpty && Builtin.List.listTooLong (items.size + items2.size)) = true) (hs1 : items.size ≤ sizeLine) (hs2 : items.size + items2.size ≤ sizeLine + 1 := by seq_fits) :
    Meets (Builtin.«list.extend» ⟨[.ref l, .ref b], []⟩) (fun _ R s => s.heap.get? l = some { cls := .type "list", dict := none, data := .seq items n, slots := #[] } ∧ s.heap.get? b = some { cls := .type "tuple", dict := od, data := .seq items2 n2, slots := sl } ∧ R (.ok (.ret Value.none)) { s with heap := s.heap.update l (Obj.mapSeq fun x => x ++ items2), toks := s.toks }) :=
  .of_wp fun prog w A R s h => by
    obtain ⟨hp, g, d, tk, os⟩ := s
    obtain ⟨hl, hb, h⟩ := h
    have f1 := AutoSeq1.idx_int
    have f2 := AutoSeq1.sub_tuple_tuple
    have f3 := AutoSeq1.sub_list_list
    have f4 := AutoSeq1.sub_tuple_list
    have f5 := AutoSeq1.sub_list_tuple
    have fits : (items ++ items2).size ≤ sizeLine + 1 := by
      rw [Array.size_append]
      exact hs2
    wp_walk using (wpAny_updateSeq hl rfl (hz := hs1) (_hz' := fits)), AutoSeq1.wpAny_loadPart' hl, AutoSeq1.wpAny_loadPart' hb
    exact ⟨_, rfl, h⟩
def rExtendT (K : PySem.W.Frag) : V → List V → Hp → VK → Prop := fun x vs H Q => ∃ l b xs zs, x = .ref l ∧ vs = [.ref b] ∧ H l = some (.lst xs) ∧ SqT K H b zs ∧ xs.length + zs.length ≤ sizeLine ∧ Q .non (upd H l (.lst (xs ++ zs)))
theorem notLong' {xs : Array Value} {n : Nat} (h : n ≤ sizeLine) : Builtin.List.listTooLong n = false := by
  unfold Builtin.List.listTooLong
  exact decide_eq_false (by omega)
theorem mt_extendT {X : Cx} : MtM X "list.extend" (rExtendT X.K) := by
  intro pins s σ H x vs v us Q I rx rv h
  obtain ⟨l, b, xs, zs, rfl, rfl, hH, hB, hz, q⟩ := h
  cases rx
  obtain ⟨u, rfl, ru⟩ := rv.one
  cases ru
  obtain ⟨z, its, n, r, hl, e⟩ := I.lstM hH
  obtain ⟨its2, r2, ⟨⟨oc, od, dt, sl⟩, e2, hc, n2, hd⟩, hz2⟩ := I.tuple hB
  simp only at hc hd
  subst hc hd
  have hl2 := r2.length
  have hsz : its.toArray.size + its2.toArray.size ≤ sizeLine := by rw [List.size_toArray, List.size_toArray]; omega
  have hlong : ¬ (!its.toArray.isEmpty && Builtin.List.listTooLong (its.toArray.size + its2.toArray.size)) = true := by
    rw [notLong' (xs := its.toArray) hsz, Bool.and_false]
    exact Bool.false_ne_true
  refine call_meets PySem.F.slot_list_extend ⟨_, e, rfl⟩ PySem.F.entry_list_extend (PySem.F.args_list_extend_2 _ _)
    (ext_tup l its.toArray n b its2.toArray n2 od sl hlong (by rw [List.size_toArray]; omega) (by omega)) ⟨e, e2, ?_⟩
  refine ⟨.non, _, I.lset (its' := its ++ its2) hH e (by simp) (r.append r2) ?_, rfl, q⟩
  rw [List.length_append]
  omega
section
variable {X Xb : Cx} {E : Ent} {own new own' : Own} {B H B' H' : Hp} {σ : L2.St} {α β γ δ τ ρ ρ' : Type} {R : Rel α} {S : Rel β} {T : Rel γ} {U : Rel δ} {e a b c d o it tg : Expr} {x : α} {y : β} {p pos pos' apos : Pos} {i j k k0 : Nat} {z w : Bool} {xs : List α} {ys : List β} {es : List Expr}
variable {n m f : Str} {rest body other : List Stmt} {D : Ends} {P : ρ → Prop} {Er : Err → Prop}
theorem s_extendT {apos : Pos} {q : Addr} {vs : List V} {xs zs : List α} (S0 : Stt E own B H) (ha : PE X a (tVar i)) (h : σ[i]? = some (some (.ref q))) (hk : own[k]? = some (q, .lst vs)) (r : Paired (R.r B) vs xs) (he : EvE X E own B H σ e (rTup R) zs) (hz : xs.length + zs.length ≤ sizeLine)
    (kt : ∀ us B' H', Stt E (own.set k (q, .lst (vs ++ us))) B' H' → Ex B B' → Paired (R.r B') (vs ++ us) (xs ++ zs) → WSs X rest D σ H')
    (t : BmT X a "extend" apos [] e p := by exact ⟨rfl, rfl, rfl, rfl, rfl⟩) (hs : St1 X e := by rfl) (hw : swapsWith (.Call (.Attribute a "extend" apos) [e] [] p) none pos.line X.env = pure false := by rfl) :
    WSs X (.Expr (.Call (.Attribute a "extend" apos) [e] [] p) pos :: rest) D σ H :=
  WSs.cons (ps_expr (pe_bm PySem.F.plainAttrs_list PySem.F.slot_list_extend PySem.F.type_list_extend mt_extendT ha (pa1 hs) t.1 t.2.1 t.2.2.1 t.2.2.2.1 t.2.2.2.2) hw) ⟨.ref q, h, .inl ⟨rfl, _, SqL.of (S0.ow _ (getE hk)).2.2⟩, he B H S0 (Ex.refl _) (Ex.refl _) _ fun v B2 H2 S2 e1 e2 ru => by
    obtain ⟨l, us, rfl, hl, hp⟩ := ru
    have hq := (S2.ow _ (getE hk)).2.2
    refine ⟨q, l, vs, us, rfl, rfl, hq, SqT.of (S2.bh _ _ hl), by rw [plen r, plen hp]; exact hz, ?_⟩
    exact kt us B2 _ (S2.put hk (o' := .lst (vs ++ us)) fun ys z => by cases z) e1 (pappend (pimp r fun _ _ z => R.mono e1 z) hp)⟩
/-- x += e, numbers -/
theorem s_augI {u w : Int} (C : Cok X k) (L : Slot X i n) (S0 : Stt E own B H) (h : σ[i]? = some (some (.int u))) (he : EvB X E own B H σ e rInt w)
    (q : ∀ B' H', Stt E own B' H' → Ex B B' → WSs X rest D (σ.set i (some (.int (u + w)))) H') : WSs X (.AugAssign (.Name n pos') .Add e pos :: rest) D σ H :=
  WSs.cons (ps_aug C.nd L.ix L.loc peW ip_add L.hf) ⟨_, h, he B H S0 (Ex.refl _) (Ex.refl _) _ fun v B2 H2 S2 e1 _ r => ⟨u, w, rfl, r, q B2 H2 S2 e1⟩⟩
/-! chains whose third part is asked only where the first pair holds -/
theorem ev_chP {op op' : CmpOp} {r1 r2 : R2} {z1 w : Bool} {x : α} {y : β} (h1 : OpR X (compareOp op) r1) (h2 : OpR X (compareOp op') r2) (hm : lastMarks [op, op'] [b, c] = false) (ha : EvB X E own B H σ a R x) (hb : EvB X E own B H σ b S y)
    (k1 : ∀ H1 v w (Q : VK), R.r H1 v x → S.r H1 w y → Q (.bl z1) H1 → r1 v w H1 Q) (hc : z1 = true → ∃ u : γ, EvB X E own B H σ c T u ∧ ∀ H1 v v' (Q : VK), S.r H1 v y → T.r H1 v' u → Q (.bl w) H1 → r2 v v' H1 Q) (hn : z1 = false → w = false) : EvB X E own B H σ (.Compare a [op, op'] [b, c] pos) rBool w := fun B1 H1 S1 e1 e2 Q k =>
  WE.of (pe_chain h1 h2 peW peW peW hm) (ha B1 H1 S1 e1 e2 _ fun v B2 H2 S2 e3 e4 r => hb B2 H2 S2 (e1.trans e3) (e2.trans e4) _ fun w1 B3 H3 S3 e5 e6 s => k1 H3 v w1 _ (R.mono e6 r) s ⟨z1, rfl, by
    cases z1 with
    | true =>
      obtain ⟨u, hu, k2⟩ := hc rfl
      exact hu B3 H3 S3 ((e1.trans e3).trans e5) ((e2.trans e4).trans e6) _ fun w2 B4 H4 S4 e7 e8 t => k2 H4 w1 w2 Q (S.mono e8 s) t (k _ B4 H4 S4 ((e3.trans e5).trans e7) ((e4.trans e6).trans e8) rfl)
    | false => exact k _ B3 H3 S3 (e3.trans e5) (e4.trans e6) (by rw [hn rfl]; rfl)⟩)
theorem et_chP {op op' : CmpOp} {r1 r2 : R2} {z1 w : Bool} {x : α} {y : β} (h1 : OpR X (compareOp op) r1) (h2 : OpR X (compareOp op') r2) (hm : lastMarks [op, op'] [b, c] = false) (ha : EvB X E own B H σ a R x) (hb : EvB X E own B H σ b S y)
    (k1 : ∀ H1 v w (Q : VK), R.r H1 v x → S.r H1 w y → Q (.bl z1) H1 → r1 v w H1 Q) (hc : z1 = true → ∃ u : γ, EvB X E own B H σ c T u ∧ ∀ H1 v v' (Q : VK), S.r H1 v y → T.r H1 v' u → Q (.bl w) H1 → r2 v v' H1 Q) (hn : z1 = false → w = false) : EvT X E own B H σ (.Compare a [op, op'] [b, c] pos) w := fun B1 H1 S1 e1 e2 Q k =>
  WT.of (pt_chain h1 h2 peW peW peW hm) (ha B1 H1 S1 e1 e2 _ fun v B2 H2 S2 e3 e4 r => hb B2 H2 S2 (e1.trans e3) (e2.trans e4) _ fun w1 B3 H3 S3 e5 e6 s => k1 H3 v w1 _ (R.mono e6 r) s ⟨z1, rfl, by
    cases z1 with
    | true =>
      obtain ⟨u, hu, k2⟩ := hc rfl
      exact hu B3 H3 S3 ((e1.trans e3).trans e5) ((e2.trans e4).trans e6) _ fun w2 B4 H4 S4 e7 e8 t => k2 H4 w1 w2 _ (S.mono e8 s) t ⟨_, rfl, k B4 H4 S4 ((e3.trans e5).trans e7) ((e4.trans e6).trans e8)⟩
    | false => exact ⟨_, rfl, by rw [hn rfl] at k; exact k B3 H3 S3 (e3.trans e5) (e4.trans e6)⟩⟩)
variable {i0 j0 : Int} {w0 : Bool}
theorem ev_chP_lt_lt (ha : EvB X E own B H σ a rInt i0) (hb : EvB X E own B H σ b rInt j0) (hc : decide (i0 < j0) = true → ∃ l0, EvB X E own B H σ c rInt l0 ∧ w0 = decide (j0 < l0)) (hn : decide (i0 < j0) = false → w0 = false) (hm : lastMarks [.Lt, .Lt] [b, c] = false := by rfl) : EvB X E own B H σ (.Compare a [.Lt, .Lt] [b, c] pos) rBool w0 := ev_chP (T := rInt) op_lt op_lt hm ha hb (fun _ _ _ _ h1 h2 k => ⟨_, _, h1, h2, k⟩) (fun hz => by
  obtain ⟨l0, h3, h4⟩ := hc hz
  subst h4; exact ⟨l0, h3, fun _ _ _ _ h1 h2 k => ⟨_, _, h1, h2, k⟩⟩) hn
theorem et_chP_lt_lt (ha : EvB X E own B H σ a rInt i0) (hb : EvB X E own B H σ b rInt j0) (hc : decide (i0 < j0) = true → ∃ l0, EvB X E own B H σ c rInt l0 ∧ w0 = decide (j0 < l0)) (hn : decide (i0 < j0) = false → w0 = false) (hm : lastMarks [.Lt, .Lt] [b, c] = false := by rfl) : EvT X E own B H σ (.Compare a [.Lt, .Lt] [b, c] pos) w0 := et_chP (T := rInt) op_lt op_lt hm ha hb (fun _ _ _ _ h1 h2 k => ⟨_, _, h1, h2, k⟩) (fun hz => by
  obtain ⟨l0, h3, h4⟩ := hc hz
  subst h4; exact ⟨l0, h3, fun _ _ _ _ h1 h2 k => ⟨_, _, h1, h2, k⟩⟩) hn
theorem ev_chP_lt_le (ha : EvB X E own B H σ a rInt i0) (hb : EvB X E own B H σ b rInt j0) (hc : decide (i0 < j0) = true → ∃ l0, EvB X E own B H σ c rInt l0 ∧ w0 = decide (j0 ≤ l0)) (hn : decide (i0 < j0) = false → w0 = false) (hm : lastMarks [.Lt, .LtE] [b, c] = false := by rfl) : EvB X E own B H σ (.Compare a [.Lt, .LtE] [b, c] pos) rBool w0 := ev_chP (T := rInt) op_lt op_le hm ha hb (fun _ _ _ _ h1 h2 k => ⟨_, _, h1, h2, k⟩) (fun hz => by
  obtain ⟨l0, h3, h4⟩ := hc hz
  subst h4; exact ⟨l0, h3, fun _ _ _ _ h1 h2 k => ⟨_, _, h1, h2, k⟩⟩) hn
theorem et_chP_lt_le (ha : EvB X E own B H σ a rInt i0) (hb : EvB X E own B H σ b rInt j0) (hc : decide (i0 < j0) = true → ∃ l0, EvB X E own B H σ c rInt l0 ∧ w0 = decide (j0 ≤ l0)) (hn : decide (i0 < j0) = false → w0 = false) (hm : lastMarks [.Lt, .LtE] [b, c] = false := by rfl) : EvT X E own B H σ (.Compare a [.Lt, .LtE] [b, c] pos) w0 := et_chP (T := rInt) op_lt op_le hm ha hb (fun _ _ _ _ h1 h2 k => ⟨_, _, h1, h2, k⟩) (fun hz => by
  obtain ⟨l0, h3, h4⟩ := hc hz
  subst h4; exact ⟨l0, h3, fun _ _ _ _ h1 h2 k => ⟨_, _, h1, h2, k⟩⟩) hn
theorem ev_chP_le_lt (ha : EvB X E own B H σ a rInt i0) (hb : EvB X E own B H σ b rInt j0) (hc : decide (i0 ≤ j0) = true → ∃ l0, EvB X E own B H σ c rInt l0 ∧ w0 = decide (j0 < l0)) (hn : decide (i0 ≤ j0) = false → w0 = false) (hm : lastMarks [.LtE, .Lt] [b, c] = false := by rfl) : EvB X E own B H σ (.Compare a [.LtE, .Lt] [b, c] pos) rBool w0 := ev_chP (T := rInt) op_le op_lt hm ha hb (fun _ _ _ _ h1 h2 k => ⟨_, _, h1, h2, k⟩) (fun hz => by
  obtain ⟨l0, h3, h4⟩ := hc hz
  subst h4; exact ⟨l0, h3, fun _ _ _ _ h1 h2 k => ⟨_, _, h1, h2, k⟩⟩) hn
theorem et_chP_le_lt (ha : EvB X E own B H σ a rInt i0) (hb : EvB X E own B H σ b rInt j0) (hc : decide (i0 ≤ j0) = true → ∃ l0, EvB X E own B H σ c rInt l0 ∧ w0 = decide (j0 < l0)) (hn : decide (i0 ≤ j0) = false → w0 = false) (hm : lastMarks [.LtE, .Lt] [b, c] = false := by rfl) : EvT X E own B H σ (.Compare a [.LtE, .Lt] [b, c] pos) w0 := et_chP (T := rInt) op_le op_lt hm ha hb (fun _ _ _ _ h1 h2 k => ⟨_, _, h1, h2, k⟩) (fun hz => by
  obtain ⟨l0, h3, h4⟩ := hc hz
  subst h4; exact ⟨l0, h3, fun _ _ _ _ h1 h2 k => ⟨_, _, h1, h2, k⟩⟩) hn
theorem ev_chP_le_le (ha : EvB X E own B H σ a rInt i0) (hb : EvB X E own B H σ b rInt j0) (hc : decide (i0 ≤ j0) = true → ∃ l0, EvB X E own B H σ c rInt l0 ∧ w0 = decide (j0 ≤ l0)) (hn : decide (i0 ≤ j0) = false → w0 = false) (hm : lastMarks [.LtE, .LtE] [b, c] = false := by rfl) : EvB X E own B H σ (.Compare a [.LtE, .LtE] [b, c] pos) rBool w0 := ev_chP (T := rInt) op_le op_le hm ha hb (fun _ _ _ _ h1 h2 k => ⟨_, _, h1, h2, k⟩) (fun hz => by
  obtain ⟨l0, h3, h4⟩ := hc hz
  subst h4; exact ⟨l0, h3, fun _ _ _ _ h1 h2 k => ⟨_, _, h1, h2, k⟩⟩) hn
theorem et_chP_le_le (ha : EvB X E own B H σ a rInt i0) (hb : EvB X E own B H σ b rInt j0) (hc : decide (i0 ≤ j0) = true → ∃ l0, EvB X E own B H σ c rInt l0 ∧ w0 = decide (j0 ≤ l0)) (hn : decide (i0 ≤ j0) = false → w0 = false) (hm : lastMarks [.LtE, .LtE] [b, c] = false := by rfl) : EvT X E own B H σ (.Compare a [.LtE, .LtE] [b, c] pos) w0 := et_chP (T := rInt) op_le op_le hm ha hb (fun _ _ _ _ h1 h2 k => ⟨_, _, h1, h2, k⟩) (fun hz => by
  obtain ⟨l0, h3, h4⟩ := hc hz
  subst h4; exact ⟨l0, h3, fun _ _ _ _ h1 h2 k => ⟨_, _, h1, h2, k⟩⟩) hn
/-! x[i], x[j] = e -/
def PlSub (X : Cx) (o i : Expr) (pos : Pos) : Prop := ∀ v, assign (.Subscript o i pos) X.env v = (do
      let ov ← holding [v] (eval o X.env)
      let iv ← holding [v, ov] (eval i X.env)
      standAt pos
      holding [v, ov, iv] (setItem ov iv v)
      release [v, ov, iv] [])
def setI {α : Type} (xs : List α) (i : Int) (x : α) : Option (List α) := (ixN xs.length i).map fun j => xs.set j x
theorem setI_get {xs ys : List α} {i : Int} {x : α} (h : setI xs i x = some ys) : ∃ j, ixN xs.length i = some j ∧ ys = xs.set j x := by
  unfold setI at h
  cases hj : ixN xs.length i with
  | none => rw [hj] at h; cases h
  | some j => rw [hj] at h; exact ⟨j, rfl, (Option.some.inj h).symm⟩
theorem psetJ {α β : Type} {F : α → β → Prop} {l₁ : List α} {l₂ : List β} {x : α} {y : β} (h : Paired F l₁ l₂) (hx : F x y) (j : Nat) : Paired F (l₁.set j x) (l₂.set j y) := by
  induction h generalizing j with
  | nil => exact .nil
  | cons a b ih =>
    cases j with
    | zero => exact .cons hx b
    | succ j => exact .cons a (ih j)
theorem s_set2 {o2 : Expr} {p1 p2 tp : Pos} {kk : Nat} {q : Addr} {vs : List V} {xs ys zs : List α} {u w : Int} {pq : α × α} (C : Cok X k0) (S0 : Stt E own B H) (ho : PE X o (tVar i)) (ho2 : PE X o2 (tVar i)) (h : σ[i]? = some (some (.ref q))) (hk : own[k]? = some (q, .lst vs)) (r : Paired (R.r B) vs xs)
    (he : EvE X E own B H σ e (rPr R R) pq) (ha : EvB X E own B H σ a rInt u) (h1 : setI xs u pq.1 = some ys)
    (hb : ∀ vs' B' H', Stt E (own.set k (q, .lst vs')) B' H' → Ex B B' → Paired (R.r B') vs' ys → EvB X E (own.set k (q, .lst vs')) B' H' σ b rInt w) (h2 : setI ys w pq.2 = some zs)
    (kt : ∀ vs' B' H', Stt E (own.set k (q, .lst vs')) B' H' → Ex B B' → Paired (R.r B') vs' zs → WSs X rest D σ H')
    (g1 : PlSub X o a p1 := by exact fun _ => rfl) (g2 : PlSub X o2 b p2 := by exact fun _ => rfl)
    (hs : swapsWithSole [.Tuple [.Subscript o a p1, .Subscript o2 b p2] kk tp] e pos.line X.env = pure false := by rfl) (hw : swappedStores [.Tuple [.Subscript o a p1, .Subscript o2 b p2] kk tp] e X.env = pure none := by rfl) :
    WSs X (.Assign [.Tuple [.Subscript o a p1, .Subscript o2 b p2] kk tp] e pos :: rest) D σ H :=
  WSs.cons (ps_asg peW (pg_tup (n := 2) C.calm (pgs_cons (pg_sub ho peW set_list g1) (pgs_cons (pg_sub ho2 peW set_list g2) pgs_nil))) hs hw) (he B H S0 (Ex.refl _) (Ex.refl _) _ fun v B2 H2 S2 e1 e2 rp => by
    obtain ⟨l, va, vb, hl, hl2, hr1, hr2⟩ := rp
    obtain ⟨j1, hj1, rfl⟩ := setI_get h1
    obtain ⟨j2, hj2, rfl⟩ := setI_get h2
    refine ⟨l, [va, vb], hl, SqT.of (S2.bh _ _ hl2), rfl, va, [vb], rfl, .ref q, h, ?_⟩
    refine ha B2 H2 S2 e1 e2 _ fun w1 B3 H3 S3 e3 e4 rw1 => ?_
    have hq := (S3.ow _ (List.mem_of_getElem? hk)).2.2
    have r3 := pimp r fun _ _ z => R.mono (e1.trans e3) z
    have r4 := psetJ r3 (R.mono e3 hr1) j1
    refine ⟨q, vs, u, j1, rfl, rw1, hq, by rw [plen r]; exact hj1, vb, [], rfl, .ref q, h, ?_⟩
    have S3' := S3.put hk (o' := .lst (vs.set j1 va)) fun ys z => by cases z
    refine hb _ B3 _ S3' (e1.trans e3) r4 B3 _ S3' (Ex.refl _) (Ex.refl _) _ fun w2 B4 H4 S4 e5 e6 rw2 => ?_
    have hk4 : (own.set k (q, HO.lst (vs.set j1 va)))[k]? = some (q, HO.lst (vs.set j1 va)) := by
      rw [List.getElem?_set_self (List.getElem?_eq_some_iff.mp hk).1]
    have hq4 := (S4.ow _ (List.mem_of_getElem? hk4)).2.2
    refine ⟨q, _, w, j2, rfl, rw2, hq4, by rw [plen r4]; exact hj2, rfl, ?_⟩
    have S4' := S4.put hk4 (o' := .lst ((vs.set j1 va).set j2 vb)) fun ys z => by cases z
    rw [List.set_set] at S4'
    exact kt _ B4 _ S4' ((e1.trans e3).trans e5) (psetJ (pimp r4 fun _ _ z => R.mono e5 z) (R.mono (e3.trans e5) hr2) j2))
end
end Sg

namespace Sg
open PySem PySem.Spec PyProof.Rows L2
/-! for x in d: the dict is locked while the rows within run -/
def upE (E : Ent) (B : Hp) (q : Addr) (f : HO) : Ent := ⟨unB q (lkB q f B) E.B0, upd E.H0 q f⟩
section
variable {X Xb : Cx} {E : Ent} {own new own' : Own} {B H B' H' : Hp} {σ : L2.St} {α β γ δ τ ρ ρ' : Type} {R : Rel α} {S : Rel β} {T : Rel γ} {U : Rel δ} {e a b c d o it tg : Expr} {x : α} {y : β} {p pos pos' apos : Pos} {i j k k0 : Nat} {z w : Bool} {xs : List α} {ys : List β} {es : List Expr}
variable {n m f : Str} {rest body other : List Stmt} {D : Ends} {P : ρ → Prop} {Er : Err → Prop}
/-- the thing at q is none of those owned here -/
def NoOwn (E : Ent) (B : Hp) (q : Addr) : Prop := B q ≠ Option.none ∨ E.H0 q ≠ Option.none
theorem own_ne {q : Addr} (S0 : Stt E own B H) (h : NoOwn E B q) : ∀ r ∈ own, r.1 ≠ q := fun r hr z => by
  obtain ⟨h1, h2, _⟩ := S0.ow r hr
  rw [z] at h1 h2
  rcases h with h | h
  · exact h h2
  · exact h h1
/-- the thing at q is taken for f -/
theorem up_enter {q : Addr} {u f : HO} (S0 : Stt E own B H) (h : H q = some u) (no : NoOwn E B q) (nu : ∀ ys, f ≠ .tup ys) : Stt (upE E B q f) own (lkB q f B) (upd H q f) where
  b0 := fun a v e => by
    by_cases ha : a = q
    · subst ha; have e' : unB a (lkB a f B) E.B0 a = some v := e; rw [unB_at] at e'; exact e'
    · have e' : unB q (lkB q f B) E.B0 a = some v := e; rw [unB_ne ha] at e'; rw [lkB_ne ha]; exact S0.b0 a v e'
  h0 := fun a v e => by
    by_cases ha : a = q
    · subst ha; rw [upd_same]; have e' : upd E.H0 a f a = some v := e; rw [upd_same] at e'; exact e'
    · rw [upd_ne ha]; have e' : upd E.H0 q f a = some v := e; rw [upd_ne ha] at e'; exact S0.h0 a v e'
  bh := fun a v e => by
    by_cases ha : a = q
    · subst ha
      rw [lkB_at] at e
      rw [upd_same]
      cases hb : B a with
      | none => rw [hb] at e; cases e
      | some w => rw [hb] at e; exact e
    · rw [lkB_ne ha] at e; rw [upd_ne ha]; exact S0.bh a v e
  tu := fun a ys e => by
    by_cases ha : a = q
    · subst ha; rw [upd_same] at e; exact absurd (Option.some.inj e) (nu ys)
    · rw [upd_ne ha] at e; rw [lkB_ne ha]; exact S0.tu a ys e
  fr := fun a v e => by
    by_cases ha : a = q
    · subst ha; exact .inl (by show unB a _ _ a = _; rw [unB_at]; exact e)
    · rw [lkB_ne ha] at e
      rcases S0.fr a v e with z | z
      · exact .inl (by show unB q _ _ a = _; rw [unB_ne ha]; exact z)
      · exact .inr (by show upd E.H0 q f a = _; rw [upd_ne ha]; exact z)
  ow := fun r hr => by
    have ne := own_ne S0 no r hr
    obtain ⟨h1, h2, h3⟩ := S0.ow r hr
    exact ⟨by show upd E.H0 q f r.1 = _; rw [upd_ne ne]; exact h1, by rw [lkB_ne ne]; exact h2, by rw [upd_ne ne]; exact h3⟩
  nd := S0.nd
theorem up_back {q : Addr} {u f : HO} {own3 : Own} {B3 H3 : Hp} (S0 : Stt E own B H) (h : H q = some u) (nu : ∀ ys, u ≠ .tup ys) (S3 : Stt (upE E B q f) own3 B3 H3) : Stt E own3 (unB q B B3) (upd H3 q u) where
  b0 := fun a v e => by
    by_cases ha : a = q
    · subst ha; rw [unB_at]; exact S0.b0 a v e
    · rw [unB_ne ha]; exact S3.b0 a v (by show unB q _ _ a = _; rw [unB_ne ha]; exact e)
  h0 := fun a v e => by
    by_cases ha : a = q
    · subst ha; rw [upd_same]; have := S0.h0 a v e; rw [h] at this; exact this
    · rw [upd_ne ha]; exact S3.h0 a v (by show upd E.H0 q f a = _; rw [upd_ne ha]; exact e)
  bh := fun a v e => by
    by_cases ha : a = q
    · subst ha; rw [unB_at] at e; rw [upd_same]; have := S0.bh a v e; rw [h] at this; exact this
    · rw [unB_ne ha] at e; rw [upd_ne ha]; exact S3.bh a v e
  tu := fun a ys e => by
    by_cases ha : a = q
    · subst ha; rw [upd_same] at e; exact absurd (Option.some.inj e) (nu ys)
    · rw [upd_ne ha] at e; rw [unB_ne ha]; exact S3.tu a ys e
  fr := fun a v e => by
    by_cases ha : a = q
    · subst ha; rw [unB_at] at e; exact S0.fr a v e
    · rw [unB_ne ha] at e
      rcases S3.fr a v e with z | z
      · have z' : unB q (lkB q f B) E.B0 a = some v := z; rw [unB_ne ha] at z'; exact .inl z'
      · have z' : upd E.H0 q f a = Option.none := z; rw [upd_ne ha] at z'; exact .inr z'
  ow := fun r hr => by
    obtain ⟨h1, h2, h3⟩ := S3.ow r hr
    have h1' : upd E.H0 q f r.1 = Option.none := h1
    have ne : r.1 ≠ q := fun z => by rw [z, upd_same] at h1'; cases h1'
    rw [upd_ne ne] at h1'
    exact ⟨h1', by rw [unB_ne ne]; exact h2, by rw [upd_ne ne]; exact h3⟩
  nd := S3.nd
theorem up_at {q : Addr} {f : HO} {own3 : Own} {B3 H3 : Hp} (S3 : Stt (upE E B q f) own3 B3 H3) : H3 q = some f := S3.h0 q f upd_same
theorem up_exB {q : Addr} {u f : HO} (S0 : Stt E own B H) (h : H q = some u) (hc : nf f = nf u) : Ex B (lkB q f B) := fun a v e => by
  by_cases ha : a = q
  · subst ha
    have := S0.bh a v e
    rw [h] at this
    cases this
    exact ⟨f, by rw [lkB_at, e] <;> rfl, hc⟩
  · exact ⟨v, by rw [lkB_ne ha]; exact e, rfl⟩
theorem up_exE {q : Addr} {u f : HO} (S0 : Stt E own B H) (h : H q = some u) (hc : nf f = nf u) : Ex E.H0 (upE E B q f).H0 := fun a v e => by
  by_cases ha : a = q
  · subst ha
    have := S0.h0 a v e
    rw [h] at this
    cases this
    exact ⟨f, upd_same, hc⟩
  · exact ⟨v, by show upd E.H0 q f a = _; rw [upd_ne ha]; exact e, rfl⟩
theorem up_exBack {q : Addr} {u f : HO} {own3 : Own} {B3 H3 : Hp} (S0 : Stt E own B H) (h : H q = some u) (hc : nf u = nf f) (S3 : Stt (upE E B q f) own3 B3 H3) : Ex B3 (unB q B B3) := fun a v e => by
  by_cases ha : a = q
  · subst ha
    rcases S3.fr a v e with z | z
    · have z' : unB a (lkB a f B) E.B0 a = some v := z
      rw [unB_at, lkB_at] at z'
      cases hb : B a with
      | none => rw [hb] at z'; cases z'
      | some w =>
        rw [hb] at z'
        cases z'
        have := S0.bh a w hb
        rw [h] at this
        cases this
        exact ⟨u, by rw [unB_at]; exact hb, hc⟩
    · have z' : upd E.H0 a f a = Option.none := z
      rw [upd_same] at z'
      cases z'
  · exact ⟨v, by rw [unB_ne ha]; exact e, rfl⟩
theorem upd_id {q : Addr} {u : HO} {B : Hp} (h : B q = some u) : upd B q u = B := by
  funext a
  by_cases ha : a = q
  · subst ha; rw [upd_same, h]
  · rw [upd_ne ha]
theorem forM_cons {step : τ → α → Res τ} {kn : τ → Res ρ} {r : List α} {acc : τ} (F : Fin P Er ((forM step (x :: r) acc).bind kn)) : Fin (fun a' => Fin P Er ((forM step r a').bind kn)) Er (step acc x) := by
  unfold forM at F
  cases hm : step acc x with
  | ok o => rw [hm] at F; exact F
  | err e => rw [hm] at F; exact F
  | stuck => rw [hm] at F; exact F
theorem forM_core {B2 H2 : Hp} {J : It} {g : TG} {Tg : α → Hp → L2.St → L2.St → Prop} {step : τ → α → Res τ} {kn : τ → Res ρ} {a0 : τ}
    (hg : ∀ own B H v x σ, Stt E own B H → R.r B v x → ∀ Q : L2.St → Hp → Prop, (∀ σ', Tg x B σ σ' → Q σ' H) → g v σ H Q) (S2 : Stt E own B2 H2) (W : Walk E KoT B2 J R xs)
    (F : Fin P Er ((forM step xs a0).bind kn)) (Inv : τ → L2.St → Own → Hp → Prop) (h0 : Inv a0 σ own B2) (hup : ∀ a σ' own' B' B'', Inv a σ' own' B' → Ex B' B'' → Inv a σ' own' B'')
    (hs : ∀ a x σ' σ2 own' B' H' (Q : τ → Prop), Inv a σ' own' B' → Stt E own' B' H' → Ex B2 B' → Tg x B' σ' σ2 → Fin Q Er (step a x) →
      WSs X body { nx := TurnE E B' Q Inv, rt := fun _ _ => False, bk := fun _ _ => False, ct := TurnE E B' Q Inv } σ2 H')
    (hd : ∀ a σ' own' B' H', Inv a σ' own' B' → Stt E own' B' H' → Ex B2 B' → Fin P Er (kn a) → D.nx σ' H') :
    ∃ W : Nat → Nat → L2.St → Hp → Prop, (∃ m, W 0 m σ H2) ∧ ∀ i m σ H, W i m σ H →
      (J.stop i H ∧ D.nx σ H) ∨ (J.go i H ∧ ∃ N : L2.St → Hp → Prop, (∀ σ' H', N σ' H' → ∃ m', m' < m ∧ W (i + 1) m' σ' H') ∧ ∀ x H', J.yld i H x H' → g x σ H' fun σ2 H2 => WSs X body { D with nx := N, ct := N, bk := D.nx } σ2 H2) := by
  refine ⟨fun i' mm σ' H' => mm = xs.length - i' ∧ i' ≤ xs.length ∧ ∃ a own' B', Fin P Er ((forM step (xs.drop i') a).bind kn) ∧ Stt E own' B' H' ∧ Ex B2 B' ∧ Inv a σ' own' B', ⟨xs.length, by simp, Nat.zero_le _, a0, own, B2, by rw [List.drop_zero]; exact F, S2, Ex.refl _, h0⟩, ?_⟩
  rintro i' mm σ' H' ⟨rfl, hi, a, own', B', F', S', e', iv⟩
  by_cases hlt : i' < xs.length
  · refine .inr ⟨W.go i' own' B' H' S' e' trivial hlt, fun σ2 H2 => ∃ a own' B', Fin P Er ((forM step (xs.drop (i' + 1)) a).bind kn) ∧ Stt E own' B' H2 ∧ Ex B2 B' ∧ Inv a σ2 own' B', fun σ2 H2 q => ⟨xs.length - (i' + 1), by omega, rfl, hlt, q⟩, fun v H'' hy => ?_⟩
    have hx : xs[i']? = some xs[i'] := List.getElem?_eq_getElem hlt
    obtain ⟨B'', S'', e3, e4, rx⟩ := W.yld i' own' B' H' v H'' _ S' e' trivial hx hy
    refine hg own' B'' H'' v _ σ' S'' rx _ fun σ2 tgx => ?_
    have hdrop : xs.drop i' = xs[i'] :: xs.drop (i' + 1) := List.drop_eq_getElem_cons hlt
    rw [hdrop] at F'
    have F2 := forM_cons F'
    have done := hs a _ σ' σ2 own' B'' H'' _ (hup _ _ _ _ _ iv e3) S'' (e'.trans e3) tgx F2
    intro pins s I
    refine wpAny_mono (done pins s I) (fun f s' q => ?_) fun _ _ q => q
    cases f with
    | next =>
      obtain ⟨σ2, H2', I2, a', own2, B3, q1, q2, q3, q4⟩ := q
      exact ⟨σ2, H2', I2, a', own2, B3, q1, q2, (e'.trans e3).trans q3, q4⟩
    | cont =>
      obtain ⟨σ2, H2', I2, a', own2, B3, q1, q2, q3, q4⟩ := q
      exact ⟨σ2, H2', I2, a', own2, B3, q1, q2, (e'.trans e3).trans q3, q4⟩
    | brk =>
      obtain ⟨_, _, _, h⟩ := q
      exact h.elim
    | ret u =>
      obtain ⟨_, _, _, _, _, h⟩ := q
      exact h.elim
  · have e : i' = xs.length := by omega
    subst e
    rw [List.drop_length] at F'
    exact .inl ⟨W.stop _ own' B' H' S' e' trivial (Nat.le_refl _), hd a σ' own' B' H' iv S' e' F'⟩
/-- .. none of those owned here -/
def EvKB (X : Cx) (E : Ent) (B H : Hp) (σ : L2.St) (e : Expr) (R : Rel α) (kvs : List (Int × α)) : Prop := ∃ q ws, (∀ H', Tx H H' → ∀ Q : VK, Q (.ref q) H' → WE X e σ H' Q) ∧ Rd H q (.dK ws) ∧ NoOwn E B q ∧ pI R H ws kvs
/-- what is known of K is known here, and none of it is owned -/
structure KOk (E : Ent) (B H K : Hp) : Prop where
  ex : Ex K H
  no : ∀ q, K q ≠ Option.none → NoOwn E B q
theorem kokB (S0 : Stt E own B H) : KOk E B H B := ⟨S0.bh.ex, fun _ h => .inl h⟩
theorem kok0 (S0 : Stt E own B H) : KOk E B H E.H0 := ⟨S0.h0.ex, fun _ h => .inr h⟩
theorem KOk.rd {K : Hp} {q : Addr} {u : HO} (k : KOk E B H K) (h : Rd K q u) : NoOwn E B q := k.no q (by rcases h with h | ⟨_, h⟩ <;> rw [h] <;> exact fun z => by cases z)
theorem ekb_v {K : Hp} {v : V} {kvs : List (Int × α)} (k : KOk E B H K) (hp : PE X e (tVar i)) (h : σ[i]? = some (some v)) (r : (rDI R).r K v kvs) : EvKB X E B H σ e R kvs := by
  obtain ⟨q, ws, rfl, h2, h3⟩ := r
  exact ⟨q, ws, fun H' _ Q k => WE.of hp ⟨_, h, k⟩, k.ex.dK h2, k.rd h2, h3.up k.ex⟩
theorem ekb_at {K : Hp} {v u : V} {j : Nat} {kvs : List (Int × α)} {kk} {pp : Pos} (k : KOk E B H K) (hp : PE X o (tVar i)) (h : σ[i]? = some (some v)) (ht : TupAt K v u j) (r : (rDI R).r K u kvs) : EvKB X E B H σ (.Subscript o (.Constant (.int j) kk pp) pos) R kvs := by
  obtain ⟨q, ws, rfl, h2, h3⟩ := r
  obtain ⟨p, vs, rfl, h5, h6⟩ := ht
  exact ⟨q, ws, fun H' tx Q k' => WE.of (pe_ix ix_tup hp pe_int (fun _ _ => rfl)) ⟨_, h, p, vs, j, .ref q, rfl, rfl, SqT.of (tx _ _ (k.ex.tup h5)), h6, k'⟩, k.ex.dK h2, k.rd h2, h3.up k.ex⟩
theorem ekb_t41 {K : Hp} {v : V} {x : α × List (Int × β) × γ × δ} {kk} {pp : Pos} (k : KOk E B H K) (hp : PE X o (tVar i)) (h : σ[i]? = some (some v)) (r : (rT4 R (rDI S) T U).r K v x) : EvKB X E B H σ (.Subscript o (.Constant (.int 1) kk pp) pos) S x.2.1 := by
  obtain ⟨p, a, b, c, d, h1, h2, h3, h4, h5, h6⟩ := r
  exact ekb_at (j := 1) k hp h ⟨p, [a, b, c, d], h1, h2, rfl⟩ h4
theorem ekb_t42 {K : Hp} {v : V} {x : α × β × List (Int × γ) × δ} {kk} {pp : Pos} (k : KOk E B H K) (hp : PE X o (tVar i)) (h : σ[i]? = some (some v)) (r : (rT4 R S (rDI T) U).r K v x) : EvKB X E B H σ (.Subscript o (.Constant (.int 2) kk pp) pos) T x.2.2.1 := by
  obtain ⟨p, a, b, c, d, h1, h2, h3, h4, h5, h6⟩ := r
  exact ekb_at (j := 2) k hp h ⟨p, [a, b, c, d], h1, h2, rfl⟩ h5
theorem ekb_t31 {K : Hp} {v : V} {x : α × List (Int × β) × γ} {kk} {pp : Pos} (k : KOk E B H K) (hp : PE X o (tVar i)) (h : σ[i]? = some (some v)) (r : (rT3 R (rDI S) T).r K v x) : EvKB X E B H σ (.Subscript o (.Constant (.int 1) kk pp) pos) S x.2.1 := by
  obtain ⟨p, a, b, c, h1, h2, h3, h4, h5⟩ := r
  exact ekb_at (j := 1) k hp h ⟨p, [a, b, c], h1, h2, rfl⟩ h4
theorem ekb_t32 {K : Hp} {v : V} {x : α × β × List (Int × γ)} {kk} {pp : Pos} (k : KOk E B H K) (hp : PE X o (tVar i)) (h : σ[i]? = some (some v)) (r : (rT3 R S (rDI T)).r K v x) : EvKB X E B H σ (.Subscript o (.Constant (.int 2) kk pp) pos) T x.2.2 := by
  obtain ⟨p, a, b, c, h1, h2, h3, h4, h5⟩ := r
  exact ekb_at (j := 2) k hp h ⟨p, [a, b, c], h1, h2, rfl⟩ h5
def TgOkA (X : Cx) {α : Type} (tg : Expr) (R : Rel α) (T : α → Hp → L2.St → L2.St → Prop) : Prop := ∃ g : TG, PG X tg g ∧ ∀ (E : Ent) own B H v x σ, Stt E own B H → R.r B v x → ∀ Q : L2.St → Hp → Prop, (∀ σ', T x B σ σ' → Q σ' H) → g v σ H Q
theorem s_forD {tg : Expr} {Tg : Int → Hp → L2.St → L2.St → Prop} {step : τ → Int → Res τ} {kn : τ → Res ρ} {a0 : τ} {kvs : List (Int × α)} (C : Cok X k0) (ht : TgOkA X tg rInt Tg) (S0 : Stt E own B H) (hit : EvKB X E B H σ it R kvs)
    (F : Fin P Er ((forM step (kvs.map (·.1)) a0).bind kn))
    (Inv : τ → L2.St → Own → Hp → Prop) (h0 : ∀ B1, Ex B B1 → Inv a0 σ own B1) (hup : ∀ a σ' own' B' B'', Inv a σ' own' B' → Ex B' B'' → Inv a σ' own' B'')
    (hs : ∀ E', Ex E.H0 (Ent.H0 E') → ∀ a x σ' σ2 own' B' H' (Q : τ → Prop), Inv a σ' own' B' → Stt E' own' B' H' → Ex B B' → Tg x B' σ' σ2 → Fin Q Er (step a x) →
      WSs X body { nx := TurnE E' B' Q Inv, rt := fun _ _ => False, bk := fun _ _ => False, ct := TurnE E' B' Q Inv } σ2 H')
    (hd : ∀ a σ' own' B' H', Inv a σ' own' B' → Stt E own' B' H' → Ex B B' → Fin P Er (kn a) → WSs X rest D σ' H')
    (hf : ∀ x, foldedSetIterable it X.env x = pure x := by intro _; rfl) : WSs X (.For tg it body [] pos :: rest) D σ H := by
  obtain ⟨q, ws, hv, hqH, no, hp⟩ := hit
  have kr := keys_rel hp
  obtain ⟨g, pg, hg⟩ := ht
  rcases hqH with hqH | ⟨ob, hqH⟩
  · refine WSs.cons (ps_lock (ps_for C.own C.calm (pi_keys peW) pg pssW hf)) ⟨q, .dK ws, hqH, trivial, fun ob => ?_⟩
    refine hv _ (fun a ys h => ?_) _ ⟨q, ob, rfl, .inl ⟨ws, upd_same, ?_⟩⟩
    · rw [upd_ne fun z => by rw [z, hqH] at h; cases h]
      exact h
    · have SE := up_enter (f := .frz ob (.dK ws)) S0 hqH no (fun ys z => by cases z)
      have ex := up_exB (f := .frz ob (.dK ws)) S0 hqH rfl
      have exE : Ex E.H0 (upE E B q (.frz ob (.dK ws))).H0 := up_exE S0 hqH rfl
      exact forM_core (hg (upE E B q (.frz ob (.dK ws)))) SE (walk_keysE upd_same kr) F Inv (h0 _ ex) hup (fun a x σ' σ2 own' B' H' Q iv S' e' t F' => hs _ exE a x σ' σ2 own' B' H' Q iv S' (ex.trans e') t F')
        fun a σ' own' B' H' iv S' e' F' => by
          have T := up_back S0 hqH (fun ys z => by cases z) S'
          have exb := up_exBack (f := .frz ob (.dK ws)) S0 hqH rfl S'
          exact ⟨up_at S', hd a σ' own' _ _ (hup _ _ _ _ _ iv exb) T ((ex.trans e').trans exb) F'⟩
  · refine WSs.cons (ps_for C.own C.calm (pi_keys peW) pg pssW hf) (hv _ (fun _ _ h => h) _ ⟨q, ob, rfl, .inl ⟨ws, hqH, ?_⟩⟩)
    have SE := up_enter (f := .frz ob (.dK ws)) S0 hqH no (fun ys z => by cases z)
    rw [upd_id hqH] at SE
    have ex := up_exB (f := .frz ob (.dK ws)) S0 hqH rfl
    have exE : Ex E.H0 (upE E B q (.frz ob (.dK ws))).H0 := up_exE S0 hqH rfl
    exact forM_core (hg (upE E B q (.frz ob (.dK ws)))) SE (walk_keysE upd_same kr) F Inv (h0 _ ex) hup (fun a x σ' σ2 own' B' H' Q iv S' e' t F' => hs _ exE a x σ' σ2 own' B' H' Q iv S' (ex.trans e') t F')
      fun a σ' own' B' H' iv S' e' F' => by
        have T := up_back S0 hqH (fun ys z => by cases z) S'
        have exb := up_exBack (f := .frz ob (.dK ws)) S0 hqH rfl S'
        rw [upd_id (up_at S')] at T
        exact hd a σ' own' _ _ (hup _ _ _ _ _ iv exb) T ((ex.trans e').trans exb) F'
theorem tg_nameA {k0 : Nat} (C : Cok X k0) (L : Slot X j n) : TgOkA X (.Name n pos) R (tN j R) := ⟨_, pg_name (i := j) C.nd L.ix L.loc L.hf, fun E own B H v x σ S r Q k => k _ ⟨v, r, rfl⟩⟩
end
end Sg

namespace Sg
open PySem PySem.Spec PyProof.Rows L2
/-! tuple(reversed(a tuple)) -/
section
variable {prog : Program} {w : World} {A : Around} {E : Value → Shared → Prop} {s : Shared} {T : String} {it d : Addr} {n : Nat} {P : Nat → Value → Prop} {OK : Heap → Prop}
theorem self_collect {Q : List Value → Shared → Prop} (K : SelfSrc prog w T it d n P OK) (hh : A.handled = none) (hok : OK s.heap) (hn : n ≤ sizeLine)
    (hQ : ∀ (h' : Heap) (tk : Nat) (acc : Array Value), (∀ b o, b ≠ it → s.heap.get? b = some o → h'.get? b = some o) → ItemsOf P acc n → Q acc.toList { s with heap := h', toks := tk }) :
    wpAny (model prog w) A (collect (.ref it)) Q E s := by
  have hlt := K.there _ hok
  unfold collect
  refine wpAny_bind (wpAny_runValue (codeAny_builtin PySem.F.entry_proto_collect ?_))
  rw [Around.under_plainId PySem.F.plain_proto_collect _]
  show wpAny _ A.in1 (newList [] >>= fun l' => again (.builtin "list.__iadd__" ⟨[l', .ref it], []⟩)) _ _ s
  refine wpAny_bind (wpAny_newObj_type ?_)
  refine wpAny_pure ⟨plainId_quiet PySem.F.plain_list_iadd _, codeAny_builtin PySem.F.entry_list_iadd ?_⟩
  rw [Around.under_plainId PySem.F.plain_list_iadd _]
  have hS₁ : (s.heap.push { cls := .type "list", data := .seq ([] : List Value).toArray }).get? s.heap.objs.size = some { cls := .type "list", data := .seq ([] : List Value).toArray } := Heap.get?_push_size _ rfl
  show wpAny _ A.in1 (Builtin.List.listExtendWith (.ref s.heap.objs.size) (.ref it) (.ref s.heap.objs.size)) _ _ _
  refine self_extend (R := wants _ E) (s := { s with heap := s.heap.push { cls := .type "list", data := .seq ([] : List Value).toArray } }) K hh (K.keep _ _ hok fun b _ o e => Heap.get?_push_of_some _ e) _ (Nat.ne_of_gt hlt.1) (Nat.ne_of_gt hlt.2) _ _ hS₁ (fun h' tk acc' c' hk hS' hacc => ?_) hn
  show wpAny _ A (load s.heap.objs.size >>= _) _ _ _
  refine wpAny_bind (wpAny_load hS' ?_)
  refine wpAny_pure ?_
  exact hQ h' tk acc' (fun b o hb e => hk b o (Nat.ne_of_lt (Heap.lt_size e)) hb (Heap.get?_push_of_some _ e)) hacc
theorem code_tuple_new_rt {Q₁ : Value → Shared → Prop} (K : SelfSrc prog w "reversed" it d n P OK) (hh : A.handled = none) (hok : OK s.heap) (hn : n ≤ sizeLine)
    (h : ∀ (h' : Heap) (tk : Nat) (acc : Array Value), (∀ b o, b ≠ it → s.heap.get? b = some o → h'.get? b = some o) → ItemsOf P acc n →
      Q₁ (.ref h'.objs.size) { s with heap := h'.push { cls := .type "tuple", data := .seq acc }, toks := tk }) :
    codeAny (model prog w) A (.call (.builtin "tuple.__new__") ⟨[.type "tuple", .ref it], []⟩) (wants Q₁ E) s := by
  refine codeAny_of_tree ?_
  show wpAny _ A.in1 (do checkBuiltinCall "tuple.__new__" ⟨[.type "tuple", .ref it], []⟩; again (.builtin "tuple.__new__" ⟨[.type "tuple", .ref it], []⟩)) _ _ s
  refine wpAny_bind (wpAny_of_eq (PySem.F.newCall_tuple_1 _) (wpAny_pure ⟨plainId_quiet PySem.F.plain_tuple_new _, codeAny_builtin PySem.F.entry_tuple_new ?_⟩))
  rw [Around.under_plainId PySem.F.plain_tuple_new _]
  have hsub := sub_tuple_self
  have hinit := init_tuple_lookup
  have hmh := madeHere_tuple
  have hTI : s.TypeIs (.ref it) "reversed" := K.ty s hok
  have hh1 : A.in1.handled = none := hh
  wp_walk using wpAny_typeOf hTI, self_collect (A := A.in1) K hh1 hok hn
  intro h' tk acc hk hacc
  show wpAny _ _ (Builtin.Tuple.tupleExact acc.toList.toArray >>= fun v => ret v) _ _ _
  unfold Builtin.Tuple.tupleExact
  refine wpAny_bind (wpAny_newObj_type ?_ (by show acc.toList.toArray.size ≤ sizeLine; simp only [Array.toArray_toList]; rw [hacc.1]; exact hn))
  refine wpAny_pure ?_
  have e : acc.toList.toArray = acc := by simp
  rw [e]
  exact h h' tk acc hk hacc
theorem call_tuple_rt {Q : Value → Shared → Prop} (K : SelfSrc prog w "reversed" it d n P OK) (hh : A.handled = none) (hok : OK s.heap) (hn : n ≤ sizeLine)
    (hQ : ∀ (h' : Heap) (tk : Nat) (acc : Array Value), (∀ b o, b ≠ it → s.heap.get? b = some o → h'.get? b = some o) → ItemsOf P acc n →
      Q (.ref h'.objs.size) { s with heap := h'.push { cls := .type "tuple", data := .seq acc }, toks := tk }) :
    wpAny (model prog w) A (call (.type "tuple") [.ref it]) Q E s := by
  refine callType_codes (Q₁ := fun obj s₁ => s₁.TypeIs obj "tuple" ∧ Q obj s₁) PySem.F.called_tuple (PySem.F.typeCall_tuple_1 _) PySem.F.entry_object_init
    (code_tuple_new_rt (A := A.in1) K hh hok hn fun h' tk acc hk hacc => ⟨⟨_, Heap.get?_push_size _ rfl, rfl⟩, hQ h' tk acc hk hacc⟩) fun obj s₁ h₁ => ?_
  exact ⟨h₁.1, PySem.F.args_object_init_2 obj _, object_init_meets PySem.F.called_tuple.init.lookup PySem.F.called_tuple.made (by decide) prog w A.in1 _ s₁ ⟨h₁.1, rfl, h₁.2⟩⟩
end
def tTupRevT (K : PySem.W.Frag) (te : TE) : TE := fun σ H Q => te σ H fun v H1 => ∃ (a : Addr) (xs : List V), v = .ref a ∧ SqT K H1 a xs ∧ ∀ q, H1 q = none → Q (.ref q) (upd H1 q (.tup xs.reverse))
section
variable {X : Cx}
theorem pe_tupRevT {e : Expr} {te : TE} {p p2 pos pos2 : Pos} (hc : X.calm = true) (hg : Gl X "tuple") (hm : X.mg "tuple" = none) (hg2 : Gl X "reversed") (hm2 : X.mg "reversed" = none) (he : PE X e te)
    (hs : starEach [e] X.env = (false, eval e X.env) :: starEach [] X.env := by rfl)
    (hs2 : starEach [.Call (.Name "reversed" p2) [e] [] pos2] X.env = (false, eval (.Call (.Name "reversed" p2) [e] [] pos2) X.env) :: starEach [] X.env := by rfl) :
    PE X (.Call (.Name "tuple" p) [.Call (.Name "reversed" p2) [e] [] pos2] [] pos) (tTupRevT X.K te) := by
  refine ⟨fun pins s σ H Q I h => ?_⟩
  refine Call_ (ld_blt I hg hm (show bootBuiltins "tuple" = some (.type "tuple") from by decide +kernel) (PyProof.Rows.callWith_type1 (args_cons (Call_ (ld_blt I hg2 hm2 PyProof.Rows.boot_reversed (PyProof.Rows.callWith_type1 (args_cons (thn (he.run pins s σ H _ I h) fun u s1 ⟨v, H1, I1, r1, q1⟩ => args_nil ?_) hs) hs rfl))) hs2) hs2 rfl))
  obtain ⟨a, xs, ev, hq, q⟩ := q1
  subst ev
  obtain rfl : u = Value.ref a := r1
  obtain ⟨its, rv, p', hz⟩ := I1.tuple hq
  have hn := line63
  refine RT.call_reversed_tup p' (fun A E Q k => PyProof.Rows.len_tuple p' (by simp only [List.size_toArray] <;> (have := rv.length; omega)) k) (args_nil ?_)
  have k0 : ∀ b o, s1.heap.get? b = some o → (s1.heap.push (RT.rtObj a ((its.toArray.size : Int) - 1))).get? b = some o := fun b o e => Heap.get?_push_of_some _ e
  obtain ⟨ol, hol, _⟩ := id p'
  have hne : a ≠ s1.heap.objs.size := Nat.ne_of_lt (Heap.lt_size hol)
  have hz2 : its.toArray.size ≤ sizeLine := by rw [List.size_toArray, ← rv.length]; exact hz
  have I2 : Inv X pins σ H1 { s1 with heap := s1.heap.push (RT.rtObj a ((its.toArray.size : Int) - 1)), toks := s1.toks + 1 + 1 } := I1.kept (t' := s1.toks + 1 + 1) k0
  obtain ⟨f0, f1, f2, f3, f4, f5⟩ := I1.fpOk (H' := H1) (b := s1.heap.objs.size) (Nat.le_refl _) (I1.hok.fresh (Nat.le_refl _))
  refine call_tuple_rt (s := { s1 with heap := s1.heap.push (RT.rtObj a ((its.toArray.size : Int) - 1)), toks := s1.toks + 1 + 1 }) (src_rt hne hz2) (I1.ok.hd hc) ⟨⟨_, Heap.get?_push_size _ rfl, rfl, rfl⟩, p'.push _⟩ hz2 fun h' tk acc hk hi => ?_
  have I3 : Inv X pins σ H1 { s1 with heap := h', toks := tk } := I2.turned (t' := tk) (fun b o hb e => hk b o hb e) f0 f1 f3 f4 f5
  refine ⟨.ref h'.objs.size, upd H1 h'.objs.size (.tup xs.reverse), I3.laid (t' := tk) (fun c o e => Heap.get?_push_of_some _ e) (Nat.le_refl _) (show ObjOk X.prog X.w _ _ _ (.tup xs.reverse) from ⟨by rw [List.length_reverse]; exact hz, acc.toList, RT.vals_rev rv hi, ?_⟩), rfl, q _ (I3.hok.fresh (Nat.le_refl _))⟩
  rw [Array.toArray_toList]
  exact IsTup.new _ _
end
section
variable {X : Cx} {E : Ent} {own : Own} {B H : Hp} {σ : L2.St} {α : Type} {R : Rel α} {a : Expr} {p pos : Pos} {xs : List α}
theorem ee_tupleRT [Imm R] {p2 pos2 : Pos} (hc : X.calm = true) (hg : Gl X "tuple") (hm : X.mg "tuple" = none) (hg2 : Gl X "reversed") (hm2 : X.mg "reversed" = none) (ha : EvB X E own B H σ a (rTup R) xs) (hs : St1 X a := by rfl)
    (hs2 : starEach [.Call (.Name "reversed" p2) [a] [] pos2] X.env = (false, eval (.Call (.Name "reversed" p2) [a] [] pos2) X.env) :: starEach [] X.env := by rfl) : EvE X E own B H σ (.Call (.Name "tuple" p) [.Call (.Name "reversed" p2) [a] [] pos2] [] pos) (rTup R) xs.reverse := fun B1 H1 S1 e1 e2 Q k =>
  WE.of (pe_tupRevT hc hg hm hg2 hm2 peW hs hs2) (ha B1 H1 S1 e1 e2 _ fun v B2 H2 S2 e3 e4 r => by
    obtain ⟨q, vs, h1, h2, h3⟩ := r
    refine ⟨q, vs, h1, SqT.of h2, fun l hl => ?_⟩
    exact k (.ref l) _ _ (S2.lay hl) (e3.trans (S2.layB hl).ex) (e4.trans (Sx.new hl).ex) ⟨l, vs.reverse, rfl, upd_same, prev (pimp h3 fun _ _ z => R.mono (S2.layB hl).ex (Imm.imm S2.tu z))⟩)
/-! an item that holds a list -/
theorem ee_ixL {o : Expr} {x : α} {q : Int} (ho : EvE X E own B H σ o (rLst R) xs) (ha : EvB X E own B H σ a rInt q) (hx : atI xs q = some x) (hs : PlainIx a := by exact fun _ _ => rfl) : EvE X E own B H σ (.Subscript o a pos) R x := fun B1 H1 S1 e1 e2 Q k =>
  WE.of (pe_ix ix_list peW peW hs) (ho B1 H1 S1 e1 e2 _ fun v B2 H2 S2 e3 e4 r => ha B2 H2 S2 (e1.trans e3) (e2.trans e4) _ fun w B3 H3 S3 e5 e6 r' => by
    obtain ⟨l, vs, h1, h2, h3⟩ := Rel.mono _ e5 r
    obtain ⟨u, hu, hF⟩ := pat h3 hx
    exact ⟨l, vs, q, u, h1, r', .inl (h2.imp (S3.bh _ _) fun ⟨o, h⟩ => ⟨o, S3.bh _ _ h⟩), hu, k u B3 H3 S3 (e3.trans e5) (e4.trans e6) hF⟩)
instance {K : PySem.W.Frag} {β γ : Type} {S : Rel β} {T : Rel γ} [D : DatK K R] [F : DatK K S] [G : DatK K T] : DatK K (rT3 R S T) := ⟨fun x => .tuple [D.d x.1, F.d x.2.1, G.d x.2.2], fun h => by
    obtain ⟨p, a, b, c, h1, h2, h3, h4, h5⟩ := h
    rw [h1]
    exact .tup (SqT.of h2) (.cons (D.rd h3) (.cons (F.rd h4) (.cons (G.rd h5) .nil))), fun x => by
    show (PyData.canLay0 (D.d x.1) && (PyData.canLay0 (F.d x.2.1) && (PyData.canLay0 (G.d x.2.2) && true))) = true
    rw [D.lay, F.lay, G.lay] <;> rfl, max D.n (max F.n G.n) + 1, fun x => by
    show max (PyData.depth (D.d x.1)) (max (PyData.depth (F.d x.2.1)) (max (PyData.depth (G.d x.2.2)) 0)) + 1 ≤ max D.n (max F.n G.n) + 1
    have := D.dep x.1
    have := F.dep x.2.1
    have := G.dep x.2.2
    omega, fun x y => by
    show (PyData.eqv (D.d x.1) (D.d y.1) && (PyData.eqv (F.d x.2.1) (F.d y.2.1) && (PyData.eqv (G.d x.2.2) (G.d y.2.2) && true))) = true ↔ _
    rw [Bool.and_eq_true, Bool.and_eq_true, Bool.and_true, D.eq, F.eq, G.eq]
    exact ⟨fun h => Prod.ext h.1 (Prod.ext h.2.1 h.2.2), fun h => by rw [h]; exact ⟨rfl, rfl, rfl⟩⟩⟩
end
end Sg

namespace Sg
open PySem PySem.Spec PyProof.Rows L2
/-! ### sorted(list, key = a bound method) -/
def leK {α : Type} (f : α → Int) (a b : α) : Bool := decide (f a ≤ f b)
theorem dataLe_intK {α : Type} (k : α → Int) : PySem.W.dataLe false (fun x => PyData.int (k x)) = leK k := PySem.W.dataLe_int k
section
variable {X : Cx} {pins : List (Addr × Obj)} {σ : L2.St} {H : Hp} {s : Shared} {kk : Nat} {q g t : Addr} {sp : Sp} {xs : List V} {ks : List Int} {vs : List Value}
theorem ints_each {h : Heap} : ∀ {us : List Value} {ns : List Int}, IntsAre us ns → PySem.W.EachIs (fun v k => ∃ as, Reads h v k as) us (ns.map PyData.int)
  | _, _, .nil => .nil
  | _, _, .cons n t r => .cons ⟨_, Reads.int n t⟩ (ints_each r)
theorem vals_each : ∀ {xs : List V} {us : List Value} {ks : List Int}, Vals xs us → ks.length = xs.length → PySem.W.EachIs (fun u (p : V × Int) => RelV p.1 u) us (xs.zip ks)
  | _, _, [], .nil, _ => .nil
  | _, _, _ :: _, .nil, h => by cases h
  | _, _, [], .cons _ _, h => by cases h
  | _, _, k :: ks, .cons r rs, h => .cons r (vals_each rs (Nat.succ.inj h))
theorem each_vals : ∀ {us : List Value} {ps : List (V × Int)}, PySem.W.EachIs (fun u (p : V × Int) => RelV p.1 u) us ps → Vals (ps.map (·.1)) us
  | _, _, .nil => .nil
  | _, _, .cons r rs => .cons r (each_vals rs)
theorem zip_map2 : ∀ {xs : List V} {ks : List Int}, ks.length = xs.length → (xs.zip ks).map (fun p => PyData.int p.2) = ks.map PyData.int
  | [], [], _ => rfl
  | _ :: _, _ :: _, h => congrArg (List.cons _) (zip_map2 (Nat.succ.inj h))
  | [], _ :: _, h => by cases h
  | _ :: _, [], h => by cases h
/-- the state between two keys -/
structure KeyAt (X : Cx) (pins : List (Addr × Obj)) (σ : L2.St) (W : Nat → Hp → Prop) (ks : List Int) (kS a : Addr) (e1 : Nat) (i : Nat) (s : Shared) : Prop where
  st : ∃ (H : Hp) (kA : Array Value) (e : Nat), Inv X pins σ H s ∧ W i H ∧ H kS = none ∧ H a = none ∧ s.heap.get? kS = some (seqObj "list" kA e) ∧ s.heap.get? a = some (seqObj "list" #[] e1) ∧ IntsAre kA.toList (ks.take i)
theorem key_rest {A : Around} {R : PySem.Fin → Shared → Prop} {E' : Value → Shared → Prop} {W : Nat → Hp → Prop} {kS a : Addr} {e1 : Nat} (hr : Room kk A) (hA : A.frames = some X.stack) (F : FnR X.prog X.w X.K X.mg X.base CX0 kk g sp)
    (rS : FbM.Rec X pins kS) (ra : FbM.Rec X pins a) (hne : kS ≠ a) (hv : Vals xs vs) (hl : ks.length = xs.length) (hz : xs.length ≤ sizeLine)
    (hq : ∀ i H, W i H → H q = some (.met g t)) (hW : ∀ i x k H, xs[i]? = some x → ks[i]? = some k → W i H → sp [.ref t, x] H (fun v H' => v = .int k ∧ W (i + 1) H') E0)
    (h0 : KeyAt X pins σ W ks kS a e1 0 s)
    (hQ : ∀ s' H' ys, Inv X pins σ (upd H' a (.lst ys)) s' → W xs.length H' → H' a = none → ys = ((xs.zip ks).mergeSort (leK (·.2))).map (·.1) → R (.done (.ret .none)) s') :
    wpAny (model X.prog X.w) A (ksk_rest a (.ref q) false vs.toArray e1 (.ref kS)) R E' s := by
  unfold ksk_rest
  refine wpAny_bind (wpAny_rule ?_)
  rw [List.forIn_toArray]
  have hlv : xs.length = vs.length := hv.length
  refine wpAny_bind (ksk_fold (KeyAt X pins σ W ks kS a e1) vs 0 s h0 ?step ?done)
  case step =>
    intro j u s' hu ⟨⟨H, kA, e, I, w, nS, na, gS, ga, hk⟩⟩
    simp only [Nat.zero_add] at w hk ⊢
    have hj : j < vs.length := (List.getElem?_eq_some_iff.mp hu).1
    obtain ⟨x, hx⟩ : ∃ x, xs[j]? = some x := ⟨_, List.getElem?_eq_getElem (by omega)⟩
    obtain ⟨k, hkj⟩ : ∃ k, ks[j]? = some k := ⟨_, List.getElem?_eq_getElem (by omega)⟩
    obtain ⟨u', hu', rx⟩ := hv.get hx
    rw [hu] at hu'
    cases hu'
    have e0 := I.env0
    have e1' : Env0 X.prog X.w X.K X.mg X.base A X.stack s' H := ⟨hA, e0.mod, e0.bs, e0.bsz, e0.funs, e0.frf, e0.hok, e0.bare⟩
    have hqm : s'.heap.get? q = some (PySem.W.methodObj (.ref g) (.ref t)) := I.hok q _ (hq j H w)
    refine wpAny_bind (wpAny_attempt (wpAny_mono (Q := fun v s2 => ∃ H' n, v = Value.int k n ∧ Inv X pins σ H' s2 ∧ W (j + 1) H' ∧ H' kS = none ∧ H' a = none ∧ s2.heap.get? kS = some (seqObj "list" kA e) ∧ s2.heap.get? a = some (seqObj "list" #[] e1)) (E := fun _ _ => False)
      (wpAny_call (PySem.W.method_call hqm (codeAny_mono (F A X.stack s' H [.ref t, u] [.ref t, x] _ E0 hr e1' (.cons rfl (.cons rx .nil)) (hW j x k H hx hkj w)) fun rr s2 hrr => ?_))) (fun v s2 hp => ?_) fun _ _ hF => hF.elim))
    · cases rr with
      | error e => exact hrr.elim
      | ok fl =>
        cases fl with
        | next => exact False.elim hrr
        | brk => exact False.elim hrr
        | cont => exact False.elim hrr
        | ret v =>
          obtain ⟨v', H', os, bare, un, hok, rv', ev, w'⟩ := (show CE X.stack X.prog X.w H _ _ v s2 from hrr)
          subst ev
          obtain ⟨n, rfl⟩ := rv'
          exact ⟨H', n, rfl, I.call' os un hok bare (fun b y => absurd y List.not_mem_nil), w', un.free _ _ gS nS List.not_mem_nil, un.free _ _ ga na List.not_mem_nil, un.keep _ _ gS nS rS.fr List.not_mem_nil, un.keep _ _ ga na ra.fr List.not_mem_nil⟩
    · obtain ⟨H', n, rfl, I2, w', nS', na', gS', ga'⟩ := hp
      have hz2 : kA.size ≤ sizeLine := by
        have h1 := hk.length
        rw [Array.length_toList, List.length_take] at h1
        omega
      have s1 := Heap.SameBut.update s2.heap kS (Obj.mapSeq (·.push (Value.int k n)))
      obtain ⟨c2, hc2⟩ : ∃ c2, (s2.heap.update kS (Obj.mapSeq (·.push (Value.int k n)))).get? kS = some (seqObj "list" (kA.push (Value.int k n)) c2) := ⟨_, get?_update_seq gS' (·.push (Value.int k n))⟩
      refine wpAny_bind (listUpdate_at gS' rfl ?_ hz2 (Nat.le_trans (Nat.le_of_eq (Array.size_push ..)) (Nat.succ_le_succ hz2)))
      refine wpAny_pure ⟨rfl, ⟨H', kA.push (Value.int k n), c2, rS.turn (t' := s2.toks) I2 nS' (fun c o hc eo => (s1.2 c hc).trans eo), w', nS', na', hc2, (s1.2 a hne.symm).trans ga', ?_⟩⟩
      have ek : ks.take (j + 1) = ks.take j ++ [k] := by rw [List.take_add_one, hkj]; simp
      have ea : (kA.push (Value.int k n)).toList = kA.toList ++ [Value.int k n] := by simp
      rw [ea, ek]
      exact ksk_snoc hk
  case done =>
    intro s' ⟨⟨H, kA, e, I, w, nS, na, gS, ga, hk⟩⟩
    simp only [Nat.zero_add] at w hk
    rw [← hlv] at w hk
    rw [← hl, List.take_length] at hk
    refine wpAny_bind (listItems_at gS rfl ?_)
    have hh := PySem.W.hideAll_get
    have kp : PySem.W.KeepsBut a (PySem.W.hideAll s'.heap [kS]) s'.heap := fun b o _ eb => PySem.W.of_hideAll [kS] eb
    have hnone : (PySem.W.hideAll s'.heap [kS]).get? kS = none := PySem.W.hideAll_none [kS] (List.mem_singleton.mpr rfl)
    have hsz : kA.size = vs.length := by
      have h1 := hk.length
      rw [Array.length_toList] at h1
      omega
    have hal : PySem.W.AllAlike (ks.map PyData.int) := fun d hd d' hd' => by
      obtain ⟨_, _, rfl⟩ := List.mem_map.mp hd
      obtain ⟨_, _, rfl⟩ := List.mem_map.mp hd'
      rfl
    have hsk : PySem.W.Sortable (ks.map PyData.int) := .inr fun d hd => by
      obtain ⟨_, _, rfl⟩ := List.mem_map.mp hd
      exact ⟨(fun z => by cases z), (fun xs z => by cases z)⟩
    have hu : ∀ d, d ∈ ks.map PyData.int → A.units + d.depth < cLine := fun d hd => by
      obtain ⟨_, _, rfl⟩ := List.mem_map.mp hd
      have := hr.un
      show A.units + 0 < _
      omega
    refine PySem.W.keyH_end (κ := PySem.W.dataKind s'.heap (ks.map PyData.int)) (h₁ := PySem.W.hideAll s'.heap [kS]) kp hnone gS ga hne (PySem.W.SortsAt.data (ints_each hk) hal hsk hu) hsz (by omega) fun h' tk c hkeep hget => ?_
    have hko : PySem.W.KeyedOut false ((xs.zip ks).map (fun p => PyData.int p.2)) vs (PySem.W.sortVals (PySem.W.dataKind s'.heap (ks.map PyData.int)) false kA.toList vs) := by
      rw [zip_map2 hl]
      exact ⟨s'.heap, kA.toList, hal, rfl, ints_each hk⟩
    have hev := PySem.W.keyedOut_each (fun p : V × Int => PyData.int p.2) hko (vals_each hv hl)
    rw [dataLe_intK] at hev
    have hvals := each_vals hev
    generalize PySem.W.sortVals (PySem.W.dataKind s'.heap (ks.map PyData.int)) false kA.toList vs = out at hget hvals
    have keepall : ∀ b o, b ≠ kS → b ≠ a → s'.heap.get? b = some o → h'.get? b = some o := fun b o h1 h2 eb => hkeep b o h2 (PySem.W.hideAll_get [kS] eb (fun z => h1 (List.mem_singleton.mp z)))
    have hlen : (((xs.zip ks).mergeSort (leK (·.2))).map (·.1)).length ≤ sizeLine := by
      rw [List.length_map, List.length_mergeSort, List.length_zip]
      omega
    refine hQ _ H _ ?_ w na rfl
    have tr : ∀ b u, H b = some u → b ≠ kS ∧ b ≠ a := fun b u eb => ⟨(fun z => by rw [z, nS] at eb; cases eb), (fun z => by rw [z, na] at eb; cases eb)⟩
    refine I.step (g' := s'.gens) (d' := s'.drawn) (ch := [kS, a]) (fun b hb => ?_) (fun b o _ _ hc eb _ => keepall b o (fun z => hc (by simp [z])) (fun z => hc (by simp [z])) eb) (fun b o _ _ hc eb _ => ⟨o.slots, keepall b o (fun z => hc (by simp [z])) (fun z => hc (by simp [z])) eb⟩)
      (fun b o hc _ n => by rw [upd_ne (fun z => hc (by simp [z]))]; exact n) (fun b o hc eb => ⟨o, keepall b o (fun z => hc (by simp [z])) (fun z => hc (by simp [z])) eb⟩)
      (fun b xs eb => by rw [upd_ne (tr b _ eb).2]; exact eb) (fun b o u eb => by rw [upd_ne (tr b _ eb).2]; exact eb) (fun b ps eb => ⟨#[], by rw [upd_ne (tr b _ eb).2, eb]; simp⟩) (fun m hm => ?_) (fun b u eb => ?_) I.bare
    · rcases List.mem_cons.mp hb with rfl | hb
      · exact ⟨.inr rS.ge, rS.nl, rS.ce, rS.pn⟩
      · rw [List.mem_singleton.mp hb]
        exact ⟨.inr ra.ge, ra.nl, ra.ce, ra.pn⟩
    · obtain ⟨o, es, ep, ho, r⟩ := hm
      exact ⟨o, es, ep, keepall _ o rS.nl.symm ra.nl.symm ho, r⟩
    · by_cases hb : b = a
      · subst hb
        rw [upd_same] at eb
        cases eb
        exact ⟨hlen, out, c, hvals, hget⟩
      · rw [upd_ne hb] at eb
        refine (I.hok b u eb).stay (fun c v hc qv => keepall c v (fun z => ?_) (fun z => ?_) qv) (fun c qv => ?_) (fun c xs qv => ?_)
        · rcases hc with hc | hc
          · exact (tr b u eb).1 (hc.symm.trans z)
          · exact (tr c _ hc).1 z
        · rcases hc with hc | hc
          · exact (tr b u eb).2 (hc.symm.trans z)
          · exact (tr c _ hc).2 z
        · rw [upd_ne (tr c _ qv).2]
          exact qv
        · rw [upd_ne (tr c _ qv).2]
          exact qv
/-- list.sort with the key, from the copied list on -/
theorem key_tree {A : Around} {R : PySem.Fin → Shared → Prop} {E' : Value → Shared → Prop} {W : Nat → Hp → Prop} (hr : Room kk A) (hA : A.frames = some X.stack) (F : FnR X.prog X.w X.K X.mg X.base CX0 kk g sp)
    (I : Inv X pins σ H s) (hv : Vals xs vs) (hl : ks.length = xs.length) (hz : xs.length ≤ sizeLine)
    (hq : ∀ i H, W i H → H q = some (.met g t)) (hW : ∀ i x k H, xs[i]? = some x → ks[i]? = some k → W i H → sp [.ref t, x] H (fun v H' => v = .int k ∧ W (i + 1) H') E0) (h0 : W 0 H)
    (hQ : ∀ s' H' ys, Inv X pins σ (upd H' (s.heap.objs.size + 1) (.lst ys)) s' → W xs.length H' → H' (s.heap.objs.size + 1) = none → ys = ((xs.zip ks).mergeSort (leK (·.2))).map (·.1) → R (.done (.ret .none)) s') :
    wpAny (model X.prog X.w) A (ksk_tree (s.heap.objs.size + 1) (.ref q) false) R E' { s with heap := PySem.W.copyHeap s.heap vs } := by
  have ho := PySem.W.copyHeap_at s.heap vs
  have hz' : vs.length ≤ sizeLine := by rw [← hv.length]; exact hz
  obtain ⟨e1, ho1⟩ : ∃ e1, ((PySem.W.copyHeap s.heap vs).update (s.heap.objs.size + 1) (Obj.mapSeq fun _ => (#[] : Array Value))).get? (s.heap.objs.size + 1) = some (seqObj "list" #[] e1) := ⟨_, get?_update_seq ho fun _ => #[]⟩
  have ha : s.heap.objs.size + 1 < (PySem.W.copyHeap s.heap vs).objs.size := Heap.lt_size ho
  have hkS : (((PySem.W.copyHeap s.heap vs).update (s.heap.objs.size + 1) (Obj.mapSeq fun _ => (#[] : Array Value))).push (seqObj "tuple" vs.toArray 0)).objs.size = (PySem.W.copyHeap s.heap vs).objs.size + 1 := by rw [size_push', Heap.size_update]
  unfold ksk_tree
  refine wpAny_bind (listItems_at ho rfl ?_)
  refine wpAny_bind (listUpdate_at ho rfl ?_ (by rw [List.size_toArray]; exact hz') (Nat.zero_le _))
  refine wpAny_bind (seqEpoch_at ho1 rfl ?_)
  refine wpAny_bind (wpAny_newTuple ?_ (by show vs.length ≤ _; exact hz'))
  refine wpAny_bind (wpAny_newList ?_ (Nat.zero_le _))
  refine wpAny_holding ?_
  have hcs : (PySem.W.copyHeap s.heap vs).objs.size = s.heap.objs.size + 2 := by
    unfold PySem.W.copyHeap
    rw [size_push', Heap.size_update, size_push']
  have nS : H (((PySem.W.copyHeap s.heap vs).update (s.heap.objs.size + 1) (Obj.mapSeq fun _ => (#[] : Array Value))).push (seqObj "tuple" vs.toArray 0)).objs.size = none := I.hok.fresh (by rw [hkS, hcs]; exact Nat.le_add_right _ 3)
  have na : H (s.heap.objs.size + 1) = none := I.hok.fresh (Nat.le_succ _)
  have I2 : Inv X pins σ H { s with heap := PySem.W.sortingHeap (PySem.W.copyHeap s.heap vs) (s.heap.objs.size + 1) vs } := I.kept (t' := s.toks) fun b u e => PySem.W.sortingHeap_old (Nat.ne_of_lt (Nat.lt_succ_of_lt (Heap.lt_size e))) (PySem.W.copyHeap_old e)
  refine key_rest hr hA F (FbM.rec_new I (by rw [hkS, hcs]; exact Nat.le_add_right _ 3)) (FbM.rec_new I (Nat.le_succ _)) (by rw [hkS, hcs]; exact Nat.ne_of_gt (Nat.lt_add_of_pos_right (by decide : 0 < 2))) hv hl hz hq hW ⟨⟨H, #[], 0, I2, h0, nS, na, Heap.get?_push_size _ rfl, Heap.get?_push_of_some _ (Heap.get?_push_of_some _ ho1), .nil⟩⟩ hQ
end
/-- a method whose value may be taken -/
def BCal (X : Cx) (k : Nat) (C : Addr) (n : Str) (ps : List Str) (sp : Sp) : Prop := ∃ (f : Addr) (fd : FuncData), FnOk X.prog X.w X.K X.mg X.base CX0 k f fd ps sp ∧ BMeth X.K C n f ∧ Binds X.K fd ps []
def tBnd (K : PySem.W.Frag) (C : Addr) (m : Str) (g : Addr) (ta : TE) : TE := fun σ H Q => ta σ H fun x H1 => ∃ a dx fs, x = .ref a ∧ H1 a = some (.ins C dx fs) ∧ fs.lookup m = none ∧ ∀ q, H1 q = none → Q (.ref q) (upd H1 q (.met g a))
theorem pe_bnd {X : Cx} {e : Expr} {ta : TE} {C g : Addr} {m : Str} {pos : Pos} (he : PE X e ta) (c : Cls X.K C) (b : BMeth X.K C m g) (hb : attributeBase e m X.env (eval e X.env) = eval e X.env) : PE X (.Attribute e m pos) (tBnd X.K C m g ta) := by
  refine ⟨fun pins s σ H Q I h => ?_⟩
  refine attr_of hb (thn (he.run pins s σ H _ I h) fun u s1 ⟨x, H1, I1, rx, a, dx, fs, ex, ea, l, q⟩ => ?_)
  subst ex
  obtain rfl : u = Value.ref a := rx
  exact getbound_ok I1 ea c b l fun p s2 hp I2 => ⟨.ref p, _, I2, rfl, q p hp⟩
section
variable {X Xb : Cx} {E : Ent} {own new own' : Own} {B H B' H' : Hp} {σ : L2.St} {α β γ δ τ ρ ρ' : Type} {R : Rel α} {S : Rel β} {T : Rel γ} {U : Rel δ} {e a b c d o it tg : Expr} {x : α} {y : β} {p pos pos' apos kpos : Pos} {i j k k0 : Nat} {z w : Bool} {xs : List α} {ys : List β} {es : List Expr}
variable {n m f : Str} {rest body other : List Stmt} {D : Ends} {P : ρ → Prop} {Er : Err → Prop} {ps : List Str} {CA : Addr} {scope : Scope}
theorem Blk.bcal {sp : Sp} (h : Blk X scope Xb) (G : BCal X k CA n ps sp) : BCal Xb k CA n ps sp := by
  obtain ⟨s, H, Cc, cl, fp, rfl⟩ := h
  exact G
theorem plen2 {P : α → β → Prop} {l₁ : List α} {l₂ : List β} (h : Paired P l₁ l₂) : l₁.length = l₂.length := plen h
theorem paired_zip {P : V → α → Prop} : ∀ {vs : List V} {xs : List α}, Paired P vs xs → (vs.zip xs).map (·.1) = vs ∧ (vs.zip xs).map (·.2) = xs ∧ ∀ q ∈ vs.zip xs, P q.1 q.2
  | _, _, .nil => ⟨rfl, rfl, fun q h => nomatch h⟩
  | _, _, .cons h t => by
    obtain ⟨h1, h2, h3⟩ := paired_zip t
    refine ⟨congrArg (List.cons _) h1, congrArg (List.cons _) h2, fun q hq => ?_⟩
    rcases List.mem_cons.mp hq with rfl | hq
    · exact h
    · exact h3 q hq
theorem paired_of {P : V → α → Prop} : ∀ {zs : List (V × α)}, (∀ q ∈ zs, P q.1 q.2) → Paired P (zs.map (·.1)) (zs.map (·.2))
  | [], _ => .nil
  | q :: r, h => .cons (h q (List.mem_cons_self ..)) (paired_of fun z hz => h z (List.mem_cons_of_mem _ hz))
theorem paired_sort {P : V → α → Prop} {vs : List V} {xs : List α} (h : Paired P vs xs) (key : α → Int) : Paired P (((vs.zip (xs.map key)).mergeSort (leK (·.2))).map (·.1)) (xs.mergeSort (leK key)) := by
  obtain ⟨h1, h2, h3⟩ := paired_zip h
  have e1 : vs.zip (xs.map key) = (vs.zip xs).map (fun q => (q.1, key q.2)) := by
    rw [List.zip_map_right]
    rfl
  have e2 : ((vs.zip xs).map (fun q => (q.1, key q.2))).mergeSort (leK (·.2)) = ((vs.zip xs).mergeSort (leK fun q => key q.2)).map (fun q => (q.1, key q.2)) := (List.map_mergeSort (r := leK fun q : V × α => key q.2) (s := leK (·.2)) (f := fun q : V × α => (q.1, key q.2)) (fun a _ b _ => rfl)).symm
  have e3 : xs.mergeSort (leK key) = ((vs.zip xs).mergeSort (leK fun q => key q.2)).map (·.2) := by
    refine Eq.trans ?_ (List.map_mergeSort (r := leK fun q : V × α => key q.2) (s := leK key) (f := fun q : V × α => q.2) (fun a _ b _ => rfl)).symm
    rw [h2]
  rw [e1, e2, e3, List.map_map]
  exact paired_of fun q hq => h3 q (List.mem_mergeSort.mp hq)
theorem callr_any {f : Value} {ks : List Str} : CallRK X f ks (fun vs zs H Q => ∀ (pins : List (Addr × Obj)) (s : Shared) (σ : L2.St) (us ws : List Value), Inv X pins σ H s → Vals vs us → Vals zs ws → wpAny (model X.prog X.w) X.A (call f us (ks.zip ws)) (EP X pins σ Q) X.xe s) :=
  fun pins s σ H xs zs us ws Q I r rz h => h pins s σ us ws I r rz
/-- sorted(e, key=o.m) -/
theorem el_sortKey [Imm R] {args : δ → AR} {fm : δ → Res Int} {dk : α → δ} {key : α → Int} (C : Cok X k0) (cls : Cls X.K CA) (G : BCal X k CA m ps (SpA args (kE rInt) fm)) (hk : k + 2 ≤ k0) (hg : Gl X "sorted") (hm : X.mg "sorted" = none) (ha : EvB X E own B H σ a (rLst R) xs) (ho : EvB X E own B H σ o S y) (hi : InsOf CA m S)
    (hA : ∀ x, args (dk x) = aC S y (aC R x aN)) (hf : ∀ x ∈ xs, fm (dk x) = .ok (key x)) (hs : St1 X a := by rfl) (hb : attributeBase o m X.env (eval o X.env) = eval o X.env := by rfl)
    (he : backTo pos (starEach (a :: []) X.env) = (false, eval a X.env) :: backTo pos (starEach [] X.env) := by rfl) (hpl : (backTo pos (starEach (a :: []) X.env)).any (·.1) = false := by rfl)
    (hall : (backToKw pos (keywordEach [⟨some "key", .Attribute o m apos, kpos⟩] X.env)).all (·.1.isSome) = true := by rfl) (hnone : (backToKw pos (keywordEach [⟨some "key", .Attribute o m apos, kpos⟩] X.env)).any (·.1.isNone) = false := by rfl) (hks : (backToKw pos (keywordEach [⟨some "key", .Attribute o m apos, kpos⟩] X.env)).filterMap (·.1) = [Str.ofString "key"] := by rfl) :
    EvL X E own B H σ (.Call (.Name "sorted" p) [a] [⟨some "key", .Attribute o m apos, kpos⟩] pos) R (xs.mergeSort (leK key)) := fun B1 H1 S1 e1 e2 Q kq => by
  obtain ⟨f, fd, F, bm, hbd⟩ := G
  refine WE.of (pe_callBK (id := "sorted") callr_any hg hm (by decide +kernel) (pa1 hs) (pk_cons (pe_bnd peW cls bm hb) pk_nil) (he := he) (hpl := hpl) (hall := hall) (hnone := hnone) (hks := hks)) (ha B1 H1 S1 e1 e2 _ fun v B2 H2 S2 e3 e4 r => ?_)
  refine ho B2 H2 S2 (e1.trans e3) (e2.trans e4) _ fun w B3 H3 S3 e5 e6 r2 => ?_
  obtain ⟨t, dx, fs, rfl, h2, h3⟩ := hi r2
  refine ⟨t, dx, fs, rfl, h2, h3, fun q hq => ?_⟩
  intro pins s σ' us ws I rv rz
  obtain ⟨l, vs, rfl, hl, hp⟩ := Rel.mono _ e6 r
  have up : Ex H3 (upd H3 q (.met f t)) := (Sx.new hq).ex
  have hl' := up.rdL hl
  have hp' : Paired (R.r (upd H3 q (.met f t))) vs xs := pimp hp fun _ _ z => R.mono up z
  have S4 : Stt E ((q, .met f t) :: own) B3 (upd H3 q (.met f t)) := S3.alloc hq fun ys z => by cases z
  obtain rfl := Vals.ref1 rv
  obtain ⟨w1, rfl, ew⟩ := vals1 rz
  obtain rfl : w1 = Value.ref q := ew
  obtain ⟨its, rvs, pl, hz⟩ := I.list (.inl hl')
  show wpAny _ _ (call (.builtin "sorted") [.ref l] [(Str.ofString "key", .ref q)]) _ _ _
  refine PySem.W.sorted_of_sort pl.isList (by rw [← rvs.length]; exact hz) (ksk_s1 _ _) (fun _ => ksk_l1 _ _) fun E' => ?_
  rw [ksk_t1]
  have hr2 : Room k X.A.in1.in1 := ((C.room.mono hk).in1).in1
  have FR := FnOk.raw F hbd (.nil : Vals [] [])
  refine key_tree (ks := xs.map key) (W := fun _ H' => ∃ B', Stt E ((q, .met f t) :: own) B' H' ∧ Ex B3 B' ∧ Ex (upd H3 q (.met f t)) H') hr2 (by exact I.env0.frames) FR I rvs (by rw [List.length_map, plen hp]) hz (fun i H' ⟨B', S', _, _⟩ => (S'.ow _ (List.mem_cons_self ..)).2.2) (fun i x kx H' hx hkx ⟨B', S', e7, e8⟩ => ?_) ⟨B3, S4, Ex.refl _, Ex.refl _⟩ fun s' H' ys I' ⟨B', S', e7, e8⟩ hn ey => ?_
  · obtain ⟨x0, hx0, rx⟩ := L2.paired_get hp' hx
    rw [List.getElem?_map, hx0] at hkx
    have ek : key x0 = kx := Option.some.inj hkx
    subst ek
    show ∃ B d, _
    refine ⟨B', dk x0, S'.bh, S'.tu, ?_, ?_⟩
    · rw [hA]
      exact ⟨_, _, rfl, Rel.mono _ (up.trans e8) r2, _, _, rfl, R.mono e8 rx, rfl⟩
    · exact Fin.eq (hf x0 (List.mem_of_getElem? hx0)) fun v B4 H4 T r4 => ⟨r4, B4, S'.call T, e7.trans T.b0.ex, e8.trans T.h0.ex⟩
  · subst ey
    refine ⟨rfl, .ref _, _, I', rfl, ?_⟩
    refine kq _ _ B' _ (S'.drop.alloc hn fun ys z => by cases z) ((e3.trans e5).trans e7) ((((e4.trans e6).trans up).trans e8).trans (Sx.new hn).ex) ?_
    exact paired_sort (pimp hp' fun _ _ z => Imm.imm S'.tu (R.mono e8 z)) key
end
def BCalM (P : Program) (w : World) (K : PySem.W.Frag) (mg : Str → Option Value) (base : Heap) (k : Nat) (C : Addr) (n : Str) (ps : List Str) (sp : Sp) : Prop := ∃ (f : Addr) (fd : FuncData), FnOk P w K mg base CX0 k f fd ps sp ∧ BMeth K C n f ∧ Binds K fd ps []
/-- what a thing that goes well gives -/
def Res.isOk {α : Type} : Res α → Bool
  | .ok _ => true
  | _ => false
def Res.getI : Res Int → Int
  | .ok i => i
  | _ => 0
theorem Res.all_ok {α : Type} {f : α → Res Int} {xs : List α} (h : xs.all (fun i => (f i).isOk) = true) : ∀ x ∈ xs, f x = .ok (f x).getI := fun x hx => by
  have := List.all_eq_true.mp h x hx
  cases e : f x with
  | ok i => rfl
  | err z => rw [e] at this; cases this
  | stuck => rw [e] at this; cases this
end Sg

namespace Sg
open PySem PySem.Spec PyProof.Rows L2
section
variable {X : Cx} {E : Ent} {own : Own} {B H : Hp} {σ : L2.St} {α : Type} {R : Rel α} {e : Expr} {x y : α} {pos : Pos} {k : Nat} {xs : List α} {rest : List Stmt} {D : Ends}
theorem two_of {P : V → α → Prop} : ∀ {vs : List V} {xs : List α}, Paired P vs xs → xs.length = 2 → xs[0]? = some x → xs[1]? = some y → ∃ u w, vs = [u, w] ∧ P u x ∧ P w y
  | _, _, .nil, h, _, _ => by cases h
  | _, _, .cons _ .nil, h, _, _ => by cases h
  | _, _, .cons h1 (.cons h2 .nil), _, hx, hy => by
    have ex := Option.some.inj hx
    have ey := Option.some.inj hy
    subst ex
    subst ey
    exact ⟨_, _, rfl, h1, h2⟩
  | _, _, .cons _ (.cons _ (.cons _ _)), h, _, _ => by
    rw [List.length_cons, List.length_cons, List.length_cons] at h
    omega
theorem s_unp2l {n1 n2 : Str} {i1 i2 : Nat} {p1 p2 tp : Pos} {kk : Nat} (C : Cok X k) (L1 : Slot X i1 n1) (L2' : Slot X i2 n2) (S0 : Stt E own B H) (he : EvE X E own B H σ e (rLst R) xs) (hl : xs.length = 2) (hx : xs[0]? = some x) (hy : xs[1]? = some y)
    (kt : ∀ v w B' H', Stt E own B' H' → Ex B B' → R.r B' v x → R.r B' w y → WSs X rest D ((σ.set i1 (some v)).set i2 (some w)) H')
    (hs : swapsWithSole [.Tuple [.Name n1 p1, .Name n2 p2] kk tp] e pos.line X.env = pure false := by rfl) (hw : swappedStores [.Tuple [.Name n1 p1, .Name n2 p2] kk tp] e X.env = pure none := by rfl) :
    WSs X (.Assign [.Tuple [.Name n1 p1, .Name n2 p2] kk tp] e pos :: rest) D σ H :=
  WSs.cons (ps_asg peW (pg_lst (n := 2) C.calm (pgs_cons (pg_name (i := i1) C.nd L1.ix L1.loc L1.hf) (pgs_cons (pg_name (i := i2) C.nd L2'.ix L2'.loc L2'.hf) pgs_nil))) hs hw) (he B H S0 (Ex.refl _) (Ex.refl _) _ fun v B2 H2 S2 e1 _ r => by
    obtain ⟨l, vs, h1, h2, h3⟩ := r
    obtain ⟨u, w, rfl, ru, rw'⟩ := two_of h3 hl hx hy
    exact ⟨l, [u, w], h1, .inl (S2.bh.ex.rdL h2), rfl, u, [w], rfl, w, [], rfl, rfl, kt u w B2 H2 S2 e1 ru rw'⟩)
variable {a b c : Expr} {i0 j0 : Int} {w0 : Bool} {op op' : CmpOp} {f g : Int → Int → Bool}
/-! chains by their rules -/
theorem ev_chR (c1 : CmpR X op rInt rInt f) (c2 : CmpR X op' rInt rInt g) (ha : EvB X E own B H σ a rInt i0) (hb : EvB X E own B H σ b rInt j0) (hc : f i0 j0 = true → ∃ l0, EvB X E own B H σ c rInt l0 ∧ w0 = g j0 l0) (hn : f i0 j0 = false → w0 = false) (hm : lastMarks [op, op'] [b, c] = false := by rfl) : EvB X E own B H σ (.Compare a [op, op'] [b, c] pos) rBool w0 := by
  obtain ⟨r1, o1, k1⟩ := c1.ok
  obtain ⟨r2, o2, k2⟩ := c2.ok
  exact ev_chP (T := rInt) o1 o2 hm ha hb (k1 i0 j0) (fun hz => by
    obtain ⟨l0, h3, h4⟩ := hc hz
    subst h4
    exact ⟨l0, h3, k2 j0 l0⟩) hn
theorem et_chR (c1 : CmpR X op rInt rInt f) (c2 : CmpR X op' rInt rInt g) (ha : EvB X E own B H σ a rInt i0) (hb : EvB X E own B H σ b rInt j0) (hc : f i0 j0 = true → ∃ l0, EvB X E own B H σ c rInt l0 ∧ w0 = g j0 l0) (hn : f i0 j0 = false → w0 = false) (hm : lastMarks [op, op'] [b, c] = false := by rfl) : EvT X E own B H σ (.Compare a [op, op'] [b, c] pos) w0 := by
  obtain ⟨r1, o1, k1⟩ := c1.ok
  obtain ⟨r2, o2, k2⟩ := c2.ok
  exact et_chP (T := rInt) o1 o2 hm ha hb (k1 i0 j0) (fun hz => by
    obtain ⟨l0, h3, h4⟩ := hc hz
    subst h4
    exact ⟨l0, h3, k2 j0 l0⟩) hn
end
/-! a list whose members are kept for good -/
def EvM (X : Cx) (E : Ent) (own : Own) (B H : Hp) (σ : L2.St) {α : Type} (e : Expr) (R : Rel α) (xs : List α) : Prop := ∀ B1 H1, Stt E own B1 H1 → Ex B B1 → Ex H H1 → ∀ Q : VK,
  (∀ q vs B2 H2, Stt E own B2 H2 → Ex B1 B2 → Ex H1 H2 → Rd H2 q (.lst vs) → Paired (R.r B2) vs xs → Q (.ref q) H2) → WE X e σ H1 Q
section
variable {X : Cx} {E : Ent} {own : Own} {B H : Hp} {σ : L2.St} {α : Type} {R : Rel α} {e a b o : Expr} {x y : α} {p pos : Pos} {i k : Nat} {xs ys : List α} {rest : List Stmt} {D : Ends}
theorem em_B [Imm R] (h : EvB X E own B H σ e (rLst R) xs) : EvM X E own B H σ e R xs := fun B1 H1 S1 e1 e2 Q k => h B1 H1 S1 e1 e2 _ fun v B2 H2 S2 e3 e4 r => by
  obtain ⟨q, vs, rfl, h2, h3⟩ := r
  exact k q vs B2 H2 S2 e3 e4 h2 (pimp h3 fun _ _ z => Imm.imm S2.tu z)
theorem em_E (h : EvE X E own B H σ e (rLst R) xs) : EvM X E own B H σ e R xs := fun B1 H1 S1 e1 e2 Q k => h B1 H1 S1 e1 e2 _ fun v B2 H2 S2 e3 e4 r => by
  obtain ⟨q, vs, rfl, h2, h3⟩ := r
  exact k q vs B2 H2 S2 e3 e4 (S2.bh.ex.rdL h2) h3
theorem em_own {q : Addr} {vs : List V} (hp : PE X e (tVar i)) (h : σ[i]? = some (some (.ref q))) (ho : (q, HO.lst vs) ∈ own) (r : Paired (R.r B) vs xs) : EvM X E own B H σ e R xs :=
  fun B1 H1 S e1 e2 Q k => WE.of hp ⟨.ref q, h, k q vs B1 H1 S (Ex.refl _) (Ex.refl _) (Rd.of (S.ow _ ho).2.2) (pimp r fun _ _ z => R.mono e1 z)⟩
theorem ee_ixM {q : Int} (ho : EvM X E own B H σ o R xs) (ha : EvB X E own B H σ a rInt q) (hx : atI xs q = some x) (hs : PlainIx a := by exact fun _ _ => rfl) : EvE X E own B H σ (.Subscript o a pos) R x := fun B1 H1 S1 e1 e2 Q k =>
  WE.of (pe_ix ix_list peW peW hs) (ho B1 H1 S1 e1 e2 _ fun l vs B2 H2 S2 e3 e4 h2 h3 => ha B2 H2 S2 (e1.trans e3) (e2.trans e4) _ fun w B3 H3 S3 e5 e6 r' => by
    obtain ⟨u, hu, hF⟩ := pat (pimp h3 fun _ _ z => R.mono e5 z) hx
    exact ⟨l, vs, q, u, rfl, r', .inl (e6.rdL h2), hu, k u B3 H3 S3 (e3.trans e5) (e4.trans e6) hF⟩)
theorem el_cutM {lo hi : Option Expr} {l u : Option Int} (ho : EvM X E own B H σ o R xs) (hl : EvP X E own B H σ lo l) (hu : EvP X E own B H σ hi u) : EvL X E own B H σ (.Subscript o (.Slice lo hi none p) pos) R (cut xs l u) := fun B1 H1 S1 e1 e2 Q k => by
  obtain ⟨tl, pl, hl⟩ := hl
  obtain ⟨tu, pu, hu⟩ := hu
  exact WE.of (pe_slice sl_list peW pl pu) (ho B1 H1 S1 e1 e2 _ fun q vs B2 H2 S2 e3 e4 h2 h3 => hl B2 H2 S2 (e1.trans e3) (e2.trans e4) _ fun B3 H3 S3 e5 e6 => hu B3 H3 S3 ((e1.trans e3).trans e5) ((e2.trans e4).trans e6) _ fun B4 H4 S4 e7 e8 =>
    ⟨q, vs, rfl, .inl ((e6.trans e8).rdL h2), fun p np => k p _ B4 _ (S4.alloc np fun ys z => by cases z) ((e3.trans e5).trans e7) (((e4.trans e6).trans e8).trans (Sx.new np).ex) (pcut l u (pimp h3 fun _ _ z => R.mono (e5.trans e7) z))⟩)
theorem el_catM (ha : EvM X E own B H σ a R xs) (hb : EvM X E own B H σ b R ys) (hz : xs.length + ys.length ≤ sizeLine) : EvL X E own B H σ (.BinOp a .Add b pos) R (xs ++ ys) := fun B1 H1 S1 e1 e2 Q k =>
  WE.of (pe_op op_catR peW peW) (ha B1 H1 S1 e1 e2 _ fun l vs B2 H2 S2 e3 e4 h2 h3 => hb B2 H2 S2 (e1.trans e3) (e2.trans e4) _ fun l2 us B3 H3 S3 e5 e6 h2' h3' =>
    ⟨l, l2, vs, us, rfl, rfl, e6.rdL h2, h2', by rw [plen h3, plen h3']; exact hz, fun p np => k p _ B3 _ (S3.alloc np fun ys z => by cases z) (e3.trans e5) ((e4.trans e6).trans (Sx.new np).ex) (pappend (pimp h3 fun _ _ z => R.mono e5 z) h3')⟩)
theorem el_listM (hg : Gl X "list") (hm : X.mg "list" = none) (ha : EvM X E own B H σ a R xs) (hs : St1 X a := by rfl) : EvL X E own B H σ (.Call (.Name "list" p) [a] [] pos) R xs := fun B1 H1 S1 e1 e2 Q k =>
  WE.of (pe_callTy call_list_of hg hm (by decide +kernel) (pa1 hs) (he := hs)) (ha B1 H1 S1 e1 e2 _ fun q vs B2 H2 S2 e3 e4 h2 h3 => ⟨q, vs, rfl, .inl (.inl h2), fun l hl => k l _ B2 _ (S2.alloc hl fun ys z => by cases z) e3 (e4.trans (Sx.new hl).ex) h3⟩)
theorem el_revM {p1 p2 p3 : Pos} {k1} (ha : EvM X E own B H σ a R xs) : EvL X E own B H σ (.Subscript a (.Slice none none (some (.UnaryOp .USub (.Constant (.int 1) k1 p1) p2)) p3) pos) R xs.reverse := fun B1 H1 S1 e1 e2 Q k =>
  WE.of (pe_revL peW) (ha B1 H1 S1 e1 e2 _ fun q vs B2 H2 S2 e3 e4 h2 h3 => ⟨q, vs, rfl, .inl h2, fun l hl => k l _ B2 _ (S2.alloc hl fun ys z => by cases z) e3 (e4.trans (Sx.new hl).ex) (prev h3)⟩)
end
end Sg

namespace Sg
open PySem PySem.Spec PyProof.Rows L2
/-! ### lists of numbers and dicts -/
def rSum {α β : Type} (R : Rel α) (S : Rel β) : Rel (α ⊕ β) := ⟨fun H v x => match x with
  | .inl a => R.r H v a
  | .inr b => S.r H v b, fun {H H' v x} e h => by
  cases x with
  | inl a => exact R.mono e h
  | inr b => exact S.mono e h⟩
abbrev RunD := List (Int × List Int)
abbrev RunT := List (Int ⊕ RunD)
def rRun : Rel (Int ⊕ RunD) := rSum rInt (rDI (rLst rInt))
def rRuns : Rel RunT := rLst rRun
section
variable {X : Cx} {E : Ent} {own : Own} {B H : Hp} {σ : L2.St} {α : Type} {R : Rel α} {e a b o : Expr} {x y : α} {p pos pos' : Pos} {i k j k0 : Nat} {xs ys : List α} {rest : List Stmt} {D : Ends} {n : Str}
/-- x = [{}] -/
theorem s_rn0 {pd : Pos} (C : Cok X k) (L : Slot X i n) (S0 : Stt E own B H)
    (q : ∀ p q B' H', Stt E ((p, .lst [V.ref q]) :: (q, .dK []) :: own) B' H' → Ex B B' → WSs X rest D (σ.set i (some (.ref p))) H')
    (hst : St1 X (.Dict [] [] pd) := by rfl) (hs : swapsWith (.List [.Dict [] [] pd] pos') (some (.Name n p)) pos.line X.env = pure false := by rfl) : WSs X (.Assign [.Name n p] (.List [.Dict [] [] pd] pos') pos :: rest) D σ H :=
  WSs.cons (ps_set C.nd L.ix L.loc (pe_lst (pa1 hst)) hs L.hf) ((ed_nI (R := rInt)) B H S0 (Ex.refl _) (Ex.refl _) _ fun q0 ws B2 H2 S2 e1 e2 r => by
    cases r
    exact ⟨by show 1 ≤ sizeLine; decide, fun pp hp => q pp q0 B2 _ (S2.alloc hp fun ys z => by cases z) e1⟩)
/-- x = x + [e, {}] -/
theorem s_rnCat {pd pl pb : Pos} {q p0 : Addr} {vs : List V} {ws : List (Key × V)} {u : Int} (C : Cok X k) (L : Slot X i n) (S0 : Stt E ((p0, .lst (vs ++ [V.ref q])) :: (q, .dK ws) :: own) B H) (hp : PE X o (tVar i)) (h : σ[i]? = some (some (.ref p0)))
    (he : ∀ own' B' H', Stt E own' B' H' → Ex B B' → Ex H H' → EvB X E own' B' H' σ e rInt u) (hz : vs.length + 1 + 2 ≤ sizeLine)
    (kt : ∀ p1 q1 B' H', Stt E ((p1, .lst ((vs ++ [V.ref q, .int u]) ++ [V.ref q1])) :: (q1, .dK []) :: (q, .dK ws) :: own) B' H' → Ex B B' → WSs X rest D (σ.set i (some (.ref p1))) H')
    (hst : starEach (e :: [.Dict [] [] pd]) X.env = (false, eval e X.env) :: starEach [.Dict [] [] pd] X.env := by rfl) (hst2 : St1 X (.Dict [] [] pd) := by rfl)
    (hs : swapsWith (.BinOp o .Add (.List [e, .Dict [] [] pd] pl) pb) (some (.Name n p)) pos.line X.env = pure false := by rfl) : WSs X (.Assign [.Name n p] (.BinOp o .Add (.List [e, .Dict [] [] pd] pl) pb) pos :: rest) D σ H :=
  WSs.cons (ps_set C.nd L.ix L.loc (pe_op op_catR hp (pe_lst (pa_cons peW (pa1 hst2) hst))) hs L.hf) ⟨_, h, he _ B H S0 (Ex.refl _) (Ex.refl _) B H S0 (Ex.refl _) (Ex.refl _) _ fun v B2 H2 S2 e1 e2 rv => (ed_nI (R := rInt)) B2 H2 S2 (Ex.refl _) (Ex.refl _) _ fun q1 ws1 B3 H3 S3 e3 e4 r3 => by
    cases r3
    have rv' : v = .int u := rv
    subst rv'
    refine ⟨by show 2 ≤ sizeLine; decide, fun l2 hl2 => ?_⟩
    have S4 := S3.alloc hl2 (o := .lst [.int u, V.ref q1]) fun ys z => by cases z
    have g0 : (p0, HO.lst (vs ++ [V.ref q])) ∈ ((l2, HO.lst [.int u, V.ref q1]) :: (q1, HO.dK []) :: (p0, HO.lst (vs ++ [V.ref q])) :: (q, HO.dK ws) :: own) := by simp
    have g1 := (S4.ow _ g0).2.2
    have g2 := (S4.ow _ (List.mem_cons_self ..)).2.2
    refine ⟨p0, l2, _, _, rfl, rfl, Rd.of g1, Rd.of g2, by rw [List.length_append]; exact hz, fun p1 hp1 => ?_⟩
    have S5 := S4.alloc hp1 (o := .lst ((vs ++ [V.ref q]) ++ [.int u, V.ref q1])) fun ys z => by cases z
    have S6 := Stt.pick [0, 2, 4] S5
    have S7 : Stt E ((p1, .lst ((vs ++ [V.ref q, .int u]) ++ [V.ref q1])) :: (q1, .dK []) :: (q, .dK ws) :: own) B3 (upd (upd H3 l2 (.lst [.int u, V.ref q1])) p1 (.lst ((vs ++ [V.ref q]) ++ [.int u, V.ref q1]))) := by
      have e5 : (vs ++ [V.ref q, .int u]) ++ [V.ref q1] = (vs ++ [V.ref q]) ++ [.int u, V.ref q1] := by simp
      rw [e5]
      refine S5.sub (fun z hz => ?_) ?_
      · simp only [List.mem_cons] at hz ⊢
        rcases hz with h | h | h | h
        · exact .inl h
        · exact .inr (.inr (.inl h))
        · exact .inr (.inr (.inr (.inr (.inl h))))
        · exact .inr (.inr (.inr (.inr (.inr h))))
      · have nd := S5.nd
        simp only [List.map_cons, List.nodup_cons, List.mem_cons, not_or] at nd ⊢
        exact ⟨⟨nd.1.2.1, nd.1.2.2.2.1, nd.1.2.2.2.2⟩, ⟨nd.2.2.1.2.1, nd.2.2.1.2.2⟩, nd.2.2.2.2⟩
    exact kt p1 q1 B3 _ S7 (e1.trans e3)⟩
/-- x[-1] -/
theorem we_last {k1} {p1 p2 : Pos} {q p0 : Addr} {vs : List V} {σ : L2.St} {Q : VK} (S : Stt E own B H) (hp : PE X o (tVar i)) (h : σ[i]? = some (some (.ref p0))) (hm : (p0, HO.lst (vs ++ [V.ref q])) ∈ own) (k : Q (.ref q) H) : WE X (.Subscript o (.UnaryOp .USub (.Constant (.int 1) k1 p1) p2) pos) σ H Q :=
  WE.of (pe_ix ix_list hp (pe_un un_neg pe_int) (fun _ _ => rfl)) ⟨_, h, ⟨1, rfl, p0, vs ++ [V.ref q], -1, .ref q, rfl, rfl, SqL.of (S.ow _ hm).2.2, by
    unfold atI ixN
    rw [if_neg (by omega), List.length_append, List.length_singleton, if_pos (by omega)]
    show (vs ++ [V.ref q])[(-1 + ((vs.length + 1 : Nat) : Int)).toNat]? = _
    rw [show (-1 + ((vs.length + 1 : Nat) : Int)).toNat = vs.length by omega, List.getElem?_append_right (Nat.le_refl _), Nat.sub_self]
    rfl, k⟩⟩
theorem ev_lastD {k1} {p1 p2 : Pos} {q p0 : Addr} {vs : List V} {ws : List (Key × V)} {kvs : List (Int × α)} (hp : PE X o (tVar i)) (h : σ[i]? = some (some (.ref p0))) (hm : (p0, HO.lst (vs ++ [V.ref q])) ∈ own) (hq : (q, HO.dK ws) ∈ own) (r : pI R B ws kvs) :
    EvB X E own B H σ (.Subscript o (.UnaryOp .USub (.Constant (.int 1) k1 p1) p2) pos) (rDI R) kvs := fun B1 H1 S e1 e2 Q kq => we_last S hp h hm (kq _ B1 H1 S (Ex.refl _) (Ex.refl _) ⟨q, ws, rfl, Rd.of (S.ow _ hq).2.2, r.up (e1.trans S.bh.ex)⟩)
/-- d[a] = e, d an owned dict wherever it is found -/
theorem s_dputG {q : Addr} {ws : List (Key × V)} {kvs : List (Int × α)} {u : Int} (C : Cok X k0) (S0 : Stt E own B H) (ho : ∀ B1 H1, Stt E own B1 H1 → ∀ Q : VK, Q (.ref q) H1 → WE X o σ H1 Q) (hk : own[k]? = some (q, .dK ws)) (r : pI R B ws kvs)
    (hv : EvE X E own B H σ e R x) (ha : EvB X E own B H σ a rInt u) (hz : kvs.length < sizeLine)
    (kt : ∀ ws' B' H', Stt E (own.set k (q, .dK ws')) B' H' → Ex B B' → pI R B' ws' (dput kvs u x) → WSs X rest D σ H')
    (hs : NoSl a := by exact fun _ _ => rfl) (hw : swapsWith e (some (.Subscript o a pos')) pos.line X.env = pure false := by rfl) : WSs X (.Assign [.Subscript o a pos'] e pos :: rest) D σ H :=
  WSs.cons (ps_dput C.hu peW peW peW hw) (hv B H S0 (Ex.refl _) (Ex.refl _) _ fun v B2 H2 S2 e1 e2 rv => ho B2 H2 S2 _ (ha B2 H2 S2 e1 e2 _ fun w B3 H3 S3 e3 e4 rw' => by
    have hq := (S3.ow _ (List.mem_of_getElem? hk)).2.2
    have rw'' : w = .int u := rw'
    refine ⟨q, _, rfl, .inl ⟨ws, Sum.inl u, hq, rw'', by rw [plen r]; exact hz, rfl⟩, ?_⟩
    exact kt _ B3 _ (S3.put hk fun ys z => by cases z) (e1.trans e3) (rel_put (κ := Key) inl_inj (R.mono e3 rv) (r.up (e1.trans e3)))))
end
/-! equal runs -/
def eqDB (a b : RunD) : Bool := (decide (a.length = b.length)) && a.all fun kv => decide (dget b kv.1 = some kv.2)
def eqRun : (Int ⊕ RunD) → (Int ⊕ RunD) → Bool
  | .inl i, .inl j => decide (i = j)
  | .inr a, .inr b => eqDB a b
  | _, _ => false
def runsEq : RunT → RunT → Bool
  | [], [] => true
  | x :: a, y :: b => eqRun x y && runsEq a b
  | _, _ => false
theorem runsEq_cons {x y : Int ⊕ RunD} {a b : RunT} (e : runsEq (x :: a) (y :: b) = true) : eqRun x y = true ∧ runsEq a b = true := by
  unfold runsEq at e
  rw [Bool.and_eq_true] at e
  exact e
section
variable {X : Cx} {E : Ent} {own : Own} {B H : Hp} {σ : L2.St} {a b : Expr} {x y : RunT} {pos : Pos} {k : Nat} {pins : List (Addr × Obj)} {s : Shared}
theorem ints_EqV {vx vy : V} {l : List Int} (h1 : (rLst rInt).r H vx l) (h2 : (rLst rInt).r H vy l) : EqV X.K H 2 vx vy := by
  obtain ⟨p, vs, rfl, e1, q1⟩ := h1
  obtain ⟨p2, vs2, rfl, e2, q2⟩ := h2
  refine .inr (.inr (.inl ⟨p, p2, vs, vs2, rfl, rfl, .inl e1, .inl e2, ?_⟩))
  rw [ints_rel q1, ints_rel q2]
  clear q1 q2 e1 e2
  induction l with
  | nil => exact .nil
  | cons i r ih => exact .cons (.inl ⟨rfl, rfl⟩) ih
theorem mem_rel {ws : List (Key × V)} {kvs : List (Int × List Int)} (h : pI (rLst rInt) H ws kvs) : ∀ p ∈ ws, ∃ kv ∈ kvs, p.1 = Sum.inl kv.1 ∧ (rLst rInt).r H p.2 kv.2 := by
  induction h with
  | nil => intro p hp; cases hp
  | cons h t ih =>
    intro p hp
    rcases List.mem_cons.mp hp with rfl | hp
    · exact ⟨_, List.mem_cons_self .., h.1, h.2⟩
    · obtain ⟨kv, hk, e⟩ := ih p hp
      exact ⟨kv, List.mem_cons_of_mem _ hk, e⟩
theorem eqDB_run (I : Inv X pins σ H s) {A : Around} (hu : A.units + 3 < cLine) {vx vy : V} {x y : RunD} (h1 : (rDI (rLst rInt)).r H vx x) (h2 : (rDI (rLst rInt)).r H vy y) (e : eqDB x y = true) {v u : Value} (rx : RelV vx v) (ry : RelV vy u) : SeqAt.EqP X.prog X.w A s v u true := by
  obtain ⟨p, ks, rfl, ep, q1⟩ := h1
  obtain ⟨p2, ls, rfl, ep2, q2⟩ := h2
  cases (show v = Value.ref p from rx)
  cases (show u = Value.ref p2 from ry)
  unfold eqDB at e
  rw [Bool.and_eq_true, decide_eq_true_iff, List.all_eq_true] at e
  by_cases hpp : p = p2
  · subst hpp
    exact (SeqAt.EqAt.same _).eqP
  · refine SeqAt.eqP_refs hpp fun E Q q => ?_
    obtain ⟨_, ya, va, ra, da⟩ := (show ObjOk X.prog X.w H s.heap p (.dK ks) from ep.ok I.hok)
    obtain ⟨_, yb, vb, rb, db⟩ := (show ObjOk X.prog X.w H s.heap p2 (.dK ls) from ep2.ok I.hok)
    have hl : va.length = vb.length := by rw [← ra.length, ← rb.length, plen q1, plen q2]; exact e.1
    refine PySem.W.rcP_dicts (knd := mixKind X.prog X.w) (r := true) ya yb da db (by omega) (fun _ => hits_run (F := EqV X.K H 2) (eqV_run I 2 A.in1 (by show A.units + 1 + 2 < cLine; omega)) rb ra fun z hz => ?_) E Q ?_
    · obtain ⟨kv, hk, e1, e2⟩ := mem_rel q1 z hz
      have e3 := of_decide_eq_true (e.2 kv hk)
      have e4 := rel_get (κ := Key) inl_inj (k := kv.1) q2
      rw [e3] at e4
      obtain ⟨w, hw, rw'⟩ := e4
      exact ⟨w, by rw [e1]; exact hw, ints_EqV e2 rw'⟩
    · rw [show (va.length == vb.length && true) = true from by rw [hl]; simp]
      exact q
theorem eqRun_run (I : Inv X pins σ H s) {A : Around} (hu : A.units + 3 < cLine) {vx vy : V} {x y : Int ⊕ RunD} (h1 : rRun.r H vx x) (h2 : rRun.r H vy y) (e : eqRun x y = true) {v u : Value} (rx : RelV vx v) (ry : RelV vy u) : SeqAt.EqP X.prog X.w A s v u true := by
  cases x with
  | inl i =>
    cases y with
    | inl j =>
      have e' : i = j := of_decide_eq_true e
      have h1' : vx = .int i := h1
      have h2' : vy = .int j := h2
      subst h1' h2' e'
      exact (eqAt_same rx ry rfl).eqP
    | inr b => cases e
  | inr a =>
    cases y with
    | inl j => cases e
    | inr b => exact eqDB_run I hu h1 h2 e rx ry
theorem runs_items (I : Inv X pins σ H s) {A : Around} (hu : A.units + 3 < cLine) : ∀ {vs ws : List V} {x y : RunT} {us zs : List Value}, Paired (rRun.r H) vs x → Paired (rRun.r H) ws y → runsEq x y = true → Vals vs us → Vals ws zs → us.length = zs.length ∧ ∀ j (h1 : j < us.length) (h2 : j < zs.length), SeqAt.EqP X.prog X.w A s us[j] zs[j] true
  | _, _, _, _, _, _, .nil, .nil, _, .nil, .nil => ⟨rfl, fun j h => absurd h (Nat.not_lt_zero j)⟩
  | _, _, _, _, _, _, .nil, .cons _ _, e, _, _ => by cases e
  | _, _, _, _, _, _, .cons _ _, .nil, e, _, _ => by cases e
  | _, _, _, _, _, _, .cons h t, .cons h' t', e, .cons r rs, .cons r' rs' => by
    have e' := runsEq_cons e
    obtain ⟨k1, k2⟩ := runs_items I hu t t' e'.2 rs rs'
    refine ⟨congrArg (· + 1) k1, fun j h1 h2 => ?_⟩
    cases j with
    | zero => exact eqRun_run I hu h h' e'.1 r r'
    | succ j => exact k2 j (Nat.lt_of_succ_lt_succ h1) (Nat.lt_of_succ_lt_succ h2)
theorem op_eqRuns (hu : X.A.units + 64 < cLine) : OpR X (compareOp .Eq) (fun v w H Q => ∃ x y, rRuns.r H v x ∧ rRuns.r H w y ∧ runsEq x y = true ∧ Q (.bl true) H) := by
  intro pins s σ H v w u u2 Q I rx ry h
  obtain ⟨x, y, h1, h2, e, q⟩ := h
  obtain ⟨p, vs, rfl, e1, q1⟩ := h1
  obtain ⟨p2, ws, rfl, e2, q2⟩ := h2
  cases (show u = Value.ref p from rx)
  cases (show u2 = Value.ref p2 from ry)
  obtain ⟨us, r1, l1, _⟩ := I.list (.inl e1)
  obtain ⟨zs, r2, l2, _⟩ := I.list (.inl e2)
  obtain ⟨k1, k2⟩ := runs_items I (A := X.A.in1) (by show X.A.units + 1 + 3 < cLine; omega) q1 q2 e r1 r2
  refine SeqAt.rcP_lists (e := fun _ => true) l1.isList l2.isList (by rw [List.size_toArray, List.size_toArray]; exact k1) (by omega) (fun j h1 h2 => ?_) _ _ ?_
  · have := k2 j (by simpa using h1) (by simpa using h2)
    simpa using this
  · rw [show ((List.range us.toArray.size).all fun _ => true) = true from List.all_eq_true.mpr fun _ _ => rfl]
    exact ⟨.bl true, H, I, rfl, q⟩
theorem ev_eqRuns (C : Cok X k) (ha : EvB X E own B H σ a rRuns x) (hb : EvB X E own B H σ b rRuns y) (h : runsEq x y = true) : EvB X E own B H σ (.Compare a [.Eq] [b] pos) rBool true :=
  ev_cmp (op_eqRuns C.hu64) ha hb (nomark b) fun H1 v w Q h1 h2 k => ⟨x, y, h1, h2, h, k⟩
theorem et_eqRuns (C : Cok X k) (ha : EvB X E own B H σ a rRuns x) (hb : EvB X E own B H σ b rRuns y) (h : runsEq x y = true) : EvT X E own B H σ (.Compare a [.Eq] [b] pos) true :=
  et_cmp (op_eqRuns C.hu64) ha hb (nomark b) fun H1 v w Q h1 h2 k => ⟨x, y, h1, h2, h, k⟩
end
end Sg

namespace Sg
open PySem PySem.Spec PyProof.Rows L2
theorem sw_subs {env : Env} {o a o2 b c d : Expr} {p1 p2 tp p3 : Pos} {kk k2 : Nat} : swappedStores [.Tuple [.Subscript o a p1, .Subscript o2 b p2] kk tp] (.Tuple [c, d] k2 p3) env = pure none := by
  unfold swappedStores
  simp only [List.filterMap_cons, List.filterMap_nil, List.length_nil, List.length_cons]
  split
  · rfl
  · split
    · rfl
    · rfl
end Sg

namespace Sg
open PySem PySem.Spec PyProof.Rows L2
section
variable {X : Cx} {E : Ent} {own : Own} {B H : Hp} {σ : L2.St} {α : Type} {R : Rel α} {e a b o : Expr} {x y : α} {p pos pos' : Pos} {i k j k0 : Nat} {xs ys : List α} {rest : List Stmt} {D : Ends} {n : Str}
/-! x in a tuple -/
theorem ev_inT [DecidableEq α] [Flat R] (ha : EvB X E own B H σ a R x) (ho : EvB X E own B H σ o (rTup R) xs) (hm : behindInMarks .In o = false := by rfl) : EvB X E own B H σ (.Compare a [.In] [o] pos) rBool (decide (x ∈ xs)) :=
  ev_cmp op_in_seq ha ho hm fun H1 v w Q h1 h2 k => by
    obtain ⟨l, vs, g1, g2, g3⟩ := h2
    obtain ⟨q1, q2⟩ := in_rel h1 g3
    refine ⟨l, vs, g1, .inr (SqT.of g2), Flat.f h1, q1, ?_⟩
    rw [q2]
    exact k
theorem et_inT [DecidableEq α] [Flat R] (ha : EvB X E own B H σ a R x) (ho : EvB X E own B H σ o (rTup R) xs) (hm : behindInMarks .In o = false := by rfl) : EvT X E own B H σ (.Compare a [.In] [o] pos) (decide (x ∈ xs)) :=
  et_cmp op_in_seq ha ho hm fun H1 v w Q h1 h2 k => by
    obtain ⟨l, vs, g1, g2, g3⟩ := h2
    obtain ⟨q1, q2⟩ := in_rel h1 g3
    refine ⟨l, vs, g1, .inr (SqT.of g2), Flat.f h1, q1, ?_⟩
    rw [q2]
    exact k
theorem ev_ninT [DecidableEq α] [Flat R] (ha : EvB X E own B H σ a R x) (ho : EvB X E own B H σ o (rTup R) xs) (hm : behindInMarks .NotIn o = false := by rfl) : EvB X E own B H σ (.Compare a [.NotIn] [o] pos) rBool (!decide (x ∈ xs)) :=
  ev_cmp op_notIn_seq ha ho hm fun H1 v w Q h1 h2 k => by
    obtain ⟨l, vs, g1, g2, g3⟩ := h2
    obtain ⟨q1, q2⟩ := in_rel h1 g3
    refine ⟨l, vs, g1, .inr (SqT.of g2), Flat.f h1, q1, ?_⟩
    rw [q2]
    exact k
theorem et_ninT [DecidableEq α] [Flat R] (ha : EvB X E own B H σ a R x) (ho : EvB X E own B H σ o (rTup R) xs) (hm : behindInMarks .NotIn o = false := by rfl) : EvT X E own B H σ (.Compare a [.NotIn] [o] pos) (!decide (x ∈ xs)) :=
  et_cmp op_notIn_seq ha ho hm fun H1 v w Q h1 h2 k => by
    obtain ⟨l, vs, g1, g2, g3⟩ := h2
    obtain ⟨q1, q2⟩ := in_rel h1 g3
    refine ⟨l, vs, g1, .inr (SqT.of g2), Flat.f h1, q1, ?_⟩
    rw [q2]
    exact k
end
end Sg

namespace Sg
open PySem PySem.Spec PyProof.Rows L2
section
variable {X : Cx} {E : Ent} {own : Own} {B H : Hp} {σ : L2.St} {α : Type} {R : Rel α} {e a b o : Expr} {x y : α} {p pos pos' : Pos} {i k j k0 : Nat} {xs ys : List α} {rest : List Stmt} {D : Ends} {n : Str}
/-! x[i] = e -/
theorem s_set1 {q : Addr} {vs : List V} {u : Int} (C : Cok X k0) (S0 : Stt E own B H) (ho : PE X o (tVar i)) (h : σ[i]? = some (some (.ref q))) (hk : own[k]? = some (q, .lst vs)) (r : Paired (R.r B) vs xs)
    (he : EvE X E own B H σ e R x) (ha : EvB X E own B H σ a rInt u) (h1 : setI xs u x = some ys)
    (kt : ∀ vs' B' H', Stt E (own.set k (q, .lst vs')) B' H' → Ex B B' → Paired (R.r B') vs' ys → WSs X rest D σ H')
    (g1 : PlSub X o a pos' := by exact fun _ => rfl) (hw : swapsWith e (some (.Subscript o a pos')) pos.line X.env = pure false := by rfl) : WSs X (.Assign [.Subscript o a pos'] e pos :: rest) D σ H :=
  WSs.cons (ps_asg peW (pg_sub ho peW set_list g1) hw) (he B H S0 (Ex.refl _) (Ex.refl _) _ fun v B2 H2 S2 e1 e2 rp => by
    obtain ⟨j1, hj1, rfl⟩ := setI_get h1
    refine ⟨.ref q, h, ?_⟩
    refine ha B2 H2 S2 e1 e2 _ fun w1 B3 H3 S3 e3 e4 rw1 => ?_
    have hq := (S3.ow _ (List.mem_of_getElem? hk)).2.2
    have r3 := pimp r fun _ _ z => R.mono (e1.trans e3) z
    refine ⟨q, vs, u, j1, rfl, rw1, hq, by rw [plen r]; exact hj1, ?_⟩
    have S3' := S3.put hk (o' := .lst (vs.set j1 v)) fun ys z => by cases z
    exact kt _ B3 _ S3' (e1.trans e3) (psetJ r3 (R.mono e3 rp) j1))
theorem el_repO {q : Int} {l : Addr} {vs : List V} (ho : PE X o (tVar i)) (h : σ[i]? = some (some (.ref l))) (hk : own[k]? = some (l, .lst vs)) (r : Paired (R.r B) vs xs) (hb : EvB X E own B H σ b rInt q) (hz : -(2 ^ 63) ≤ q ∧ q < 2 ^ 63 ∧ xs.length * q.toNat ≤ sizeLine) : EvL X E own B H σ (.BinOp o .Mult b pos) R (List.replicate q.toNat xs).flatten := fun B1 H1 S1 e1 e2 Q k =>
  WE.of (pe_op (show OpR X (binaryOp .Mult) rRepR from op_rep) ho peW) ⟨.ref l, h, hb B1 H1 S1 e1 e2 _ fun w B3 H3 S3 e5 e6 r' => by
    refine ⟨l, q, vs, rfl, r', (S3.ow _ (List.mem_of_getElem? hk)).2.2, hz.1, hz.2.1, by rw [plen r]; exact hz.2.2, fun p np => ?_⟩
    have S4 := (S3.alloc np (o := .lst (List.replicate q.toNat vs).flatten) fun ys z => by cases z)
    exact k p _ B3 _ S4 e5 (e6.trans (Sx.new np).ex) (prep (pimp r fun _ _ z => R.mono (e1.trans e5) z) _)⟩
end
end Sg

namespace Sg
open PySem PySem.Spec PyProof.Rows L2
/-! ### sorted(d.items()) -/
def vwO (p d : Addr) : HO := .ext fun h => h.IsItemsView p d
theorem vwO_ok {P : Program} {w : World} {H : Hp} {h : Heap} {p d : Addr} (e : h.get? p = some { cls := .type "dict_items", data := .fields #[.ref d] }) : ObjOk P w H h p (vwO p d) :=
  ⟨⟨_, e, rfl, rfl⟩, ⟨_, e⟩, fun h1 h2 ⟨o, ho, r⟩ k => ⟨o, k o ho, r⟩⟩
section
variable {X : Cx}
def rVw : V → List V → Hp → VK → Prop := fun x xs H Q => ∃ (d : Addr) (ws : List (Key × V)), x = .ref d ∧ xs = [] ∧ Rd H d (.dK ws) ∧ ∀ p, H p = none → Q (.ref p) (upd H p (vwO p d))
theorem mt_vw : MtR X "dict.items" rVw := by
  intro pins s σ H x xs v us Q I rx rxs hr
  obtain ⟨d, ws, rfl, rfl, hd, q⟩ := hr
  cases rx
  cases rxs
  obtain ⟨_, lo, vs, _, dd⟩ := dk_rd I.hok hd
  refine PySem.call_meetsIn F.slot_dict_items dd.typeIs F.entry_dict_items (F.args_dict_items_1 _) (meets_dict_items (mixKind X.prog X.w) d lo) ⟨⟨vs, dd⟩, ?_⟩
  exact ⟨.ref s.heap.objs.size, _, I.laid (t' := s.toks) (fun b u e => Heap.get?_push_of_some _ e) (Nat.le_refl _) (vwO_ok (Heap.get?_push_size _ rfl)), rfl, q _ (I.hok.fresh (Nat.le_refl _))⟩
/-! things that read as data -/
class EncR {α : Type} (R : Rel α) where
  enc : α → PyData
  rd : ∀ {X : Cx} {pins : List (Addr × Obj)} {σ : L2.St} {H : Hp} {s : Shared} {v : V} {x : α} {u : Value}, Inv X pins σ H s → R.r H v x → RelV v u → Reads s.heap u (enc x) []
  dp : ∀ x, (enc x).depth ≤ 1
  al : ∀ x y, PySem.W.alike (enc x) (enc y) = true
instance : EncR rInt where
  enc := .int
  rd := fun I r ru => by
    have r : _ = _ := r
    subst r
    obtain ⟨t, rfl⟩ := ru
    exact .int _ _
  dp := fun x => by show (0 : Nat) ≤ 1; omega
  al := fun x y => rfl
theorem ints_read {h : Heap} {H : Hp} : ∀ {vs : List V} {ns : List Int} {us : List Value}, Paired (rInt.r H) vs ns → Vals vs us → ReadsAll h us (ns.map PyData.int) []
  | _, _, _, .nil, .nil => .nil
  | _, _, _, .cons r rs, .cons g gs => by
    have r : _ = _ := r
    subst r
    obtain ⟨t, rfl⟩ := g
    exact ReadsAll.cons (as := []) (bs := []) (.int _ _) (ints_read rs gs)
instance : EncR (rTup rInt) where
  enc := fun ns => .tuple (ns.map .int)
  rd := fun {X pins σ H s v x u} I r ru => by
    obtain ⟨p, vs, rfl, hp, hr⟩ := r
    obtain rfl : u = Value.ref p := ru
    obtain ⟨_, its, rv, o, ho, hc, n, hd⟩ := (show ObjOk X.prog X.w H s.heap p (.tup vs) from I.hok p _ hp)
    refine Reads.tuple ho hc hd ?_
    exact ints_read hr rv
  dp := fun x => by
    show (PyData.tuple (x.map .int)).depth ≤ 1
    rw [PyData.depth, PySem.W.depth_ints]
    omega
  al := fun x y => by
    show PySem.W.alike (.tuple (x.map .int)) (.tuple (y.map .int)) = true
    rw [PySem.W.alike]
    exact PySem.W.alike_ints x y

def laidT : Hp → List (Addr × List V) → Hp
  | H, [] => H
  | H, q :: L => laidT (upd H q.1 (.tup q.2)) L
theorem laidT_off {a : Addr} : ∀ (L : List (Addr × List V)) (H : Hp), a ∉ L.map (·.1) → laidT H L a = H a
  | [], _, _ => rfl
  | q :: L, H, h => by
    rw [List.map_cons, List.mem_cons, not_or] at h
    show laidT (upd H q.1 (.tup q.2)) L a = H a
    rw [laidT_off L _ h.2, upd_ne h.1]
theorem laidT_at : ∀ (L : List (Addr × List V)) (H : Hp), (L.map (·.1)).Nodup → ∀ q ∈ L, laidT H L q.1 = some (.tup q.2)
  | q :: L, H, nd, r, hr => by
    rw [List.map_cons, List.nodup_cons] at nd
    show laidT (upd H q.1 (.tup q.2)) L r.1 = _
    rcases List.mem_cons.mp hr with rfl | hr
    · rw [laidT_off L _ nd.1, upd_same]
    · exact laidT_at L _ nd.2 r hr
theorem stt_laidT {E : Ent} {own : Own} : ∀ (L : List (Addr × List V)) {B H : Hp}, Stt E own B H → (L.map (·.1)).Nodup → (∀ q ∈ L, H q.1 = none) → Stt E own (laidT B L) (laidT H L) ∧ Ex B (laidT B L) ∧ Ex H (laidT H L)
  | [], _, _, S, _, _ => ⟨S, Ex.refl _, Ex.refl _⟩
  | q :: L, B, H, S, nd, hn => by
    rw [List.map_cons, List.nodup_cons] at nd
    have h1 := hn q (List.mem_cons_self ..)
    obtain ⟨a, b, c⟩ := stt_laidT L (S.lay (o := .tup q.2) h1) nd.2 fun r hr => by
      rw [upd_ne fun z => nd.1 (List.mem_map.mpr ⟨r, hr, z⟩)]
      exact hn r (List.mem_cons_of_mem _ hr)
    exact ⟨a, (S.layB h1).ex.trans b, (Sx.new h1).ex.trans c⟩
theorem inv_laidT {pins : List (Addr × Obj)} {σ : L2.St} {H0 : Hp} {s0 : Shared} {h' : Heap} {tk : Nat} (I0 : Inv X pins σ H0 s0) : ∀ (L : List (Addr × List V)) (H : Hp), Inv X pins σ H { s0 with heap := h', toks := tk } → (L.map (·.1)).Nodup →
    (∀ q ∈ L, s0.heap.objs.size ≤ q.1 ∧ H q.1 = none ∧ ∀ H2, ObjOk X.prog X.w H2 h' q.1 (.tup q.2)) → Inv X pins σ (laidT H L) { s0 with heap := h', toks := tk }
  | [], _, I, _, _ => I
  | q :: L, H, I, nd, hq => by
    rw [List.map_cons, List.nodup_cons] at nd
    obtain ⟨h1, h2, h3⟩ := hq q (List.mem_cons_self ..)
    refine inv_laidT I0 L _ (I.take (h' := h') (t' := tk) (fun b ob _ e => e) (I0.fpOk h1 h2) (h3 _)) nd.2 fun r hr => ?_
    obtain ⟨g1, g2, g3⟩ := hq r (List.mem_cons_of_mem _ hr)
    exact ⟨g1, by rw [upd_ne fun z => nd.1 (List.mem_map.mpr ⟨r, hr, z⟩)]; exact g2, g3⟩
theorem each_ix {α β : Type} {R : α → β → Prop} : ∀ {xs : List α} {ys : List β}, xs.length = ys.length → (∀ (j : Nat) x y, xs[j]? = some x → ys[j]? = some y → R x y) → PySem.W.EachIs R xs ys
  | [], [], _, _ => .nil
  | [], _ :: _, h, _ => by cases h
  | _ :: _, [], h, _ => by cases h
  | x :: xs, y :: ys, h, k => .cons (k 0 x y rfl rfl) (each_ix (Nat.succ.inj h) fun j a b h1 h2 => k (j + 1) a b h1 h2)
theorem each_out {α β : Type} {R : α → β → Prop} {f : β → α} (hf : ∀ a b, R a b → a = f b) : ∀ {xs : List α} {ys : List β}, PySem.W.EachIs R xs ys → xs = ys.map f ∧ ∀ y ∈ ys, R (f y) y
  | _, _, .nil => ⟨rfl, fun y hy => by cases hy⟩
  | x :: xs, y :: ys, .cons r t => by
    obtain ⟨h1, h2⟩ := each_out hf t
    have e := hf x y r
    subst e
    refine ⟨by rw [h1, List.map_cons], fun z hz => ?_⟩
    rcases List.mem_cons.mp hz with rfl | hz
    · exact r
    · exact h2 z hz
section
variable {α : Type}
def leRow (R : Rel α) [EncR R] (a b : Int × α) : Bool := PySem.W.dataLe false (fun q : Int × α => .tuple [.int q.1, EncR.enc R q.2]) a b
def rSortVw (R : Rel α) [EncR R] : List V → Hp → VK → Prop := fun xs H Q => ∃ (p d : Addr) (ws : List (Key × V)) (kvs : List (Int × α)), xs = [.ref p] ∧ H p = some (vwO p d) ∧ Rd H d (.dK ws) ∧ Paired (fun w kv => w.1 = Sum.inl kv.1 ∧ R.r H w.2 kv.2) ws kvs ∧
  ∀ (L : List (Addr × V × (Int × α))) (l : Addr), L.map (·.2.2) = kvs.mergeSort (leRow R) → (∀ z ∈ L, R.r H z.2.1 z.2.2.2) → (L.map (·.1)).Nodup → (∀ z ∈ L, H z.1 = none) → H l = none → l ∉ L.map (·.1) →
    Q (.ref l) (upd (laidT H (L.map fun z => (z.1, [.int z.2.2.1, z.2.1]))) l (.lst (L.map fun z => .ref z.1)))
end

theorem cr_sortVw {α : Type} (R : Rel α) [EncR R] (hc : X.calm = true) (hu : X.A.units + 64 < cLine) : CallR X (.builtin "sorted") (rSortVw R) := by
  intro pins s σ H xs us Q I r hq
  obtain ⟨p, d, ws, kvs, rfl, hp, hd, hk, q⟩ := hq
  obtain rfl := Vals.ref1 r
  have view : s.heap.IsItemsView p d := (show ObjOk X.prog X.w H s.heap p (vwO p d) from I.hok p _ hp).1
  obtain ⟨zl, lo, vs, rel, dd⟩ := dk_rd I.hok hd
  obtain ⟨ep, hat⟩ := dd.dictAt
  have l1 : ws.length = vs.length := Paired.length rel
  have l2 : ws.length = kvs.length := plen hk
  have hz : vs.length ≤ sizeLine := by omega
  refine PySem.Calls.call_function_entry kind_sorted plain_sorted entry_sorted (args_sorted1 _) ?_
  unfold Builtin.«sorted»
  refine wpAny_bind (m := checkCount "sorted" 1 1 _) (wpAny_pure ?_)
  refine wpAny_bind (PySem.W.kdx_collect (A := X.A.in1) (knd := mixKind X.prog X.w) (kvs := vs) (ep := ep) (I.ok.hd hc) view hat hz fun h1 tk as k1 la G => ?_)
  refine wpAny_bind (wpAny_newList ?_ (by rw [List.length_map, la]; exact hz))
  have nd : as.Nodup := List.Pairwise.imp (fun z => Nat.ne_of_lt z) G.rise
  have hob : (h1.push { cls := .type "list", data := .seq (as.map Value.ref).toArray }).get? h1.objs.size = some (seqObj "list" (as.map Value.ref).toArray 0) := Heap.get?_push_size _ rfl
  have ka : ∀ b o, h1.get? b = some o → (h1.push { cls := .type "list", data := .seq (as.map Value.ref).toArray }).get? b = some o := fun b o e => Heap.get?_push_of_some _ e
  generalize h1.push { cls := .type "list", data := .seq (as.map Value.ref).toArray } = h2 at hob ka ⊢
  have kb : ∀ b o, s.heap.get? b = some o → h2.get? b = some o := fun b o e => ka b o (k1 b o e)
  -- what stands at a place
  let bs : List (Addr × V × (Int × α)) := (as.zip (ws.zip kvs)).map fun z => (z.1, z.2.1.2, z.2.2)
  have lb : as.length = bs.length := by
    show _ = ((as.zip (ws.zip kvs)).map _).length
    rw [List.length_map, List.length_zip, List.length_zip]
    omega
  have bj : ∀ (j : Nat) (b : Addr × V × (Int × α)), bs[j]? = some b → ∃ w, as[j]? = some b.1 ∧ ws[j]? = some w ∧ w.2 = b.2.1 ∧ kvs[j]? = some b.2.2 := by
    intro j b h
    have h : ((as.zip (ws.zip kvs)).map fun z => (z.1, z.2.1.2, z.2.2))[j]? = some b := h
    rw [List.getElem?_map, Option.map_eq_some_iff] at h
    obtain ⟨z, h3, rfl⟩ := h
    obtain ⟨g1, g2⟩ := List.getElem?_zip_eq_some.mp h3
    obtain ⟨g3, g4⟩ := List.getElem?_zip_eq_some.mp g2
    exact ⟨z.2.1, g1, g3, rfl, g4⟩
  have good : ∀ (j : Nat) (b : Addr × V × (Int × α)), bs[j]? = some b → ∃ key x, h1.get? b.1 = some { cls := .type "tuple", data := .seq #[key, x] } ∧ RelV (.int b.2.2.1) key ∧ RelV b.2.1 x ∧ R.r H b.2.1 b.2.2.2 := by
    intro j b h
    obtain ⟨w, g1, g2, g3, g4⟩ := bj j b h
    obtain ⟨key, k, x, f1, f2, f3⟩ := G.pairs j _ g1
    obtain ⟨y, e1, e2, e3⟩ := LiI.paired_get rel g2
    rw [f1] at e1
    cases e1
    obtain ⟨y2, e4, e5, e6⟩ := LiI.paired_get hk g2
    rw [g4] at e4
    cases e4
    have rk : RelV (kV w.1) key := by
      rw [e2]
      exact relV_key (show keyIs k key = true from f2)
    rw [e5] at rk
    rw [g3] at e3 e6
    exact ⟨key, x, f3, rk, e3, e6⟩
  let P : Value → Addr × V × (Int × α) → Prop := fun v b => v = .ref b.1 ∧ b ∈ bs
  have eP : PySem.W.EachIs P (as.map Value.ref) bs := each_ix (by rw [List.length_map]; exact lb) fun j v b g1 g2 => by
    obtain ⟨w, f1, _⟩ := bj j b g2
    rw [List.getElem?_map, f1] at g1
    exact ⟨(Option.some.inj g1).symm, List.mem_of_getElem? g2⟩
  let ec : Addr × V × (Int × α) → PyData := fun b => .tuple [.int b.2.2.1, EncR.enc R b.2.2.2]
  have eR : PySem.W.EachIs (fun v b => ∃ zs, Reads h2 v (ec b) zs ∧ h1.objs.size ∉ zs) (as.map Value.ref) bs := each_ix (by rw [List.length_map]; exact lb) fun j v b g1 g2 => by
    obtain ⟨w, f1, _⟩ := bj j b g2
    rw [List.getElem?_map, f1] at g1
    obtain ⟨key, x, q1, q2, q3, q4⟩ := good j b g2
    obtain rfl := (Option.some.inj g1).symm
    obtain ⟨t, rfl⟩ := q2
    refine ⟨[], Reads.tuple (ka _ _ q1) rfl rfl ?_, List.not_mem_nil⟩
    exact ReadsAll.cons (as := []) (bs := []) (.int _ _) (ReadsAll.cons (as := []) (bs := []) (PyProof.Rows.Reads.keeps kb (EncR.rd I q4 q3)) .nil)
  have hal : PySem.W.AllAlike (bs.map ec) := PySem.W.AllAlike.of fun b b' => by
    show PySem.W.alike (.tuple [.int b.2.2.1, EncR.enc R b.2.2.2]) (.tuple [.int b'.2.2.1, EncR.enc R b'.2.2.2]) = true
    rw [PySem.W.alike, PySem.W.alikeAll, PySem.W.alikeAll, EncR.al]
    rfl
  have hsk : PySem.W.Sortable (bs.map ec) := PySem.W.Sortable.tuples fun b => ⟨_, _, rfl⟩
  refine wpAny_bind (wpAny_holding (wpAny_mono (Q := fun _ s' => EP X pins σ Q (.ref h1.objs.size) s') (E := X.xe) (PySem.W.list_sort_data (A := X.A.in1) (bs := bs) (enc := ec) (R := P) hob eP eR hal hsk (by omega) (fun b _ => ?_) fun out lo2 eo => ?_) (fun _ s' x => wpAny_pure ⟨_, rfl, x⟩) fun _ _ e => e))
  · have h3 := EncR.dp (R := R) b.2.2.2
    have h4 : (ec b).depth ≤ 2 := by
      show (PyData.tuple [.int b.2.2.1, EncR.enc R b.2.2.2]).depth ≤ 2
      rw [PyData.depth, PyData.depthAll, PyData.depthAll, PyData.depthAll, PyData.depth]
      omega
    show X.A.units + 1 + 1 + _ < _
    omega
  · obtain ⟨eo1, eo2⟩ := each_out (f := fun b : Addr × V × (Int × α) => Value.ref b.1) (fun a b z => z.1) eo
    have pm : (bs.mergeSort (PySem.W.dataLe false ec)).Perm bs := List.mergeSort_perm _ _
    have ms : (bs.mergeSort (PySem.W.dataLe false ec)).map (·.2.2) = (bs.map (·.2.2)).mergeSort (leRow R) := List.map_mergeSort fun a _ b _ => rfl
    generalize bs.mergeSort (PySem.W.dataLe false ec) = L at eo1 eo2 pm ms
    have b1 : bs.map (·.1) = as := by
      show ((as.zip (ws.zip kvs)).map fun z => (z.1, z.2.1.2, z.2.2)).map (·.1) = as
      rw [List.map_map]
      exact List.map_fst_zip (by rw [List.length_zip]; omega)
    have b2 : bs.map (·.2.2) = kvs := by
      show ((as.zip (ws.zip kvs)).map fun z => (z.1, z.2.1.2, z.2.2)).map (·.2.2) = kvs
      rw [List.map_map]
      have e1 : (as.zip (ws.zip kvs)).map (·.2) = ws.zip kvs := List.map_snd_zip (by rw [List.length_zip]; omega)
      have e2 : (ws.zip kvs).map (·.2) = kvs := List.map_snd_zip (by omega)
      rw [← e1, List.map_map] at e2
      exact e2
    rw [b2] at ms
    have nL : (L.map (·.1)).Nodup := (pm.map (·.1)).nodup_iff.mpr (by rw [b1]; exact nd)
    have at_ : ∀ z ∈ L, ∃ j : Nat, bs[j]? = some z := fun z hz => List.mem_iff_getElem?.mp (pm.mem_iff.mp hz)
    have inAs : ∀ z ∈ L, z.1 ∈ as := fun z hz => by
      rw [← b1]
      exact List.mem_map.mpr ⟨z, pm.mem_iff.mp hz, rfl⟩
    have I1 : Inv X pins σ H { s with heap := h1, toks := tk } := I.kept (t' := tk) k1
    have nl : H h1.objs.size = none := I1.hok.fresh (Nat.le_refl _)
    have lowA : ∀ a ∈ as, a ≠ h1.objs.size := fun a ha => Nat.ne_of_lt (G.there ha)
    have kF : ∀ b o, b ≠ h1.objs.size → h2.get? b = some o → (sortedHeap h2 h1.objs.size (as.map Value.ref) out.toArray).get? b = some o := fun b o hb e => (PyProof.Rows.sortedHeap_old hb (Heap.lt_size e)).trans e
    obtain ⟨eF, heF⟩ := PyProof.Rows.sortedHeap_at (vs := as.map Value.ref) (out := out.toArray) hob
    generalize sortedHeap h2 h1.objs.size (as.map Value.ref) out.toArray = hF at kF heF
    have I2 : Inv X pins σ H { s with heap := hF, toks := tk } := I.kept (t' := tk) fun b o e => kF b o (Nat.ne_of_lt (Heap.lt_size (k1 b o e))) (kb b o e)
    have mm : (L.map fun z => (z.1, [V.int z.2.2.1, z.2.1])).map (·.1) = L.map (·.1) := by rw [List.map_map]; rfl
    have I3 := inv_laidT I (L.map fun z => (z.1, [V.int z.2.2.1, z.2.1])) H I2 (by rw [mm]; exact nL) fun r hr => by
      obtain ⟨z, hz, rfl⟩ := List.mem_map.mp hr
      obtain ⟨j, hj⟩ := at_ z hz
      obtain ⟨key, x, q1, q2, q3, q4⟩ := good j z hj
      have hb := Nat.le_of_lt (G.above _ (inAs z hz))
      exact ⟨hb, I.hok.fresh hb, fun H2 => ⟨by show 2 ≤ sizeLine; decide, [key, x], .cons q2 (.cons q3 .nil), ⟨_, kF _ _ (lowA _ (inAs z hz)) (ka _ _ q1), rfl, 0, rfl⟩⟩⟩
    have nlL : h1.objs.size ∉ L.map (·.1) := fun z => by
      obtain ⟨y, hy, e⟩ := List.mem_map.mp z
      exact lowA _ (inAs y hy) e
    have rv : Vals (L.map fun z => V.ref z.1) out := by
      rw [eo1]
      have : ∀ (M : List (Addr × V × (Int × α))), Vals (M.map fun z => V.ref z.1) (M.map fun z => Value.ref z.1) := fun M => by
        induction M with
        | nil => exact .nil
        | cons z M ih => exact .cons rfl ih
      exact this L
    have hlen : (L.map fun z => V.ref z.1).length ≤ sizeLine := by
      have := pm.length_eq
      rw [List.length_map]
      omega
    have I4 := I3.take (h' := hF) (t' := tk) (o := .lst (L.map fun z => V.ref z.1)) (fun b ob _ e => e) (I1.fpOk (b := h1.objs.size) (Nat.le_refl _) (by rw [laidT_off _ _ (by rw [mm]; exact nlL)]; exact nl)) ⟨hlen, out, eF, rv, heF⟩
    exact ⟨.ref h1.objs.size, _, I4, rfl, q L h1.objs.size ms (fun z hz => by
      obtain ⟨j, hj⟩ := at_ z hz
      exact (good j z hj).choose_spec.choose_spec.2.2.2) nL (fun z hz => I.hok.fresh (Nat.le_of_lt (G.above _ (inAs z hz)))) nl nlL⟩

theorem pe_vw {o : Expr} {te : TE} {ap cp : Pos} (he : PE X o te) (hb : attributeBase o "items" X.env (eval o X.env) = eval o X.env := by rfl) (hl : (ap.endLine == cp.line) = true := by rfl) : PE X (.Call (.Attribute o "items" ap) [] [] cp) (fun σ H Q => te σ H fun x H1 => rVw x [] H1 Q) := by
  refine ⟨fun pins s σ H Q I hq => ?_⟩
  refine wpAny_Call_method (T := "dict") (id := "dict.items") hb rfl hl F.plainAttrs_dict F.slot_dict_items F.type_dict_items (thn (he.run pins s σ H _ I hq) fun u s1 ⟨x, H1, I1, rx, hv⟩ => ?_)
  obtain ⟨d, ws, rfl, h2, hd, h3⟩ := hv
  obtain rfl : u = Value.ref d := rx
  obtain ⟨_, lo, vs, _, dd⟩ := dk_rd I1.hok hd
  exact ⟨dd.typeIs, dd.mapOf.noDict, Calls.callWith_builtin rfl (PySem.evalArgs_none (mt_vw pins s1 σ H1 (.ref d) [] (.ref d) [] Q I1 rfl .nil ⟨d, ws, rfl, h2, hd, h3⟩))⟩
section
variable {E : Ent} {own : Own} {B H : Hp} {σ : L2.St} {α : Type} {R : Rel α} {o : Expr} {p pos ap cp : Pos} {kvs : List (Int × α)}
theorem pair_map {β γ : Type} {F : V → γ → Prop} (f : β → V) (g : β → γ) : ∀ (L : List β), (∀ z ∈ L, F (f z) (g z)) → Paired F (L.map f) (L.map g)
  | [], _ => .nil
  | z :: L, h => .cons (h z (List.mem_cons_self ..)) (pair_map f g L fun y hy => h y (List.mem_cons_of_mem _ hy))
theorem el_sortItems [EncR R] [Imm R] (hc : X.calm = true) (hu : X.A.units + 64 < cLine) (hg : Gl X "sorted") (hm : X.mg "sorted" = none) (ho : EvB X E own B H σ o (rDI R) kvs)
    (hb : attributeBase o "items" X.env (eval o X.env) = eval o X.env := by rfl) (hl : (ap.endLine == cp.line) = true := by rfl) (hs : St1 X (.Call (.Attribute o "items" ap) [] [] cp) := by rfl) : EvL X E own B H σ (.Call (.Name "sorted" p) [.Call (.Attribute o "items" ap) [] [] cp] [] pos) (rPr rInt R) (kvs.mergeSort (leRow R)) := fun B1 H1 S1 e1 e2 Q k => by
  refine WE.of (pe_callB (cr_sortVw R hc hu) hg hm (by decide +kernel) (pa_cons (pe_vw peW hb hl) pa_nil hs) (he := hs)) (ho B1 H1 S1 e1 e2 _ fun v B2 H2 S2 e3 e4 r => ?_)
  obtain ⟨d, ws, rfl, h2, h3⟩ := r
  refine ⟨d, ws, rfl, rfl, h2, fun q hq => ?_⟩
  have x3 : Ex H2 (upd H2 q (vwO q d)) := (Sx.new hq).ex
  have S3 := S2.alloc hq (o := vwO q d) fun ys z => by cases z
  refine ⟨q, d, ws, kvs, rfl, upd_same, x3.dK h2, h3.up x3, fun L l e5 e6 e7 e8 e9 e10 => ?_⟩
  have mm : (L.map fun z => (z.1, [V.int z.2.2.1, z.2.1])).map (·.1) = L.map (·.1) := by rw [List.map_map]; rfl
  have hn : ∀ r ∈ (L.map fun z => (z.1, [V.int z.2.2.1, z.2.1])), (upd H2 q (vwO q d)) r.1 = none := fun r hr => by
    obtain ⟨z, hz, rfl⟩ := List.mem_map.mp hr
    exact e8 z hz
  obtain ⟨S4, x4, x5⟩ := stt_laidT (L.map fun z => (z.1, [V.int z.2.2.1, z.2.1])) S3 (by rw [mm]; exact e7) hn
  have nl : laidT (upd H2 q (vwO q d)) (L.map fun z => (z.1, [V.int z.2.2.1, z.2.1])) l = none := by
    rw [laidT_off _ _ (by rw [mm]; exact e10)]
    exact e9
  have S5 := (S4.alloc nl (o := .lst (L.map fun z => V.ref z.1)) fun ys z => by cases z).swap.drop
  refine k l _ _ _ S5 (e3.trans x4) (((e4.trans x3).trans x5).trans (Sx.new nl).ex) ?_
  rw [← e5]
  refine pair_map (fun z : Addr × V × (Int × α) => V.ref z.1) (fun z => z.2.2) L fun z hz => ?_
  exact ⟨z.1, _, _, rfl, laidT_at _ _ (by rw [mm]; exact e7) _ (List.mem_map.mpr ⟨z, hz, rfl⟩), rfl, R.mono x4 (Imm.imm S3.tu (e6 z hz))⟩
end
end
end Sg

namespace Sg
open PySem PySem.Spec PyProof.Rows L2
section
variable {X Xb : Cx} {E : Ent} {own new own' : Own} {B H B' H' : Hp} {σ : L2.St} {α β γ δ τ ρ ρ' : Type} {R : Rel α} {S : Rel β} {T : Rel γ} {U : Rel δ} {e a b c d o it tg : Expr} {x : α} {y : β} {p pos pos' apos : Pos} {i j k k0 : Nat} {z w : Bool} {xs : List α} {ys : List β} {es : List Expr}
variable {n m : Str} {rest body other : List Stmt} {D : Ends} {P : ρ → Prop} {Er : Err → Prop} {scope sc : Scope} {N : List Str} {t : List (Str × NameKind)} {kd : NameKind}
/-! range with the step -1 -/
theorem rsz_neg {a b : Int} (h : -8000000 ≤ a ∧ a ≤ 8000000 ∧ -8000000 ≤ b ∧ b ≤ 8000000) : (Builtin.Range.rangeSize a b (-1)).toNat ≤ 16000001 ∧ 0 ≤ Builtin.Range.rangeSize a b (-1) := by
  unfold Builtin.Range.rangeSize
  rw [if_neg (by decide)]
  by_cases hl : a > b
  · rw [if_pos hl, show (-(-1) : Int) = 1 from rfl, Int.ediv_one]
    omega
  · rw [if_neg hl]
    omega
theorem small_neg {a b : Int} (h : -8000000 ≤ a ∧ a ≤ 8000000 ∧ -8000000 ≤ b ∧ b ≤ 8000000) : Builtin.Range.small a b (-1) = true := by
  have q := rsz_neg h
  unfold Builtin.Range.small
  simp only [Builtin.Range.rangeFitsLong, Bool.and_eq_true, Bool.or_eq_true, decide_eq_true_eq, beq_iff_eq, if_neg (show ¬ (0 : Int) < -1 by decide), gt_iff_lt]
  generalize Builtin.Range.rangeSize a b (-1) = n at q ⊢
  omega
theorem ei_r3n {tg : Expr} {lo hi : Int} (hg : Gl X "range") (hm : X.mg "range" = none) (ha : EvB X E own B H σ a rInt lo) (hb : EvB X E own B H σ b rInt hi) (hc : EvB X E own B H σ c rInt (-1)) (hz : -8000000 ≤ lo ∧ lo ≤ 8000000 ∧ -8000000 ≤ hi ∧ hi ≤ 8000000)
    (hs : starEach [a, b, c] X.env = (false, eval a X.env) :: starEach [b, c] X.env := by rfl) (hs1 : starEach (b :: [c]) X.env = (false, eval b X.env) :: starEach [c] X.env := by rfl) (hs2 : St1 X c := by rfl) (hpl : (backTo pos (starEach [b, c] X.env)).any (·.1) = false := by rfl) : EvI X E own B H σ tg (.Call (.Name "range" p) [a, b, c] [] pos) rInt KoT (rangeS lo hi (-1)) :=
  ⟨_, pi_range3 hg hm (pa_cons peW (pa_cons peW (pa1 hs2) hs1) hs) hs hpl, fun B1 H1 S e1 e2 Q k => ha B1 H1 S e1 e2 _ fun v B2 H2 S2 e3 e4 r => hb B2 H2 S2 (e1.trans e3) (e2.trans e4) _ fun w B3 H3 S3 e5 e6 r' => hc B3 H3 S3 ((e1.trans e3).trans e5) ((e2.trans e4).trans e6) _ fun u B4 H4 S4 e7 e8 r'' => by
    have q := rsz_neg hz
    refine ⟨lo, hi, -1, (Builtin.Range.rangeSize lo hi (-1)).toNat, by rw [show v = .int lo from r, show w = .int hi from r', show u = .int (-1) from r''], ⟨by omega, by omega, small_neg hz, by omega⟩, k _ B4 H4 S4 ((e3.trans e5).trans e7) ((e4.trans e6).trans e8) ?_ (by rw [rangeS_len, sizeLine_eq]; omega)⟩
    refine ⟨fun i own' B' H' S' e k h => by rw [rangeS_len] at h; exact h, fun i own' B' H' S' e k h => by rw [rangeS_len] at h; exact h, fun i own' B' H' v H'' x S' e k hx hy => ?_⟩
    obtain ⟨e1, h1⟩ := hy
    subst e1
    have hl : i < (Builtin.Range.rangeSize lo hi (-1)).toNat := by
      have := (List.getElem?_eq_some_iff.mp hx).1
      rwa [rangeS_len] at this
    rw [rangeS_at hl] at hx
    cases hx
    exact ⟨B', S', Ex.refl _, Ex.refl _, h1⟩⟩
end
end Sg

namespace Sg
open PySem PySem.Spec PyProof.Rows L2
section
variable {X Xb : Cx} {E : Ent} {own new own' : Own} {B H B' H' : Hp} {σ : L2.St} {α β γ δ τ ρ ρ' : Type} {R : Rel α} {S : Rel ρ} {e a b c d o it tg : Expr} {x : α} {y : β} {p pos pos' apos : Pos} {i j k k0 : Nat} {z w : Bool} {xs : List α}
variable {n m : Str} {rest body other : List Stmt} {D : Ends} {P : ρ → Prop} {Er : Err → Prop}
/-! for x in d, handed back within -/
theorem forR_one {PR : ρ' → Prop} {PN : τ → Prop} {step : τ → α → Res (ρ' ⊕ τ)} {r : List α} {acc : τ} (F : Fin (sel PR PN) Er (forR step (x :: r) acc)) : Fin (sel PR (fun a' => Fin (sel PR PN) Er (forR step r a'))) Er (step acc x) := by
  unfold forR at F
  cases hm : step acc x with
  | ok o =>
    rw [hm] at F
    cases o with
    | inl u => exact F
    | inr a' => exact F
  | err e => rw [hm] at F; exact F
  | stuck => rw [hm] at F; exact F
theorem forR_core {B2 H2 : Hp} {J : It} {g : TG} {Tg : α → Hp → L2.St → L2.St → Prop} {PR : ρ' → Prop} {PN : τ → Prop} {step : τ → α → Res (ρ' ⊕ τ)} {a0 : τ}
    (hg : ∀ own B H v x σ, Stt E own B H → R.r B v x → ∀ Q : L2.St → Hp → Prop, (∀ σ', Tg x B σ σ' → Q σ' H) → g v σ H Q) (S2 : Stt E own B2 H2) (W : Walk E KoT B2 J R xs)
    (F : Fin (sel PR PN) Er (forR step xs a0)) (Inv : τ → L2.St → Own → Hp → Prop) (h0 : Inv a0 σ own B2) (hup : ∀ a σ' own' B' B'', Inv a σ' own' B' → Ex B' B'' → Inv a σ' own' B'')
    (hs : ∀ a x σ' σ2 own' B' H' (Q : τ → Prop), Inv a σ' own' B' → Stt E own' B' H' → Ex B2 B' → Tg x B' σ' σ2 → Fin (sel PR Q) Er (step a x) →
      WSs X body { nx := TurnE E B' Q Inv, rt := D.rt, bk := fun _ _ => False, ct := TurnE E B' Q Inv } σ2 H')
    (hd : ∀ a σ' own' B' H', Inv a σ' own' B' → Stt E own' B' H' → Ex B2 B' → PN a → D.nx σ' H') :
    ∃ W : Nat → Nat → L2.St → Hp → Prop, (∃ m, W 0 m σ H2) ∧ ∀ i m σ H, W i m σ H →
      (J.stop i H ∧ D.nx σ H) ∨ (J.go i H ∧ ∃ N : L2.St → Hp → Prop, (∀ σ' H', N σ' H' → ∃ m', m' < m ∧ W (i + 1) m' σ' H') ∧ ∀ x H', J.yld i H x H' → g x σ H' fun σ2 H2 => WSs X body { D with nx := N, ct := N, bk := D.nx } σ2 H2) := by
  refine ⟨fun i' mm σ' H' => mm = xs.length - i' ∧ i' ≤ xs.length ∧ ∃ a own' B', Fin (sel PR PN) Er (forR step (xs.drop i') a) ∧ Stt E own' B' H' ∧ Ex B2 B' ∧ Inv a σ' own' B', ⟨xs.length, by simp, Nat.zero_le _, a0, own, B2, by rw [List.drop_zero]; exact F, S2, Ex.refl _, h0⟩, ?_⟩
  rintro i' mm σ' H' ⟨rfl, hi, a, own', B', F', S', e', iv⟩
  by_cases hlt : i' < xs.length
  · refine .inr ⟨W.go i' own' B' H' S' e' trivial hlt, fun σ2 H2 => ∃ a own' B', Fin (sel PR PN) Er (forR step (xs.drop (i' + 1)) a) ∧ Stt E own' B' H2 ∧ Ex B2 B' ∧ Inv a σ2 own' B', fun σ2 H2 q => ⟨xs.length - (i' + 1), by omega, rfl, hlt, q⟩, fun v H'' hy => ?_⟩
    have hx : xs[i']? = some xs[i'] := List.getElem?_eq_getElem hlt
    obtain ⟨B'', S'', e3, e4, rx⟩ := W.yld i' own' B' H' v H'' _ S' e' trivial hx hy
    refine hg own' B'' H'' v _ σ' S'' rx _ fun σ2 tgx => ?_
    have hdrop : xs.drop i' = xs[i'] :: xs.drop (i' + 1) := List.drop_eq_getElem_cons hlt
    rw [hdrop] at F'
    have F2 := forR_one F'
    have done := hs a _ σ' σ2 own' B'' H'' _ (hup _ _ _ _ _ iv e3) S'' (e'.trans e3) tgx F2
    intro pins s I
    refine wpAny_mono (done pins s I) (fun f s' q => ?_) fun _ _ q => q
    cases f with
    | next =>
      obtain ⟨σ2, H2', I2, a', own2, B3, q1, q2, q3, q4⟩ := q
      exact ⟨σ2, H2', I2, a', own2, B3, q1, q2, (e'.trans e3).trans q3, q4⟩
    | cont =>
      obtain ⟨σ2, H2', I2, a', own2, B3, q1, q2, q3, q4⟩ := q
      exact ⟨σ2, H2', I2, a', own2, B3, q1, q2, (e'.trans e3).trans q3, q4⟩
    | brk =>
      obtain ⟨_, _, _, h⟩ := q
      exact h.elim
    | ret u => exact q
  · have e : i' = xs.length := by omega
    subst e
    rw [List.drop_length] at F'
    exact .inl ⟨W.stop _ own' B' H' S' e' trivial (Nat.le_refl _), hd a σ' own' B' H' iv S' e' F'⟩
theorem s_forRD {tg : Expr} {Tg : Int → Hp → L2.St → L2.St → Prop} {step : τ → Int → Res (ρ' ⊕ τ)} {kr : ρ' → Res ρ} {kn : τ → Res ρ} {a0 : τ} {kvs : List (Int × α)} (C : Cok X k0) (ht : TgOkA X tg rInt Tg) (S0 : Stt E own B H) (hit : EvKB X E B H σ it R kvs)
    (F : Fin (kE S E D.rt) Er ((forR step (kvs.map (·.1)) a0).bind (sel kr kn)))
    (Inv : τ → L2.St → Own → Hp → Prop) (h0 : ∀ B1, Ex B B1 → Inv a0 σ own B1) (hup : ∀ a σ' own' B' B'', Inv a σ' own' B' → Ex B' B'' → Inv a σ' own' B'')
    (hs : ∀ E' rt', Ex E.H0 (Ent.H0 E') → ∀ a x σ' σ2 own' B' H' (Q : τ → Prop), Inv a σ' own' B' → Stt E' own' B' H' → Ex B B' → Tg x B' σ' σ2 → Fin (sel (fun u => Fin (kE S E' rt') Er (kr u)) Q) Er (step a x) →
      WSs X body { nx := TurnE E' B' Q Inv, rt := rt', bk := fun _ _ => False, ct := TurnE E' B' Q Inv } σ2 H')
    (hd : ∀ a σ' own' B' H', Inv a σ' own' B' → Stt E own' B' H' → Ex B B' → Fin (kE S E D.rt) Er (kn a) → WSs X rest D σ' H')
    (hf : ∀ x, foldedSetIterable it X.env x = pure x := by intro _; rfl) : WSs X (.For tg it body [] pos :: rest) D σ H := by
  obtain ⟨q, ws, hv, hqH, no, hp⟩ := hit
  have kr' := keys_rel hp
  obtain ⟨g, pg, hg⟩ := ht
  have F1 : Fin (sel (fun u => Fin (kE S E D.rt) Er (kr u)) (fun a => Fin (kE S E D.rt) Er (kn a))) Er (forR step (kvs.map (·.1)) a0) := Fin.mono (Fin.bind F) (fun o _ h => by cases o <;> exact h) fun _ h => h
  rcases hqH with hqH | ⟨ob, hqH⟩
  · refine WSs.cons (ps_lock (ps_for C.own C.calm (pi_keys peW) pg pssW hf)) ⟨q, .dK ws, hqH, trivial, fun ob => ?_⟩
    refine hv _ (fun a ys h => ?_) _ ⟨q, ob, rfl, .inl ⟨ws, upd_same, ?_⟩⟩
    · rw [upd_ne fun z => by rw [z, hqH] at h; cases h]
      exact h
    · have SE := up_enter (f := .frz ob (.dK ws)) S0 hqH no (fun ys z => by cases z)
      have ex := up_exB (f := .frz ob (.dK ws)) S0 hqH rfl
      have exE : Ex E.H0 (upE E B q (.frz ob (.dK ws))).H0 := up_exE S0 hqH rfl
      have F2 : Fin (sel (fun u => Fin (kE S (upE E B q (.frz ob (.dK ws))) fun v H' => H' q = some (.frz ob (.dK ws)) ∧ D.rt v (upd H' q (.dK ws))) Er (kr u)) (fun a => Fin (kE S E D.rt) Er (kn a))) Er (forR step (kvs.map (·.1)) a0) := Fin.mono F1 (fun o _ h => by
        cases o with
        | inr a => exact h
        | inl u =>
          refine Fin.mono (show Fin (kE S E D.rt) Er (kr u) from h) (fun y _ hy v B' H' S' r => ?_) fun _ h => h
          exact ⟨up_at S', hy v _ _ (up_back S0 hqH (fun ys z => by cases z) S') (S.mono (up_exBack (f := .frz ob (.dK ws)) S0 hqH rfl S') r)⟩) fun _ h => h
      exact forR_core (hg (upE E B q (.frz ob (.dK ws)))) SE (walk_keysE upd_same kr') F2 Inv (h0 _ ex) hup (fun a x σ' σ2 own' B' H' Q iv S' e' t F' => hs _ _ exE a x σ' σ2 own' B' H' Q iv S' (ex.trans e') t F')
        fun a σ' own' B' H' iv S' e' F' => by
          have T := up_back S0 hqH (fun ys z => by cases z) S'
          have exb := up_exBack (f := .frz ob (.dK ws)) S0 hqH rfl S'
          exact ⟨up_at S', hd a σ' own' _ _ (hup _ _ _ _ _ iv exb) T ((ex.trans e').trans exb) F'⟩
  · refine WSs.cons (ps_for C.own C.calm (pi_keys peW) pg pssW hf) (hv _ (fun _ _ h => h) _ ⟨q, ob, rfl, .inl ⟨ws, hqH, ?_⟩⟩)
    have SE := up_enter (f := .frz ob (.dK ws)) S0 hqH no (fun ys z => by cases z)
    rw [upd_id hqH] at SE
    have ex := up_exB (f := .frz ob (.dK ws)) S0 hqH rfl
    have exE : Ex E.H0 (upE E B q (.frz ob (.dK ws))).H0 := up_exE S0 hqH rfl
    have F2 : Fin (sel (fun u => Fin (kE S (upE E B q (.frz ob (.dK ws))) D.rt) Er (kr u)) (fun a => Fin (kE S E D.rt) Er (kn a))) Er (forR step (kvs.map (·.1)) a0) := Fin.mono F1 (fun o _ h => by
      cases o with
      | inr a => exact h
      | inl u =>
        refine Fin.mono (show Fin (kE S E D.rt) Er (kr u) from h) (fun y _ hy v B' H' S' r => ?_) fun _ h => h
        have T := up_back S0 hqH (fun ys z => by cases z) S'
        rw [upd_id (up_at S')] at T
        exact hy v _ _ T (S.mono (up_exBack (f := .frz ob (.dK ws)) S0 hqH rfl S') r)) fun _ h => h
    exact forR_core (hg (upE E B q (.frz ob (.dK ws)))) SE (walk_keysE upd_same kr') F2 Inv (h0 _ ex) hup (fun a x σ' σ2 own' B' H' Q iv S' e' t F' => hs _ _ exE a x σ' σ2 own' B' H' Q iv S' (ex.trans e') t F')
      fun a σ' own' B' H' iv S' e' F' => by
        have T := up_back S0 hqH (fun ys z => by cases z) S'
        have exb := up_exBack (f := .frz ob (.dK ws)) S0 hqH rfl S'
        rw [upd_id (up_at S')] at T
        exact hd a σ' own' _ _ (hup _ _ _ _ _ iv exb) T ((ex.trans e').trans exb) F'
end
end Sg

namespace Sg
open PySem PySem.Spec PyProof.Rows L2
section
variable {X : Cx} {E : Ent} {own : Own} {B H : Hp} {σ : L2.St} {α : Type} {R : Rel α} {a b : Expr} {pos : Pos} {xs ys : List α}
/-! x or y, lists -/
theorem ee_orL [DecidableEq α] (ha : EvE X E own B H σ a (rLst R) xs) (hb : EvE X E own B H σ b (rLst R) ys) : EvE X E own B H σ (.BoolOp .Or [a, b] pos) (rLst R) (if xs = [] then ys else xs) := fun B1 H1 S1 e1 e2 Q k =>
  WE.of (pe_orT peW (pe_one peW)) (ha B1 H1 S1 e1 e2 _ fun v B2 H2 S2 e3 e4 r => by
    obtain ⟨p, vs, rfl, h2, h3⟩ := r
    have h2' := S2.bh.ex.rdL h2
    refine ⟨!vs.isEmpty, ?_, ?_⟩
    · exact .inl ⟨vs, .inl h2', rfl⟩
    · cases h3 with
      | nil =>
        refine hb B2 H2 S2 (e1.trans e3) (e2.trans e4) _ fun w B3 H3 S3 e5 e6 r' => ?_
        exact k w B3 H3 S3 (e3.trans e5) (e4.trans e6) (by rw [if_pos rfl]; exact r')
      | cons c d =>
        exact k _ B2 H2 S2 e3 e4 (by rw [if_neg (List.cons_ne_nil _ _)]; exact ⟨p, _, rfl, h2, .cons c d⟩))
end
end Sg

namespace Sg
open PySem PySem.Spec PyProof.Rows L2
section
variable {X Xb : Cx} {E : Ent} {own new own' : Own} {B H B' H' : Hp} {σ : L2.St} {α β γ δ τ ρ ρ' : Type} {R : Rel α} {S : Rel β} {T : Rel γ} {U : Rel δ} {e a b c d o it tg : Expr} {x : α} {y : β} {p pos pos' apos : Pos} {i j k k0 : Nat} {z w : Bool} {xs : List α} {ys : List β} {zs : List γ} {es : List Expr}
variable {n m f : Str} {rest body other : List Stmt} {D : Ends}
/-- x = [a, b, c], new lists all -/
theorem s_asgOL3 (C : Cok X k) (L : Slot X i n) (S0 : Stt E own B H) (ha : EvL X E own B H σ a R xs) (hb : ∀ own' B' H', Stt E own' B' H' → Ex B B' → Ex H H' → EvL X E own' B' H' σ b S ys) (hc : ∀ own' B' H', Stt E own' B' H' → Ex B B' → Ex H H' → EvL X E own' B' H' σ c T zs)
    (q : ∀ p q0 q1 q2 us vs ws B' H', Stt E ((p, .lst [.ref q0, .ref q1, .ref q2]) :: (q2, .lst ws) :: (q1, .lst vs) :: (q0, .lst us) :: own) B' H' → Ex B B' → Paired (R.r B') us xs → Paired (S.r B') vs ys → Paired (T.r B') ws zs → WSs X rest D (σ.set i (some (.ref p))) H')
    (hst : starEach (a :: [b, c]) X.env = (false, eval a X.env) :: starEach [b, c] X.env := by rfl) (hst1 : starEach (b :: [c]) X.env = (false, eval b X.env) :: starEach [c] X.env := by rfl) (hst2 : St1 X c := by rfl)
    (hs : swapsWith (.List [a, b, c] pos') (some (.Name n p)) pos.line X.env = pure false := by rfl) : WSs X (.Assign [.Name n p] (.List [a, b, c] pos') pos :: rest) D σ H :=
  WSs.cons (ps_set C.nd L.ix L.loc (pe_lst (pa_cons peW (pa_cons peW (pa1 hst2) hst1) hst)) hs L.hf) (ha B H S0 (Ex.refl _) (Ex.refl _) _ fun q0 us B2 H2 S2 e1 e2 r1 => hb _ B2 H2 S2 e1 e2 B2 H2 S2 (Ex.refl _) (Ex.refl _) _ fun q1 vs B3 H3 S3 e3 e4 r2 =>
    hc _ B3 H3 S3 (e1.trans e3) (e2.trans e4) B3 H3 S3 (Ex.refl _) (Ex.refl _) _ fun q2 ws B4 H4 S4 e5 e6 r3 =>
    ⟨by show 3 ≤ sizeLine; decide, fun pp hp => q pp q0 q1 q2 us vs ws B4 _ (S4.alloc hp fun ys z => by cases z) ((e1.trans e3).trans e5) (pimp r1 fun _ _ z => R.mono (e3.trans e5) z) (pimp r2 fun _ _ z => S.mono e5 z) r3⟩)
/-- a list of one's own lists, looked at -/
theorem ev_olv {q : Addr} {vs : List V} {xss : List (List α)} (hp : PE X o (tVar i)) (h : σ[i]? = some (some (.ref q))) (hk : (q, HO.lst vs) ∈ own) (hr : Paired (fun v xs => ∃ qj us, v = V.ref qj ∧ (qj, HO.lst us) ∈ own ∧ Paired (R.r B) us xs) vs xss) : EvB X E own B H σ o (rLst (rLst R)) xss := fun B1 H1 S1 e1 e2 Q kq =>
  WE.of hp ⟨.ref q, h, kq _ B1 H1 S1 (Ex.refl _) (Ex.refl _) ⟨q, vs, rfl, Rd.of (S1.ow _ hk).2.2, pimp hr fun v xs ⟨qj, us, h1, h2, h3⟩ => ⟨qj, us, h1, Rd.of (S1.ow _ h2).2.2, pimp h3 fun _ _ z => R.mono (e1.trans S1.bh.ex) z⟩⟩⟩
/-- xs * n, n of any kind -/
theorem el_repK {q : Int} (ha : EvL X E own B H σ a R xs) (hb : EvB X E own B H σ b rInt q) (hz : -(2 ^ 63) ≤ q ∧ q < 2 ^ 63 ∧ xs.length * q.toNat ≤ sizeLine) : EvL X E own B H σ (.BinOp a .Mult b pos) R (List.replicate q.toNat xs).flatten := fun B1 H1 S1 e1 e2 Q k =>
  WE.of (pe_op (show OpR X (binaryOp .Mult) rRepR from op_rep) peW peW) (ha B1 H1 S1 e1 e2 _ fun l vs B2 H2 S2 e3 e4 r => by
    have n := (S2.ow _ (List.mem_cons_self ..)).2.1
    refine hb (upd B2 l (.lst vs)) H2 S2.keep (e1.trans (e3.trans (Sx.new n).ex)) (e2.trans e4) _ fun w B3 H3 S3 e5 e6 r' => ?_
    have hB : B3 l = some (.lst vs) := e5.lst upd_same
    refine ⟨l, q, vs, rfl, r', S3.bh _ _ hB, hz.1, hz.2.1, by rw [plen r]; exact hz.2.2, fun p np => ?_⟩
    exact k p _ B3 _ (S3.alloc np (o := .lst (List.replicate q.toNat vs).flatten) fun ys z => by cases z) (e3.trans ((Sx.new n).ex.trans e5)) ((e4.trans e6).trans (Sx.new np).ex) (prep (pimp r fun _ _ z => R.mono ((Sx.new n).ex.trans e5) z) _))
end
end Sg

namespace Sg
open PySem PySem.Spec PyProof.Rows L2
/-! ### lists that are new since a mark -/
section
variable {α β γ δ : Type}
def rLstN (Bo : Hp) (R : Rel α) : Rel (List α) := ⟨fun H v xs => ∃ p vs, v = .ref p ∧ H p = some (.lst vs) ∧ Bo p = none ∧ Paired (R.r H) vs xs, fun e h => by
  obtain ⟨p, vs, h1, h2, h3, h4⟩ := h
  exact ⟨p, vs, h1, e.lst h2, h3, pimp h4 fun _ _ q => R.mono e q⟩⟩
theorem rLstN.forget {Bo : Hp} {R : Rel α} {H : Hp} {v : V} {xs : List α} (h : (rLstN Bo R).r H v xs) : (rLst R).r H v xs := by
  obtain ⟨p, vs, h1, h2, h3, h4⟩ := h
  exact ⟨p, vs, h1, Rd.of h2, h4⟩
instance {Bo : Hp} {R : Rel α} : NN (rLstN Bo R) := ⟨fun h => by obtain ⟨p, vs, h1, _⟩ := h; rw [h1]; exact fun q => by cases q⟩
theorem Ex.back {Bo B : Hp} (e : Ex Bo B) {p : Addr} (h : B p = none) : Bo p = none := by
  cases q : Bo p with
  | none => rfl
  | some o =>
    obtain ⟨o', h1, _⟩ := e _ _ q
    rw [h] at h1
    cases h1
/-- what is new since a later mark is new since an earlier one -/
class AntiN (RR : Hp → Rel α) : Prop where
  an : ∀ {Bo B H : Hp} {v : V} {x : α}, Ex Bo B → (RR B).r H v x → (RR Bo).r H v x
instance {R : Rel α} : AntiN (fun _ => R) := ⟨fun _ h => h⟩
instance {R : Rel α} : AntiN (fun B => rLstN B R) := ⟨fun e h => by
  obtain ⟨p, vs, h1, h2, h3, h4⟩ := h
  exact ⟨p, vs, h1, h2, e.back h3, h4⟩⟩
instance {R : Hp → Rel α} {S : Hp → Rel β} [AntiN R] [AntiN S] : AntiN (fun B => rPr (R B) (S B)) := ⟨fun e h => by
  obtain ⟨p, a, b, h1, h2, h3, h4⟩ := h
  exact ⟨p, a, b, h1, h2, AntiN.an (RR := R) e h3, AntiN.an (RR := S) e h4⟩⟩
instance {R : Hp → Rel α} {S : Hp → Rel β} {T : Hp → Rel γ} [AntiN R] [AntiN S] [AntiN T] : AntiN (fun B => rT3 (R B) (S B) (T B)) := ⟨fun e h => by
  obtain ⟨p, a, b, c, h1, h2, h3, h4, h5⟩ := h
  exact ⟨p, a, b, c, h1, h2, AntiN.an (RR := R) e h3, AntiN.an (RR := S) e h4, AntiN.an (RR := T) e h5⟩⟩
def kEN {ρ : Type} (RR : Hp → Rel ρ) : Kind ρ := fun E Q x => kE (RR E.B0) E Q x
def kLN {ρ : Type} (RR : Hp → Rel ρ) : Kind (List ρ) := fun E Q x => kL (RR E.B0) E Q x
end
/-- all newer things but tuples are let go of; one of them is written -/
theorem stt_reset {E : Ent} {own own' : Own} {Bo Ho B H : Hp} {q : Addr} {vs us : List V} (So : Stt E own' Bo Ho) (hx : Ex Bo B) (S : Stt E own B H) (hq : B q = some (.lst vs)) (hn : Bo q = none) : ∃ B', Stt E own B' (upd H q (.lst us)) ∧ Ex Bo B' ∧ Tx B B' ∧ ∀ p ws, Bo p = none → B' p ≠ some (.lst ws) := by
  have hH0 : E.H0 q = none := by
    rcases S.fr q _ hq with h | h
    · rw [So.b0 _ _ h] at hn
      cases hn
    · exact h
  refine ⟨fun x => match Bo x with
    | some _ => B x
    | none => match B x with
      | some (.tup ys) => some (.tup ys)
      | _ => none, ⟨fun a o e => ?_, fun a o e => ?_, fun a o e => ?_, fun a ys e => ?_, fun a o e => ?_, fun z hz => ?_, S.nd⟩, fun a o e => ?_, fun a ys e => ?_, fun p ws hp e => ?_⟩
  · show (match Bo a with | some _ => B a | none => _) = _
    rw [So.b0 a o e]
    exact S.b0 a o e
  · rw [upd_ne fun z => by
      subst z
      rw [hH0] at e
      cases e]
    exact S.h0 a o e
  · have e' : (match Bo a with
      | some _ => B a
      | none => match B a with
        | some (.tup ys) => some (.tup ys)
        | _ => none) = some o := e
    have hB : B a = some o ∧ a ≠ q := by
      cases hb : Bo a with
      | some u =>
        rw [hb] at e'
        exact ⟨e', fun z => by rw [z, hn] at hb; cases hb⟩
      | none =>
        rw [hb] at e'
        cases hv : B a with
        | none => rw [hv] at e'; cases e'
        | some u =>
          rw [hv] at e'
          cases u with
          | tup ys =>
            refine ⟨e', fun z => ?_⟩
            rw [z, hq] at hv
            cases hv
          | _ => cases e'
    rw [upd_ne hB.2]
    exact S.bh a o hB.1
  · have hne : a ≠ q := fun z => by
      subst z
      rw [upd_same] at e
      cases e
    rw [upd_ne hne] at e
    have hB := S.tu a ys e
    show (match Bo a with | some _ => B a | none => _) = _
    cases hb : Bo a with
    | some u => exact hB
    | none =>
      show (match B a with | some (.tup ys) => some (HO.tup ys) | _ => none) = _
      rw [hB]
  · have e' : (match Bo a with
      | some _ => B a
      | none => match B a with
        | some (.tup ys) => some (.tup ys)
        | _ => none) = some o := e
    cases hb : Bo a with
    | some u =>
      rw [hb] at e'
      exact S.fr a o e'
    | none =>
      rw [hb] at e'
      cases hv : B a with
      | none => rw [hv] at e'; cases e'
      | some u =>
        rw [hv] at e'
        cases u with
        | tup ys => cases e'; exact S.fr a _ hv
        | _ => cases e'
  · obtain ⟨h1, h2, h3⟩ := S.ow z hz
    refine ⟨h1, ?_, ?_⟩
    · show (match Bo z.1 with | some _ => B z.1 | none => _) = _
      cases hb : Bo z.1 with
      | some u => exact h2
      | none =>
        show (match B z.1 with | some (.tup ys) => some (HO.tup ys) | _ => none) = _
        rw [h2]
    · rw [upd_ne fun w => by
        rw [w, hq] at h2
        cases h2]
      exact h3
  · obtain ⟨o', h1, h2⟩ := hx a o e
    refine ⟨o', ?_, h2⟩
    show (match Bo a with | some _ => B a | none => _) = _
    rw [e]
    exact h1
  · show (match Bo a with | some _ => B a | none => _) = _
    cases hb : Bo a with
    | some u => exact e
    | none =>
      show (match B a with | some (.tup ys) => some (HO.tup ys) | _ => none) = _
      rw [e]
  · have e' : (match Bo p with
      | some _ => B p
      | none => match B p with
        | some (.tup ys) => some (.tup ys)
        | _ => none) = some (HO.lst ws) := e
    rw [hp] at e'
    cases hv : B p with
    | none => rw [hv] at e'; cases e'
    | some u =>
      rw [hv] at e'
      cases u with
      | tup ys => cases e'
      | _ => cases e'
theorem Ex.tx {B B' : Hp} (e : Ex B B') : Tx B B' := fun _ _ h => e.tup h
theorem Tx.trans {B B' B'' : Hp} (a : Tx B B') (b : Tx B' B'') : Tx B B'' := fun x ys h => b x ys (a x ys h)
section
variable {X Xb : Cx} {E : Ent} {own new own' : Own} {B H B' H' Bo Ho : Hp} {σ : L2.St} {α β γ δ τ ρ ρ' : Type} {R : Rel α} {S : Rel β} {T : Rel γ} {U : Rel δ} {e a b c d o it tg : Expr} {x : α} {y : β} {p pos pos' apos : Pos} {i j k k0 : Nat} {z w : Bool} {xs : List α} {ys : List β} {es : List Expr}
variable {n m f : Str} {rest body other : List Stmt} {D : Ends} {ps : List Str}
theorem ev_nl (h : EvB X E own B H σ e (rLstN Bo R) xs) : EvB X E own B H σ e (rLst R) xs := fun B1 H1 S1 e1 e2 Q k => h B1 H1 S1 e1 e2 Q fun v B2 H2 S2 e3 e4 r => k v B2 H2 S2 e3 e4 (rLstN.forget r)
theorem ee_nl (h : EvE X E own B H σ e (rLstN Bo R) xs) : EvE X E own B H σ e (rLst R) xs := fun B1 H1 S1 e1 e2 Q k => h B1 H1 S1 e1 e2 Q fun v B2 H2 S2 e3 e4 r => k v B2 H2 S2 e3 e4 (rLstN.forget r)
/-- a new list, kept, new since the mark -/
theorem el_toN (hx : Ex Bo B) (h : EvL X E own B H σ e R xs) : EvE X E own B H σ e (rLstN Bo R) xs := fun B1 H1 S e1 e2 Q k => h B1 H1 S e1 e2 Q fun p vs B2 H2 S2 e3 e4 r => by
  have n := (S2.ow _ (List.mem_cons_self ..)).2.1
  exact k (.ref p) _ H2 S2.keep (e3.trans (Sx.new n).ex) e4 ⟨p, vs, rfl, upd_same, (hx.trans (e1.trans e3)).back n, pimp r fun _ _ q => R.mono (Sx.new n).ex q⟩
theorem ee_callN {args : δ → AR} {f : δ → Res ρ} {RR : Hp → Rel ρ} {d : δ} {r : ρ} [A : AntiN RR] (hx : Ex Bo B) (C : Cok X k0) (G : Cal X k n ps (SpA args (kEN RR) f)) (hk : k ≤ k0) (hg : Gl X n) (ha : EvAs X E own B H σ (e :: es) (args d)) (hm : f d = .ok r)
    (hdb : (n == ("__debug__" : Str)) = false := by rfl) (he : starEach (e :: es) X.env = (false, eval e X.env) :: starEach es X.env := by rfl) (hpl : (backTo pos (starEach es X.env)).any (·.1) = false := by rfl) : EvE X E own B H σ (.Call (.Name n p) (e :: es) [] pos) (RR Bo) r := fun B1 H1 S1 e1 e2 Q q =>
  WE.of (pe_cal C G hk hg hdb he hpl) (ha B1 H1 S1 e1 e2 _ fun vs B2 H2 S2 e3 e4 ra => by
    rw [List.append_nil]
    exact ⟨B2, d, S2.bh, S2.tu, ra, kE_call (RR := RR B2) S2 hm fun v B3 H3 S3 e5 e6 r => q v B3 H3 S3 (e3.trans e5) (e4.trans e6) (A.an (hx.trans (e1.trans e3)) r)⟩)
theorem el_callN {args : δ → AR} {f : δ → Res (List ρ)} {RR : Hp → Rel ρ} {d : δ} {r : List ρ} [A : AntiN RR] (hx : Ex Bo B) (C : Cok X k0) (G : Cal X k n ps (SpA args (kLN RR) f)) (hk : k ≤ k0) (hg : Gl X n) (ha : EvAs X E own B H σ (e :: es) (args d)) (hm : f d = .ok r)
    (hdb : (n == ("__debug__" : Str)) = false := by rfl) (he : starEach (e :: es) X.env = (false, eval e X.env) :: starEach es X.env := by rfl) (hpl : (backTo pos (starEach es X.env)).any (·.1) = false := by rfl) : EvL X E own B H σ (.Call (.Name n p) (e :: es) [] pos) (RR Bo) r := fun B1 H1 S1 e1 e2 Q q =>
  WE.of (pe_cal C G hk hg hdb he hpl) (ha B1 H1 S1 e1 e2 _ fun vs B2 H2 S2 e3 e4 ra => by
    rw [List.append_nil]
    exact ⟨B2, d, S2.bh, S2.tu, ra, kL_call (RR := RR B2) S2 hm fun p vs B3 H3 S3 e5 e6 r => q p vs B3 H3 S3 (e3.trans e5) (e4.trans e6) (pimp r fun _ _ z => A.an (hx.trans (e1.trans e3)) z)⟩)
/-- x.clear(), x new since the mark: all that is newer is let go of -/
theorem s_clearN {apos : Pos} (So : Stt E own' Bo Ho) (hx : Ex Bo B) (S0 : Stt E own B H) (ha : EvE X E own B H σ a (rLstN Bo R) xs)
    (kt : ∀ B' H', Stt E own B' H' → Ex Bo B' → Tx B B' → WSs X rest D σ H')
    (t : BmT0 X a "clear" apos p := by exact ⟨rfl, rfl⟩) (hw : swapsWith (.Call (.Attribute a "clear" apos) [] [] p) none pos.line X.env = pure false := by rfl) :
    WSs X (.Expr (.Call (.Attribute a "clear" apos) [] [] p) pos :: rest) D σ H :=
  WSs.cons (ps_expr (pe_bm0 PySem.F.plainAttrs_list PySem.F.slot_list_clear PySem.F.type_list_clear mt_clear peW t.1 t.2) hw) (ha B H S0 (Ex.refl _) (Ex.refl _) _ fun v B2 H2 S2 e3 e4 r => by
    obtain ⟨q, vs, rfl, h2, h3, h4⟩ := r
    have hq := S2.bh _ _ h2
    obtain ⟨B', S', x1, x2, _⟩ := stt_reset (us := []) So (hx.trans e3) S2 h2 h3
    exact ⟨.inl ⟨rfl, _, SqL.of hq⟩, q, vs, rfl, rfl, hq, kt B' _ S' x1 (Tx.trans (e3.tx) x2)⟩)
end
/-! ### xs[a:b:c] -/
def cutC {α : Type} (xs : List α) (l u : Option Int) (c : Int) : List α := (sliceRange (sliceBounds l u (some c) xs.length).1 (sliceBounds l u (some c) xs.length).2.1 (sliceBounds l u (some c) xs.length).2.2).filterMap (xs[·]?)
theorem pfilt {α β : Type} {F : α → β → Prop} {vs : List α} {xs : List β} (h : Paired F vs xs) : ∀ r : List Nat, Paired F (r.filterMap (vs[·]?)) (r.filterMap (xs[·]?))
  | [] => .nil
  | i :: r => by
    rw [List.filterMap_cons, List.filterMap_cons]
    cases e : vs[i]? with
    | none =>
      have hl := plen h
      have e2 : xs[i]? = none := by
        rw [List.getElem?_eq_none_iff] at e ⊢
        omega
      rw [e2]
      exact pfilt h r
    | some v =>
      obtain ⟨x, hx, hF⟩ := L2.paired_get h e
      rw [hx]
      exact .cons hF (pfilt h r)
theorem pcutC {α β : Type} {F : α → β → Prop} {vs : List α} {xs : List β} (h : Paired F vs xs) (l u : Option Int) (c : Int) : Paired F (cutC vs l u c) (cutC xs l u c) := by
  unfold cutC
  rw [plen h]
  exact pfilt h _
section
variable {X : Cx} {e : Expr} {te : TE} {lo hi : Option Expr} {tl th : TO} {pos p1 p2 : Pos}
theorem pe_sliceC {c : Int} {k : Nat} (hc : c ≠ 0) (he : PE X e te) (hl : PO X lo tl) (hu : PO X hi th) : PE X (.Subscript e (.Slice lo hi (some (.Constant (.int c) k p1)) p2) pos) (fun σ H Q => te σ H fun x H1 => tl σ H1 fun l H2 => th σ H2 fun u H3 => ∃ a xs, x = .ref a ∧ SqL X.K H3 a xs ∧ ∀ p, H3 p = none → Q (.ref p) (upd H3 p (.lst (cutC xs l u c)))) := by
  refine ⟨fun pins s σ H Q I h => ?_⟩
  refine Subscript_ (thn (he.run pins s σ H _ I h) fun v s1 ⟨x, H1, I1, r1, q1⟩ => ?_)
  refine wpAny_Slice (thn (hl.run pins s1 σ H1 _ I1 q1) fun vl s2 ⟨l, H2, I2, pl, q2⟩ => thn (hu.run pins s2 σ H2 _ I2 q2) fun vu s3 ⟨u, H3, I3, pu, q3⟩ => ?_)
  obtain ⟨a, xs, ex, hx, q⟩ := q3
  subst ex
  cases r1
  have hst : PO X (some (.Constant (.int c) k p1)) (tPart (tC (.int c))) := po_some pe_int
  refine thn (hst.run pins s3 σ H3 (fun o H4 => o = some c ∧ H4 = H3) I3 ⟨c, rfl, rfl, rfl⟩) fun vs s4 ⟨o, H4, I4, ps, eo, e4⟩ => ?_
  subst eo e4
  have I5 : Inv X pins σ H4 { s4 with heap := s4.heap.push { cls := .type "slice", data := .fields #[vl, vu, vs] } } := I4.kept (t' := s4.toks) fun b ob q => Heap.get?_push_of_some _ q
  obtain ⟨its, r, ht, hz⟩ := I5.list hx
  have hlen := r.length
  show wpAny (model X.prog X.w) X.A (subscriptTail e (.Slice lo hi (some (.Constant (.int c) k p1)) p2) (.ref a) (.ref s4.heap.objs.size)) (EP X pins σ Q) X.xe { s4 with heap := s4.heap.push { cls := .type "slice", data := .fields #[vl, vu, vs] } }
  refine tail_any (ops := [.ref a, .ref s4.heap.objs.size]) ht.isList.typeIs (PySem.slot_list_getitem.lookup) ?_ (by with_unfolding_all rfl)
  refine wpAny_getItem_list_slice ht.isList (Heap.IsSliceOf.new _ vl vu vs) pl pu ps (fun z => hc (Option.some.inj z)) ?_ (by rw [List.size_toArray]; omega)
  have ep : slicePick its.toArray l u (some c) = (cutC its l u c).toArray := by
    unfold slicePick cutC
    simp only [List.size_toArray, List.getElem?_toArray]
  have hle : (cutC xs l u c).length ≤ xs.length := by
    have h1 := slicePick_size_le its.toArray l u (some c)
    rw [ep, List.size_toArray, List.size_toArray] at h1
    rw [plen (pcutC r l u c), hlen]
    exact h1
  rw [ep]
  refine ⟨.ref _, _, I5.laid (t' := s4.toks) (o := .lst (cutC xs l u c)) (fun b ob q => Heap.get?_push_of_some _ q) (Nat.le_refl _) ?_, rfl, q _ (I5.hok.fresh (Nat.le_refl _))⟩
  exact ⟨Nat.le_trans hle hz, _, 0, pcutC r l u c, Heap.get?_push_size _ rfl⟩
end
section
variable {X : Cx} {E : Ent} {own : Own} {B H : Hp} {σ : L2.St} {α : Type} {R : Rel α} {o : Expr} {p p1 pos : Pos} {k : Nat} {xs : List α}
theorem el_cutC [Imm R] {c : Int} {lo hi : Option Expr} {l u : Option Int} (hc : c ≠ 0) (ho : EvB X E own B H σ o (rLst R) xs) (hl : EvP X E own B H σ lo l) (hu : EvP X E own B H σ hi u) : EvL X E own B H σ (.Subscript o (.Slice lo hi (some (.Constant (.int c) k p1)) p) pos) R (cutC xs l u c) := fun B1 H1 S1 e1 e2 Q kk => by
  obtain ⟨tl, pl, hl⟩ := hl
  obtain ⟨tu, pu, hu⟩ := hu
  exact WE.of (pe_sliceC hc peW pl pu) (ho B1 H1 S1 e1 e2 _ fun v B2 H2 S2 e3 e4 r => hl B2 H2 S2 (e1.trans e3) (e2.trans e4) _ fun B3 H3 S3 e5 e6 => hu B3 H3 S3 ((e1.trans e3).trans e5) ((e2.trans e4).trans e6) _ fun B4 H4 S4 e7 e8 => by
    obtain ⟨q, vs, h1, h2, h3⟩ := Rel.mono _ (e6.trans e8) r
    exact ⟨q, vs, h1, .inl h2, fun p np => kk p _ B4 _ (S4.alloc np fun ys z => by cases z) ((e3.trans e5).trans e7) (((e4.trans e6).trans e8).trans (Sx.new np).ex) (pcutC (pimp h3 fun _ _ z => Imm.imm S4.tu z) l u c)⟩)
end
section
variable {X Xb : Cx} {E : Ent} {own new own' : Own} {B H B' H' Bo Ho : Hp} {σ : L2.St} {α β γ δ τ ρ ρ' : Type} {R : Rel α} {S : Rel β} {T : Rel γ} {U : Rel δ} {e a b c d o it tg : Expr} {x : α} {y : β} {p pos pos' apos : Pos} {i j k k0 : Nat} {z w : Bool} {xs : List α} {ys : List β} {zs : List γ} {es : List Expr}
variable {n m f : Str} {rest body other : List Stmt} {D : Ends}
/-! x = [a, b], x = [a, b, c], new lists all; what is owned may be read -/
theorem s_asgOW2 (C : Cok X k) (L : Slot X i n) (S0 : Stt E own B H) (ha : EvL X E own B H σ a R xs) (hb : ∀ q0 us B' H', Stt E ((q0, .lst us) :: own) B' H' → Ex B B' → Ex H H' → EvL X E ((q0, .lst us) :: own) B' H' σ b S ys)
    (q : ∀ p q0 q1 us vs B' H', Stt E ((p, .lst [.ref q0, .ref q1]) :: (q0, .lst us) :: (q1, .lst vs) :: own) B' H' → Ex B B' → Paired (R.r B') us xs → Paired (S.r B') vs ys → WSs X rest D (σ.set i (some (.ref p))) H')
    (hst : starEach (a :: [b]) X.env = (false, eval a X.env) :: starEach [b] X.env := by rfl) (hst2 : St1 X b := by rfl)
    (hs : swapsWith (.List [a, b] pos') (some (.Name n p)) pos.line X.env = pure false := by rfl) : WSs X (.Assign [.Name n p] (.List [a, b] pos') pos :: rest) D σ H :=
  WSs.cons (ps_set C.nd L.ix L.loc (pe_lst (pa_cons peW (pa1 hst2) hst)) hs L.hf) (ha B H S0 (Ex.refl _) (Ex.refl _) _ fun q0 us B2 H2 S2 e1 e2 r1 => hb q0 us B2 H2 S2 e1 e2 B2 H2 S2 (Ex.refl _) (Ex.refl _) _ fun q1 vs B3 H3 S3 e3 e4 r2 =>
    ⟨by show 2 ≤ sizeLine; decide, fun pp hp => q pp q0 q1 us vs B3 _ ((S3.swap.alloc hp fun ys z => by cases z)) (e1.trans e3) (pimp r1 fun _ _ z => R.mono e3 z) r2⟩)
theorem s_asgOW3 (C : Cok X k) (L : Slot X i n) (S0 : Stt E own B H) (ha : EvL X E own B H σ a R xs) (hb : ∀ q0 us B' H', Stt E ((q0, .lst us) :: own) B' H' → Ex B B' → Ex H H' → EvL X E ((q0, .lst us) :: own) B' H' σ b S ys) (hc : ∀ q1 vs q0 us B' H', Stt E ((q1, .lst vs) :: (q0, .lst us) :: own) B' H' → Ex B B' → Ex H H' → EvL X E ((q1, .lst vs) :: (q0, .lst us) :: own) B' H' σ c T zs)
    (q : ∀ p q0 q1 q2 us vs ws B' H', Stt E ((p, .lst [.ref q0, .ref q1, .ref q2]) :: (q2, .lst ws) :: (q1, .lst vs) :: (q0, .lst us) :: own) B' H' → Ex B B' → Paired (R.r B') us xs → Paired (S.r B') vs ys → Paired (T.r B') ws zs → WSs X rest D (σ.set i (some (.ref p))) H')
    (hst : starEach (a :: [b, c]) X.env = (false, eval a X.env) :: starEach [b, c] X.env := by rfl) (hst1 : starEach (b :: [c]) X.env = (false, eval b X.env) :: starEach [c] X.env := by rfl) (hst2 : St1 X c := by rfl)
    (hs : swapsWith (.List [a, b, c] pos') (some (.Name n p)) pos.line X.env = pure false := by rfl) : WSs X (.Assign [.Name n p] (.List [a, b, c] pos') pos :: rest) D σ H :=
  WSs.cons (ps_set C.nd L.ix L.loc (pe_lst (pa_cons peW (pa_cons peW (pa1 hst2) hst1) hst)) hs L.hf) (ha B H S0 (Ex.refl _) (Ex.refl _) _ fun q0 us B2 H2 S2 e1 e2 r1 => hb q0 us B2 H2 S2 e1 e2 B2 H2 S2 (Ex.refl _) (Ex.refl _) _ fun q1 vs B3 H3 S3 e3 e4 r2 =>
    hc q1 vs q0 us B3 H3 S3 (e1.trans e3) (e2.trans e4) B3 H3 S3 (Ex.refl _) (Ex.refl _) _ fun q2 ws B4 H4 S4 e5 e6 r3 =>
    ⟨by show 3 ≤ sizeLine; decide, fun pp hp => q pp q0 q1 q2 us vs ws B4 _ (S4.alloc hp fun ys z => by cases z) ((e1.trans e3).trans e5) (pimp r1 fun _ _ z => R.mono (e3.trans e5) z) (pimp r2 fun _ _ z => S.mono e5 z) r3⟩)
/-! the length of a tuple -/
class LenN {α : Type} (R : Rel α) (n : Nat) : Prop where
  l : ∀ {H : Hp} {v : V} {x : α}, R.r H v x → ∃ p vs, v = .ref p ∧ H p = some (.tup vs) ∧ vs.length = n
theorem lenPr : LenN (rPr R S) 2 := ⟨fun h => by obtain ⟨p, a, b, h1, h2, _⟩ := h; exact ⟨p, _, h1, h2, rfl⟩⟩
theorem lenT3 : LenN (rT3 R S T) 3 := ⟨fun h => by obtain ⟨p, a, b, c, h1, h2, _⟩ := h; exact ⟨p, _, h1, h2, rfl⟩⟩
theorem lenT4 : LenN (rT4 R S T U) 4 := ⟨fun h => by obtain ⟨p, a, b, c, d, h1, h2, _⟩ := h; exact ⟨p, _, h1, h2, rfl⟩⟩
theorem ev_lenTN {n : Nat} (hg : Gl X "len") (hm : X.mg "len" = none) (ha : EvB X E own B H σ a R x) (hl : LenN R n) (hs : St1 X a := by rfl) : EvB X E own B H σ (.Call (.Name "len" p) [a] [] pos) rInt (n : Int) :=
  ev_b1 (f := fun _ : α => (n : Int)) (pe_callB call_len_seq hg hm PySem.boot_len (pa1 hs) (he := hs)) ha fun H1 v Q h k => by
    obtain ⟨p, vs, h1, h2, h3⟩ := hl.l h
    exact ⟨p, vs, by rw [h1], .inr (SqT.of h2), k _ (by rw [h3]; rfl)⟩
/-- something outside of what is known is written -/
theorem stt_poke {q : Addr} {vs us : List V} (S : Stt E own B H) (hq : H q = some (.lst vs)) (hb : B q = none) (h0 : E.H0 q = none) (ho : ∀ z ∈ own, z.1 ≠ q) : Stt E own B (upd H q (.lst us)) :=
  ⟨S.b0, fun a o e => by
    rw [upd_ne fun z => by
      subst z
      rw [h0] at e
      cases e]
    exact S.h0 a o e, fun a o e => by
    rw [upd_ne fun z => by
      subst z
      rw [hb] at e
      cases e]
    exact S.bh a o e, fun a ys e => by
    have hne : a ≠ q := fun z => by
      subst z
      rw [upd_same] at e
      cases e
    rw [upd_ne hne] at e
    exact S.tu a ys e, S.fr, fun z hz => by
    obtain ⟨h1, h2, h3⟩ := S.ow z hz
    exact ⟨h1, h2, by rw [upd_ne (ho z hz)]; exact h3⟩, S.nd⟩
/-- x[i][0].clear(), x[i][1].clear(): x a list of one's own -/
theorem s_clear2P {nx : Str} {px1 px2 pc1 pc2 pk1 pk2 pz1 pz2 ps1 ps2 pm1 pm2 pa1 pa2 pe1 pe2 : Pos} {c1 c2 c3 c4} {ii : Int} {l : Addr} {vs : List V} {xs : List (List α × List β)} {xx : List α × List β}
    (So : Stt E own' Bo Ho) (hx : Ex Bo B) (S0 : Stt E own B H) (hp : ∀ {pp : Pos}, PE X (.Name nx pp) (tVar i)) (h : σ[i]? = some (some (.ref l))) (hk : own[k]? = some (l, .lst vs)) (r : Paired ((rPr (rLstN Bo R) (rLstN Bo S)).r B) vs xs) (hat : atI xs ii = some xx)
    (kt : ∀ B' H', Stt E own B' H' → Ex Bo B' → Tx B B' → WSs X rest D σ H')
    (t1 : BmT0 X (.Subscript (.Subscript (.Name nx px1) (.Constant (.int ii) c1 pc1) pk1) (.Constant (.int 0) c2 pz1) ps1) "clear" pm1 pa1 := by exact ⟨rfl, rfl⟩) (t2 : BmT0 X (.Subscript (.Subscript (.Name nx px2) (.Constant (.int ii) c3 pc2) pk2) (.Constant (.int 1) c4 pz2) ps2) "clear" pm2 pa2 := by exact ⟨rfl, rfl⟩)
    (hw1 : swapsWith (.Call (.Attribute (.Subscript (.Subscript (.Name nx px1) (.Constant (.int ii) c1 pc1) pk1) (.Constant (.int 0) c2 pz1) ps1) "clear" pm1) [] [] pa1) none pe1.line X.env = pure false := by rfl) (hw2 : swapsWith (.Call (.Attribute (.Subscript (.Subscript (.Name nx px2) (.Constant (.int ii) c3 pc2) pk2) (.Constant (.int 1) c4 pz2) ps2) "clear" pm2) [] [] pa2) none pe2.line X.env = pure false := by rfl) :
    WSs X (.Expr (.Call (.Attribute (.Subscript (.Subscript (.Name nx px1) (.Constant (.int ii) c1 pc1) pk1) (.Constant (.int 0) c2 pz1) ps1) "clear" pm1) [] [] pa1) pe1 :: .Expr (.Call (.Attribute (.Subscript (.Subscript (.Name nx px2) (.Constant (.int ii) c3 pc2) pk2) (.Constant (.int 1) c4 pz2) ps2) "clear" pm2) [] [] pa2) pe2 :: rest) D σ H := by
  obtain ⟨u, hu, ⟨t, v0, v1, rfl, ht, ⟨q0, us0, rfl, a1, a2, a3⟩, ⟨q1, us1, rfl, b1, b2, b3⟩⟩⟩ := pat r hat
  obtain ⟨o1, o2, o3⟩ := S0.ow _ (getE hk)
  have hl : H l = some (.lst vs) := o3
  have hl0 : B l = none := o2
  have nq0 : l ≠ q0 := fun z => by rw [z, a1] at hl0; cases hl0
  have htH := S0.bh _ _ ht
  have hq0 := S0.bh _ _ a1
  have hq1 := S0.bh _ _ b1
  have h1 : E.H0 q1 = none := by
    rcases S0.fr q1 _ b1 with h | h
    · rw [So.b0 _ _ h] at b2
      cases b2
    · exact h
  refine WSs.cons (ps_expr (pe_bm0 PySem.F.plainAttrs_list PySem.F.slot_list_clear PySem.F.type_list_clear mt_clear (pe_ix ix_tup (pe_ix ix_list hp pe_int (fun _ _ => rfl)) pe_int (fun _ _ => rfl)) t1.1 t1.2) hw1) ?_
  refine ⟨_, h, l, vs, ii, _, rfl, rfl, SqL.of hl, hu, t, _, 0, _, rfl, rfl, SqT.of htH, rfl, .inl ⟨rfl, _, SqL.of hq0⟩, q0, us0, rfl, rfl, hq0, ?_⟩
  obtain ⟨B', S', x1, x2, x3⟩ := stt_reset (us := []) So hx S0 a1 a2
  have hl' : upd H q0 (.lst []) l = some (.lst vs) := by rw [upd_ne nq0]; exact hl
  have ht' : upd H q0 (.lst []) t = some (.tup [.ref q0, .ref q1]) := by
    rw [upd_ne fun z => by rw [z, hq0] at htH; cases htH]
    exact htH
  have hq1' : ∃ us, upd H q0 (.lst []) q1 = some (.lst us) := by
    by_cases z : q1 = q0
    · rw [z]; exact ⟨_, upd_same⟩
    · exact ⟨us1, by rw [upd_ne z]; exact hq1⟩
  obtain ⟨us, hq1'⟩ := hq1'
  have hB1 : B' q1 = none := by
    cases e : B' q1 with
    | none => rfl
    | some o =>
      exfalso
      have e2 := S'.bh _ _ e
      rw [hq1'] at e2
      cases e2
      exact x3 _ _ b2 e
  refine WSs.cons (ps_expr (pe_bm0 PySem.F.plainAttrs_list PySem.F.slot_list_clear PySem.F.type_list_clear mt_clear (pe_ix ix_tup (pe_ix ix_list hp pe_int (fun _ _ => rfl)) pe_int (fun _ _ => rfl)) t2.1 t2.2) hw2) ?_
  refine ⟨_, h, l, vs, ii, _, rfl, rfl, SqL.of hl', hu, t, _, 1, _, rfl, rfl, SqT.of ht', rfl, .inl ⟨rfl, _, SqL.of hq1'⟩, q1, us, rfl, rfl, hq1', ?_⟩
  refine kt B' _ (stt_poke S' hq1' hB1 h1 fun z hz e => ?_) x1 x2
  have := (S0.ow z hz).2.1
  rw [e, b1] at this
  cases this
end
end Sg

namespace Sg
open PySem PySem.Spec PyProof.Rows L2
/-! ### min, max of whole numbers -/
def minDf (d : Int) : List Int → Int
  | [] => d
  | y :: ys => ys.foldl min y
def maxDf (d : Int) : List Int → Int
  | [] => d
  | y :: ys => ys.foldl max y
theorem alikeAll_ints (xs : List Int) : PySem.W.AlikeAll (xs.map PyData.int) := ⟨fun x hx y hy => by
  obtain ⟨i, _, rfl⟩ := List.mem_map.mp hx
  obtain ⟨j, _, rfl⟩ := List.mem_map.mp hy
  rfl, fun x hx => by
  obtain ⟨i, _, rfl⟩ := List.mem_map.mp hx
  exact fun z => by cases z⟩
theorem reads_int {h : Heap} {v : Value} {n : Int} {bs : List Addr} (r : Reads h v (.int n) bs) : ∃ t, v = .int n t := by
  cases r
  exact ⟨_, rfl⟩
section
variable {X : Cx} {E : Ent} {own : Own} {B H : Hp} {σ : L2.St} {a d : Expr} {p pos kpos : Pos} {k0 : Nat} {xs : List Int} {z : Int}
theorem ev_minD (C : Cok X k0) (hg : Gl X "min") (hm : X.mg "min" = none) (ha : EvB X E own B H σ a (rLst rInt) xs) (hd : EvB X E own B H σ d rInt z) (hs : St1 X a := by rfl)
    (he : backTo pos (starEach (a :: []) X.env) = (false, eval a X.env) :: backTo pos (starEach [] X.env) := by rfl) (hpl : (backTo pos (starEach (a :: []) X.env)).any (·.1) = false := by rfl)
    (hall : (backToKw pos (keywordEach [⟨some "default", d, kpos⟩] X.env)).all (·.1.isSome) = true := by rfl) (hnone : (backToKw pos (keywordEach [⟨some "default", d, kpos⟩] X.env)).any (·.1.isNone) = false := by rfl) (hks : (backToKw pos (keywordEach [⟨some "default", d, kpos⟩] X.env)).filterMap (·.1) = [Str.ofString "default"] := by rfl) :
    EvB X E own B H σ (.Call (.Name "min" p) [a] [⟨some "default", d, kpos⟩] pos) rInt (minDf z xs) := fun B1 H1 S1 e1 e2 Q kq => by
  refine WE.of (pe_callBK (id := "min") callr_any hg hm (by decide +kernel) (pa1 hs) (pk_cons peW pk_nil) (he := he) (hpl := hpl) (hall := hall) (hnone := hnone) (hks := hks)) (ha B1 H1 S1 e1 e2 _ fun v B2 H2 S2 e3 e4 r => ?_)
  refine hd B2 H2 S2 (e1.trans e3) (e2.trans e4) _ fun w B3 H3 S3 e5 e6 r2 => ?_
  intro pins s σ' us ws I rv rz
  obtain ⟨l, vs, rfl, hl, hp⟩ := Rel.mono _ e6 r
  obtain rfl := Vals.ref1 rv
  have r2 : w = .int z := r2
  subst r2
  obtain ⟨w1, rfl, t, rfl⟩ := vals1 rz
  obtain ⟨its, rvs, pl, hz⟩ := I.list (.inl hl)
  show wpAny _ _ (call (.builtin "min") [.ref l] [(Str.ofString "default", .int z t)]) _ _ _
  have hu := C.hu65
  have Qok : ∀ h' tk (n : Int) (t' : Tok), n = minDf z xs → (∀ b o, s.heap.get? b = some o → h'.get? b = some o) → EP X pins σ' Q (.int n t') { s with heap := h', toks := tk } := fun h' tk n t' hn hk => by
    subst hn
    exact ⟨.int _, H3, I.kept hk, ⟨_, rfl⟩, kq _ B3 H3 S3 (e3.trans e5) (e4.trans e6) rfl⟩
  refine PySem.W.min_list_default (A := X.A) (xs := xs.map PyData.int) (as := []) (I.ok.hd C.calm) pl.isList (by rw [List.toList_toArray]; exact ints_read hp rvs) (alikeAll_ints xs) (by rw [PySem.W.depth_ints]; omega) (fun h0 h' tk hk => ?_) (fun y ys i v h' tk bs hx hv hr hk => ?_)
  · rw [List.map_eq_nil_iff] at h0
    subst h0
    exact Qok h' tk z t rfl hk
  · cases xs with
    | nil => cases hx
    | cons n ns =>
      rw [List.map_cons] at hx
      cases hx
      rw [PySem.W.minD_ints] at hr
      obtain ⟨t', rfl⟩ := reads_int hr
      exact Qok h' tk _ t' rfl hk
theorem ev_maxD (C : Cok X k0) (hg : Gl X "max") (hm : X.mg "max" = none) (ha : EvB X E own B H σ a (rLst rInt) xs) (hd : EvB X E own B H σ d rInt z) (hs : St1 X a := by rfl)
    (he : backTo pos (starEach (a :: []) X.env) = (false, eval a X.env) :: backTo pos (starEach [] X.env) := by rfl) (hpl : (backTo pos (starEach (a :: []) X.env)).any (·.1) = false := by rfl)
    (hall : (backToKw pos (keywordEach [⟨some "default", d, kpos⟩] X.env)).all (·.1.isSome) = true := by rfl) (hnone : (backToKw pos (keywordEach [⟨some "default", d, kpos⟩] X.env)).any (·.1.isNone) = false := by rfl) (hks : (backToKw pos (keywordEach [⟨some "default", d, kpos⟩] X.env)).filterMap (·.1) = [Str.ofString "default"] := by rfl) :
    EvB X E own B H σ (.Call (.Name "max" p) [a] [⟨some "default", d, kpos⟩] pos) rInt (maxDf z xs) := fun B1 H1 S1 e1 e2 Q kq => by
  refine WE.of (pe_callBK (id := "max") callr_any hg hm (by decide +kernel) (pa1 hs) (pk_cons peW pk_nil) (he := he) (hpl := hpl) (hall := hall) (hnone := hnone) (hks := hks)) (ha B1 H1 S1 e1 e2 _ fun v B2 H2 S2 e3 e4 r => ?_)
  refine hd B2 H2 S2 (e1.trans e3) (e2.trans e4) _ fun w B3 H3 S3 e5 e6 r2 => ?_
  intro pins s σ' us ws I rv rz
  obtain ⟨l, vs, rfl, hl, hp⟩ := Rel.mono _ e6 r
  obtain rfl := Vals.ref1 rv
  have r2 : w = .int z := r2
  subst r2
  obtain ⟨w1, rfl, t, rfl⟩ := vals1 rz
  obtain ⟨its, rvs, pl, hz⟩ := I.list (.inl hl)
  show wpAny _ _ (call (.builtin "max") [.ref l] [(Str.ofString "default", .int z t)]) _ _ _
  have hu := C.hu65
  have Qok : ∀ h' tk (n : Int) (t' : Tok), n = maxDf z xs → (∀ b o, s.heap.get? b = some o → h'.get? b = some o) → EP X pins σ' Q (.int n t') { s with heap := h', toks := tk } := fun h' tk n t' hn hk => by
    subst hn
    exact ⟨.int _, H3, I.kept hk, ⟨_, rfl⟩, kq _ B3 H3 S3 (e3.trans e5) (e4.trans e6) rfl⟩
  refine PySem.W.max_list_default (A := X.A) (xs := xs.map PyData.int) (as := []) (I.ok.hd C.calm) pl.isList (by rw [List.toList_toArray]; exact ints_read hp rvs) (alikeAll_ints xs) (by rw [PySem.W.depth_ints]; omega) (fun h0 h' tk hk => ?_) (fun y ys i v h' tk bs hx hv hr hk => ?_)
  · rw [List.map_eq_nil_iff] at h0
    subst h0
    exact Qok h' tk z t rfl hk
  · cases xs with
    | nil => cases hx
    | cons n ns =>
      rw [List.map_cons] at hx
      cases hx
      rw [PySem.W.maxD_ints] at hr
      obtain ⟨t', rfl⟩ := reads_int hr
      exact Qok h' tk _ t' rfl hk
/-! min(xs), max(xs), xs not empty -/
theorem ev_minL (C : Cok X k0) (hg : Gl X "min") (hm : X.mg "min" = none) (ha : EvB X E own B H σ a (rLst rInt) xs) (hne : xs ≠ []) (hs : St1 X a := by rfl) : EvB X E own B H σ (.Call (.Name "min" p) [a] [] pos) rInt (minDf 0 xs) := fun B1 H1 S1 e1 e2 Q kq =>
  WE.of (pe_callB (cr_min C.calm) hg hm (by decide +kernel) (pa1 hs) (he := hs)) (ha B1 H1 S1 e1 e2 _ fun v B2 H2 S2 e3 e4 r => by
    obtain ⟨l, vs, rfl, hl, hp⟩ := r
    rw [ints_rel hp] at hl
    refine ⟨l, xs, rfl, .inl hl, List.length_pos_iff.mpr hne, fun m hm1 hm2 => ?_⟩
    have e : m = minDf 0 xs := by
      cases xs with
      | nil => exact absurd rfl hne
      | cons y ys =>
        have f1 : ∀ (l : List Int) (b : Int), l.foldl min b ≤ b ∧ (∀ x ∈ l, l.foldl min b ≤ x) ∧ (l.foldl min b = b ∨ l.foldl min b ∈ l) := by
          intro l
          induction l with
          | nil => intro b; exact ⟨Int.le_refl _, fun x h => (by cases h), .inl rfl⟩
          | cons c r ih =>
            intro b
            obtain ⟨i1, i2, i3⟩ := ih (min b c)
            rw [List.foldl_cons]
            refine ⟨Int.le_trans i1 (Int.min_le_left _ _), fun x hx => ?_, ?_⟩
            · rcases List.mem_cons.mp hx with rfl | hx
              · exact Int.le_trans i1 (Int.min_le_right _ _)
              · exact i2 x hx
            · rcases i3 with i3 | i3
              · rw [i3]
                by_cases h : b ≤ c
                · exact .inl (Int.min_eq_left h)
                · exact .inr (by rw [Int.min_eq_right (by omega)]; exact List.mem_cons_self ..)
              · exact .inr (List.mem_cons_of_mem _ i3)
        obtain ⟨g1, g2, g3⟩ := f1 ys y
        have h1 : ys.foldl min y ∈ y :: ys := by
          rcases g3 with g3 | g3
          · rw [g3]; exact List.mem_cons_self ..
          · exact List.mem_cons_of_mem _ g3
        have h2 := hm2 _ h1
        have h3 : ys.foldl min y ≤ m := by
          rcases List.mem_cons.mp hm1 with rfl | h
          · exact g1
          · exact g2 m h
        show m = ys.foldl min y
        omega
    rw [e]
    exact kq _ B2 H2 S2 e3 e4 rfl)
theorem ev_maxL (C : Cok X k0) (hg : Gl X "max") (hm : X.mg "max" = none) (ha : EvB X E own B H σ a (rLst rInt) xs) (hne : xs ≠ []) (hs : St1 X a := by rfl) : EvB X E own B H σ (.Call (.Name "max" p) [a] [] pos) rInt (maxDf 0 xs) := fun B1 H1 S1 e1 e2 Q kq =>
  WE.of (pe_callB (cr_max C.calm) hg hm (by decide +kernel) (pa1 hs) (he := hs)) (ha B1 H1 S1 e1 e2 _ fun v B2 H2 S2 e3 e4 r => by
    obtain ⟨l, vs, rfl, hl, hp⟩ := r
    rw [ints_rel hp] at hl
    refine ⟨l, xs, rfl, .inl hl, List.length_pos_iff.mpr hne, fun m hm1 hm2 => ?_⟩
    have e : m = maxDf 0 xs := by
      cases xs with
      | nil => exact absurd rfl hne
      | cons y ys =>
        have f1 : ∀ (l : List Int) (b : Int), b ≤ l.foldl max b ∧ (∀ x ∈ l, x ≤ l.foldl max b) ∧ (l.foldl max b = b ∨ l.foldl max b ∈ l) := by
          intro l
          induction l with
          | nil => intro b; exact ⟨Int.le_refl _, fun x h => (by cases h), .inl rfl⟩
          | cons c r ih =>
            intro b
            obtain ⟨i1, i2, i3⟩ := ih (max b c)
            rw [List.foldl_cons]
            refine ⟨Int.le_trans (Int.le_max_left _ _) i1, fun x hx => ?_, ?_⟩
            · rcases List.mem_cons.mp hx with rfl | hx
              · exact Int.le_trans (Int.le_max_right _ _) i1
              · exact i2 x hx
            · rcases i3 with i3 | i3
              · rw [i3]
                by_cases h : c ≤ b
                · exact .inl (Int.max_eq_left h)
                · exact .inr (by rw [Int.max_eq_right (by omega)]; exact List.mem_cons_self ..)
              · exact .inr (List.mem_cons_of_mem _ i3)
        obtain ⟨g1, g2, g3⟩ := f1 ys y
        have h1 : ys.foldl max y ∈ y :: ys := by
          rcases g3 with g3 | g3
          · rw [g3]; exact List.mem_cons_self ..
          · exact List.mem_cons_of_mem _ g3
        have h2 := hm2 _ h1
        have h3 : m ≤ ys.foldl max y := by
          rcases List.mem_cons.mp hm1 with rfl | h
          · exact g1
          · exact g2 m h
        show m = ys.foldl max y
        omega
    rw [e]
    exact kq _ B2 H2 S2 e3 e4 rfl)
end
end Sg

namespace Sg
open PySem PySem.Spec PyProof.Rows L2

/-! ### results within what may raise -/
def Res.sure {α : Type} : Res α → Res α
  | .err _ => .stuck
  | m => m
def Res.catch {α : Type} (m : Res α) (h : Err → Res α) : Res α := match m with
  | .ok a => .ok a
  | .err e => h e
  | .stuck => .stuck
/-- what a clause takes: the classes that it names; none else comes -/
def hdl {α : Type} (l : List Str) (mh : Err → Res α) : Err → Res α := fun e => if l.contains e.cls = true then mh e else .stuck
theorem Fin.getS {α β : Type} {P : β → Prop} {Er : Err → Prop} {m : Res α} {f : α → Res β} (h : Fin P Er (m.sure.bind f)) : ∃ x, m = .ok x ∧ Fin P Er (f x) := by
  cases m with
  | ok x => exact ⟨x, rfl, h⟩
  | err e => exact h.elim
  | stuck => exact h.elim
theorem Fin.getX {α β : Type} {P : β → Prop} {Er : Err → Prop} {m : Res α} {f : α → Res β} (h : Fin P Er (m.bind f)) : (∃ e, m = .err e ∧ Er e) ∨ ∃ x, m = .ok x ∧ Fin P Er (f x) := by
  cases m with
  | ok x => exact .inr ⟨x, rfl, h⟩
  | err e => exact .inl ⟨e, rfl, h⟩
  | stuck => exact h.elim
theorem Fin.catch {α : Type} {P : α → Prop} {Er : Err → Prop} {m : Res α} {h : Err → Res α} (x : Fin P Er (m.catch h)) : Fin P (fun e => Fin P Er (h e)) m := by
  cases m with
  | ok a => exact x
  | err e => exact x
  | stuck => exact x

/-! ### an error and what stands for it -/
abbrev MG := Str → Option Value
def EDv (B : Hp) (v : V) : ED → Prop
  | .int i => v = .int i
  | .ints l => (rLst rInt).r B v l
theorem EDv.mono {B B' : Hp} {v : V} {e : ED} (x : Ex B B') (h : EDv B v e) : EDv B' v e := by
  cases e with
  | int i => exact h
  | «ints» l => exact Rel.mono _ x h
theorem nf_xd {o : HO} {fs : List (Str × V)} (h : nf o = .xd fs) : o = .xd fs := by
  cases o with
  | frz ob u => cases u <;> cases h
  | xd _ => exact h
  | _ => cases h
def ErrF (B : Hp) (d : Option Addr) (l : List (Str × ED)) : Prop := (l = [] ∧ d = none) ∨ ∃ dx fs, d = some dx ∧ B dx = some (.xd fs) ∧ Paired (fun (p : Str × V) (q : Str × ED) => p.1 = q.1 ∧ EDv B p.2 q.2) fs l
theorem ErrF.mono {B B' : Hp} {d : Option Addr} {l : List (Str × ED)} (x : Ex B B') (h : ErrF B d l) : ErrF B' d l := by
  rcases h with h | ⟨dx, fs, h1, h2, h3⟩
  · exact .inl h
  · obtain ⟨o, q1, q2⟩ := x _ _ h2
    rw [nf_xd q2] at q1
    exact .inr ⟨dx, fs, h1, q1, pimp h3 fun _ _ z => ⟨z.1, EDv.mono x z.2⟩⟩
structure ErrR (mg : MG) (B : Hp) (cls : Value) (d : Option Addr) (e : Err) : Prop where
  c : ∃ C, mg e.cls = some (.ref C) ∧ cls = .ref C
  f : ErrF B d e.fs
theorem ErrR.mono {mg : MG} {B B' : Hp} {cls : Value} {d : Option Addr} {e : Err} (x : Ex B B') (h : ErrR mg B cls d e) : ErrR mg B' cls d e := ⟨h.c, h.f.mono x⟩

/-! ### defs that may raise -/
def SpX {δ ρ : Type} (mg : MG) (args : δ → AR) (Kd : Kind ρ) (f : δ → Res ρ) : Sp := fun vs H Q E => ∃ B d, Sx B H ∧ Tx H B ∧ (args d).r vs B H ∧
  Fin (Kd ⟨B, H⟩ Q) (fun e => ∀ cls dd B' H', Stt ⟨B, H⟩ [] B' H' → ErrR mg B' cls dd e → E cls dd H') (f d)
/-- a raise may leave here: what is wished of it is so at σ -/
def XOk (X : Cx) (E : Ent) (own : Own) (B : Hp) (σ : L2.St) (Er : Err → Prop) : Prop := ∃ W : WX, L2N.Takes X W ∧ ∀ e, Er e → ∀ cls dd B' H', Stt E own B' H' → Ex B B' → ErrR X.mg B' cls dd e → W cls dd σ H'
def CalX (X : Cx) (k : Nat) (n : Str) (ps : List Str) (sp : Sp) : Prop := ∃ (f : Addr) (fd : FuncData), FnOk X.prog X.w X.K X.mg X.base (L2N.CX X.prog X.w) k f fd ps sp ∧ X.mg n = some (.ref f) ∧ PySem.W.keepIn X.K (.ref f) = true ∧ Binds X.K fd ps []
def CalXM (P : Program) (w : World) (K : PySem.W.Frag) (mg : Str → Option Value) (base : Heap) (k : Nat) (n : Str) (ps : List Str) (sp : Sp) : Prop := ∃ (f : Addr) (fd : FuncData), FnOk P w K mg base (L2N.CX P w) k f fd ps sp ∧ mg n = some (.ref f) ∧ PySem.W.keepIn K (.ref f) = true ∧ Binds K fd ps []
/-- never comes to a value -/
def rNev : Rel Unit := ⟨fun _ _ _ => False, fun _ h => h⟩
section
variable {X : Cx} {E : Ent} {own new own' : Own} {B H B' H' : Hp} {σ : L2.St} {α β γ τ ρ δ : Type} {R : Rel α} {S : Rel β} {T : Rel γ} {e a b c o it : Expr} {x : α} {y : β} {p pos pos' apos : Pos} {i j k k0 : Nat} {z w : Bool} {xs : List α} {es : List Expr}
variable {n m : Str} {rest body other : List Stmt} {D : Ends} {P : ρ → Prop} {Er : Err → Prop} {ps : List Str} {A : AR}
theorem WSs.ends {st : List Stmt} {D' : Ends} (h : WSs X st D σ H) (f : (∀ σ H, D.nx σ H → D'.nx σ H) ∧ (∀ v H, D.rt v H → D'.rt v H) ∧ (∀ σ H, D.bk σ H → D'.bk σ H) ∧ ∀ σ H, D.ct σ H → D'.ct σ H) : WSs X st D' σ H := fun pins s I =>
  wpAny_mono (h pins s I) (fun fl s' q => by
    cases fl with
    | next =>
      obtain ⟨σ2, H2, I2, q⟩ := q
      exact ⟨σ2, H2, I2, f.1 _ _ q⟩
    | cont =>
      obtain ⟨σ2, H2, I2, q⟩ := q
      exact ⟨σ2, H2, I2, f.2.2.2 _ _ q⟩
    | brk =>
      obtain ⟨σ2, H2, I2, q⟩ := q
      exact ⟨σ2, H2, I2, f.2.2.1 _ _ q⟩
    | ret u =>
      obtain ⟨v, σ2, H2, I2, r, q⟩ := q
      exact ⟨v, σ2, H2, I2, r, f.2.1 _ _ q⟩) fun _ _ q => q
theorem XOk.up (h : XOk X E own B σ Er) (x : Ex B B') : XOk X E own B' σ Er := by
  obtain ⟨W, tk, q⟩ := h
  exact ⟨W, tk, fun e he cls dd B2 H2 S x2 r => q e he cls dd B2 H2 S (x.trans x2) r⟩
theorem tk_no : L2N.Takes X (fun _ _ _ _ => False) := fun _ _ x => by
  obtain ⟨_, _, _, _, _, _, _, _, _, _, _, _, _, _, _, _, z⟩ := x
  exact z.elim
theorem pe_calX {sp : Sp} {W : WX} (tk : L2N.Takes X W) (C : Cok X k0) (G : CalX X k n ps sp) (hk : k ≤ k0) (hg : Gl X n) (hdb : (n == ("__debug__" : Str)) = false) (he : starEach (e :: es) X.env = (false, eval e X.env) :: starEach es X.env) (hpl : (backTo pos (starEach es X.env)).any (·.1) = false) :
    PE X (.Call (.Name n p) (e :: es) [] pos) (tCallS sp (L2.WE W) (WA X (e :: es))) := by
  obtain ⟨f, fd, F, hm, hkp, hb⟩ := G
  exact pe_callS F (C.room.mono hk) hg hm hkp hb (L2N.passAt tk) paW hdb he hpl
/-- such a def called; it does not raise -/
theorem ee_callX {mg : MG} {args : δ → AR} {f : δ → Res ρ} {RR : Rel ρ} {d : δ} {r : ρ} (C : Cok X k0) (G : CalX X k n ps (SpX mg args (kE RR) f)) (hk : k ≤ k0) (hg : Gl X n) (ha : EvAs X E own B H σ (e :: es) (args d)) (hm : f d = .ok r)
    (hdb : (n == ("__debug__" : Str)) = false := by rfl) (he : starEach (e :: es) X.env = (false, eval e X.env) :: starEach es X.env := by rfl) (hpl : (backTo pos (starEach es X.env)).any (·.1) = false := by rfl) : EvE X E own B H σ (.Call (.Name n p) (e :: es) [] pos) RR r := fun B1 H1 S1 e1 e2 Q q =>
  WE.of (pe_calX tk_no C G hk hg hdb he hpl) (ha B1 H1 S1 e1 e2 _ fun vs B2 H2 S2 e3 e4 r => ⟨B2, d, S2.bh, S2.tu, r, Fin.eq hm fun v B3 H3 T q2 => q v B3 H3 (S2.call T) (e3.trans T.b0.ex) (e4.trans T.h0.ex) q2⟩)
theorem el_callX {mg : MG} {args : δ → AR} {f : δ → Res (List ρ)} {RR : Rel ρ} {d : δ} {r : List ρ} (C : Cok X k0) (G : CalX X k n ps (SpX mg args (kL RR) f)) (hk : k ≤ k0) (hg : Gl X n) (ha : EvAs X E own B H σ (e :: es) (args d)) (hm : f d = .ok r)
    (hdb : (n == ("__debug__" : Str)) = false := by rfl) (he : starEach (e :: es) X.env = (false, eval e X.env) :: starEach es X.env := by rfl) (hpl : (backTo pos (starEach es X.env)).any (·.1) = false := by rfl) : EvL X E own B H σ (.Call (.Name n p) (e :: es) [] pos) RR r := fun B1 H1 S1 e1 e2 Q q =>
  WE.of (pe_calX tk_no C G hk hg hdb he hpl) (ha B1 H1 S1 e1 e2 _ fun vs B2 H2 S2 e3 e4 r => ⟨B2, d, S2.bh, S2.tu, r, Fin.eq hm fun p vs B3 H3 T q2 => q p vs B3 H3 (S2.call T) (e3.trans T.b0.ex) (e4.trans T.h0.ex) q2⟩)
/-- .. it raises -/
theorem wx_err {Kd : Kind ρ} {args : δ → AR} {f : δ → Res ρ} {d : δ} {er : Err} (XO : XOk X E own B σ Er) (C : Cok X k0) (G : CalX X k n ps (SpX X.mg args Kd f)) (hk : k ≤ k0) (hg : Gl X n) (ha : EvAs X E own B H σ (e :: es) (args d)) (hm : f d = .err er) (hE : Er er)
    (hdb : (n == ("__debug__" : Str)) = false := by rfl) (he : starEach (e :: es) X.env = (false, eval e X.env) :: starEach es X.env := by rfl) (hpl : (backTo pos (starEach es X.env)).any (·.1) = false := by rfl) {B1 H1 : Hp} (S1 : Stt E own B1 H1) (e1 : Ex B B1) (e2 : Ex H H1) (Q : VK) : WE X (.Call (.Name n p) (e :: es) [] pos) σ H1 Q := by
  obtain ⟨W, tk, hW⟩ := XO
  refine WE.of (pe_calX tk C G hk hg hdb he hpl) (ha B1 H1 S1 e1 e2 _ fun vs B2 H2 S2 e3 e4 r => ⟨B2, d, S2.bh, S2.tu, r, ?_⟩)
  rw [hm]
  exact fun cls dd B' H' T er2 => hW _ hE cls dd B' H' (S2.call T) ((e1.trans e3).trans T.b0.ex) er2
theorem ee_errX {Kd : Kind ρ} {args : δ → AR} {f : δ → Res ρ} {d : δ} {er : Err} (XO : XOk X E own B σ Er) (C : Cok X k0) (G : CalX X k n ps (SpX X.mg args Kd f)) (hk : k ≤ k0) (hg : Gl X n) (ha : EvAs X E own B H σ (e :: es) (args d)) (hm : f d = .err er) (hE : Er er)
    (hdb : (n == ("__debug__" : Str)) = false := by rfl) (he : starEach (e :: es) X.env = (false, eval e X.env) :: starEach es X.env := by rfl) (hpl : (backTo pos (starEach es X.env)).any (·.1) = false := by rfl) : EvE X E own B H σ (.Call (.Name n p) (e :: es) [] pos) rNev () := fun B1 H1 S1 e1 e2 Q _ =>
  wx_err XO C G hk hg ha hm hE hdb he hpl S1 e1 e2 Q
theorem el_errX {Kd : Kind ρ} {args : δ → AR} {f : δ → Res ρ} {d : δ} {er : Err} (XO : XOk X E own B σ Er) (C : Cok X k0) (G : CalX X k n ps (SpX X.mg args Kd f)) (hk : k ≤ k0) (hg : Gl X n) (ha : EvAs X E own B H σ (e :: es) (args d)) (hm : f d = .err er) (hE : Er er)
    (hdb : (n == ("__debug__" : Str)) = false := by rfl) (he : starEach (e :: es) X.env = (false, eval e X.env) :: starEach es X.env := by rfl) (hpl : (backTo pos (starEach es X.env)).any (·.1) = false := by rfl) : EvL X E own B H σ (.Call (.Name n p) (e :: es) [] pos) R xs := fun B1 H1 S1 e1 e2 Q _ =>
  wx_err XO C G hk hg ha hm hE hdb he hpl S1 e1 e2 Q
/-- a statement that waits for it -/
theorem s_asgNev (C : Cok X k) (L : Slot X i n) (S0 : Stt E own B H) (he : EvE X E own B H σ e rNev ()) (hs : swapsWith e (some (.Name n pos')) pos.line X.env = pure false := by rfl) : WSs X (.Assign [.Name n pos'] e pos :: rest) D σ H :=
  s_asg C L S0 he (fun _ _ _ _ _ r => r.elim) hs
theorem s_retNev (S0 : Stt E own B H) (he : EvE X E own B H σ e rNev ()) : WSs X (.Return (some e) pos :: rest) D σ H := s_retE S0 he fun _ _ _ _ r => r.elim
theorem s_dropNev (S0 : Stt E own B H) (he : EvE X E own B H σ e rNev ()) (hs : swapsWith e none pos.line X.env = pure false := by rfl) : WSs X (.Expr e pos :: rest) D σ H := 
  WSs.cons (ps_expr peW hs) (he B H S0 (Ex.refl _) (Ex.refl _) _ fun v B2 H2 S2 _ _ r => r.elim)
/-- for t in f(..), which raises -/
theorem s_forNev {tg : Expr} {Tg : α → Hp → L2.St → L2.St → Prop} (C : Cok X k) (ht : TgOk X E tg R Tg) (S0 : Stt E own B H) (he : EvE X E own B H σ it rNev ()) (hf : ∀ x, foldedSetIterable it X.env x = pure x := by intro _; rfl) : WSs X (.For tg it body [] pos :: rest) D σ H := by
  obtain ⟨g, hg, _⟩ := ht
  exact WSs.cons (ps_for C.own C.calm (pi_list (tl := WE X it) peW) hg pssW hf) (he B H S0 (Ex.refl _) (Ex.refl _) _ fun v B2 H2 S2 _ _ r => r.elim)

/-! ### raise -/
/-- a class without an own __init__, which may be raised with a text -/
def Rz (K : PySem.W.Frag) (mg : MG) (c : Str) : Prop := ∃ C, mg c = some (.ref C) ∧ PySem.W.keepIn K (.ref C) = true ∧ PySem.W.excIn K C [.type "ValueError", .type "Exception", .type "BaseException", .type "object"] "ValueError.__new__" = true ∧ PySem.W.subIn K (.ref C) (.type "BaseException") = some true ∧ PySem.W.typeIn K (.ref C) = some (.type "type")
theorem s_raise0 {cn msg : Str} {j2 : Nat} {p2 p3 : Pos} (XO : XOk X E own B σ Er) (C : Cok X k) (hz : Rz X.K X.mg cn) (hg : Gl X cn) (S0 : Stt E own B H) (hE : Er ⟨cn, []⟩) (hdb : (cn == ("__debug__" : Str)) = false := by decide) :
    WSs X (.Raise (some (.Call (.Name cn p) [.Constant (.str msg) j2 p2] [] p3)) none pos :: rest) D σ H := by
  obtain ⟨W, tk, hW⟩ := XO
  obtain ⟨A, h1, h2, h3, h4, h5⟩ := hz
  exact WSs.cons (L2N.ps_raise C.calm tk (L2N.pmk_own F.excBase_ValueError h3 h1 h2 (raises_own h4 h5) hg hdb)) (hW _ hE _ _ B H S0 (Ex.refl _) ⟨⟨A, h1, rfl⟩, .inl ⟨rfl, rfl⟩⟩)
end

/-! ### contexts alike -/
structure Tr (X X' : Cx) : Prop where
  pr : X'.prog = X.prog
  w : X'.w = X.w
  K : X'.K = X.K
  mg : X'.mg = X.mg
  base : X'.base = X.base
  N : X'.N = X.N
  env : X'.env = X.env
  fn : X'.fn = X.fn
/-- .. of a def's body -/
structure Tp (X : Cx) : Prop where
  st : X.stack = X.env :: X.outer
  fr : X.env.frame = some X.env.locals
section
variable {X X' : Cx} {k : Nat} {n : Str} {ps N : List Str} {sp : Sp} {C : Addr} {sc : Scope}
theorem Tr.cal (t : Tr X X') (h : Cal X k n ps sp) : Cal X' k n ps sp := by
  unfold Cal
  rw [t.pr, t.w, t.K, t.mg, t.base]
  exact h
theorem Tr.calX (t : Tr X X') (h : CalX X k n ps sp) : CalX X' k n ps sp := by
  unfold CalX
  rw [t.pr, t.w, t.K, t.mg, t.base]
  exact h
theorem Tr.mcal (t : Tr X X') (h : MCal X k C n ps sp) : MCal X' k C n ps sp := by
  unfold MCal
  rw [t.pr, t.w, t.K, t.mg, t.base]
  exact h
theorem Tr.scp (t : Tr X X') (h : Scp X N sc) : Scp X' N sc := ⟨t.N.trans h.n, by rw [t.env]; exact h.sc⟩
theorem Tr.fns (t : Tr X X') (h : ∀ x, X.fn x = true) : ∀ x, X'.fn x = true := by rw [t.fn]; exact h
theorem Tr.blt (t : Tr X X') (h : Blt X.mg) : Blt X'.mg := by rw [t.mg]; exact h
end

/-! ### a def's promise from its body -/
section
variable {P : Program} {w : World} {K : PySem.W.Frag} {mg : Str → Option Value} {base : Heap}
theorem fun_okX {x qual : Str} {st : Stmt} {f : Addr} {fd : FuncData} {N ps : List Str} {k : Nat} {δ ρ : Type} {args : δ → AR} {Kd : Kind ρ} {g : δ → Res ρ} (F : Fun K x qual st f fd) (S : FnScope N ps (defScope st)) (hl : ∀ d vs B H, (args d).r vs B H → vs.length = ps.length)
    (body : ∀ X : Cx, X.prog = P → X.w = w → X.K = K → X.mg = mg → X.base = base → Cok X k → Scp X N (defScope st) → (∀ x, X.fn x = true) → ∀ B H vs d (Q : VK) (Er : Err → Prop), (∀ own B' σ, XOk X ⟨B, H⟩ own B' σ Er) → Sx B H → Tx H B → (args d).r vs B H → Fin (Kd ⟨B, H⟩ Q) Er (g d) →
      WSs X (defBody st) { nx := fun _ H' => Q .non H', rt := Q } (start N vs) H) : FnOk P w K mg base (L2N.CX P w) (k + 1) f fd ps (SpX mg args Kd g) := by
  obtain ⟨oc, od, kV, doc, pm, an, cdv, ct, osl, rfl, lk, hcd⟩ := F.ex
  refine fn_of lk hcd S (fun vs H Q E h => ?_) (fun A outer s H vs Q E hr h => ?_)
  · obtain ⟨B, d, _, _, h3, _⟩ := h
    exact hl d vs B H h3
  · obtain ⟨B, d, h1, h2, h3, h4⟩ := h
    refine ⟨_, pssW, body (cxOf (L2N.CX P w) P w K mg base N qual (defScope st) f cdv A outer s H E) rfl rfl rfl rfl rfl ⟨rfl, S.nd, hr, L2.passes_of rfl⟩ ⟨rfl, rfl⟩ (fun _ => rfl) B H vs d Q _ (fun own B' σ => ?_) h1 h2 h3 h4⟩
    exact ⟨_, L2N.takes_of rfl rfl rfl rfl, fun e he cls dd B2 H2 S2 _ r => he cls dd B2 H2 S2.none r⟩
theorem fun_okT {x qual : Str} {st : Stmt} {f : Addr} {fd : FuncData} {N ps : List Str} {k : Nat} {δ ρ : Type} {args : δ → AR} {Kd : Kind ρ} {g : δ → Res ρ} (F : Fun K x qual st f fd) (S : FnScope N ps (defScope st)) (hl : ∀ d vs B H, (args d).r vs B H → vs.length = ps.length)
    (body : ∀ X : Cx, X.prog = P → X.w = w → X.K = K → X.mg = mg → X.base = base → Cok X k → Scp X N (defScope st) → (∀ x, X.fn x = true) → Tp X → ∀ B H vs d (Q : VK), Sx B H → Tx H B → (args d).r vs B H → Fin (Kd ⟨B, H⟩ Q) NoErr (g d) →
      WSs X (defBody st) { nx := fun _ H' => Q .non H', rt := Q } (start N vs) H) : FnOk P w K mg base CX0 (k + 1) f fd ps (SpA args Kd g) := by
  refine F.ok S (fun vs H Q E h => ?_) (fun cdv A outer s H vs Q E hr h => ?_)
  · obtain ⟨B, d, _, _, h3, _⟩ := h
    exact hl d vs B H h3
  · obtain ⟨B, d, h1, h2, h3, h4⟩ := h
    exact ⟨_, pssW, body ((cxOf CX0 P w K mg base N qual (defScope st) f cdv A outer s H E).nox) rfl rfl rfl rfl rfl ⟨rfl, S.nd, hr, PassesOwn.never⟩ ⟨rfl, rfl⟩ (fun _ => rfl) ⟨rfl, rfl⟩ B H vs d Q h1 h2 h3 h4⟩
end
end Sg

namespace Sg
open PySem PySem.Spec PyProof.Rows L2

/-! ### the exception that is handled -/
/-- p's object stands for the error e -/
def ExP (mg : MG) (B : Hp) (p : Addr × Obj) (e : Err) : Prop := ∃ cls d, L2N.Zn cls d p.2 ∧ (∃ vs, p.2.data = .fields vs) ∧ ErrR mg B cls d e
theorem ExP.mono {mg : MG} {B B' : Hp} {p : Addr × Obj} {e : Err} (x : Ex B B') (h : ExP mg B p e) : ExP mg B' p e := by
  obtain ⟨cls, d, h1, h2, h3⟩ := h
  exact ⟨cls, d, h1, h2, h3.mono x⟩
structure Hok (X : Cx) (k : Nat) (p : Addr × Obj) : Prop where
  nd : X.N.Nodup
  room : L2H.RoomH k X.A
  hot : L2H.Hot1 X.A p
  mem : p ∈ X.pn
  own : PassesOwn (model X.prog X.w) X.A X.env X.xe
theorem Hok.hc {X : Cx} {k : Nat} {p : Addr × Obj} (C : Hok X k p) : L2H.HotC X := ⟨p, C.hot, C.mem⟩

/-! ### defs called there -/
structure FnHp (P : Program) (w : World) (K : PySem.W.Frag) (mg : Str → Option Value) (base : Heap) (k : Nat) (f : Addr) (fd : FuncData) (ps : List Str) (sp : Addr × Obj → Sp) : Prop where
  len : ∀ p vs H Q E, sp p vs H Q E → vs.length = ps.length
  run : ∀ (p : Addr × Obj) (A : Around) (outer : List Env) (s : Shared) (H : Hp) (args : Args) (us : List Value) (vs : List V) (Q : VK) (E : XK), L2H.Hot1 A p → L2H.RoomH k A → L2H.PinOk outer H s p → Env0 P w K mg base A outer s H → BindsTo s fd args (ps.zip us) → Vals vs us → sp p vs H Q E →
    codeAny (model P w) A (.call (.ref f) args) (CR CX0 outer P w H s Q E) s
theorem fnHp_of {P : Program} {w : World} {K : PySem.W.Frag} {mg : Str → Option Value} {base : Heap} {k : Nat} {x qual : Str} {st : Stmt} {f : Addr} {fd : FuncData} {N ps : List Str} {sp : Addr × Obj → Sp} (F : Fun K x qual st f fd) (S : FnScope N ps (defScope st))
    (hl : ∀ p vs H Q E, sp p vs H Q E → vs.length = ps.length)
    (bd : ∀ (p : Addr × Obj) (cdv : Value) (A : Around) (outer : List Env) (s : Shared) (H : Hp) (vs : List V) (Q : VK) (E : XK), L2H.Hot1 A p → L2H.RoomH k (A.deeper (envOfC qual (defScope st) s.heap.objs.size f cdv)) → sp p vs H Q E →
      WSs (L2H.cxH CX0 P w K mg base N qual (defScope st) f cdv A outer s H E p) (defBody st) { nx := fun _ H' => Q .non H', rt := Q } (L2.start N vs) H) : FnHp P w K mg base (k + 1) f fd ps sp := by
  obtain ⟨oc, od, kV, doc, pm, an, cdv, ct, osl, rfl, lk, hcd⟩ := F.ex
  constructor
  · exact hl
  intro p A outer s H args us vs Q E hot hr hpin e0 hb r hsp
  have hl1 := hl _ _ _ _ _ hsp
  have inK : K.In s.heap := e0.mod.kin.keeps fun b o q => (e0.bs b o q).1
  have nolim : s.heap.NoLimit := e0.mod.nolimit.keeps fun b o q => (e0.bs b o q).1
  refine codeAny_call_function hr.depth (inK _ _ lk) rfl S.co S.gen rfl (PySem.W.codeRec_of inK hcd) (hb _ _ _ _ ?_)
  refine wpAny_newFunctionEnv_cells S.kind (fun ⟨n, v⟩ hy => ?_) fun env he s1 xc => ?_
  · rcases S.par n (List.of_mem_zip hy).1 with q | q
    · exact .inl q
    · exact .inr ⟨q, PySem.W.cellsFrom_some _ _ _ (.inl q)⟩
  subst he
  refine ⟨nolim.keeps xc.toInCall.keep, codeAny_func ?_⟩
  have I := L2H.inv_startH (CX := CX0) (P := P) (w := w) (K := K) (mg := mg) (base := base) (E := E) S hpin e0 hl1 r xc
  refine wpAny_mono (bd p cdv A outer s H vs Q E hot (hr.deeper _) hsp [] s1 I) (fun fl s' hs => ?_) fun _ _ q => q
  cases fl with
  | brk =>
    obtain ⟨_, _, _, q⟩ := hs
    exact q.elim
  | cont =>
    obtain ⟨_, _, _, q⟩ := hs
    exact q.elim
  | next =>
    obtain ⟨σ2, H2, J, q⟩ := hs
    exact ⟨.non, H2, J.os, J.bare, J.base, J.hok, rfl, q⟩
  | ret u =>
    obtain ⟨v, σ2, H2, J, rv, q⟩ := hs
    exact ⟨v, H2, J.os, J.bare, J.base, J.hok, rv, q⟩
def CalHM (P : Program) (w : World) (K : PySem.W.Frag) (mg : Str → Option Value) (base : Heap) (k : Nat) (n : Str) (ps : List Str) (sp : Addr × Obj → Sp) : Prop := ∃ (f : Addr) (fd : FuncData), FnHp P w K mg base k f fd ps sp ∧ mg n = some (.ref f) ∧ PySem.W.keepIn K (.ref f) = true ∧ Binds K fd ps []
def CalH (X : Cx) (k : Nat) (n : Str) (ps : List Str) (sp : Addr × Obj → Sp) : Prop := CalHM X.prog X.w X.K X.mg X.base k n ps sp
theorem Tr.calH {X X' : Cx} {k : Nat} {n : Str} {ps : List Str} {sp : Addr × Obj → Sp} (t : Tr X X') (h : CalH X k n ps sp) : CalH X' k n ps sp := by
  unfold CalH
  rw [t.pr, t.w, t.K, t.mg, t.base]
  exact h
/-- a hot def's promise -/
def SpH {δ ρ : Type} (args : Addr × Obj → δ → AR) (Kd : Kind ρ) (f : δ → Res ρ) : Addr × Obj → Sp := fun p vs H Q _ => ∃ B d, Sx B H ∧ Tx H B ∧ (args p d).r vs B H ∧ Fin (Kd ⟨B, H⟩ Q) NoErr (f d)
/-- the handled exception as an argument -/
def aP (mg : MG) (p : Addr × Obj) (e : Err) (A : AR) : AR := ⟨fun vs B H => ∃ r, vs = .ref p.1 :: r ∧ ExP mg B p e ∧ A.r r B H, fun b x ⟨r, h1, h2, h3⟩ => ⟨r, h1, h2.mono b, A.mono b x h3⟩⟩
theorem fun_okH {P : Program} {w : World} {K : PySem.W.Frag} {mg : Str → Option Value} {base : Heap} {x qual : Str} {st : Stmt} {f : Addr} {fd : FuncData} {N ps : List Str} {k : Nat} {δ ρ : Type} {args : Addr × Obj → δ → AR} {Kd : Kind ρ} {g : δ → Res ρ} (F : Fun K x qual st f fd) (S : FnScope N ps (defScope st)) (hl : ∀ p d vs B H, (args p d).r vs B H → vs.length = ps.length)
    (body : ∀ (X : Cx) (p : Addr × Obj), X.prog = P → X.w = w → X.K = K → X.mg = mg → X.base = base → Hok X k p → Scp X N (defScope st) → (∀ x, X.fn x = true) → ∀ B H vs d (Q : VK), Sx B H → Tx H B → (args p d).r vs B H → Fin (Kd ⟨B, H⟩ Q) NoErr (g d) →
      WSs X (defBody st) { nx := fun _ H' => Q .non H', rt := Q } (start N vs) H) : FnHp P w K mg base (k + 1) f fd ps (SpH args Kd g) := by
  refine fnHp_of F S (fun p vs H Q E h => ?_) (fun p cdv A outer s H vs Q E hot hr h => ?_)
  · obtain ⟨B, d, _, _, h3, _⟩ := h
    exact hl p d vs B H h3
  · obtain ⟨B, d, h1, h2, h3, h4⟩ := h
    exact body (L2H.cxH CX0 P w K mg base N qual (defScope st) f cdv A outer s H E p) p rfl rfl rfl rfl rfl ⟨S.nd, hr, hot, List.mem_singleton.mpr rfl, L2.passes_of rfl⟩ ⟨rfl, rfl⟩ (fun _ => rfl) B H vs d Q h1 h2 h3 h4
section
variable {X : Cx} {E : Ent} {own new own' : Own} {B H B' H' : Hp} {σ : L2.St} {α β γ τ ρ δ : Type} {R : Rel α} {S : Rel β} {T : Rel γ} {e a b c o it : Expr} {x : α} {y : β} {q pos pos' apos : Pos} {i j k k0 : Nat} {z w : Bool} {xs : List α} {es : List Expr} {p : Addr × Obj}
variable {n m : Str} {rest body other : List Stmt} {D : Ends} {P : ρ → Prop} {Er : Err → Prop} {ps : List Str} {A : AR} {er : Err}
theorem run_hp {sp : Addr × Obj → Sp} {f : Addr} {fd : FuncData} {pins : List (Addr × Obj)} {s : Shared} {Q : VK} {us : List Value} {vs : List V} (F : FnHp X.prog X.w X.K X.mg X.base k f fd ps sp) (C : Hok X k0 p) (hk : k ≤ k0) (hb : Binds X.K fd ps []) (I : Inv X pins σ H s) (r : Vals vs us) (h : sp p vs H Q E0) :
    wpAny (model X.prog X.w) X.A (call (.ref f) us) (EP X pins σ Q) X.xe s := by
  have hl : (us ++ []).length = ps.length := by
    rw [List.append_nil, ← r.length]
    exact F.len _ _ _ _ _ h
  have b := hb s us I.kIn hl
  have P1 := I.pin p (List.mem_append.mpr (.inl C.mem))
  refine wpAny_call (codeAny_mono (F.run p X.A X.stack s H ⟨us, []⟩ us vs Q E0 C.hot (C.room.mono hk) ⟨P1.1, P1.2.1, fun hm => ?_, P1.2.2.2.2⟩ I.env0 (by rw [List.append_nil] at b; exact b) r h) fun rr s' hq => ?_)
  · rcases List.mem_cons.mp (I.stkSub p.1 hm) with z | z
    · exact P1.2.2.1 z
    · exact P1.2.2.2.1 z
  · cases rr with
    | error e => exact hq.elim
    | ok fl =>
      cases fl with
      | ret u => exact I.after hq
      | next => exact hq.elim
      | brk => exact hq.elim
      | cont => exact hq.elim
theorem pe_calH {sp : Addr × Obj → Sp} (C : Hok X k0 p) (G : CalH X k n ps sp) (hk : k ≤ k0) (hg : Gl X n) (hdb : (n == ("__debug__" : Str)) = false) (he : starEach (e :: es) X.env = (false, eval e X.env) :: starEach es X.env) (hpl : (backTo pos (starEach es X.env)).any (·.1) = false) :
    PE X (.Call (.Name n q) (e :: es) [] pos) (fun σ H Q => WA X (e :: es) σ H fun vs H1 => sp p vs H1 Q E0) := by
  obtain ⟨f, fd, F, hm, hkp, hb⟩ := G
  refine ⟨fun pins s σ H Q I h => wpAny_Call_Name_kw (ld_glob I hg hm ?_ hdb)⟩
  exact PySem.W.callWith_K (h₀ := X.base) I.ok.mod.kin hkp (thn (h pos pins s I) fun us s1 ⟨vs, H1, I1, r, q1⟩ => ⟨I1.kIn, run_hp F C hk hb I1 r q1⟩) he hpl
theorem ee_callH {args : Addr × Obj → δ → AR} {f : δ → Res ρ} {RR : Rel ρ} {d : δ} {r : ρ} (C : Hok X k0 p) (G : CalH X k n ps (SpH args (kE RR) f)) (hk : k ≤ k0) (hg : Gl X n) (ha : EvAs X E own B H σ (e :: es) (args p d)) (hm : f d = .ok r)
    (hdb : (n == ("__debug__" : Str)) = false := by rfl) (he : starEach (e :: es) X.env = (false, eval e X.env) :: starEach es X.env := by rfl) (hpl : (backTo pos (starEach es X.env)).any (·.1) = false := by rfl) : EvE X E own B H σ (.Call (.Name n q) (e :: es) [] pos) RR r := fun B1 H1 S1 e1 e2 Q k2 =>
  WE.of (pe_calH C G hk hg hdb he hpl) (ha B1 H1 S1 e1 e2 _ fun vs B2 H2 S2 e3 e4 r => ⟨B2, d, S2.bh, S2.tu, r, Fin.eq hm fun v B3 H3 T q2 => k2 v B3 H3 (S2.call T) (e3.trans T.b0.ex) (e4.trans T.h0.ex) q2⟩)
theorem el_callH {args : Addr × Obj → δ → AR} {f : δ → Res (List ρ)} {RR : Rel ρ} {d : δ} {r : List ρ} (C : Hok X k0 p) (G : CalH X k n ps (SpH args (kL RR) f)) (hk : k ≤ k0) (hg : Gl X n) (ha : EvAs X E own B H σ (e :: es) (args p d)) (hm : f d = .ok r)
    (hdb : (n == ("__debug__" : Str)) = false := by rfl) (he : starEach (e :: es) X.env = (false, eval e X.env) :: starEach es X.env := by rfl) (hpl : (backTo pos (starEach es X.env)).any (·.1) = false := by rfl) : EvL X E own B H σ (.Call (.Name n q) (e :: es) [] pos) RR r := fun B1 H1 S1 e1 e2 Q k2 =>
  WE.of (pe_calH C G hk hg hdb he hpl) (ha B1 H1 S1 e1 e2 _ fun vs B2 H2 S2 e3 e4 r => ⟨B2, d, S2.bh, S2.tu, r, Fin.eq hm fun p vs B3 H3 T q2 => k2 p vs B3 H3 (S2.call T) (e3.trans T.b0.ex) (e4.trans T.h0.ex) q2⟩)
/-- the exception's name handed on -/
theorem ap_cons (hp : PE X e (tVar i)) (h : σ[i]? = some (some (.ref p.1))) (hx : ExP X.mg B p er) (hr : EvAs X E own B H σ es A) (hs : starEach (e :: es) X.env = (false, eval e X.env) :: starEach es X.env := by rfl) : EvAs X E own B H σ (e :: es) (aP X.mg p er A) := fun B1 H1 S1 e1 e2 Q k =>
  WA.of (pa_cons peW paW hs) (WE.of hp ⟨.ref p.1, h, hr B1 H1 S1 e1 e2 _ fun vs B3 H3 S3 e5 e6 q => k (.ref p.1 :: vs) B3 H3 S3 e5 e6 ⟨vs, rfl, hx.mono (e1.trans e5), q⟩⟩)
/-! names bound there -/
theorem s_asgE_h (C : Hok X k p) (L : Slot X i n) (S0 : Stt E own B H) (he : EvE X E own B H σ e R x)
    (q : ∀ v B' H', Stt E own B' H' → Ex B B' → R.r B' v x → WSs X rest D (σ.set i (some v)) H') (hs : swapsWith e (some (.Name n pos')) pos.line X.env = pure false := by rfl) :
    WSs X (.Assign [.Name n pos'] e pos :: rest) D σ H :=
  WSs.cons (ps_set C.nd L.ix L.loc peW hs L.hf) (he B H S0 (Ex.refl _) (Ex.refl _) _ fun v B2 H2 S2 e1 _ r => q v B2 H2 S2 e1 r)
theorem s_asgI_h {x : Int} (C : Hok X k p) (L : Slot X i n) (S0 : Stt E own B H) (he : EvB X E own B H σ e rInt x)
    (q : ∀ B' H', Stt E own B' H' → Ex B B' → WSs X rest D (σ.set i (some (.int x))) H') (hs : swapsWith e (some (.Name n pos')) pos.line X.env = pure false := by rfl) :
    WSs X (.Assign [.Name n pos'] e pos :: rest) D σ H :=
  s_asgE_h C L S0 he.toE (fun v B' H' S' e1 r => by rw [show v = .int x from r]; exact q B' H' S' e1) hs
theorem s_asgB_h {x : Bool} (C : Hok X k p) (L : Slot X i n) (S0 : Stt E own B H) (he : EvB X E own B H σ e rBool x)
    (q : ∀ B' H', Stt E own B' H' → Ex B B' → WSs X rest D (σ.set i (some (.bl x))) H') (hs : swapsWith e (some (.Name n pos')) pos.line X.env = pure false := by rfl) :
    WSs X (.Assign [.Name n pos'] e pos :: rest) D σ H :=
  s_asgE_h C L S0 he.toE (fun v B' H' S' e1 r => by rw [show v = .bl x from r]; exact q B' H' S' e1) hs
theorem s_asgS_h {x : Str} (C : Hok X k p) (L : Slot X i n) (S0 : Stt E own B H) (he : EvB X E own B H σ e rStr x)
    (q : ∀ B' H', Stt E own B' H' → Ex B B' → WSs X rest D (σ.set i (some (.str x))) H') (hs : swapsWith e (some (.Name n pos')) pos.line X.env = pure false := by rfl) :
    WSs X (.Assign [.Name n pos'] e pos :: rest) D σ H :=
  s_asgE_h C L S0 he.toE (fun v B' H' S' e1 r => by rw [show v = .str x from r]; exact q B' H' S' e1) hs
theorem s_asgL_h (C : Hok X k p) (L : Slot X i n) (S0 : Stt E own B H) (he : EvL X E own B H σ e R xs)
    (q : ∀ p vs B' H', Stt E ((p, .lst vs) :: own) B' H' → Ex B B' → Paired (R.r B') vs xs → WSs X rest D (σ.set i (some (.ref p))) H') (hs : swapsWith e (some (.Name n pos')) pos.line X.env = pure false := by rfl) :
    WSs X (.Assign [.Name n pos'] e pos :: rest) D σ H :=
  WSs.cons (ps_set C.nd L.ix L.loc peW hs L.hf) (he B H S0 (Ex.refl _) (Ex.refl _) _ fun p vs B2 H2 S2 e1 _ r => q p vs B2 H2 S2 e1 r)

/-! ### isinstance of it -/
/-- what the classes that come must say -/
structure IsK (K : PySem.W.Frag) (D : Addr) : Prop where
  hcl : PySem.W.isClsIn K D = true
  hga : PySem.W.findIn K (.ref D) "__getattribute__" = some (some (.builtin "BaseException.__getattribute__"))
  hgt : PySem.W.findIn K (.ref D) "__getattr__" = some none
  hsub : PySem.W.subIn K (.ref D) (.type "BaseException") = some true
  ha : PySem.W.findIn K (.ref D) "__class__" = some (some (.builtin "object.__class__"))
  hm : PySem.W.mroIn K D (.type "object") = some true
  hdC : PySem.W.hasDictIn K D = true
structure IsB (K : PySem.W.Frag) : Prop where
  hn : PySem.W.specialIn K (.builtin "object.__class__") "__get__" = some (some (.builtin "getset_descriptor.__get__"))
  ht : PySem.W.takesIn K (.builtin "object.__class__") = some true
theorem instAt_of {P : Program} {wd : World} {h : Heap} {cls : Value} {d : Option Addr} {D : Addr} {fs : List (Str × ED)} (hok : HOk P wd H h) (hp : h.get? p.1 = some p.2) (hz : L2N.Zn cls d p.2) (hf : ∃ vs, p.2.data = .fields vs) (hc : cls = .ref D) (he : ErrF H d fs) :
    ∃ od, PySem.W.InstAt h p.1 p.2 D od ∧ ((fs = [] ∧ d = none ∧ od = none) ∨ ∃ (dx : Addr) (ob : Obj) (fv : List (Str × V)) (mA : Str → Option Value), d = some dx ∧ od = some ob ∧ H dx = some (.xd fv) ∧ (∀ f, PySem.W.lookIn f ob = some (mA f)) ∧ (∀ f, RelO (fv.lookup f) (mA f)) ∧ Paired (fun (p : Str × V) (q : Str × ED) => p.1 = q.1 ∧ EDv H p.2 q.2) fv fs) := by
  obtain ⟨vs, hd⟩ := hf
  obtain ⟨z1, z2, z3⟩ := hz
  subst hc
  have nc : PySem.W.notCls p.2 = true := by unfold PySem.W.notCls; rw [hd] <;> rfl
  rcases he with ⟨e1, e2⟩ | ⟨dx, fv, e1, e2, e3⟩
  · exact ⟨none, ⟨hp, z1, nc, by rw [z2, e2]; trivial⟩, .inl ⟨e1, e2, rfl⟩⟩
  · have hx : ObjOk P wd H h dx (.xd fv) := hok dx _ e2
    obtain ⟨mA, hns, hr⟩ := hx
    obtain ⟨ob, ho, hl⟩ := lookIn_ns hns
    exact ⟨some ob, ⟨hp, z1, nc, by rw [z2, e1]; exact ho⟩, .inr ⟨dx, ob, fv, mA, e1, rfl, e2, hl, hr, e3⟩⟩
def rIsX (K : PySem.W.Frag) (mg : MG) (p : Addr × Obj) (er : Err) : List V → Hp → VK → Prop := fun xs H Q => ∃ (D Cc : Addr) (b : Bool), xs = [.ref p.1, .ref Cc] ∧ mg er.cls = some (.ref D) ∧ IsK K D ∧ ExP mg H p er ∧ PySem.W.kitOne K (.ref D) (.ref Cc) = some b ∧ Q (.bl b) H
theorem cr_isX (IB : IsB X.K) (C : Hok X k0 p) : CallR X (.builtin "isinstance") (rIsX X.K X.mg p er) := by
  intro pins s σ H xs us Q I r h
  obtain ⟨D, Cc, b, rfl, hmg, T, hx, hk, q⟩ := h
  cases r with
  | cons rx rr =>
    cases rr with
    | cons rt rr =>
      cases rr
      cases rx
      cases rt
      obtain ⟨cls, d, h1, h2, ⟨⟨C2, c1, c2⟩, h4⟩⟩ := hx
      have eD : C2 = D := by
        rw [hmg] at c1
        cases c1
        rfl
      subst eD
      obtain ⟨od, J, _⟩ := instAt_of (I.hok) (I.pin p (List.mem_append.mpr (.inl C.mem))).1 h1 h2 c2 h4
      exact PySem.W.kia_one (PySem.W.kitx_exc T.hcl T.hga T.hgt T.hsub T.ha IB.hn IB.ht T.hm) I.kIn J hk (fun z => nomatch z) fun tk => ⟨.bl b, H, I.kept (t' := tk) fun _ _ z => z, rfl, q⟩
theorem pe_gref {x : Str} {C : Addr} (hg : Gl X x) (hm : X.mg x = some (.ref C)) (hdb : (x == ("__debug__" : Str)) = false := by decide) : PE X (.Name x pos) (tC (.ref C)) :=
  ⟨fun _ _ _ H _ I h => ld_glob I hg hm ⟨.ref C, H, I, rfl, h⟩ hdb⟩
/-- the table of who is beneath whom: the classes that come, the classes that are asked for -/
def IsT (K : PySem.W.Frag) (mg : MG) (cn dn : Str) (b : Bool) : Prop := ∃ C D, mg cn = some (.ref C) ∧ mg dn = some (.ref D) ∧ IsK K C ∧ PySem.W.kitOne K (.ref C) (.ref D) = some b
theorem ev_isX {cs : Str} {p2 : Pos} {z : Bool} (IB : IsB X.K) (C : Hok X k0 p) (hg : Gl X "isinstance") (hm : X.mg "isinstance" = none) (hgc : Gl X cs) (hp : PE X a (tVar i)) (h : σ[i]? = some (some (.ref p.1))) (hx : ExP X.mg B p er) (ht : IsT X.K X.mg er.cls cs z)
    (hdb : (cs == ("__debug__" : Str)) = false := by decide) (hs : starEach (a :: [.Name cs p2]) X.env = (false, eval a X.env) :: starEach [.Name cs p2] X.env := by rfl) (hs2 : St1 X (.Name cs p2) := by rfl) (hpl : (backTo pos (starEach [.Name cs p2] X.env)).any (·.1) = false := by rfl) :
    EvB X E own B H σ (.Call (.Name "isinstance" q) [a, .Name cs p2] [] pos) rBool z := fun B1 H1 S1 e1 e2 Q k => by
  obtain ⟨C1, D1, m1, m2, T, hk⟩ := ht
  exact WE.of (pe_callB (cr_isX (er := er) IB C) hg hm (by decide +kernel) (pa_cons hp (pa_cons (pe_gref hgc m2 hdb) pa_nil hs2) hs) (he := hs) (hpl := hpl)) ⟨.ref p.1, h, C1, D1, z, rfl, m1, T, (hx.mono e1).mono S1.bh.ex, hk, k _ B1 H1 S1 (Ex.refl _) (Ex.refl _) rfl⟩

/-! ### try: .., except c as n: .. -/
theorem s_try {ρ' : Type} {x : Str} {np p' : Pos} {c : Value} {b₀ : Stmt} {suite : List Stmt} {mb : Res (ρ' ⊕ τ)} {mh : Err → Res (ρ' ⊕ τ)} {kr : ρ' → Res ρ} {kn : τ → Res ρ} {l : List Str} (TX : Tp X) (C : Cok X k) (hi : X.N[i]? = some n) (hln : X.env.kindOf n = some .local) (hc : Names X x c) (S0 : Stt E own B H)
    (F : Fin P NoErr ((mb.catch (hdl l mh)).bind (sel kr kn)))
    (hx : ∀ cn, l.contains cn = true → ∃ C, X.mg cn = some (.ref C) ∧ PySem.W.exmOne X.K (.ref C) c = some true)
    (Inv : τ → L2.St → Own → Hp → Prop)
    (hb : ∀ (X' : Cx) (Q : τ → Prop) (Er : Err → Prop), Tr X X' → Cok X' k → XOk X' E own B σ Er → Fin (sel (fun u => Fin P NoErr (kr u)) Q) Er mb → WSs X' body { nx := TurnE E B Q Inv, rt := D.rt, bk := fun _ _ => False, ct := fun _ _ => False } σ H)
    (hs : ∀ (X' : Cx) (p : Addr × Obj) (er : Err), Tr X X' → Hok X' k p → ∀ B' H' (Q : τ → Prop), Stt E own B' H' → Ex B B' → ExP X'.mg B' p er → l.contains er.cls = true → Fin (sel (fun u => Fin P NoErr (kr u)) Q) NoErr (mh er) →
      WSs X' (b₀ :: suite) { nx := fun σ2 H2 => TurnE E B' Q Inv (σ2.set i none) H2, rt := D.rt, bk := fun _ _ => False, ct := fun _ _ => False } (σ.set i (some (.ref p.1))) H')
    (hd : ∀ a σ2 own2 B2 H2, Inv a σ2 own2 B2 → Stt E own2 B2 H2 → Ex B B2 → Fin P NoErr (kn a) → WSs X rest D σ2 H2) :
    WSs X (.Try body [.ExceptHandler (some (.Name x np)) (some n) (b₀ :: suite) p'] [] [] pos :: rest) D σ H := by
  have F1 := Fin.catch (Fin.bind F)
  have fq : ∀ {r : Res (ρ' ⊕ τ)} {Er : Err → Prop}, Fin (fun a => Fin P NoErr (sel kr kn a)) Er r → Fin (sel (fun u => Fin P NoErr (kr u)) (fun a => Fin P NoErr (kn a))) Er r := fun h => h.mono (fun a _ z => by cases a <;> exact z) fun _ z => z
  have nx : ∀ {σ2 : L2.St} {H2 : Hp} {B1 : Hp}, Ex B B1 → TurnE E B1 (fun a => Fin P NoErr (kn a)) Inv σ2 H2 → WSs X rest D σ2 H2 := fun {σ2 H2 B1} x0 ⟨a, own2, B2, h1, h2, h3, h4⟩ => hd a σ2 own2 B2 H2 h4 h2 (x0.trans h3) h1
  refine WSs.cons (L2N.ps_try_as (tb := fun W D σ H => ∀ pn xe, L2N.Takes (X.tr pn xe) W → PassesOwn (model X.prog X.w) X.A X.env xe → WSs (X.tr pn xe) body D σ H)
    (ts := fun a cls d D σ H => ∀ oe pn, L2N.Zn cls d oe → (∃ vs, oe.data = .fields vs) → WSs (X.suite a ((a, oe) :: pn)) (b₀ :: suite) D σ H) (Wout := fun _ _ _ _ => False)
    TX.st TX.fr C.nd hi hln hc tk_no (fun W pn xe tk po => ⟨fun pins s σ H D I h => h pn xe tk po pins s I⟩) (fun a oe cls d pn hz hf => ⟨fun pins s σ H D I h => h oe pn hz hf pins s I⟩)) ?_
  intro pn xe tk po
  refine WSs.ends (hb (X.tr pn xe) (fun a => Fin P NoErr (kn a)) _ ⟨rfl, rfl, rfl, rfl, rfl, rfl, rfl, rfl⟩ ⟨C.calm, C.nd, C.room, po⟩ ⟨_, tk, fun e he cls dd B' H' S' x' r => ?_⟩ (fq F1)) ⟨fun σ2 H2 z => nx (Ex.refl _) z, fun _ _ z => z, fun _ _ z => z.elim, fun _ _ z => z.elim⟩
  have he' : l.contains e.cls = true ∧ Fin (fun a => Fin P NoErr (sel kr kn a)) NoErr (mh e) := by
    unfold hdl at he
    by_cases q : l.contains e.cls = true
    · rw [if_pos q] at he
      exact ⟨q, he⟩
    · rw [if_neg q] at he
      exact he.elim
  obtain ⟨C1, m1, k1⟩ := hx _ he'.1
  obtain ⟨C2, m2, k2⟩ := r.c
  have m2' : X.mg e.cls = some (.ref C2) := m2
  rw [m1] at m2'
  cases m2'
  subst k2
  refine ⟨true, k1, fun _ a na oe pn2 hz hf => ?_, fun z => by cases z⟩
  have h2 := hs (X.suite a ((a, oe) :: pn2)) (a, oe) e ⟨rfl, rfl, rfl, rfl, rfl, rfl, rfl, rfl⟩ ⟨C.nd, ⟨C.room.dp, C.room.un⟩, ⟨rfl, by obtain ⟨vs, hv⟩ := hf; exact ⟨vs, hv, hz.2.2 vs hv⟩⟩, List.mem_cons_self .., PassesOwn.never⟩ B' H' (fun a => Fin P NoErr (kn a)) S' x' ⟨_, _, hz, hf, ⟨⟨C1, m1, rfl⟩, r.f⟩⟩ he'.1 (fq he'.2)
  exact WSs.ends h2 ⟨fun σ2 H2 z => nx x' z, fun _ _ z => z, fun _ _ z => z.elim, fun _ _ z => z.elim⟩
end

/-! ### the law's tables: the classes that come, whom they are beneath -/
def IsAll (K : PySem.W.Frag) (mg : MG) (RL : List Str) (D : Str) (L : List Str) : Prop := ∀ cn, RL.contains cn = true → IsT K mg cn D (L.contains cn)
/-- .. beneath a class of the language -/
def IsTB (K : PySem.W.Frag) (mg : MG) (cn : Str) (T : String) (b : Bool) : Prop := ∃ C, mg cn = some (.ref C) ∧ IsK K C ∧ PySem.W.kitOne K (.ref C) (.type T) = some b
def IsAllB (K : PySem.W.Frag) (mg : MG) (RL : List Str) (T : Str) (T2 : String) (L : List Str) : Prop := mg T = none ∧ ∀ cn, RL.contains cn = true → IsTB K mg cn T2 (L.contains cn)
/-- what an except clause with the class x takes -/
def ExAll (K : PySem.W.Frag) (mg : MG) (l : List Str) (x : Str) : Prop := ∃ C, mg x = some (.ref C) ∧ ∀ cn, l.contains cn = true → ∃ A, mg cn = some (.ref A) ∧ PySem.W.exmOne K (.ref A) (.ref C) = some true
section
variable {K : PySem.W.Frag} {mg : MG} {RL L : List Str} {c D x : Str} {Q : Str → Prop}
theorem all_cons (h : Q c) (r : ∀ cn, RL.contains cn = true → Q cn) : ∀ cn, (c :: RL).contains cn = true → Q cn := fun cn z => by
  rcases List.mem_cons.mp (List.contains_iff_mem.mp z) with e | e
  · rw [e]
    exact h
  · exact r cn (List.contains_iff_mem.mpr e)
theorem all_nil : ∀ cn, ([] : List Str).contains cn = true → Q cn := fun cn z => by cases z
end
theorem kit_cl {K : PySem.W.Frag} {t : Value} {D : Addr} {b : Bool} (h2 : PySem.W.isClsIn K D = true) (h3 : PySem.W.typeIn K (.ref D) = some (.type "type")) (h4 : PySem.W.subIn K t (.ref D) = some b) : PySem.W.kitCls K t (.ref D) = some b := by
  have e : ((PySem.W.clsIn K D).isSome && PySem.W.typeIn K (.ref D) == some (.type "type")) = true := by
    rw [show (PySem.W.clsIn K D).isSome = true from h2, h3] <;> rfl
  unfold PySem.W.kitCls
  dsimp only
  rw [if_pos e]
  exact h4
theorem kit_ref {K : PySem.W.Frag} {C D : Addr} {b : Bool} (h2 : PySem.W.isClsIn K D = true) (h3 : PySem.W.typeIn K (.ref D) = some (.type "type")) (h4 : PySem.W.subIn K (.ref C) (.ref D) = some b) (hn : (Value.ref C == Value.ref D) = false) : PySem.W.kitOne K (.ref C) (.ref D) = some b := by
  unfold PySem.W.kitOne
  rw [hn, if_neg Bool.false_ne_true]
  exact kit_cl h2 h3 h4
theorem kit_self {K : PySem.W.Frag} {C : Addr} : PySem.W.kitOne K (.ref C) (.ref C) = some true := by
  unfold PySem.W.kitOne
  rw [if_pos (beq_self_eq_true _)]
theorem kit_typ {K : PySem.W.Frag} {C : Addr} {T : String} {b : Bool} (h1 : PySem.W.kitMeta T = true) (h4 : PySem.W.subIn K (.ref C) (.type T) = some b) : PySem.W.kitOne K (.ref C) (.type T) = some b := by
  have hn : (Value.ref C == Value.type T) = false := by
    rw [beq_eq_false_iff_ne]
    exact fun z => nomatch z
  unfold PySem.W.kitOne
  rw [hn, if_neg Bool.false_ne_true]
  unfold PySem.W.kitCls
  dsimp only
  rw [if_pos h1]
  exact h4
theorem exm_of {K : PySem.W.Frag} {C D : Addr} {b : Bool} (h1 : PySem.W.subIn K (.ref D) (.type "BaseException") = some true) (h2 : PySem.W.isClsIn K D = true) (h3 : PySem.W.typeIn K (.ref D) = some (.type "type")) (h4 : PySem.W.subIn K (.ref C) (.ref D) = some b) : PySem.W.exmOne K (.ref C) (.ref D) = some b := by
  have e : (PySem.W.subIn K (.ref D) (.type "BaseException") == some true) = true := by rw [h1] <;> rfl
  unfold PySem.W.exmOne
  rw [if_pos e]
  exact kit_cl h2 h3 h4
theorem Tr.isB {X X' : Cx} (t : Tr X X') (h : IsB X.K) : IsB X'.K := by rw [t.K]; exact h
theorem Tr.isA {X X' : Cx} {RL L : List Str} {D : Str} (t : Tr X X') (h : IsAll X.K X.mg RL D L) : IsAll X'.K X'.mg RL D L := by rw [t.K, t.mg]; exact h
theorem Tr.isAB {X X' : Cx} {RL L : List Str} {D : Str} {D2 : String} (t : Tr X X') (h : IsAllB X.K X.mg RL D D2 L) : IsAllB X'.K X'.mg RL D D2 L := by rw [t.K, t.mg]; exact h
theorem Tr.exA {X X' : Cx} {RL : List Str} {D : Str} (t : Tr X X') (h : ExAll X.K X.mg RL D) : ExAll X'.K X'.mg RL D := by rw [t.K, t.mg]; exact h
theorem Tr.rz {X X' : Cx} {D : Str} (t : Tr X X') (h : Rz X.K X.mg D) : Rz X'.K X'.mg D := by rw [t.K, t.mg]; exact h
theorem Tr.mkt {X X' : Cx} {k : Nat} {n : Str} {CT : Addr} {ps : List Str} {sp : Sp} (t : Tr X X') (G : MkT X k n CT ps sp) : MkT X' k n CT ps sp := by
  unfold MkT
  rw [t.pr, t.w, t.K, t.mg, t.base]
  exact G
theorem Tr.tt {X X' : Cx} {C : Addr} (t : Tr X X') (h : TabTxt X.K C) : TabTxt X'.K C := by rw [t.K]; exact h
section
variable {X : Cx} {E : Ent} {own new own' : Own} {B H B' H' : Hp} {σ : L2.St} {α β γ τ ρ δ : Type} {R : Rel α} {S : Rel β} {T : Rel γ} {e a b c o it : Expr} {x : α} {y : β} {q pos pos' apos : Pos} {i j k k0 : Nat} {z w : Bool} {xs : List α} {es : List Expr} {p : Addr × Obj}
variable {n m : Str} {rest body other : List Stmt} {D : Ends} {P : ρ → Prop} {Er : Err → Prop} {ps : List Str} {A : AR} {er : Err}
def rIsXB (K : PySem.W.Frag) (mg : MG) (p : Addr × Obj) (er : Err) : List V → Hp → VK → Prop := fun xs H Q => ∃ (D : Addr) (T : String) (b : Bool), xs = [.ref p.1, .ty T] ∧ mg er.cls = some (.ref D) ∧ IsK K D ∧ ExP mg H p er ∧ PySem.W.kitOne K (.ref D) (.type T) = some b ∧ Q (.bl b) H
theorem cr_isXB (IB : IsB X.K) (C : Hok X k0 p) : CallR X (.builtin "isinstance") (rIsXB X.K X.mg p er) := by
  intro pins s σ H xs us Q I r h
  obtain ⟨D, Tn, b, rfl, hmg, T, hx, hk, q⟩ := h
  cases r with
  | cons rx rr =>
    cases rr with
    | cons rt rr =>
      cases rr
      cases rx
      cases rt
      obtain ⟨cls, d, h1, h2, ⟨⟨C2, c1, c2⟩, h4⟩⟩ := hx
      have eD : C2 = D := by
        rw [hmg] at c1
        cases c1
        rfl
      subst eD
      obtain ⟨od, J, _⟩ := instAt_of (I.hok) (I.pin p (List.mem_append.mpr (.inl C.mem))).1 h1 h2 c2 h4
      exact PySem.W.kia_one (PySem.W.kitx_exc T.hcl T.hga T.hgt T.hsub T.ha IB.hn IB.ht T.hm) I.kIn J hk (fun z => nomatch z) fun tk => ⟨.bl b, H, I.kept (t' := tk) fun _ _ z => z, rfl, q⟩
theorem ev_isXB {cs : Str} {cn : String} {p2 : Pos} {z : Bool} (IB : IsB X.K) (C : Hok X k0 p) (hg : Gl X "isinstance") (hm : X.mg "isinstance" = none) (hgc : Gl X cs) (hmc : X.mg cs = none) (hv : bootBuiltins cs = some (.type cn)) (hp : PE X a (tVar i)) (h : σ[i]? = some (some (.ref p.1))) (hx : ExP X.mg B p er) (ht : IsTB X.K X.mg er.cls cn z)
    (hn : cs ≠ "__name__" := by decide) (hdb : (cs == ("__debug__" : Str)) = false := by decide) (hs : starEach (a :: [.Name cs p2]) X.env = (false, eval a X.env) :: starEach [.Name cs p2] X.env := by rfl) (hs2 : St1 X (.Name cs p2) := by rfl) (hpl : (backTo pos (starEach [.Name cs p2] X.env)).any (·.1) = false := by rfl) :
    EvB X E own B H σ (.Call (.Name "isinstance" q) [a, .Name cs p2] [] pos) rBool z := fun B1 H1 S1 e1 e2 Q k => by
  obtain ⟨C1, m1, T, hk⟩ := ht
  exact WE.of (pe_callB (cr_isXB (er := er) IB C) hg hm (by decide +kernel) (pa_cons hp (pa_cons (pe_bltn (v := .ty cn) hgc hmc hv rfl hn hdb) pa_nil hs2) hs) (he := hs) (hpl := hpl)) ⟨.ref p.1, h, C1, cn, z, rfl, m1, T, (hx.mono e1).mono S1.bh.ex, hk, k _ B1 H1 S1 (Ex.refl _) (Ex.refl _) rfl⟩
theorem s_tryN {ρ' : Type} {x : Str} {np p' : Pos} {b₀ : Stmt} {suite : List Stmt} {mb : Res (ρ' ⊕ τ)} {mh : Err → Res (ρ' ⊕ τ)} {kr : ρ' → Res ρ} {kn : τ → Res ρ} {l : List Str} (TX : Tp X) (C : Cok X k) (L : Slot X i n) (hln : X.env.kindOf n = some .local) (EA : ExAll X.K X.mg l x) (hg : Gl X x) (S0 : Stt E own B H)
    (F : Fin P NoErr ((mb.catch (hdl l mh)).bind (sel kr kn)))
    (Inv : τ → L2.St → Own → Hp → Prop)
    (hb : ∀ (X' : Cx) (Q : τ → Prop) (Er : Err → Prop), Tr X X' → Cok X' k → XOk X' E own B σ Er → Fin (sel (fun u => Fin P NoErr (kr u)) Q) Er mb → WSs X' body { nx := TurnE E B Q Inv, rt := D.rt, bk := fun _ _ => False, ct := fun _ _ => False } σ H)
    (hs : ∀ (X' : Cx) (p : Addr × Obj) (er : Err), Tr X X' → Hok X' k p → ∀ B' H' (Q : τ → Prop), Stt E own B' H' → Ex B B' → ExP X'.mg B' p er → l.contains er.cls = true → Fin (sel (fun u => Fin P NoErr (kr u)) Q) NoErr (mh er) →
      WSs X' (b₀ :: suite) { nx := fun σ2 H2 => TurnE E B' Q Inv (σ2.set i none) H2, rt := D.rt, bk := fun _ _ => False, ct := fun _ _ => False } (σ.set i (some (.ref p.1))) H')
    (hd : ∀ a σ2 own2 B2 H2, Inv a σ2 own2 B2 → Stt E own2 B2 H2 → Ex B B2 → Fin P NoErr (kn a) → WSs X rest D σ2 H2) (hdb : (x == ("__debug__" : Str)) = false := by decide) :
    WSs X (.Try body [.ExceptHandler (some (.Name x np)) (some n) (b₀ :: suite) p'] [] [] pos :: rest) D σ H := by
  obtain ⟨Cc, m, q⟩ := EA
  exact s_try TX C L.ix hln ⟨hg, hdb, .inl m⟩ S0 F q Inv hb hs hd
end
theorem Scp.kind {X : Cx} {N : List Str} {sc : Scope} {t : List (Str × NameKind)} {x : Str} {kd : NameKind} (V : Scp X N sc) (h : nmOk sc t = true) (j : Nat) (hj : t[j]? = some (x, kd) := by rfl) : X.env.kindOf x = some kd := by
  obtain ⟨q1, _⟩ := nmOk.at h hj
  show X.env.scope.names.lookup x = _
  rw [V.sc, q1]
theorem Res.sure_ok {α β : Type} {m : Res α} {f : α → Res β} {y : β} (h : m.sure.bind f = .ok y) : ∃ x, m = .ok x ∧ f x = .ok y := by
  cases m with
  | ok x => exact ⟨x, rfl, h⟩
  | err e => cases h
  | stuck => cases h
end Sg

namespace Sg
open PySem PySem.Spec PyProof.Rows L2

/-! ### classes with an own __init__ of one field -/
/-- the base class's text -/
structure FeK (K : PySem.W.Frag) (CF : Addr) : Prop where
  sg : PySem.W.specialIn K (.ref CF) "__getattribute__" = some (some (.builtin "type.__getattribute__"))
  rd : PySem.W.readsIn K CF (.type "type") = true
  fc : PySem.W.findCls K (.ref CF) (.type "type") "__init__" = some (.val (.builtin "ValueError.__init__"))
section
variable {X : Cx} {σ : L2.St} {H : Hp} {es : List Expr} {e : Expr} {p p1 p2 pos : Pos} {ta : TA}
theorem pe_feI {pl : Sem Bool} {n : Str} {CF : Addr} (FK : FeK X.K CF) (hg : Gl X n) (hm : X.mg n = some (.ref CF)) (hdb : (n == ("__debug__" : Str)) = false) (ha : PA X (e :: es) ta)
    (hc : eval (.Call (.Attribute (.Name n p1) "__init__" p2) (e :: es) [] pos) X.env = (do
      let ov ← eval (.Name n p1) X.env
      standAt p2.atName
      let (f, first) ← holding [ov] (getMethod ov "__init__" pl)
      callWith pos f first (backTo pos (starEach (e :: es) X.env)) (backToKw pos (keywordEach [] X.env))) := by rfl)
    (he : starEach (e :: es) X.env = (false, eval e X.env) :: starEach es X.env := by rfl) (hpl : (backTo pos (starEach es X.env)).any (·.1) = false := by rfl) :
    PE X (.Call (.Attribute (.Name n p1) "__init__" p2) (e :: es) [] pos) (tVeI X.K ta) := by
  constructor
  intro pins s σ H Q I h
  refine PySem.W.methodCall_KW (ld_glob I hg hm ?_ hdb) hc
  refine PySem.W.method_cls I.kIn FK.sg (PySem.W.cls_value I.kIn FK.rd FK.fc (by decide +kernel) ?_)
  refine PyProof.Rows.callWith_method1 (thn (ha.run pos pins _ σ H _ (I.tok _) h) fun us s2 hh => ?_) he hpl
  obtain ⟨vs, H1, I1, r1, a, C, ws, ev, hl, T, ea, q⟩ := hh
  subst ev
  cases r1 with
  | @cons _ u0 _ ur ra rw' =>
    cases (show u0 = Value.ref a from ra)
    refine oinit_ok T I1 ea ?_ fun s' J => ⟨.non, H1, J, rfl, q⟩
    have := Paired.length rw'
    rw [sizeLine_eq]
    omega
end
/-- what such an __init__ does -/
def SpE1 (f : Str) : Sp := fun vs H Q _ => ∃ (a C : Addr) (K : PySem.W.Frag) (v : V), vs = [.ref a, v] ∧ OexC K C ∧ PySem.W.findIn K (.ref C) f = some none ∧ H a = some (exo a C none) ∧
  ∀ dx, H dx = none → dx ≠ a → Q .non (upd (upd H dx (exd dx [(f, v)])) a (exo a C (some dx)))
/-- the promise with the written part of the text -/
def SpE (K : PySem.W.Frag) (f : Str) : Sp := fun vs H Q _ => ∃ (a C : Addr) (v : V), vs = [.ref a, v] ∧ OexC K C ∧ PySem.W.findIn K (.ref C) f = some none ∧ H a = some (exo a C none) ∧
  ∀ dx, H dx = none → dx ≠ a → Q .non (upd (upd H dx (exd dx [(f, v)])) a (exo a C (some dx)))
section
variable {P : Program} {w : World} {K : PySem.W.Frag} {mg : Str → Option Value} {base : Heap}
/-- def __init__(self, x): Base.__init__(self, text); self.f = x -/
theorem ini_ok {qual fl an msg : Str} {st : Stmt} {f CF : Addr} {fd : FuncData} {k j : Nat} {p0 p1 p2 p3 p4 p5 p6 p7 p8 p9 : Pos} (F : Fun K "__init__" qual st f fd) (S : FnScope ["self", an] ["self", an] (defScope st)) (tb : nmOk (defScope st) [("self", .local), (an, .local), ("FormError", .globalImplicit)] = true)
    (hb : defBody st = [.Expr (.Call (.Attribute (.Name "FormError" p0) "__init__" p1) [.Name "self" p2, .Constant (.str msg) j p3] [] p4) p5, .Assign [.Attribute (.Name "self" p6) fl p7] (.Name an p8) p9])
    (FK : FeK K CF) (hm : mg "FormError" = some (.ref CF))
    (hc : ∀ env : Env, ∃ pl : Sem Bool, eval (.Call (.Attribute (.Name "FormError" p0) "__init__" p1) [.Name "self" p2, .Constant (.str msg) j p3] [] p4) env = (do
      let ov ← eval (.Name "FormError" p0) env
      standAt p1.atName
      let (f, first) ← holding [ov] (getMethod ov "__init__" pl)
      callWith p4 f first (backTo p4 (starEach [.Name "self" p2, .Constant (.str msg) j p3] env)) (backToKw p4 (keywordEach [] env)))) : FnOk P w K mg base CX0 (k + 1) f fd ["self", an] (SpE K fl) := by
  refine F.ok S (fun vs H Q E h => ?_) (fun cdv A outer s H vs Q E hr h => ?_)
  · obtain ⟨a, C, v, rfl, _⟩ := h
    rfl
  obtain ⟨a, C, v, rfl, T, hno, ea, q⟩ := h
  have V : Scp ((cxOf CX0 P w K mg base ["self", an] qual (defScope st) f cdv A outer s H E).nox) ["self", an] (defScope st) := ⟨rfl, rfl⟩
  have hs : ∀ pq, PE _ (.Name "self" pq) (tVar 0) := fun pq => V.var (pos := pq) tb 0 0
  have hx : ∀ pq, PE _ (.Name an pq) (tVar 1) := fun pq => V.var (pos := pq) tb 1 1
  obtain ⟨pl, hpl⟩ := hc ((cxOf CX0 P w K mg base ["self", an] qual (defScope st) f cdv A outer s H E).nox).env
  rw [hb]
  refine ⟨_, pss_cons (ps_expr (pe_feI (pl := pl) (hc := hpl) FK (V.gl tb 2) hm (by decide) (pa_cons (hs _) (pa_cons pe_str pa_nil)))) (pss_cons (ps_ost (hs _) (hx _)) pss_nil), ?_⟩
  refine ⟨.ref a, rfl, a, C, [.str msg], rfl, Nat.le_of_ble_eq_true rfl, T, ea, ?_⟩
  exact ⟨v, rfl, .ref a, rfl, a, C, rfl, T, hno, .inl ⟨ea, fun dx hd hn => q dx hd hn⟩⟩
end
/-- C(v), a class with such an __init__: its context is None -/
theorem pmkN {X : Cx} {CX : CXT} {x : Str} {e : Expr} {es : List Expr} {ta : TA} {p pos : Pos} {C fI : Addr} {k : Nat} {fd : FuncData} {ps : List Str} {sp : Sp} (T : OexC X.K C) (iC : PySem.W.findIn X.K (.ref C) "__init__" = some (some (.ref fI))) (tI : PySem.W.typeIn X.K (.ref fI) = some (.type "function"))
    (F1 : FnOk X.prog X.w X.K X.mg X.base CX k fI fd ps sp) (hr : Room (k + 1) X.A) (hb : Binds X.K fd ps []) (hx : Passes CX X (fun _ _ _ => False)) (hg : Gl X x) (hm : X.mg x = some (.ref C)) (ha : PA X (e :: es) ta)
    (hdb : (x == ("__debug__" : Str)) = false) (he : starEach (e :: es) X.env = (false, eval e X.env) :: starEach es X.env := by rfl) (hpl : (backTo pos (starEach es X.env)).any (·.1) = false := by rfl) :
    L2N.PMk X (.Call (.Name x p) (e :: es) [] pos) (tMkO C sp [] ta) := by
  intro pins s σ H Q I h
  have TC := T.cls
  obtain ⟨nm, q, N, bs, bm, sn, sub, ab, col, dd, k0, k1, k2, k3, k5, hC, hbm⟩ := TC
  refine wpAny_Call_Name_kw (ld_glob I hg hm (PySem.W.callWith_K (h₀ := X.base) I.ok.mod.kin T.kC (thn (ha.run pos pins s σ H _ I h) fun us s1 hh => ?_) he hpl) hdb)
  obtain ⟨vs, H1, I1, r1, hz, q1⟩ := hh
  refine ⟨I1.kIn, ?_⟩
  obtain ⟨hp, g, dr, tk, os⟩ := s1
  show wpAny _ _ (call (.ref C) us) _ _ _
  have up : hp.objs.size ≤ hp.objs.size + 1 := Nat.le_succ _
  have free : H1 (hp.objs.size + 1) = none := I1.hok.fresh up
  have keeps : ∀ b o, hp.get? b = some o → ((hp.push (PySem.W.kdv_tup us)).push (PySem.HandSPX.excO C hp.objs.size)).get? b = some o := fun b o z => Heap.get?_push_of_some _ (Heap.get?_push_of_some _ z)
  have made : ((hp.push (PySem.W.kdv_tup us)).push (PySem.HandSPX.excO C hp.objs.size)).get? (hp.objs.size + 1) = some (PySem.HandSPX.excO C hp.objs.size) := by heap_get
  have I2 := I1.laid (t' := tk) (a := hp.objs.size + 1) (o := exo (hp.objs.size + 1) C none) keeps up (exo_ok made)
  have hq := q1 (hp.objs.size + 1) free
  rw [List.append_nil] at hq
  have rv2 : Vals (V.ref (hp.objs.size + 1) :: vs) (Value.ref (hp.objs.size + 1) :: us) := .cons rfl r1
  have len2 : (Value.ref (hp.objs.size + 1) :: us ++ []).length = ps.length := by
    rw [List.append_nil, ← rv2.length]
    exact F1.len _ _ _ _ hq
  have small : us.length ≤ sizeLine := by
    have := Paired.length r1
    rw [sizeLine_eq]
    omega
  have bnd := hb _ (Value.ref (hp.objs.size + 1) :: us) I2.kIn len2
  rw [List.append_nil] at bnd
  have run := F1.run _ X.stack _ _ ⟨Value.ref (hp.objs.size + 1) :: us, []⟩ (Value.ref (hp.objs.size + 1) :: us) _ _ (fun _ _ _ => False) (hr.make C us []) (I2.env0.make C us []) bnd rv2 hq
  refine wpAny_call (PySem.HandSPX.call_own F.excBase_ValueError (fun Y => PySem.HandSPX.refsVE_contains Y bm hbm) (I1.kIn _ _ hC) (PySem.W.looks_findIn I1.kIn iC) (fun self => PySem.W.bind_fn I1.kIn self tI) small (codeAny_mono run fun r s' hr' => ?_))
  cases r with
  | error er => exact hx pins σ _ _ er s' I2 hr'
  | ok fl =>
    cases fl with
    | brk => exact hr'.elim
    | cont => exact hr'.elim
    | next => exact hr'.elim
    | ret u =>
      obtain ⟨v, H2, os2, bare2, un2, hok2, rv, ev, d, fs, ea, ed, hd1, q2⟩ := hr'
      cases ev
      obtain ⟨h2, g2, d2, t2, os'⟩ := s'
      obtain ⟨t0, G, J, kG, ge, hoe, na⟩ := mk_end0 (d2 := d2) (t2 := t2) I1 up keeps un2 hok2 os2 bare2 ea ed hd1
      exact ⟨rv, hp.objs.size + 1, _, _, ⟨G, g2, d2, t2, os'⟩, _, .ref C, some d, rfl, J, kG, ge, hoe, ⟨rfl, rfl, fun vs hv => by cases hv; rfl⟩, rfl, rfl, na, rfl, bare2, raises_own T.exC T.tyC, q2⟩
/-- a class with an __init__ of the field f -/
def RzI (P : Program) (w : World) (K : PySem.W.Frag) (mg : MG) (base : Heap) (c f : Str) (ps : List Str) : Prop := ∃ (C fI : Addr) (fd : FuncData), mg c = some (.ref C) ∧ OexC K C ∧ PySem.W.findIn K (.ref C) "__init__" = some (some (.ref fI)) ∧ PySem.W.typeIn K (.ref fI) = some (.type "function") ∧ PySem.W.findIn K (.ref C) f = some none ∧
  FnOk P w K mg base CX0 1 fI fd ps (SpE K f) ∧ Binds K fd ps []
theorem Tr.rzi {X X' : Cx} {c f : Str} {ps : List Str} (t : Tr X X') (h : RzI X.prog X.w X.K X.mg X.base c f ps) : RzI X'.prog X'.w X'.K X'.mg X'.base c f ps := by
  rw [t.pr, t.w, t.K, t.mg, t.base]
  exact h
section
variable {X : Cx} {E : Ent} {own new own' : Own} {B H B' H' : Hp} {σ : L2.St} {α β γ τ ρ δ : Type} {R : Rel α} {S : Rel β} {T : Rel γ} {e a b c o it : Expr} {x : α} {y : β} {q pos pos' apos : Pos} {i j k k0 : Nat} {z w : Bool} {xs : List α} {es : List Expr} {p : Addr × Obj}
variable {n m : Str} {rest body other : List Stmt} {D : Ends} {P : ρ → Prop} {Er : Err → Prop} {ps : List Str} {A : AR} {er : Err}
theorem s_raise1 {cn f : Str} {u : Int} {p1 p3 : Pos} (XO : XOk X E own B σ Er) (C : Cok X k) (hk : 2 ≤ k) (hz : RzI X.prog X.w X.K X.mg X.base cn f ps) (hg : Gl X cn) (S0 : Stt E own B H) (he : EvB X E own B H σ e rInt u) (hE : Er ⟨cn, [(f, .int u)]⟩) (hdb : (cn == ("__debug__" : Str)) = false := by decide)
    (hs : starEach (e :: []) X.env = (false, eval e X.env) :: starEach [] X.env := by rfl) : WSs X (.Raise (some (.Call (.Name cn p1) [e] [] p3)) none pos :: rest) D σ H := by
  obtain ⟨W, tk, hW⟩ := XO
  obtain ⟨C0, fI, fd, m1, T, iC, tI, hno, F1, hb⟩ := hz
  refine WSs.cons (L2N.ps_raise C.calm tk (pmkN T iC tI F1 (C.room.mono hk) hb (fun _ _ _ _ _ _ _ z => z.elim) hg m1 (pa_cons peW pa_nil hs) hdb hs)) (he B H S0 (Ex.refl _) (Ex.refl _) _ fun v B2 H2 S2 e1 _ r => ⟨Nat.le_of_ble_eq_true rfl, fun a ha => ?_⟩)
  have r : v = .int u := r
  subst r
  refine ⟨a, C0, .int u, rfl, T, hno, upd_same, fun dx hd hn => ⟨rfl, dx, [(f, .int u)], upd_same, by rw [upd_ne hn, upd_same], by rw [← hd, upd_ne hn], ?_⟩⟩
  have hd2 : H2 dx = none := by rw [← hd, upd_ne hn]
  have eH : upd (del (upd (upd (upd H2 a (exo a C0 none)) dx (exd dx [(f, V.int u)])) a (exo a C0 (some dx))) a) dx (.xd [(f, V.int u)]) = upd H2 dx (.xd [(f, V.int u)]) := by
    funext y
    by_cases hy : y = dx
    · rw [hy, upd_same, upd_same]
    · rw [upd_ne hy, upd_ne hy]
      by_cases ha' : y = a
      · rw [ha', del_same, ha]
      · rw [del_ne ha', upd_ne ha', upd_ne hy, upd_ne ha']
  rw [eH]
  exact hW _ hE _ _ _ _ (S2.lay hd2) (e1.trans (S2.layB hd2).ex) ⟨⟨C0, m1, rfl⟩, .inr ⟨dx, [(f, .int u)], rfl, upd_same, .cons ⟨rfl, rfl⟩ .nil⟩⟩

/-! ### its fields -/
def fldI (e : Err) (f : Str) : Option Int := match e.fs.lookup f with
  | some (.int i) => some i
  | _ => none
/-- no class that comes has the field's name for itself -/
def NoFld (K : PySem.W.Frag) (mg : MG) (RL : List Str) (f : Str) : Prop := ∀ cn, RL.contains cn = true → ∃ C, mg cn = some (.ref C) ∧ IsK K C ∧ PySem.W.findIn K (.ref C) f = some none
theorem Tr.noFld {X X' : Cx} {RL : List Str} {D : Str} (t : Tr X X') (h : NoFld X.K X.mg RL D) : NoFld X'.K X'.mg RL D := by rw [t.K, t.mg]; exact h
theorem fld_look {Bq : Hp} {f : Str} {u : Int} : ∀ {fv : List (Str × V)} {fs : List (Str × ED)}, Paired (fun (p : Str × V) (q : Str × ED) => p.1 = q.1 ∧ EDv Bq p.2 q.2) fv fs → fs.lookup f = some (.int u) → fv.lookup f = some (.int u)
  | _, _, .nil, h => by cases h
  | _, _, .cons (a := a) (b := b) h r, hl => by
    obtain ⟨a1, a2⟩ := a
    obtain ⟨b1, b2⟩ := b
    obtain ⟨h1, h2⟩ := h
    have h1 : a1 = b1 := h1
    subst h1
    rw [List.lookup_cons] at hl ⊢
    cases q : f == a1 with
    | true =>
      rw [q] at hl
      cases hl
      exact congrArg some h2
    | false =>
      rw [q] at hl
      exact fld_look r hl
theorem ev_fldI {f : Str} {u : Int} {pn : Pos} {RL : List Str} (C : Hok X k0 p) (hp : PE X a (tVar i)) (h : σ[i]? = some (some (.ref p.1))) (hx : ExP X.mg B p er) (hl : RL.contains er.cls = true) (NF : NoFld X.K X.mg RL f) (hf : fldI er f = some u) (hb : attributeBase a f X.env (eval a X.env) = eval a X.env := by rfl) :
    EvB X E own B H σ (.Attribute a f pn) rInt u := fun B1 H1 S1 e1 e2 Q k2 => by
  have PEx : PE X (.Attribute a f pn) (fun σ H Q => (∃ v, σ[i]? = some (some v) ∧ v = .ref p.1) ∧ ExP X.mg H p er ∧ Q (.int u) H) := by
    constructor
    intro pins s σ H Q I hh
    obtain ⟨⟨v, h1, rfl⟩, h2, h3⟩ := hh
    refine attr_of hb (thn (hp.run pins s σ H (fun v H' => v = .ref p.1 ∧ H' = H) I ⟨_, h1, rfl, rfl⟩) fun w s1 hw => ?_)
    obtain ⟨v, H1, I1, rv, rfl, rfl⟩ := hw
    cases (show w = Value.ref p.1 from rv)
    obtain ⟨D0, m1, T, hno⟩ := NF _ hl
    obtain ⟨cls, d, q1, q2, ⟨⟨C2, c1, c2⟩, q4⟩⟩ := h2
    rw [m1] at c1
    cases c1
    obtain ⟨od, J, hod⟩ := instAt_of I1.hok (I1.pin p (List.mem_append.mpr (.inl C.mem))).1 q1 q2 c2 q4
    have hlk : er.fs.lookup f = some (.int u) := by
      unfold fldI at hf
      split at hf
      · rename_i i hi
        cases hf
        exact hi
      · cases hf
    rcases hod with ⟨z1, _, _⟩ | ⟨dx, ob, fv, mA, z1, z2, z3, z4, z5, z6⟩
    · rw [z1] at hlk
      cases hlk
    · have hlv := fld_look z6 hlk
      have := z5 f
      rw [hlv] at this
      obtain ⟨u2, hu2, ru2⟩ := RelO.some_of (v := V.int u) (o := mA f) this
      subst z2
      exact HandSPX.exc_get I1.kIn J T.hga T.hgt T.hsub (PySem.W.findObj_own T.hdC hno rfl (by rw [z4, hu2])) (handed_of ru2) ⟨.int u, _, I1.tok _, ru2, h3⟩
  exact WE.of PEx ⟨⟨_, h, rfl⟩, (hx.mono e1).mono S1.bh.ex, k2 _ B1 H1 S1 (Ex.refl _) (Ex.refl _) rfl⟩

/-! ### isinstance of it, a tuple of classes asked for -/
/-- their names, their classes -/
def IsAllT (K : PySem.W.Frag) (mg : MG) (RL Ds : List Str) (L : List Str) : Prop := ∃ cs : List Addr, Paired (fun (d : Str) (c : Addr) => mg d = some (.ref c)) Ds cs ∧ ∀ cn, RL.contains cn = true → ∃ C, mg cn = some (.ref C) ∧ IsK K C ∧ PySem.W.kitAny K (.ref C) (cs.map Value.ref) = some (L.contains cn)
theorem Tr.isAT {X X' : Cx} {RL L D : List Str} (t : Tr X X') (h : IsAllT X.K X.mg RL D L) : IsAllT X'.K X'.mg RL D L := by rw [t.K, t.mg]; exact h
theorem kany_t {K : PySem.W.Frag} {t c : Value} {r : List Value} (h : PySem.W.kitOne K t c = some true) : PySem.W.kitAny K t (c :: r) = some true := by
  unfold PySem.W.kitAny
  rw [h]
theorem kany_f {K : PySem.W.Frag} {t c : Value} {r : List Value} {b : Bool} (h : PySem.W.kitOne K t c = some false) (g : PySem.W.kitAny K t r = some b) : PySem.W.kitAny K t (c :: r) = some b := by
  unfold PySem.W.kitAny
  rw [h]
  exact g
end
end Sg

namespace Sg
open PySem PySem.Spec PyProof.Rows L2

/-! ### any(a list) while an exception is handled -/
section
variable {prog : Program} {w : World} {A : Around} {E : Value → Shared → Prop} {s : Shared}
theorem hot_list_end {it l x1 : Addr} {i : Nat} {items : Array Value} {Q : Option Value → Shared → Prop} (hot : HotX.HotAt A x1 s.heap) (hne : x1 ≠ it) (hit : s.heap.IsListIter it l i) (hl : s.heap.IsList l items) (hx : items[i]? = none)
    (hQ : ∀ h', Heap.ExtBut it s.heap h' → Q none { s with heap := h' }) : wpAny (model prog w) A (pyNext (.ref it)) Q E s := by
  obtain ⟨hh, o1, vs1, g1, d1, c1⟩ := hot
  obtain ⟨ol, hol, _, nl, hdl⟩ := hl
  have hit0 := hit
  obtain ⟨o, ho, hc, hd⟩ := hit
  unfold pyNext
  refine wpAny_bind (wpAny_attempt (wpAny_callSpecial?_slot (name := Str.ofString "__next__") hit0.typeIs slot_listiter_next (wpAny_call_entry slot_listiter_next hit0.typeIs entry_listiter_next ?_ (args_listiter_next _))))
  show wpAny _ _ (field (.ref it) 0 >>= _) _ _ s
  refine wpAny_bind (wpAny_field ho hd (x := .ref l) rfl ?_)
  show wpAny _ _ (if (Value.ref l == Value.none) = true then _ else _) _ _ s
  have hln : (Value.ref l == Value.none) = false := rfl
  rw [hln, if_neg Bool.false_ne_true]
  show wpAny _ _ (field (.ref it) 1 >>= _) _ _ s
  refine wpAny_bind (wpAny_field ho hd (x := .int i 0) rfl ?_)
  show wpAny _ _ (seqItems? (.ref l) >>= _) _ _ s
  refine wpAny_bind (wpAny_seqItems hol hdl ?_)
  simp only [Int.toNat_natCast, hx]
  have g2 : (s.heap.update it (Obj.mapFields (·.setIfInBounds 0 Value.none))).get? x1 = some o1 := (Heap.get?_update_other _ _ (Ne.symm hne)).trans g1
  refine wpAny_bind (wpAny_rule (wpAny_bind (wpAny_setField ho hd (by simp) ?_)))
  show wpAny _ _ (newExc (.type "StopIteration") [] >>= _) _ _ _
  refine wpAny_bind ?_
  simp only [newExc, newTuple]
  refine wpAny_bind (wpAny_newObj_type ?_ (by size_fits))
  refine wpAny_bind (m := firstArgMember _ _) (wpAny_of_eq (a := Value.none) (by first | rfl | (simp only [firstArgMember]; rfl)) ?_)
  refine wpAny_newObj_type ?_ (by size_fits)
  refine HotX.raiseNew_hot ⟨hh, o1, vs1, Heap.get?_push_of_some _ (Heap.get?_push_of_some _ g2), d1, c1⟩ (Nat.ne_of_lt (Heap.lt_size (Heap.get?_push_of_some _ g2))) (Heap.get?_push_size _ rfl) rfl (by first | (simp; done) | (simp; omega) | (simp only [Array.size_append]; simp; omega)) ?_
  refine wpAny_bind (wpAny_isInstance (T := "StopIteration") (b := true) ⟨_, Heap.get?_update_self _ (Heap.get?_push_size _ rfl) rfl, rfl⟩ isSubtype_stop (wpAny_pure (hQ _ fun b u hb e => ?_)))
  have e2 : (s.heap.update it (Obj.mapFields (·.setIfInBounds 0 Value.none))).get? b = some u := (Heap.get?_update_other _ _ (Ne.symm hb)).trans e
  rw [Heap.get?_update_other _ _ (Nat.ne_of_gt (Heap.lt_size (Heap.get?_push_of_some _ e2)))]
  exact Heap.get?_push_of_some _ (Heap.get?_push_of_some _ e2)
theorem walks_hot {p : Addr × Obj} (hot : L2H.Hot1 A p) (I ax : Addr) (hne : ax ≠ I) (hp : p.1 ≠ I) (items : Array Value) :
    Walks prog w A I [I, ax, p.1] [I] items.size (fun i v => items[i]? = some v) (fun i h => (h.IsListIter I ax i ∧ h.IsList ax items) ∧ h.get? p.1 = some p.2) where
  sub := fun b hb => by simp at hb; simp [hb]
  frame := fun _ _ _ st hk => ⟨⟨st.1.1.at fun o e => hk I (by simp) o e, st.1.2.at fun o e => hk ax (by simp) o e⟩, hk p.1 (by simp) _ st.2⟩
  item := fun i s Q E hi st hQ => by
    refine wpAny_pyNext_list_item st.1.1 st.1.2 (x := items[i]) (by simp [hi]) fun h' hit' hs' => ?_
    exact hQ _ h' s.toks (by simp [hi]) ⟨⟨hit', st.1.2.extBut hs'.extBut hne⟩, hs'.extBut _ _ hp st.2⟩ fun b o hb e => hs'.extBut b o (fun h => hb (by simp [h])) e
  done := fun s Q E st hQ => by
    obtain ⟨hh, vs, e1, e2⟩ := hot
    exact hot_list_end ⟨hh, p.2, vs, st.2, e1, e2⟩ hp st.1.1 st.1.2 (by simp) fun h' he' => hQ h' s.toks fun b o hb e => he' b o (fun h => hb (by simp [h])) e
  self := fun _ _ _ _ st hQ => wpAny_pyIter_listiter st.1.1 hQ
end
section
variable {X : Cx} {E : Ent} {own new own' : Own} {B H B' H' : Hp} {σ : L2.St} {α β γ τ ρ δ : Type} {R : Rel α} {S : Rel β} {T : Rel γ} {e a b c o it : Expr} {x : α} {y : β} {q pos pos' apos : Pos} {i j k k0 : Nat} {z w : Bool} {xs : List α} {es : List Expr} {p : Addr × Obj}
variable {n m : Str} {rest body other : List Stmt} {D : Ends} {P : ρ → Prop} {Er : Err → Prop} {ps : List Str} {A : AR} {er : Err}
theorem cr_anyH (C : Hok X k p) : CallR X (.builtin "any") (L2.rAny X.K) := by
  intro pins s σ H vs us Q I r h
  obtain ⟨ax, bs, rfl, hs, q⟩ := h
  obtain ⟨its, rv, hl, _⟩ := I.list hs
  rw [Vals.ref1 r]
  have hb := rv.bls
  have P1 := I.pin p (List.mem_append.mpr (.inl C.mem))
  refine call_any_walk (iter_any hl.isList fun s₂ e2 st hne => ?_)
  subst e2
  have hp : p.1 ≠ s.heap.objs.size := Nat.ne_of_lt (Heap.lt_size P1.1)
  refine ⟨_, _, _, _, _, _, _, rfl, walks_hot (A := X.A.in1) (p := p) ⟨C.hot.1, C.hot.2⟩ _ ax hne hp its.toArray, ⟨st, Heap.get?_push_of_some _ P1.1⟩, truth_bools hb, fun h' tk hk => ?_⟩
  refine ⟨.bl _, H, I.kept fun b o eo => hk b o (fun hmem => ?_) (Heap.get?_push_of_some _ eo), ?_, q⟩
  · rw [List.mem_singleton] at hmem
    exact absurd (hmem ▸ Heap.lt_size eo) (Nat.lt_irrefl _)
  · show Value.bool _ = Value.bool _
    rw [← L2.any_range, hb, List.size_toArray, List.length_map]
theorem ev_anyH {bs : List Bool} (C : Hok X k p) (hg : Gl X "any") (hm : X.mg "any" = none) (ha : EvB X E own B H σ a (rLst rBool) bs) (hs : St1 X a := by rfl) : EvB X E own B H σ (.Call (.Name "any" q) [a] [] pos) rBool (bs.any id) :=
  ev_b1 (f := fun l => List.any l id) (pe_callB (cr_anyH C) hg hm (by decide +kernel) (pa1 hs) (he := hs)) ha fun H1 v Q h k => by
    obtain ⟨p, vs, h1, h2, h3⟩ := h
    rw [bls_rel h3] at h2
    exact ⟨p, _, by rw [h1], .inl h2, k _ rfl⟩

/-! ### isinstance(e, (A, B, ..)) -/
/-- a class by its name -/
def rCls (mg : MG) : Rel Str := ⟨fun _ v d => ∃ C, mg d = some (.ref C) ∧ v = .ref C, fun _ h => h⟩
theorem ee_cls {d : Str} (hg : Gl X d) (hm : ∃ C, X.mg d = some (.ref C)) (hdb : (d == ("__debug__" : Str)) = false := by decide) : EvE X E own B H σ (.Name d q) (rCls X.mg) d := fun B1 H1 S1 e1 e2 Q k => by
  obtain ⟨C, hm⟩ := hm
  exact WE.of (pe_gref hg hm hdb) (k _ B1 H1 S1 (Ex.refl _) (Ex.refl _) ⟨C, hm, rfl⟩)
def rIsXT (K : PySem.W.Frag) (mg : MG) (p : Addr × Obj) (er : Err) : List V → Hp → VK → Prop := fun xs H Q => ∃ (D tp : Addr) (cs : List Addr) (b : Bool), xs = [.ref p.1, .ref tp] ∧ H tp = some (.tup (cs.map V.ref)) ∧ mg er.cls = some (.ref D) ∧ IsK K D ∧ ExP mg H p er ∧ PySem.W.kitAny K (.ref D) (cs.map Value.ref) = some b ∧ Q (.bl b) H
theorem refs_val : ∀ {cs : List Addr} {its : List Value}, Vals (cs.map V.ref) its → its = cs.map Value.ref
  | [], _, .nil => rfl
  | c :: cs, _, .cons (b := u) h r => by
    have h : u = Value.ref c := h
    rw [h, refs_val r]
    rfl
theorem cr_isXT (IB : IsB X.K) (C : Hok X k0 p) : CallR X (.builtin "isinstance") (rIsXT X.K X.mg p er) := by
  intro pins s σ H xs us Q I r h
  obtain ⟨D, tp, cs, b, rfl, ht, hmg, T, hx, hk, q⟩ := h
  cases r with
  | cons rx rr =>
    cases rr with
    | cons rt rr =>
      cases rr
      cases rx
      cases rt
      obtain ⟨cls, d, h1, h2, ⟨⟨C2, c1, c2⟩, h4⟩⟩ := hx
      have eD : C2 = D := by
        rw [hmg] at c1
        cases c1
        rfl
      subst eD
      obtain ⟨od, J, _⟩ := instAt_of (I.hok) (I.pin p (List.mem_append.mpr (.inl C.mem))).1 h1 h2 c2 h4
      obtain ⟨its, rv, ⟨o, g, hc, n, hd⟩, _⟩ := I.tuple (SqT.of ht)
      have ei := refs_val rv
      obtain ⟨oc, odd, oda, osl⟩ := o
      dsimp only at hc hd
      subst hc hd ei
      exact PySem.W.kia_tup (PySem.W.kitx_exc T.hcl T.hga T.hgt T.hsub T.ha IB.hn IB.ht T.hm) I.kIn J g hk (fun z => nomatch z) fun tk => ⟨.bl b, H, I.kept (t' := tk) fun _ _ z => z, rfl, q⟩
theorem cls_refs {mg : MG} {Hq : Hp} {Ds : List Str} {cs : List Addr} {vs : List V} (h1 : Paired (fun (d : Str) (c : Addr) => mg d = some (.ref c)) Ds cs) (h2 : Paired ((rCls mg).r Hq) vs Ds) : vs = cs.map V.ref := by
  induction h1 generalizing vs with
  | nil => cases h2; rfl
  | cons a r ih =>
    cases h2 with
    | cons b s =>
      obtain ⟨C, m, e⟩ := b
      rw [a] at m
      cases m
      rw [e, ih s]
      rfl
theorem ev_isXT {te : Expr} {Ds : List Str} {RL L : List Str} (IB : IsB X.K) (C : Hok X k0 p) (hg : Gl X "isinstance") (hm : X.mg "isinstance" = none) (hp : PE X a (tVar i)) (h : σ[i]? = some (some (.ref p.1))) (hx : ExP X.mg B p er) (hl : RL.contains er.cls = true) (IT : IsAllT X.K X.mg RL Ds L) (ht : EvE X E own B H σ te (rTup (rCls X.mg)) Ds)
    (hs : starEach (a :: [te]) X.env = (false, eval a X.env) :: starEach [te] X.env := by rfl) (hs2 : St1 X te := by rfl) (hpl : (backTo pos (starEach [te] X.env)).any (·.1) = false := by rfl) :
    EvB X E own B H σ (.Call (.Name "isinstance" q) [a, te] [] pos) rBool (L.contains er.cls) := fun B1 H1 S1 e1 e2 Q k => by
  obtain ⟨cs, hcs, IT⟩ := IT
  obtain ⟨D1, m1, T, hk⟩ := IT _ hl
  refine WE.of (pe_callB (cr_isXT (er := er) IB C) hg hm (by decide +kernel) (pa_cons hp (pa_cons peW pa_nil hs2) hs) (he := hs) (hpl := hpl)) ⟨.ref p.1, h, ht B1 H1 S1 e1 e2 _ fun v B2 H2 S2 e3 e4 r => ?_⟩
  obtain ⟨tp, vs, rfl, r2, r3⟩ := r
  have ev := cls_refs hcs r3
  subst ev
  exact ⟨D1, tp, cs, _, rfl, S2.bh _ _ r2, m1, T, (hx.mono (e1.trans e3)).mono S2.bh.ex, hk, k _ B2 H2 S2 e3 e4 rfl⟩
end
/-! ### a, b = x, y -/
theorem Scp.bk {X : Cx} {N : List Str} {sc : Scope} (V : Scp X N sc) (hk : sc.kind = .function) : X.env.blockKind = .function := by
  unfold Env.blockKind
  rw [V.sc, hk]
  rfl
def notStar : Expr → Bool
  | .Starred .. => false
  | _ => true
theorem sw_par {X : Cx} {x y : Str} {a b : Expr} {px py pt pt2 : Pos} {kt k2 : Nat} (hk : X.env.blockKind = .function) (hx : X.env.kindOf x = some .local) (hy : X.env.kindOf y = some .local) (hl : (py.line == px.line) = true) (hn : [x, y].eraseDups.length = 2)
    (ha : notStar a = true) (hb : notStar b = true) (hf : [a, b].all (foldedForSure 8) = false) (hc : [a, b].all (constantsAlone 8) = false) : swappedStores [.Tuple [.Name x px, .Name y py] kt pt] (.Tuple [a, b] k2 pt2) X.env = pure (some [x, y]) := by
  have e1 : (if (X.env.kindOf x == some .local && px.line == px.line) = true then some x else none) = some x := if_pos (by rw [hx]; simp)
  have e2 : (if (X.env.kindOf y == some .local && py.line == px.line) = true then some y else none) = some y := if_pos (by rw [hy, hl]; rfl)
  have h1 : (([Expr.Name x px, Expr.Name y py].filterMap fun | .Name id pos => if (X.env.kindOf id == some .local && pos.line == px.line) = true then some id else none | _ => none) : List Str) = [x, y] := by
    simp only [List.filterMap_cons, List.filterMap_nil, e1, e2]
  have h2 : ([a, b].any fun | .Starred .. => true | _ => false) = false := by
    have n1 : ∀ e : Expr, notStar e = true → (match e with | .Starred .. => true | _ => false) = false := fun e h => by
      cases e <;> first | rfl | cases h
    simp only [List.any_cons, List.any_nil, Bool.or_false, Bool.or_eq_false_iff]
    exact ⟨n1 a ha, n1 b hb⟩
  unfold swappedStores
  dsimp only
  split
  · rename_i h
    rw [hk] at h
    simp at h
  · split
    · rename_i h
      exact absurd (h2.symm.trans h) Bool.false_ne_true
    · split
      · rename_i h
        have h : ((([Expr.Name x px, Expr.Name y py].filterMap fun | .Name id pos => if (X.env.kindOf id == some .local && pos.line == px.line) = true then some id else none | _ => none) : List Str).length != 2 || (([Expr.Name x px, Expr.Name y py].filterMap fun | .Name id pos => if (X.env.kindOf id == some .local && pos.line == px.line) = true then some id else none | _ => none) : List Str).eraseDups.length != (([Expr.Name x px, Expr.Name y py].filterMap fun | .Name id pos => if (X.env.kindOf id == some .local && pos.line == px.line) = true then some id else none | _ => none) : List Str).length) = true := h
        rw [h1, hn] at h
        simp at h
      · split
        · rename_i h
          exact absurd (hf.symm.trans h) Bool.false_ne_true
        · split
          · rename_i h
            exact absurd (hc.symm.trans h) Bool.false_ne_true
          · exact congrArg (fun z => (pure (some z) : Sem (Option (List Str)))) h1
section
variable {X : Cx} {E : Ent} {own : Own} {B H : Hp} {σ : L2.St} {α β : Type} {R : Rel α} {S : Rel β} {a b : Expr} {x : α} {y : β} {pos : Pos} {k : Nat} {rest : List Stmt} {D : Ends}
theorem s_par {n1 n2 : Str} {i1 i2 : Nat} {p1 p2 tp p3 : Pos} {kk k2 : Nat} (C : Cok X k) (L1 : Slot X i1 n1) (L2' : Slot X i2 n2) (hne : i1 ≠ i2) (hx : X.env.kindOf n1 = some .local) (hy : X.env.kindOf n2 = some .local) (S0 : Stt E own B H) (ha : EvE X E own B H σ a R x) (hb : EvE X E own B H σ b S y)
    (hw : swappedStores [.Tuple [.Name n1 p1, .Name n2 p2] kk tp] (.Tuple [a, b] k2 p3) X.env = pure (some [n1, n2]))
    (kt : ∀ v w B' H', Stt E own B' H' → Ex B B' → R.r B' v x → S.r B' w y → WSs X rest D ((σ.set i1 (some v)).set i2 (some w)) H')
    (hs : swapsWithSole [.Tuple [.Name n1 p1, .Name n2 p2] kk tp] (.Tuple [a, b] k2 p3) pos.line X.env = pure false := by rfl) (hs1 : starEach (a :: [b]) X.env = (false, eval a X.env) :: starEach [b] X.env := by rfl) (hs2 : St1 X b := by rfl) :
    WSs X (.Assign [.Tuple [.Name n1 p1, .Name n2 p2] kk tp] (.Tuple [a, b] k2 p3) pos :: rest) D σ H :=
  WSs.cons (ps_par C.calm C.nd L1.ix L2'.ix hne hx hy (pa_cons peW (pa_cons peW pa_nil hs2) hs1) hw hs) (ha B H S0 (Ex.refl _) (Ex.refl _) _ fun v B2 H2 S2 e1 e2 r => hb B2 H2 S2 e1 e2 _ fun w B3 H3 S3 e3 e4 s =>
    ⟨v, w, rfl, kt v w B3 H3 S3 (e1.trans e3) (R.mono e3 r) s⟩)
end
end Sg

namespace Sg
open PySem PySem.Spec PyProof.Rows L2
/-! ### sorted(list of tuples) -/
/-- things that are tuples of data, all of one shape -/
class EncS {α : Type} (R : Rel α) where
  enc : α → PyData
  rd : ∀ {X : Cx} {pins : List (Addr × Obj)} {σ : L2.St} {H : Hp} {s : Shared} {v : V} {x : α} {u : Value}, Inv X pins σ H s → R.r H v x → RelV v u → Reads s.heap u (enc x) []
  dp : ∀ x, (enc x).depth ≤ 2
  al : ∀ x y, PySem.W.alike (enc x) (enc y) = true
  tp : ∀ x, ∃ d l, enc x = .tuple (d :: l)
section
variable {α : Type} {R : Rel α}
instance [EncR R] : EncS (rPr rInt R) where
  enc := fun q => .tuple [.int q.1, EncR.enc R q.2]
  rd := fun {X pins σ H s v x u} I r ru => by
    obtain ⟨p, a, b, rfl, hp, ha, hb⟩ := r
    obtain rfl : u = Value.ref p := ru
    obtain ⟨_, its, rv, o, ho, hc, n, hd⟩ := (show ObjOk X.prog X.w H s.heap p (.tup [a, b]) from I.hok p _ hp)
    refine Reads.tuple ho hc hd ?_
    cases rv with
    | cons r1 rs =>
      cases rs with
      | cons r2 rn =>
        cases rn
        have ha : _ = _ := ha
        subst ha
        obtain ⟨t, rfl⟩ := r1
        exact ReadsAll.cons (as := []) (bs := []) (.int _ _) (ReadsAll.cons (as := []) (bs := []) (EncR.rd I hb r2) .nil)
  dp := fun q => by
    show (PyData.tuple [.int q.1, EncR.enc R q.2]).depth ≤ 2
    have := EncR.dp (R := R) q.2
    rw [PyData.depth, PyData.depthAll, PyData.depthAll, PyData.depthAll, PyData.depth]
    omega
  al := fun x y => by
    show PySem.W.alike (.tuple [.int x.1, EncR.enc R x.2]) (.tuple [.int y.1, EncR.enc R y.2]) = true
    rw [PySem.W.alike, PySem.W.alikeAll, PySem.W.alikeAll, EncR.al]
    rfl
  tp := fun q => ⟨_, _, rfl⟩
instance : EncS (rT3 rInt rInt rInt) where
  enc := fun q => .tuple [.int q.1, .int q.2.1, .int q.2.2]
  rd := fun {X pins σ H s v x u} I r ru => by
    obtain ⟨p, a, b, c, rfl, hp, ha, hb, hc'⟩ := r
    obtain rfl : u = Value.ref p := ru
    obtain ⟨_, its, rv, o, ho, hc, n, hd⟩ := (show ObjOk X.prog X.w H s.heap p (.tup [a, b, c]) from I.hok p _ hp)
    refine Reads.tuple ho hc hd ?_
    cases rv with
    | cons r1 rs =>
      cases rs with
      | cons r2 rn =>
        cases rn with
        | cons r3 rm =>
          cases rm
          have ha : _ = _ := ha
          have hb : _ = _ := hb
          have hc' : _ = _ := hc'
          subst ha hb hc'
          obtain ⟨t, rfl⟩ := r1
          obtain ⟨t2, rfl⟩ := r2
          obtain ⟨t3, rfl⟩ := r3
          exact ReadsAll.cons (as := []) (bs := []) (.int _ _) (ReadsAll.cons (as := []) (bs := []) (.int _ _) (ReadsAll.cons (as := []) (bs := []) (.int _ _) .nil))
  dp := fun q => by
    show (PyData.tuple [.int q.1, .int q.2.1, .int q.2.2]).depth ≤ 2
    simp [PyData.depth, PyData.depthAll]
  al := fun x y => by
    show PySem.W.alike (.tuple [.int x.1, .int x.2.1, .int x.2.2]) (.tuple [.int y.1, .int y.2.1, .int y.2.2]) = true
    simp [PySem.W.alike, PySem.W.alikeAll]
  tp := fun q => ⟨_, _, rfl⟩
/-- the order of such things -/
def leS (R : Rel α) [EncS R] (a b : α) : Bool := PySem.W.dataLe false (EncS.enc R) a b
def rSortL (R : Rel α) [EncS R] : List V → Hp → VK → Prop := fun xs H Q => ∃ (l : Addr) (vs : List V) (es : List α), xs = [.ref l] ∧ Rd H l (.lst vs) ∧ Paired (R.r H) vs es ∧
  ∀ (l2 : Addr) (ws : List (V × α)), H l2 = none → ws.map (·.2) = es.mergeSort (leS R) → (∀ z ∈ ws, R.r H z.1 z.2) → Q (.ref l2) (upd H l2 (.lst (ws.map (·.1))))
end
section
variable {X : Cx}
theorem each_pairs {α : Type} {P : V → α → Prop} : ∀ {vs : List V} {us : List Value} {xs : List α}, Vals vs us → Paired P vs xs → PySem.W.EachIs (fun u (b : V × α) => RelV b.1 u ∧ P b.1 b.2) us (vs.zip xs)
  | _, _, _, .nil, .nil => .nil
  | _, _, _, .cons r rs, .cons p ps => .cons ⟨r, p⟩ (each_pairs rs ps)
theorem each_fst {α : Type} {P : V → α → Prop} : ∀ {us : List Value} {ps : List (V × α)}, PySem.W.EachIs (fun u (b : V × α) => RelV b.1 u ∧ P b.1 b.2) us ps → Vals (ps.map (·.1)) us ∧ ∀ z ∈ ps, P z.1 z.2
  | _, _, .nil => ⟨.nil, fun z h => nomatch h⟩
  | _, _, .cons r rs => by
    obtain ⟨h1, h2⟩ := each_fst rs
    refine ⟨.cons r.1 h1, fun z hz => ?_⟩
    rcases List.mem_cons.mp hz with rfl | hz
    · exact r.2
    · exact h2 z hz
theorem cr_sortL {α : Type} (R : Rel α) [EncS R] (hu : X.A.units + 64 < cLine) : CallR X (.builtin "sorted") (rSortL R) := by
  intro pins s σ H xs us Q I r hq
  obtain ⟨l, vs, es, rfl, hl, hp, q⟩ := hq
  obtain rfl := Vals.ref1 r
  obtain ⟨its, rvs, pl, hz⟩ := I.list (.inl hl)
  have l1 := plen hp
  obtain ⟨z1, z2, z3⟩ := paired_zip hp
  have lz : (vs.zip es).length = vs.length := by rw [List.length_zip]; omega
  refine PySem.W.sorted_data (bs := vs.zip es) (enc := fun b => EncS.enc R b.2) (R := fun u b => RelV b.1 u ∧ R.r H b.1 b.2) pl.isList (each_pairs rvs hp) ((each_pairs rvs hp).mono fun u b h => ⟨[], EncS.rd I h.2 h.1⟩) (PySem.W.AllAlike.of fun b b' => EncS.al _ _) (PySem.W.Sortable.tuples fun b => EncS.tp _) (by rw [lz]; omega) (fun b _ => ?_) fun out ho eo => ?_
  · have := EncS.dp (R := R) b.2
    show X.A.units + 2 + _ < _
    omega
  · have pm : ((vs.zip es).mergeSort (PySem.W.dataLe false fun b => EncS.enc R b.2)).Perm (vs.zip es) := List.mergeSort_perm _ _
    have ms : ((vs.zip es).mergeSort (PySem.W.dataLe false fun b => EncS.enc R b.2)).map (·.2) = es.mergeSort (leS R) := by
      refine (List.map_mergeSort (r := PySem.W.dataLe false fun b : V × α => EncS.enc R b.2) (s := leS R) (f := fun b : V × α => b.2) fun a _ b _ => rfl).trans ?_
      rw [z2]
    obtain ⟨hv, hR⟩ := each_fst eo
    generalize (vs.zip es).mergeSort (PySem.W.dataLe false fun b => EncS.enc R b.2) = ws at hv hR pm ms
    obtain ⟨c, hc⟩ := PyProof.Rows.sortedAll_at s.heap its out.toArray
    have k1 : ∀ b o, s.heap.get? b = some o → (PyProof.Rows.sortedAll s.heap its out.toArray).get? b = some o := fun _ _ => PyProof.Rows.sortedAll_old
    generalize PyProof.Rows.sortedAll s.heap its out.toArray = hF at hc k1
    have I1 : Inv X pins σ H { s with heap := hF, toks := s.toks } := I.kept (t' := s.toks) k1
    have nl : H (s.heap.objs.size + 1) = none := I.hok.fresh (Nat.le_succ _)
    have hlen : (ws.map (·.1)).length ≤ sizeLine := by
      have := pm.length_eq
      rw [List.length_map]
      omega
    have I4 := I1.take (h' := hF) (t' := s.toks) (o := .lst (ws.map (·.1))) (fun b ob _ e => e) (I.fpOk (b := s.heap.objs.size + 1) (Nat.le_succ _) nl) ⟨hlen, out, c, hv, hc⟩
    exact ⟨.ref (s.heap.objs.size + 1), _, I4, rfl, q _ ws nl ms hR⟩
end
section
variable {X : Cx} {E : Ent} {own : Own} {B H : Hp} {σ : L2.St} {α : Type} {R : Rel α} {a o : Expr} {p pos ap cp : Pos} {xs : List α} {i k : Nat} {rest : List Stmt} {D : Ends}
theorem el_sortS [EncS R] [Imm R] (hu : X.A.units + 64 < cLine) (hg : Gl X "sorted") (hm : X.mg "sorted" = none) (ha : EvB X E own B H σ a (rLst R) xs) (hs : St1 X a := by rfl) : EvL X E own B H σ (.Call (.Name "sorted" p) [a] [] pos) R (xs.mergeSort (leS R)) :=
  el_b1 (pe_callB (cr_sortL R hu) hg hm (by decide +kernel) (pa1 hs) (he := hs)) ha fun H1 v Q h k => by
    obtain ⟨l, vs, rfl, h2, h3⟩ := h
    refine ⟨l, vs, xs, rfl, h2, h3, fun l2 ws hn hw hr => ?_⟩
    have := paired_of hr
    rw [hw] at this
    exact k l2 (ws.map (·.1)) hn this
/-- x[j].clear(), x a list of one's own lists -/
theorem s_clearOL {apos : Pos} {q qj : Addr} {vs us : List V} {jj : Int} {kk} {pp pos' : Pos} (S0 : Stt E own B H) (ha : PE X o (tVar i)) (h : σ[i]? = some (some (.ref q))) (hq : (q, HO.lst vs) ∈ own) (hv : atI vs jj = some (.ref qj)) (hk : own[k]? = some (qj, .lst us))
    (kt : ∀ H', Stt E (own.set k (qj, .lst [])) B H' → WSs X rest D σ H')
    (t : BmT0 X (.Subscript o (.Constant (.int jj) kk pp) pos') "clear" apos p := by exact ⟨rfl, rfl⟩) (hw : swapsWith (.Call (.Attribute (.Subscript o (.Constant (.int jj) kk pp) pos') "clear" apos) [] [] p) none pos.line X.env = pure false := by rfl) :
    WSs X (.Expr (.Call (.Attribute (.Subscript o (.Constant (.int jj) kk pp) pos') "clear" apos) [] [] p) pos :: rest) D σ H :=
  WSs.cons (ps_expr (pe_bm0 PySem.F.plainAttrs_list PySem.F.slot_list_clear PySem.F.type_list_clear mt_clear (pe_ix ix_list ha pe_int (fun _ _ => rfl)) t.1 t.2) hw) (by
    have hj := (S0.ow _ (getE hk)).2.2
    refine ⟨.ref q, h, q, vs, jj, .ref qj, rfl, rfl, SqL.of (S0.ow _ hq).2.2, hv, .inl ⟨rfl, _, SqL.of hj⟩, qj, us, rfl, rfl, hj, kt _ (S0.put hk fun ys z => by cases z)⟩)
end
end Sg

namespace Sg
open PySem PySem.Spec PyProof.Rows L2
/-! ### lists of three unlike things -/
section
variable {α β γ δ : Type} {R : Rel α} {S : Rel β} {T : Rel γ}
def rH3 (R : Rel α) (S : Rel β) (T : Rel γ) : Rel (α × β × γ) := ⟨fun H v x => ∃ p a b c, v = .ref p ∧ Rd H p (.lst [a, b, c]) ∧ R.r H a x.1 ∧ S.r H b x.2.1 ∧ T.r H c x.2.2, fun e h => by
  obtain ⟨p, a, b, c, h1, h2, h3, h4, h5⟩ := h
  exact ⟨p, a, b, c, h1, e.rdL h2, R.mono e h3, S.mono e h4, T.mono e h5⟩⟩
instance : NN (rH3 R S T) := ⟨fun ⟨p, a, b, c, h1, _⟩ => by rw [h1]; exact fun q => by cases q⟩
instance : TyR (rH3 R S T) "list" := ⟨fun {K H v x} h => by
  obtain ⟨q, a, b, c, h1, h2 | ⟨ob, h2⟩, h3⟩ := h
  · rw [h1]; exact .base (.lst h2)
  · rw [h1]; exact .base (.frz h2)⟩
instance {K : PySem.W.Frag} [D : DatK K R] [F : DatK K S] [G : DatK K T] : DatK K (rH3 R S T) := ⟨fun x => .list [D.d x.1, F.d x.2.1, G.d x.2.2], fun h => by
    obtain ⟨p, a, b, c, h1, h2, h3, h4, h5⟩ := h
    rw [h1]
    exact .lst (.inl h2) (.cons (D.rd h3) (.cons (F.rd h4) (.cons (G.rd h5) .nil))), fun x => by
    show (PyData.canLay0 (D.d x.1) && (PyData.canLay0 (F.d x.2.1) && (PyData.canLay0 (G.d x.2.2) && true))) = true
    rw [D.lay, F.lay, G.lay] <;> rfl, max D.n (max F.n G.n) + 1, fun x => by
    show max (PyData.depth (D.d x.1)) (max (PyData.depth (F.d x.2.1)) (max (PyData.depth (G.d x.2.2)) 0)) + 1 ≤ max D.n (max F.n G.n) + 1
    have h1 := D.dep x.1
    have h2 := F.dep x.2.1
    have h3 := G.dep x.2.2
    omega, fun x y => by
    show (PyData.eqv (D.d x.1) (D.d y.1) && (PyData.eqv (F.d x.2.1) (F.d y.2.1) && (PyData.eqv (G.d x.2.2) (G.d y.2.2) && true))) = true ↔ _
    rw [Bool.and_eq_true, Bool.and_eq_true, Bool.and_true, D.eq, F.eq, G.eq]
    exact ⟨fun h => Prod.ext h.1 (Prod.ext h.2.1 h.2.2), fun h => by rw [h]; exact ⟨rfl, rfl, rfl⟩⟩⟩
instance {K : PySem.W.Frag} [DatK K R] [DatK K S] [DatK K T] : NonD K (rH3 R S T) := ⟨fun _ h => by cases h⟩
/-- a value as it is -/
def rV : Rel V := ⟨fun _ v x => v = x, fun _ h => h⟩
instance : Imm rV := ⟨fun _ h => h⟩
theorem pV {H : Hp} : ∀ vs : List V, Paired (rV.r H) vs vs
  | [] => .nil
  | v :: r => .cons rfl (pV r)
theorem pV_eq {H : Hp} : ∀ {vs us : List V}, Paired (rV.r H) vs us → vs = us
  | _, _, .nil => rfl
  | _, _, .cons h t => by rw [show _ = _ from h, pV_eq t]
/-- the thing at a place of a list -/
def rIx (vs : List V) : Rel Nat := ⟨fun _ v i => vs[i]? = some v, fun _ h => h⟩
theorem pIx3 {H : Hp} {a b c : V} : Paired ((rIx [a, b, c]).r H) [a, b, c] [0, 1, 2] := .cons rfl (.cons rfl (.cons rfl .nil))
def OwnL (own : Own) (v : V) (us : List V) : Prop := ∃ q, v = V.ref q ∧ (q, HO.lst us) ∈ own
theorem OwnL.cons {own : Own} {v : V} {us : List V} {z : Addr × HO} (h : OwnL own v us) : OwnL (z :: own) v us := by
  obtain ⟨q, h1, h2⟩ := h
  exact ⟨q, h1, List.mem_cons_of_mem _ h2⟩
theorem ownL_up {own : Own} {vs : List V} {uss : List (List V)} {z : Addr × HO} (h : Paired (OwnL own) vs uss) : Paired (OwnL (z :: own)) vs uss := pimp h fun _ _ q => q.cons
end
section
variable {X : Cx} {E : Ent} {own : Own} {B H : Hp} {σ : L2.St} {α β γ : Type} {R : Rel α} {S : Rel β} {T : Rel γ} {a b c e o : Expr} {x : α} {y : β} {u : γ} {p pos ap cp : Pos} {xs : List α} {ys : List β} {zs : List γ} {i k : Nat} {rest : List Stmt} {D : Ends}
theorem ee_h3 (ha : EvE X E own B H σ a R x) (hb : EvE X E own B H σ b S y) (hc : EvE X E own B H σ c T u) (hs1 : starEach (a :: [b, c]) X.env = (false, eval a X.env) :: starEach [b, c] X.env := by rfl) (hs2 : starEach (b :: [c]) X.env = (false, eval b X.env) :: starEach [c] X.env := by rfl) (hs3 : St1 X c := by rfl) : EvE X E own B H σ (.List [a, b, c] pos) (rH3 R S T) (x, y, u) := fun B1 H1 S1 e1 e2 Q k =>
  WE.of (pe_lst (pa_cons peW (pa_cons peW (pa_cons peW pa_nil hs3) hs2) hs1)) (ha B1 H1 S1 e1 e2 _ fun v B2 H2 S2 e3 e4 r => hb B2 H2 S2 (e1.trans e3) (e2.trans e4) _ fun w B3 H3 S3 e5 e6 s => hc B3 H3 S3 ((e1.trans e3).trans e5) ((e2.trans e4).trans e6) _ fun w2 B4 H4 S4 e7 e8 t =>
    ⟨by show 3 ≤ sizeLine; decide, fun p hp => by
      have S5 := S4.alloc hp (o := .lst [v, w, w2]) fun ys z => by cases z
      have n := (S5.ow _ (List.mem_cons_self ..)).2.1
      have xk := (Sx.new n (o := HO.lst [v, w, w2])).ex
      exact k (.ref p) _ _ S5.keep (((e3.trans e5).trans e7).trans xk) (((e4.trans e6).trans e8).trans (Sx.new hp).ex) ⟨p, v, w, w2, rfl, Rd.of upd_same, R.mono ((e5.trans e7).trans xk) r, S.mono (e7.trans xk) s, T.mono xk t⟩⟩)
/-- a list of one's own lists, looked at -/
theorem ev_olH3 {q q0 q1 q2 : Addr} {us vs ws : List V} (hp : PE X o (tVar i)) (h : σ[i]? = some (some (.ref q))) (hk : (q, HO.lst [.ref q0, .ref q1, .ref q2]) ∈ own) (h0 : (q0, HO.lst us) ∈ own) (r0 : Paired (R.r B) us xs) (h1 : (q1, HO.lst vs) ∈ own) (r1 : Paired (S.r B) vs ys) (h2 : (q2, HO.lst ws) ∈ own) (r2 : Paired (T.r B) ws zs) : EvB X E own B H σ o (rH3 (rLst R) (rLst S) (rLst T)) (xs, ys, zs) := fun B1 H1 S1 e1 e2 Q kq => by
  have up := e1.trans S1.bh.ex
  exact WE.of hp ⟨.ref q, h, kq _ B1 H1 S1 (Ex.refl _) (Ex.refl _) ⟨q, _, _, _, rfl, Rd.of (S1.ow _ hk).2.2, ⟨q0, us, rfl, Rd.of (S1.ow _ h0).2.2, pimp r0 fun _ _ z => R.mono up z⟩, ⟨q1, vs, rfl, Rd.of (S1.ow _ h1).2.2, pimp r1 fun _ _ z => S.mono up z⟩, ⟨q2, ws, rfl, Rd.of (S1.ow _ h2).2.2, pimp r2 fun _ _ z => T.mono up z⟩⟩⟩
/-- one of one's own lists, by its place -/
theorem ev_ownV {v : V} {j : Nat} {vs : List V} {uss : List (List V)} {us : List V} (hp : PE X o (tVar i)) (h : σ[i]? = some (some v)) (hv : vs[j]? = some v) (hu : uss[j]? = some us) (hr : Paired (OwnL own) vs uss) : EvB X E own B H σ o (rLst rV) us := fun B1 H1 S1 e1 e2 Q kq => by
  obtain ⟨us', h2, q, rfl, hm⟩ := L2.paired_get hr hv
  rw [hu] at h2
  cases h2
  exact WE.of hp ⟨.ref q, h, kq _ B1 H1 S1 (Ex.refl _) (Ex.refl _) ⟨q, us, rfl, Rd.of (S1.ow _ hm).2.2, pV us⟩⟩
theorem rH3_ofV {v : V} {us vs ws : List V} (r : (rLst (rLst rV)).r B v [us, vs, ws]) (r0 : Paired (R.r B) us xs) (r1 : Paired (S.r B) vs ys) (r2 : Paired (T.r B) ws zs) : (rH3 (rLst R) (rLst S) (rLst T)).r B v (xs, ys, zs) := by
  obtain ⟨p, as, rfl, h1, h2⟩ := r
  cases h2 with
  | cons a1 t1 =>
    cases t1 with
    | cons a2 t2 =>
      cases t2 with
      | cons a3 t3 =>
        cases t3
        obtain ⟨p1, s1, rfl, g1, f1⟩ := a1
        obtain ⟨p2, s2, rfl, g2, f2⟩ := a2
        obtain ⟨p3, s3, rfl, g3, f3⟩ := a3
        rw [pV_eq f1] at g1
        rw [pV_eq f2] at g2
        rw [pV_eq f3] at g3
        exact ⟨p, _, _, _, rfl, h1, ⟨p1, us, rfl, g1, r0⟩, ⟨p2, vs, rfl, g2, r1⟩, ⟨p3, ws, rfl, g3, r2⟩⟩
theorem ee_ofV3 {us vs ws : List V} (hl : EvL X E own B H σ e (rLst rV) [us, vs, ws]) (r0 : Paired (R.r B) us xs) (r1 : Paired (S.r B) vs ys) (r2 : Paired (T.r B) ws zs) : EvE X E own B H σ e (rH3 (rLst R) (rLst S) (rLst T)) (xs, ys, zs) := fun B1 H1 S1 e1 e2 Q k => hl.toE B1 H1 S1 e1 e2 _ fun v B2 H2 S2 e3 e4 r =>
  k _ B2 H2 S2 e3 e4 (rH3_ofV r (pimp r0 fun _ _ z => R.mono (e1.trans e3) z) (pimp r1 fun _ _ z => S.mono (e1.trans e3) z) (pimp r2 fun _ _ z => T.mono (e1.trans e3) z))
/-- x[j].append(e), x a list of one's own lists -/
theorem s_appendOL {apos : Pos} {q qj : Addr} {vs us : List V} {jj : Int} {kk} {pp pos' : Pos} (S0 : Stt E own B H) (ha : PE X o (tVar i)) (h : σ[i]? = some (some (.ref q))) (hq : (q, HO.lst vs) ∈ own) (hv : atI vs jj = some (.ref qj)) (hk : own[k]? = some (qj, .lst us)) (r : Paired (R.r B) us xs) (he : EvE X E own B H σ e R x) (hz : xs.length < sizeLine)
    (kt : ∀ v B' H', Stt E (own.set k (qj, .lst (us ++ [v]))) B' H' → Ex B B' → Paired (R.r B') (us ++ [v]) (xs ++ [x]) → WSs X rest D σ H')
    (t : BmT X (.Subscript o (.Constant (.int jj) kk pp) pos') "append" apos [] e p := by exact ⟨rfl, rfl, rfl, rfl, rfl⟩) (hs : St1 X e := by rfl) (hw : swapsWith (.Call (.Attribute (.Subscript o (.Constant (.int jj) kk pp) pos') "append" apos) [e] [] p) none pos.line X.env = pure false := by rfl) :
    WSs X (.Expr (.Call (.Attribute (.Subscript o (.Constant (.int jj) kk pp) pos') "append" apos) [e] [] p) pos :: rest) D σ H :=
  WSs.cons (ps_expr (pe_bm PySem.F.plainAttrs_list PySem.F.slot_list_append PySem.F.type_list_append mt_append (pe_ix ix_list ha pe_int (fun _ _ => rfl)) (pa1 hs) t.1 t.2.1 t.2.2.1 t.2.2.2.1 t.2.2.2.2) hw) ⟨.ref q, h, q, vs, jj, .ref qj, rfl, rfl, SqL.of (S0.ow _ hq).2.2, hv, .inl ⟨rfl, _, SqL.of (S0.ow _ (List.mem_of_getElem? hk)).2.2⟩, he B H S0 (Ex.refl _) (Ex.refl _) _ fun v B2 H2 S2 e1 e2 rv => by
    have hj := (S2.ow _ (List.mem_of_getElem? hk)).2.2
    refine ⟨qj, us, v, rfl, rfl, hj, by rw [plen r]; exact hz, ?_⟩
    exact kt v B2 _ (S2.put hk fun ys z => by cases z) e1 (psnoc (pimp r fun _ _ z => R.mono e1 z) rv)⟩
/-- isinstance of a thing that may be None -/
theorem ev_isiO {x : Option α} {tn cn : String} {cs : Str} {p2 : Pos} [ty : TyR R tn] (hg : Gl X "isinstance") (hm : X.mg "isinstance" = none) (hgc : Gl X cs) (hmc : X.mg cs = none) (hv : bootBuiltins cs = some (.type cn)) (ha : EvB X E own B H σ a (rOpt R) x) (hk : kitB tn cn = some true) (hk0 : kitB "NoneType" cn = some false)
    (hn : cs ≠ "__name__" := by decide) (hd : (cs == ("__debug__" : Str)) = false := by decide)
    (hs : starEach (a :: [.Name cs p2]) X.env = (false, eval a X.env) :: starEach [.Name cs p2] X.env := by rfl) (hs2 : St1 X (.Name cs p2) := by rfl) (hpl : (backTo pos (starEach [.Name cs p2] X.env)).any (·.1) = false := by rfl) :
    EvB X E own B H σ (.Call (.Name "isinstance" p) [a, .Name cs p2] [] pos) rBool x.isSome := fun B1 H1 S1 e1 e2 Q k =>
  WE.of (pe_callB call_isi hg hm (by decide +kernel) (pa_cons peW (pa_cons (pe_bltn (v := .ty cn) hgc hmc hv rfl hn hd) pa_nil hs2) hs) (he := hs) (hpl := hpl)) (ha B1 H1 S1 e1 e2 _ fun v B2 H2 S2 e3 e4 r => by
    cases x with
    | none => exact ⟨v, .ty cn, .type "NoneType", .type cn, false, rfl, .ty cn, by rw [show v = .non from r]; exact .base .non, kit_ty hk0, k _ B2 H2 S2 e3 e4 rfl⟩
    | some y => exact ⟨v, .ty cn, .type tn, .type cn, true, rfl, .ty cn, ty.ty (show v ≠ .non ∧ R.r H2 v y from r).2, kit_ty hk, k _ B2 H2 S2 e3 e4 rfl⟩)
end
theorem Res.of_inj {α : Type} {o : Option α} {x : α} (h : Res.of o = .ok x) : o = some x := by
  cases o with
  | none => cases h
  | some y => cases h; rfl
end Sg

namespace Sg
open PySem PySem.Spec PyProof.Rows L2
/-! ### texts -/
/-- a number, written -/
def strI (n : Int) : Str := toString n
def chS (c : Nat) : Str := ⟨#[c]⟩
/-- one sign of a text -/
def rCh : Rel Nat := ⟨fun _ v c => v = .str ⟨#[c]⟩, fun _ h => h⟩
instance : Imm rCh := ⟨fun _ h => h⟩
instance : NN rCh := ⟨fun h => by rw [show _ = _ from h]; exact fun q => by cases q⟩
instance : TyR rCh "str" := ⟨fun {K H v x} h => by rw [show v = .str ⟨#[x]⟩ from h]; exact .base (.str _)⟩
def insI {α : Type} (xs : List α) (i : Int) (x : α) : List α := xs.take i.toNat ++ [x] ++ xs.drop i.toNat
theorem strs_rel {H1 : Hp} : ∀ {vs : List V} {ss : List Str}, Paired (rStr.r H1) vs ss → vs = ss.map V.str
  | _, _, .nil => rfl
  | _, _, .cons h t => by rw [List.map_cons, ← strs_rel t, show _ = _ from h]
theorem strs_pair {H1 : Hp} : ∀ ss : List Str, Paired (rStr.r H1) (ss.map V.str) ss
  | [] => .nil
  | s :: r => .cons rfl (strs_pair r)
theorem papp2 {α β : Type} {F : α → β → Prop} : ∀ {a : List α} {b : List β} {c : List α} {d : List β}, Paired F a b → Paired F c d → Paired F (a ++ c) (b ++ d)
  | _, _, _, _, .nil, h => h
  | _, _, _, _, .cons r t, h => .cons r (papp2 t h)
section
variable {X : Cx} {E : Ent} {own : Own} {B H : Hp} {σ : L2.St} {α β γ : Type} {R : Rel α} {S : Rel β} {T : Rel γ} {a b c e o it : Expr} {x : α} {y : β} {p pos pos' ap cp apos : Pos} {xs : List α} {ys : List β} {i k j : Nat} {n : Str} {rest body : List Stmt} {D : Ends}
theorem ev_chS {d : Nat} (h : EvB X E own B H σ a rCh d) : EvB X E own B H σ a rStr (chS d) := h
theorem ev_strI {d : Int} (hg : Gl X "str") (hm : X.mg "str" = none) (ha : EvB X E own B H σ a rInt d) (hz : d.natAbs.log2 < 1920) (hs : St1 X a := by rfl) : EvB X E own B H σ (.Call (.Name "str" p) [a] [] pos) rStr (strI d) :=
  ev_b1 (f := strI) (pe_callTy call_str_int hg hm (by decide +kernel) (pa1 hs) (he := hs)) ha fun H1 v Q h k => ⟨d, by rw [show v = .int d from h], hz, k _ rfl⟩
theorem ev_intS {s : Str} {d : Int} (hg : Gl X "int") (hm : X.mg "int" = none) (ha : EvB X E own B H σ a rStr s) (hd : PySem.intText? s = some d) (hz : s.length ≤ 640) (hs : St1 X a := by rfl) : EvB X E own B H σ (.Call (.Name "int" p) [a] [] pos) rInt d :=
  ev_b1 (f := fun _ : Str => d) (pe_callTy call_int_str hg hm (by decide +kernel) (pa1 hs) (he := hs)) ha fun H1 v Q h k => ⟨s, d, by rw [show v = .str s from h], hd, hz, k _ rfl⟩
theorem ev_lenS {s : Str} (hg : Gl X "len") (hm : X.mg "len" = none) (ha : EvB X E own B H σ a rStr s) (hz : s.length ≤ sizeLine) (hs : St1 X a := by rfl) : EvB X E own B H σ (.Call (.Name "len" p) [a] [] pos) rInt (s.length : Int) :=
  ev_b1 (f := fun s : Str => (s.length : Int)) (pe_callB call_len_str hg hm PySem.boot_len (pa1 hs) (he := hs)) ha fun H1 v Q h k => ⟨s, by rw [show v = .str s from h], hz, k _ rfl⟩
theorem ev_catS {s t : Str} (ha : EvB X E own B H σ a rStr s) (hb : EvB X E own B H σ b rStr t) (hz : s.length + t.length ≤ sizeLine) : EvB X E own B H σ (.BinOp a .Add b pos) rStr (s ++ t) := fun B1 H1 S1 e1 e2 Q k =>
  WE.of (pe_op (show OpR X (binaryOp .Add) _ from op_add_str) peW peW) (ha B1 H1 S1 e1 e2 _ fun v B2 H2 S2 e3 e4 r => hb B2 H2 S2 (e1.trans e3) (e2.trans e4) _ fun w B3 H3 S3 e5 e6 r' => ⟨s, t, r, r', hz, k _ B3 H3 S3 (e3.trans e5) (e4.trans e6) rfl⟩)
theorem ev_join {s : Str} {ss : List Str} (ho : EvB X E own B H σ o rStr s) (ha : EvB X E own B H σ a (rLst rStr) ss) (hz : (ss.map (·.length)).sum + ss.length * s.length ≤ 16777216)
    (hs : starEach [a] X.env = [(false, eval a X.env)] := by rfl) (hbase : attributeBase o "join" X.env (eval o X.env) = eval o X.env := by rfl) (hline : (ap.endLine == cp.line) = true := by rfl) : EvB X E own B H σ (.Call (.Attribute o "join" ap) [a] [] cp) rStr (Txt.join s ss) := fun B1 H1 S1 e1 e2 Q k =>
  WE.of (pe_join peW peW hs hbase hline) (ho B1 H1 S1 e1 e2 _ fun v B2 H2 S2 e3 e4 r => ⟨⟨s, r⟩, ha B2 H2 S2 (e1.trans e3) (e2.trans e4) _ fun w B3 H3 S3 e5 e6 r' => by
    obtain ⟨l, vs, h1, h2, h3⟩ := r'
    rw [strs_rel h3] at h2
    exact ⟨s, l, ss, r, by rw [h1], .inl (.inl h2), hz, k _ B3 H3 S3 (e3.trans e5) (e4.trans e6) rfl⟩⟩)
theorem el_split {s t : Str} (ho : EvB X E own B H σ o rStr s) (ha : EvB X E own B H σ a rStr t) (ht : (t.length == 0) = false) (hz : s.length + 2 ≤ sizeLine)
    (hs : starEach [a] X.env = [(false, eval a X.env)] := by rfl) (hbase : attributeBase o "split" X.env (eval o X.env) = eval o X.env := by rfl) (hline : (ap.endLine == cp.line) = true := by rfl) : EvL X E own B H σ (.Call (.Attribute o "split" ap) [a] [] cp) rStr (Txt.split s t) := fun B1 H1 S1 e1 e2 Q k =>
  WE.of (pe_split peW peW hs hbase hline) (ho B1 H1 S1 e1 e2 _ fun v B2 H2 S2 e3 e4 r => ⟨⟨s, r⟩, ha B2 H2 S2 (e1.trans e3) (e2.trans e4) _ fun w B3 H3 S3 e5 e6 r' =>
    ⟨s, t, r, by rw [show w = .str t from r'], ht, hz, fun q hq => k q _ B3 _ (S3.alloc hq fun ys z => by cases z) (e3.trans e5) ((e4.trans e6).trans (Sx.new hq).ex) (strs_pair _)⟩⟩)
theorem ev_ixS {s : Str} {q : Int} {d : Nat} (ho : EvB X E own B H σ o rStr s) (ha : EvB X E own B H σ a rInt q) (hz : s.length ≤ sizeLine) (hx : atI s.cps.toList q = some d) (hs : PlainIx a := by exact fun _ _ => rfl) : EvB X E own B H σ (.Subscript o a pos) rCh d := fun B1 H1 S1 e1 e2 Q k =>
  WE.of (pe_ix ix_str peW peW hs) (ho B1 H1 S1 e1 e2 _ fun v B2 H2 S2 e3 e4 r => ha B2 H2 S2 (e1.trans e3) (e2.trans e4) _ fun w B3 H3 S3 e5 e6 r' => ⟨s, q, d, r, r', hz, hx, k _ B3 H3 S3 (e3.trans e5) (e4.trans e6) rfl⟩)
theorem ev_inCh {d : Nat} {s : Str} (ha : EvB X E own B H σ a rCh d) (ho : EvB X E own B H σ o rStr s) (hm : behindInMarks .In o = false := by rfl) : EvB X E own B H σ (.Compare a [.In] [o] pos) rBool (decide (d ∈ s.cps.toList)) :=
  ev_cmp op_in_sign ha ho hm fun H1 v w Q h1 h2 k => ⟨d, s, h1, h2, k⟩
theorem et_inCh {d : Nat} {s : Str} (ha : EvB X E own B H σ a rCh d) (ho : EvB X E own B H σ o rStr s) (hm : behindInMarks .In o = false := by rfl) : EvT X E own B H σ (.Compare a [.In] [o] pos) (decide (d ∈ s.cps.toList)) :=
  et_cmp op_in_sign ha ho hm fun H1 v w Q h1 h2 k => ⟨d, s, h1, h2, k⟩
theorem ev_ninCh {d : Nat} {s : Str} (ha : EvB X E own B H σ a rCh d) (ho : EvB X E own B H σ o rStr s) (hm : behindInMarks .NotIn o = false := by rfl) : EvB X E own B H σ (.Compare a [.NotIn] [o] pos) rBool (!decide (d ∈ s.cps.toList)) :=
  ev_cmp op_notIn_sign ha ho hm fun H1 v w Q h1 h2 k => ⟨d, s, h1, h2, k⟩
theorem et_ninCh {d : Nat} {s : Str} (ha : EvB X E own B H σ a rCh d) (ho : EvB X E own B H σ o rStr s) (hm : behindInMarks .NotIn o = false := by rfl) : EvT X E own B H σ (.Compare a [.NotIn] [o] pos) (!decide (d ∈ s.cps.toList)) :=
  et_cmp op_notIn_sign ha ho hm fun H1 v w Q h1 h2 k => ⟨d, s, h1, h2, k⟩
/-- the signs of a text -/
theorem walk_str {s : Str} : Walk E KoT B (Its s) rCh s.cps.toList := by
  refine ⟨fun i own' B' H' S' e k hi => ?_, fun i own' B' H' S' e k hi => ?_, fun i own' B' H' v H'' d S' e k hd hy => ?_⟩
  · show i < s.cps.size
    rw [Array.length_toList] at hi
    exact hi
  · show s.cps.size ≤ i
    rw [Array.length_toList] at hi
    exact hi
  · obtain ⟨e1, d', h1, rfl⟩ := hy
    subst e1
    rw [Array.getElem?_toList, h1] at hd
    cases hd
    exact ⟨B', S', Ex.refl _, Ex.refl _, rfl⟩
theorem ei_str {s : Str} {tg : Expr} (he : EvB X E own B H σ e rStr s) (hz : s.cps.toList.length ≤ sizeLine) : EvI X E own B H σ tg e rCh KoT s.cps.toList := ⟨_, pi_str (te := WE X e) peW, fun B1 H1 S e1 e2 Q k => he B1 H1 S e1 e2 _ fun v B2 H2 S2 e3 e4 r => ⟨s, r, k _ B2 H2 S2 e3 e4 walk_str hz⟩⟩
theorem s_augS {s t : Str} (C : Cok X k) (L : Slot X i n) (S0 : Stt E own B H) (h : σ[i]? = some (some (.str s))) (he : EvB X E own B H σ e rStr t) (hz : s.length + t.length ≤ sizeLine)
    (q : ∀ B' H', Stt E own B' H' → Ex B B' → WSs X rest D (σ.set i (some (.str (s ++ t)))) H') : WSs X (.AugAssign (.Name n pos') .Add e pos :: rest) D σ H :=
  WSs.cons (ps_aug C.nd L.ix L.loc peW (show PIp X .Add _ from iop_add_str) L.hf) ⟨_, h, he B H S0 (Ex.refl _) (Ex.refl _) _ fun v B2 H2 S2 e1 _ r => ⟨s, t, rfl, r, hz, q B2 H2 S2 e1⟩⟩
/-- xs.pop(), the item let go -/
theorem s_popX {q : Addr} {vs : List V} (S0 : Stt E own B H) (ha : PE X a (tVar i)) (h : σ[i]? = some (some (.ref q))) (hk : own[k]? = some (q, .lst vs)) (r : Paired (R.r B) vs xs) (hx : xs.getLast? = some x)
    (kt : ∀ H', Stt E (own.set k (q, .lst vs.dropLast)) B H' → Paired (R.r B) vs.dropLast xs.dropLast → WSs X rest D σ H')
    (t : BmT0 X a "pop" apos p := by exact ⟨rfl, rfl⟩) (hw : swapsWith (.Call (.Attribute a "pop" apos) [] [] p) none pos.line X.env = pure false := by rfl) :
    WSs X (.Expr (.Call (.Attribute a "pop" apos) [] [] p) pos :: rest) D σ H :=
  WSs.cons (ps_expr (pe_bm0 PySem.F.plainAttrs_list PySem.F.slot_list_pop PySem.F.type_list_pop mt_pop ha t.1 t.2) hw) (by
    have hq := (S0.ow _ (getE hk)).2.2
    rw [List.getLast?_eq_getElem?] at hx
    have hl := plen r
    obtain ⟨v, hv⟩ : ∃ v, vs[vs.length - 1]? = some v := by
      have := (List.getElem?_eq_some_iff.mp hx).1
      exact ⟨_, List.getElem?_eq_getElem (by omega)⟩
    refine ⟨.ref q, h, .inl ⟨rfl, _, SqL.of hq⟩, q, vs, v, rfl, rfl, hq, hv, kt _ (S0.put hk fun ys z => by cases z) ?_⟩
    rw [List.dropLast_eq_take, List.dropLast_eq_take, ← hl]
    exact ptake _ r)
/-- xs.insert(i, e) -/
theorem s_insert {q : Addr} {vs : List V} {d : Int} (S0 : Stt E own B H) (ha : PE X a (tVar i)) (h : σ[i]? = some (some (.ref q))) (hk : own[k]? = some (q, .lst vs)) (r : Paired (R.r B) vs xs) (hb : EvB X E own B H σ b rInt d) (he : EvE X E own B H σ e R x) (hz : xs.length < sizeLine ∧ 0 ≤ d ∧ d < 2 ^ 63)
    (kt : ∀ v B' H', Stt E (own.set k (q, .lst (insI vs d v))) B' H' → Ex B B' → Paired (R.r B') (insI vs d v) (insI xs d x) → WSs X rest D σ H')
    (t1 : attributeBase a "insert" X.env (eval a X.env) = eval a X.env := by rfl)
    (t2 : ((backTo p (starEach (b :: [e]) X.env)).all (fun x => !x.1) && (backToKw p (keywordEach [] X.env)).all (fun x => x.1.isSome) && decide ((b :: [e]).length + ([] : List Keyword).length + (if ([] : List Keyword).isEmpty then 0 else 1) < 30)) = true := by rfl)
    (t3 : (apos.endLine == p.line) = true := by rfl) (t4 : starEach (b :: [e]) X.env = (false, eval b X.env) :: starEach [e] X.env := by rfl) (t5 : (backTo p (starEach [e] X.env)).any (·.1) = false := by rfl) (hs : St1 X e := by rfl)
    (hw : swapsWith (.Call (.Attribute a "insert" apos) [b, e] [] p) none pos.line X.env = pure false := by rfl) :
    WSs X (.Expr (.Call (.Attribute a "insert" apos) [b, e] [] p) pos :: rest) D σ H :=
  WSs.cons (ps_expr (pe_bm PySem.F.plainAttrs_list PySem.F.slot_list_insert PySem.F.type_list_insert mt_insert ha (pa_cons peW (pa1 hs) t4) t1 t2 t3 t4 t5) hw) ⟨.ref q, h, .inl ⟨rfl, _, SqL.of (S0.ow _ (List.mem_of_getElem? hk)).2.2⟩, hb B H S0 (Ex.refl _) (Ex.refl _) _ fun v B2 H2 S2 e1 e2 rv => he B2 H2 S2 e1 e2 _ fun w B3 H3 S3 e3 e4 rw' => by
    have hq := (S3.ow _ (List.mem_of_getElem? hk)).2.2
    have rv : v = .int d := rv
    have r3 := pimp r fun _ _ z => R.mono (e1.trans e3) z
    refine ⟨q, vs, d, w, rfl, by rw [rv], hq, by rw [plen r]; exact hz.1, hz.2.1, hz.2.2, ?_⟩
    exact kt w B3 _ (S3.put hk fun ys z => by cases z) (e1.trans e3) (papp2 (papp2 (ptake _ r3) (.cons rw' .nil)) (pdrop _ r3))⟩
end
end Sg

namespace Sg
open PySem PySem.Spec PyProof.Rows L2
/-! ### enumerate(list, start=c) -/
def IteS (K : PySem.W.Frag) (a : Addr) (c : Int) : It where
  go := fun i H => ∃ (us : List V) (u : V), SqL K H a us ∧ us[i]? = some u
  yld := fun i H v H' => ∃ T u, v = .ref T ∧ H T = none ∧ H' = upd H T (.tup [.int (c + (i : Int)), u]) ∧ ∀ us, SqL K H a us → us[i]? = some u
  stop := fun i H => ∃ us : List V, SqL K H a us ∧ us.length ≤ i
theorem enum_ne {h : Heap} {e it l : Addr} {c : Int} {old : Value} {items : Array Value} (he : IsEnum h e it c old) (hl : h.IsList l items) : e ≠ l := fun z => by
  subst z
  obtain ⟨o, h1, h2, _⟩ := hl
  have he := Option.some.inj (h1.symm.trans he)
  rw [he] at h2
  injection h2 with h2
  exact absurd h2 (by decide)
theorem liter_ne {h : Heap} {it l : Addr} {i : Nat} {items : Array Value} (he : h.IsListIter it l i) (hl : h.IsList l items) : l ≠ it := fun z => by
  subst z
  obtain ⟨o1, g1, g2, _⟩ := he
  obtain ⟨o2, g4, g5, _⟩ := hl
  have e := Option.some.inj (g1.symm.trans g4)
  rw [e, g5] at g2
  injection g2 with g2
  exact absurd g2 (by decide)
/-- an iterator that stands at its end -/
theorem draws_end {prog : Program} {w : World} {A : Around} (hh : A.handled = none) {it l : Addr} {items : Array Value} {i : Nat} (hn : items[i]? = none) :
    Draws prog w A it [it, l] i (fun _ _ => True) (fun j h => j = i ∧ h.IsListIter it l i ∧ h.IsList l items) where
  live := fun _ _ st => let ⟨o, ho, _⟩ := st.2.1; ⟨o, ho⟩
  frame := fun _ _ _ st hk => ⟨st.1, st.2.1.at fun o e => hk it (List.mem_cons_self ..) o e, st.2.2.at fun o e => hk l (List.mem_cons_of_mem _ (List.mem_cons_self ..)) o e⟩
  item := fun j s Q E hj st hQ => absurd st.1 (Nat.ne_of_lt hj)
  done := fun s Q E st hE => wpAny_nextOf_list_end hh st.2.1 st.2.2 hn hE
theorem turn_enumS {P : Program} {w : World} {K : PySem.W.Frag} {elts : List Expr} {kk : Nat} {tpos : Pos} (a e it : Addr) (c : Int) :
    Turn P w K (.Tuple elts kk tpos) (IteS K a c) [e, it] e (fun i h => (∃ old, IsEnum h e it (c + (i : Int)) old) ∧ h.IsListIter it a i ∧ e ≠ it) where
  mem := List.mem_cons_self ..
  obj := fun i h st b hb => by
    obtain ⟨⟨old, q1⟩, ⟨o, q2, q3, q4⟩, q5⟩ := st
    rcases List.mem_cons.mp hb with z | z
    · rw [z]
      exact ⟨_, q1, fun v q => nomatch q⟩
    · exact ⟨o, by rw [List.mem_singleton.mp z]; exact q2, fun v q => by rw [q4] at q; cases q⟩
  keep := fun i h h' st kp => by
    obtain ⟨⟨old, q1⟩, q2, q3⟩ := st
    exact ⟨⟨old, kp e (List.mem_cons_self ..) _ q1⟩, q2.at fun o q => kp it (List.mem_cons_of_mem _ (List.mem_cons_self ..)) o q, q3⟩
  item := by
    intro X hP hw hK hc i pins s σ H Er I hf st hg
    subst hP hw hK
    obtain ⟨⟨old, q1⟩, q2, q3⟩ := st
    obtain ⟨us, u, hq, hu⟩ := hg
    obtain ⟨its, rvs, pl, hz⟩ := I.list hq
    obtain ⟨uv, hv, ru⟩ := rvs.get hu
    have ela : e ≠ a := enum_ne q1 pl.isList
    have ila : a ≠ it := liter_ne q2 pl.isList
    have lt1 : e < s.heap.objs.size := Heap.lt_size q1
    have lt2 : it < s.heap.objs.size := by
      obtain ⟨o1, g1, _⟩ := q2
      exact Heap.lt_size g1
    have D := Draws.list (prog := X.prog) (w := X.w) (A := X.A.in1) (show X.A.in1.handled = none from I.ok.hd hc) it a ila its.toArray
    have hi : i < its.toArray.size := by
      have := (List.getElem?_eq_some_iff.mp hv).1
      rw [List.size_toArray]
      exact this
    refine wpAny_pyNext_enum_itemC D q1 ⟨q2, pl.isList⟩ hi q3 (fun z => ?_) fun x h' tk hx ho hst hT hsz hk => ?_
    · rcases List.mem_cons.mp z with z | z
      · exact q3 z
      · exact ela (List.mem_singleton.mp z)
    have ex : x = uv := by
      have hx : its.toArray[i]? = some x := hx
      rw [List.getElem?_toArray, hv] at hx
      exact (Option.some.inj hx).symm
    subst ex
    refine ⟨_, rfl, wpAny_letOwnedTupleGo_enum (s := { s with heap := h', toks := tk + 1 }) ho fun h'' g1 sb => ?_⟩
    have hT2 : h''.get? s.heap.objs.size = some { cls := .type "tuple", data := .seq #[.int (c + (i : Int)) tk, x] } := (sb.2 _ (Nat.ne_of_gt lt1)).trans hT
    have nw : ObjOk X.prog X.w (upd H s.heap.objs.size (.tup [.int (c + (i : Int)), u])) h'' s.heap.objs.size (.tup [.int (c + (i : Int)), u]) :=
      ⟨Nat.le_of_ble_eq_true rfl, [.int (c + (i : Int)) tk, x], .cons ⟨_, rfl⟩ (.cons ru .nil), ⟨_, hT2, rfl, _, rfl⟩⟩
    have I2 : Inv X pins σ (upd H s.heap.objs.size (.tup [.int (c + (i : Int)), u])) { s with heap := h'', toks := tk + 1 } :=
      I.turnedNew (ch := [e, it]) (fun b ob hb q => (sb.2 b (fun z => hb (by simp [z]))).trans (hk b ob (fun z => hb (by simp [z])) (fun z => hb (by simp [z])) q)) hf (Nat.le_refl _) nw
    refine ⟨.ref s.heap.objs.size, _, I2, rfl, ⟨_, u, rfl, I.hok.fresh (Nat.le_refl _), rfl, fun zs hzs => by rw [I.list_inj hzs hq]; exact hu⟩, ⟨⟨x, ?_⟩, hst.1.at fun o q => (sb.2 it (Ne.symm q3)).trans q, q3⟩, fun b hb => ?_⟩
    · rw [show c + ((i + 1 : Nat) : Int) = c + (i : Int) + 1 by omega]
      exact g1
    · have lb : b < s.heap.objs.size := by
        rcases List.mem_cons.mp hb with z | z
        · rw [z]; exact lt1
        · rw [List.mem_singleton.mp z]; exact lt2
      rw [upd_ne (Nat.ne_of_lt lb)]
      exact (hf b hb).1
  done := by
    intro X hP hw hK hc i pins s σ H Er I hf st hg
    subst hP hw hK
    obtain ⟨⟨old, q1⟩, q2, q3⟩ := st
    obtain ⟨us, hq, hu⟩ := hg
    obtain ⟨its, rvs, pl, hz⟩ := I.list hq
    obtain ⟨f0, f1, f2, f3, f4, f5⟩ := hf it (List.mem_cons_of_mem _ (List.mem_cons_self ..))
    have ll := rvs.length
    have ila : a ≠ it := liter_ne q2 pl.isList
    have hnone : its.toArray[i]? = none := by
      rw [List.getElem?_toArray]
      exact List.getElem?_eq_none (by omega)
    have ela : e ≠ a := enum_ne q1 pl.isList
    exact wpAny_pyNext_enum_endD (draws_end (A := X.A.in1) (show X.A.in1.handled = none from I.ok.hd hc) hnone) q1 ⟨rfl, q2, pl.isList⟩ fun h' eb => ⟨rfl, I.turned (t' := s.toks) (fun b o hb q => eb b o hb q) f0 f1 f3 f4 f5⟩
  self := fun A i s Q Er st h => by
    obtain ⟨⟨old, q1⟩, _⟩ := st
    exact wpAny_pyIter_enum q1 h
/-- a class of the language called with keywords -/
theorem cw_typeK {M : PySem.Model} {A : Around} {Er : Value → Shared → Prop} {s : Shared} {pos : Pos} {T : String} {first : List Value} {args : List (Bool × Sem Value)} {kws : List (Option Str × Sem Value)} {Q : Value → Shared → Prop} (hplain : args.any (·.1) = false) (hk : kws.any (·.1.isNone) = false)
    (h : wpAny M A (evalArgs (.type T) true args kws) (fun a s₁ => wpAny M A (call (.type T) (first ++ a.pos) a.kw) Q Er s₁) Er s) :
    wpAny M A (callWith pos (.type T) first args kws) Q Er s := by
  unfold callWith
  refine wpAny_bind (wpAny_holding (wpAny_mono h (fun a s2 h2 => wpAny_bind (wpAny_standAt ?_)) fun _ _ x => x))
  simp only [hplain, hk, Bool.or_false]
  refine wpAny_bind (wpAny_pure ?_)
  exact wpAny_bind (wpAny_mono h2 (fun r s3 hr => wpAny_bind (wpAny_holding (wpAny_point (wpAny_pure hr)))) fun _ _ x => x)
def iEnumS (K : PySem.W.Frag) (c : Int) (ta : TA) : TI := fun σ H R => ta σ H fun vs H1 => ∃ a us, vs = [.ref a] ∧ SqL K H1 a us ∧ R (IteS K a c) H1
theorem pi_enumS {X : Cx} {e : Expr} {ta : TA} {p pos tpos kp kpos : Pos} {elts : List Expr} {kk k2 : Nat} {c : Int} (hg : Gl X "enumerate") (hm : X.mg "enumerate" = none) (ha : PA X [e] ta) (hc : -(2 ^ 63) ≤ c ∧ c < 2 ^ 63)
    (hs : starEach [e] X.env = (false, eval e X.env) :: starEach [] X.env := by rfl) (hpl : (backTo pos (starEach [e] X.env)).any (·.1) = false := by rfl)
    (hall : (backToKw pos (keywordEach [⟨some "start", .Constant (.int c) k2 kp, kpos⟩] X.env)).all (·.1.isSome) = true := by rfl) (hnone : (backToKw pos (keywordEach [⟨some "start", .Constant (.int c) k2 kp, kpos⟩] X.env)).any (·.1.isNone) = false := by rfl) (hks : (backToKw pos (keywordEach [⟨some "start", .Constant (.int c) k2 kp, kpos⟩] X.env)).filterMap (·.1) = [Str.ofString "start"] := by rfl) :
    PI X (.Tuple elts kk tpos) (.Call (.Name "enumerate" p) [e] [⟨some "start", .Constant (.int c) k2 kp, kpos⟩] pos) (iEnumS X.K c ta) := by
  refine ⟨fun pins s σ H R I h => ?_⟩
  refine wpAny_Call_Name_kw (ld_blt I hg hm boot_enumerate (cw_typeK hpl hnone (evalArgs_kw2 hall (thn (ha.run pos pins s σ H _ I h) fun us s1 hh => ?_) hs)) (by decide) (by decide))
  obtain ⟨vs, H1, I1, r1, a, ws, ex, hq, q⟩ := hh
  subst ex
  refine thn ((pk_cons (pe_int (i := c)) pk_nil).run pos pins s1 σ H1 (fun zs H2 => zs = [.int c] ∧ H2 = H1) I1 ⟨rfl, rfl⟩) fun ks s2 hh => ?_
  obtain ⟨zs, H2, I2, r2, rfl, rfl⟩ := hh
  rw [hks]
  cases r1 with
  | cons r rr =>
    cases rr
    cases r
    cases r2 with
    | cons r3 rr3 =>
      cases rr3
      obtain ⟨t, rfl⟩ := r3
      obtain ⟨its, rvs, pl, hz⟩ := I2.list hq
      refine enum_begins_start (begins_list a its.toArray) pl.isList hc.1 hc.2 fun h' he hit hsz hk => wpAny_pyIter_enum he ?_
      have I3 : Inv X pins σ H2 { s2 with heap := h' } := I2.kept (t' := s2.toks) hk
      refine ⟨s2.heap.objs.size + 1, [s2.heap.objs.size + 1, s2.heap.objs.size], _, _, H2, rfl, I3, turn_enumS a (s2.heap.objs.size + 1) s2.heap.objs.size c, ⟨⟨.none, ?_⟩, ⟨_, hit, rfl, rfl⟩, Nat.succ_ne_self _⟩, fun b hb => ?_, q⟩
      · show IsEnum h' _ _ (c + ((0 : Nat) : Int)) _
        rw [show c + ((0 : Nat) : Int) = c by omega]
        exact he
      · have hle : s2.heap.objs.size ≤ b := by
          rcases List.mem_cons.mp hb with z | z
          · rw [z]; exact Nat.le_succ _
          · rw [List.mem_singleton.mp z]; exact Nat.le_refl _
        exact I2.fpOk hle (I2.hok.fresh hle)
section
variable {X : Cx} {E : Ent} {own : Own} {B H : Hp} {σ : L2.St} {α : Type} {R : Rel α} {a : Expr} {p pos tpos kp kpos : Pos} {xs : List α} {kk k2 : Nat} {c : Int} {tgs : List Expr}
theorem walk_enumS {q : Addr} {vs : List V} {Ko : Own → Prop} {K : PySem.W.Frag} (hl : ∀ own' B' H', Stt E own' B' H' → Ex B B' → Ko own' → Rd H' q (.lst vs)) (r : Paired (R.r B) vs xs) : Walk E Ko B (IteS K q c) (rPr rInt R) (enumI c xs) := by
  refine ⟨fun i own' B' H' S' e k hi => ?_, fun i own' B' H' S' e k hi => ⟨vs, .inl (hl own' B' H' S' e k), by rw [enumI_len] at hi; rw [plen r]; exact hi⟩, fun i own' B' H' v H'' x S' e k hx hy => ?_⟩
  · have h2 : i < vs.length := by rw [plen r, ← enumI_len c xs]; exact hi
    exact ⟨vs, vs[i], .inl (hl own' B' H' S' e k), List.getElem?_eq_getElem h2⟩
  · obtain ⟨T, u, h1, h2, h3, h4⟩ := hy
    subst h3
    obtain ⟨x', hx', rx⟩ := L2.paired_get r (h4 vs (.inl (hl own' B' H' S' e k)))
    rw [enumI_at hx'] at hx
    cases hx
    exact ⟨_, S'.lay h2, (S'.layB h2).ex, (Sx.new h2).ex, T, .int (c + (i : Int)), u, h1, upd_same, rfl, R.mono (e.trans (S'.layB h2).ex) rx⟩
theorem ei_enumS (hg : Gl X "enumerate") (hm : X.mg "enumerate" = none) (hc : -(2 ^ 63) ≤ c ∧ c < 2 ^ 63) (he : EvE X E own B H σ a (rLst R) xs) (hs : St1 X a := by rfl) (hpl : (backTo pos (starEach [a] X.env)).any (·.1) = false := by rfl)
    (hall : (backToKw pos (keywordEach [⟨some "start", .Constant (.int c) k2 kp, kpos⟩] X.env)).all (·.1.isSome) = true := by rfl) (hnone : (backToKw pos (keywordEach [⟨some "start", .Constant (.int c) k2 kp, kpos⟩] X.env)).any (·.1.isNone) = false := by rfl) (hks : (backToKw pos (keywordEach [⟨some "start", .Constant (.int c) k2 kp, kpos⟩] X.env)).filterMap (·.1) = [Str.ofString "start"] := by rfl) :
    EvI X E own B H σ (.Tuple tgs kk tpos) (.Call (.Name "enumerate" p) [a] [⟨some "start", .Constant (.int c) k2 kp, kpos⟩] pos) (rPr rInt R) KoT (enumI c xs) := ⟨_, pi_enumS hg hm (pa1 hs) hc hs hpl hall hnone hks, fun B1 H1 S e1 e2 Q k => WE.sz (he B1 H1 S e1 e2 _ fun v B2 H2 S2 e3 e4 r sz => by
  obtain ⟨q, vs, h1, h2, h3⟩ := r
  subst h1
  exact ⟨q, vs, rfl, .inl (S2.bh.ex.rdL h2), k _ B2 H2 S2 e3 e4 (walk_enumS (fun own' B' H' S' e' _ => S'.bh.ex.rdL (e'.rdL h2)) h3) (by rw [enumI_len, ← plen h3]; exact sz.1 _ _ (S2.bh.ex.rdL h2))⟩)⟩
end
end Sg

namespace Sg
open PySem PySem.Spec PyProof.Rows L2
/-! ### data with texts, compared -/
class DatP (K : PySem.W.Frag) {α : Type} (R : Rel α) where
  d : α → PyData
  rd : ∀ {H : Hp} {v : V} {x : α}, R.r H v x → Dp K H v (d x)
  pl : ∀ x, (d x).plain = true
  n : Nat
  dep : ∀ x, (d x).depth ≤ n
  eq : ∀ x y, PyData.eqv (d x) (d y) = true ↔ x = y
section
variable {K : PySem.W.Frag} {α β γ : Type} {R : Rel α} {S : Rel β} {T : Rel γ}
instance : DatP K rInt := ⟨PyData.int, fun h => by rw [h]; exact .int _, fun _ => rfl, 0, fun _ => Nat.le_refl _, fun x y => by simp [PyData.eqv]⟩
instance : DatP K rBool := ⟨PyData.bool, fun h => by rw [h]; exact .bl _, fun _ => rfl, 0, fun _ => Nat.le_refl _, fun x y => by simp [PyData.eqv]⟩
instance : DatP K rStr := ⟨PyData.str, fun h => by rw [h]; exact .str _, fun _ => rfl, 0, fun _ => Nat.le_refl _, fun x y => by simp [PyData.eqv]⟩
theorem dppAll [D : DatP K R] {H : Hp} : ∀ {vs : List V} {xs : List α}, Paired (R.r H) vs xs → DpAll K H vs (xs.map D.d)
  | _, _, .nil => .nil
  | _, _, .cons h t => .cons (D.rd h) (dppAll t)
theorem plpAll [D : DatP K R] : ∀ xs : List α, PyData.plainAll (xs.map D.d) = true
  | [] => rfl
  | x :: r => by rw [List.map_cons, PyData.plainAll, D.pl, plpAll r]; rfl
theorem deppAll [D : DatP K R] : ∀ xs : List α, PyData.depthAll (xs.map D.d) ≤ D.n
  | [] => Nat.zero_le _
  | x :: r => by
    rw [List.map_cons, PyData.depthAll]
    exact Nat.max_le.mpr ⟨D.dep x, deppAll r⟩
theorem eqpAll [D : DatP K R] : ∀ xs ys : List α, PyData.eqvAll (xs.map D.d) (ys.map D.d) = true ↔ xs = ys
  | [], [] => by simp [PyData.eqvAll]
  | [], y :: r => by simp [PyData.eqvAll]
  | x :: r, [] => by simp [PyData.eqvAll]
  | x :: r, y :: q => by rw [List.map_cons, List.map_cons, PyData.eqvAll, Bool.and_eq_true, D.eq, eqpAll r q, List.cons.injEq]
instance [D : DatP K R] : DatP K (rLst R) := ⟨fun xs => .list (xs.map D.d), fun h => by
  obtain ⟨p, vs, h1, h2, h3⟩ := h
  rw [h1]
  exact .lst (.inl h2) (dppAll h3), fun xs => plpAll xs, D.n + 1, fun xs => Nat.succ_le_succ (deppAll xs), fun x y => eqpAll x y⟩
instance [D : DatP K R] : DatP K (rTup R) := ⟨fun xs => .tuple (xs.map D.d), fun h => by
  obtain ⟨p, vs, h1, h2, h3⟩ := h
  rw [h1]
  exact .tup (SqT.of h2) (dppAll h3), fun xs => plpAll xs, D.n + 1, fun xs => Nat.succ_le_succ (deppAll xs), fun x y => eqpAll x y⟩
instance [D : DatP K R] [F : DatP K S] : DatP K (rPr R S) := ⟨fun x => .tuple [D.d x.1, F.d x.2], fun h => by
  obtain ⟨p, a, b, h1, h2, h3, h4⟩ := h
  rw [h1]
  exact .tup (SqT.of h2) (.cons (D.rd h3) (.cons (F.rd h4) .nil)), fun x => by
    show (PyData.plain (D.d x.1) && (PyData.plain (F.d x.2) && true)) = true
    rw [D.pl, F.pl] <;> rfl, max D.n F.n + 1, fun x => by
    show max (PyData.depth (D.d x.1)) (max (PyData.depth (F.d x.2)) 0) + 1 ≤ max D.n F.n + 1
    have := D.dep x.1
    have := F.dep x.2
    omega, fun x y => by
    show (PyData.eqv (D.d x.1) (D.d y.1) && (PyData.eqv (F.d x.2) (F.d y.2) && true)) = true ↔ _
    rw [Bool.and_eq_true, Bool.and_true, D.eq, F.eq]
    exact ⟨fun h => Prod.ext h.1 h.2, fun h => by rw [h]; exact ⟨rfl, rfl⟩⟩⟩
instance [D : DatP K R] [F : DatP K S] [G : DatP K T] : DatP K (rT3 R S T) := ⟨fun x => .tuple [D.d x.1, F.d x.2.1, G.d x.2.2], fun h => by
  obtain ⟨p, a, b, c, h1, h2, h3, h4, h5⟩ := h
  rw [h1]
  exact .tup (SqT.of h2) (.cons (D.rd h3) (.cons (F.rd h4) (.cons (G.rd h5) .nil))), fun x => by
    show (PyData.plain (D.d x.1) && (PyData.plain (F.d x.2.1) && (PyData.plain (G.d x.2.2) && true))) = true
    rw [D.pl, F.pl, G.pl] <;> rfl, max D.n (max F.n G.n) + 1, fun x => by
    show max (PyData.depth (D.d x.1)) (max (PyData.depth (F.d x.2.1)) (max (PyData.depth (G.d x.2.2)) 0)) + 1 ≤ max D.n (max F.n G.n) + 1
    have := D.dep x.1
    have := F.dep x.2.1
    have := G.dep x.2.2
    omega, fun x y => by
    show (PyData.eqv (D.d x.1) (D.d y.1) && (PyData.eqv (F.d x.2.1) (F.d y.2.1) && (PyData.eqv (G.d x.2.2) (G.d y.2.2) && true))) = true ↔ _
    rw [Bool.and_eq_true, Bool.and_eq_true, Bool.and_true, D.eq, F.eq, G.eq]
    exact ⟨fun h => Prod.ext h.1 (Prod.ext h.2.1 h.2.2), fun h => by rw [h]; exact ⟨rfl, rfl, rfl⟩⟩⟩
end
def rEqP (K : PySem.W.Frag) (f : Bool → Bool) : R2 := fun x y H Q => ∃ d e, Dp K H x d ∧ Dp K H y e ∧ d.plain = true ∧ e.plain = true ∧ d.depth ≤ 64 ∧ Q (.bl (f (PyData.eqv d e))) H
section
variable {X : Cx} {α : Type} {R : Rel α}
theorem op_eqP (hu : X.A.units + 64 < cLine) : OpR X (compareOp .Eq) (rEqP X.K id) := by
  intro pins s σ H x y v u Q I rx ry h
  obtain ⟨d, e, hd, he, sd, se, hn, q⟩ := h
  obtain ⟨as, r1⟩ := Dp.reads I d x v hd rx
  obtain ⟨bs, r2⟩ := Dp.reads I e y u he ry
  exact SeqAt.eq_plain r1 r2 sd se (by omega) ⟨.bl _, H, I, rfl, q⟩
theorem op_neP (hu : X.A.units + 64 < cLine) : OpR X (compareOp .NotEq) (rEqP X.K not) := by
  intro pins s σ H x y v u Q I rx ry h
  obtain ⟨d, e, hd, he, sd, se, hn, q⟩ := h
  obtain ⟨as, r1⟩ := Dp.reads I d x v hd rx
  obtain ⟨bs, r2⟩ := Dp.reads I e y u he ry
  exact SeqAt.ne_plain r1 r2 sd se (by omega) ⟨.bl _, H, I, rfl, q⟩
theorem eqv_decP [DecidableEq α] [D : DatP X.K R] (x y : α) : PyData.eqv (D.d x) (D.d y) = decide (x = y) := by
  rw [Bool.eq_iff_iff, D.eq, decide_eq_true_iff]
theorem c_eqP [DecidableEq α] [D : DatP X.K R] (hu : X.A.units + 64 < cLine) (h : D.n ≤ 64 := by exact Nat.le_of_ble_eq_true rfl) : CmpR X .Eq R R (fun x y => decide (x = y)) :=
  ⟨⟨_, op_eqP hu, fun x y _ v w _ h1 h2 k => ⟨_, _, D.rd h1, D.rd h2, D.pl x, D.pl y, Nat.le_trans (D.dep x) h, by show _; rw [eqv_decP]; exact k⟩⟩, fun b => nomark b⟩
theorem c_neP [DecidableEq α] [D : DatP X.K R] (hu : X.A.units + 64 < cLine) (h : D.n ≤ 64 := by exact Nat.le_of_ble_eq_true rfl) : CmpR X .NotEq R R (fun x y => !decide (x = y)) :=
  ⟨⟨_, op_neP hu, fun x y _ v w _ h1 h2 k => ⟨_, _, D.rd h1, D.rd h2, D.pl x, D.pl y, Nat.le_trans (D.dep x) h, by show _; rw [eqv_decP]; exact k⟩⟩, fun b => nomark b⟩
end
/-! ### rules: an instance of two fields -/
structure Rul where
  heads : List (Int × Str)
  sides : List (Bool × List Str × List Str)
  deriving DecidableEq
abbrev rSide : Rel (Bool × List Str × List Str) := rT3 rBool (rLst rStr) (rLst rStr)
def rulF (d1 d2 : V) : List (Str × V) := [("heads", d1), ("sides", d2)]
def rRul (C : Addr) : Rel Rul := ⟨fun H v t => ∃ a dx d1 d2, v = .ref a ∧ H a = some (.ins C dx (rulF d1 d2)) ∧ (rDI rStr).r H d1 t.heads ∧ (rLst rSide).r H d2 t.sides,
  fun e ⟨a, dx, d1, d2, h1, h2, h3, h4⟩ => ⟨a, dx, d1, d2, h1, e.ins h2, Rel.mono _ e h3, Rel.mono _ e h4⟩⟩
instance {C : Addr} : NN (rRul C) := ⟨fun ⟨a, dx, d1, d2, h1, _⟩ => by rw [h1]; exact fun q => by cases q⟩
theorem rulF_no {m : Str} (h : [("heads" : Str), "sides"].all (fun x => !(m == x)) = true) (d1 d2 : V) : (rulF d1 d2).lookup m = none := by
  simp only [List.all_cons, List.all_nil, Bool.and_eq_true, Bool.not_eq_true', Bool.and_true] at h
  obtain ⟨h1, h2⟩ := h
  unfold rulF
  rw [List.lookup_cons, h1, List.lookup_cons, h2]
  rfl
theorem insRul {C : Addr} {m : Str} (h : [("heads" : Str), "sides"].all (fun x => !(m == x)) = true) : InsOf C m (rRul C) := fun r => by
  obtain ⟨a, dx, d1, d2, h1, h2, _⟩ := r
  exact ⟨a, dx, _, h1, h2, rulF_no h _ _⟩
theorem fldHeads {C : Addr} : FldOf C "heads" (rRul C) (rDI rStr) Rul.heads := ⟨fun r => by
  obtain ⟨a, dx, d1, d2, h1, h2, h3, h4⟩ := r
  exact ⟨a, dx, _, d1, h1, h2, rfl, h3⟩⟩
theorem fldSides {C : Addr} : FldOf C "sides" (rRul C) (rLst rSide) Rul.sides := ⟨fun r => by
  obtain ⟨a, dx, d1, d2, h1, h2, h3, h4⟩ := r
  exact ⟨a, dx, _, d2, h1, h2, rfl, h4⟩⟩
/-- the class of rules in the written part -/
structure RulTxt (K : PySem.W.Frag) (CR : Addr) : Prop where
  cls : Cls K CR
  n_heads : NoAttr K CR "heads"
  n_sides : NoAttr K CR "sides"
/-- what __init__ of rules promises -/
def kRul (CR a dx : Addr) : Ent → VK → Rul → Prop := fun E Q t => ∀ d1 d2 B H, Stt E [(a, .ins CR dx (rulF d1 d2))] B H → (rDI rStr).r B d1 t.heads → (rLst rSide).r B d2 t.sides → Q .non H
def SpInitR {δ : Type} (CR : Addr) (args : δ → AR) (f : δ → Res Rul) : Sp := fun vs H Q _ => ∃ B H0 d a dx us, vs = .ref a :: us ∧ H = upd H0 a (.ins CR dx []) ∧ H0 a = none ∧ Sx B H0 ∧ Tx H0 B ∧ (args d).r us B H0 ∧ Fin (kRul CR a dx ⟨B, H0⟩ Q) NoErr (f d)
/-! rows of rules as told: of a kind, or of two sides -/
abbrev RowT := (Str × List (Option Int)) ⊕ (Bool × List Str × List Str)
abbrev rKin : Rel (Str × List (Option Int)) := rPr rStr (rLst (rOpt rInt))
def rRow : Rel RowT := ⟨fun H v x => match x with
  | .inl y => rKin.r H v y
  | .inr z => rSide.r H v z, fun {H H' v x} e h => by
  cases x with
  | inl y => exact Rel.mono rKin e h
  | inr z => exact Rel.mono rSide e h⟩
instance : NN rRow := ⟨fun {H v x} h => by
  cases x with
  | inl y => exact NN.nn (R := rKin) h
  | inr z => exact NN.nn (R := rSide) h⟩
def lenRow : RowT → Int
  | .inl _ => 2
  | .inr _ => 3
def rowL : RowT → Option (Str × List (Option Int))
  | .inl y => some y
  | .inr _ => none
def rowR : RowT → Option (Bool × List Str × List Str)
  | .inl _ => none
  | .inr y => some y
/-- the first place of a thing -/
def ixOf {α : Type} [DecidableEq α] : List α → α → Option Int
  | [], _ => none
  | y :: ys, x => if y = x then some 0 else (ixOf ys x).map (· + 1)
theorem ixOf_at {α : Type} [DecidableEq α] {x : α} : ∀ {ys : List α} {j : Int}, ixOf ys x = some j → ∃ k : Nat, j = k ∧ ys[k]? = some x ∧ ∀ m, m < k → ∀ z, ys[m]? = some z → z ≠ x
  | [], j, h => by cases h
  | y :: ys, j, h => by
    unfold ixOf at h
    by_cases hy : y = x
    · rw [if_pos hy] at h
      cases h
      exact ⟨0, rfl, by rw [hy]; rfl, fun m hm => absurd hm (Nat.not_lt_zero _)⟩
    · rw [if_neg hy, Option.map_eq_some_iff] at h
      obtain ⟨i, h1, rfl⟩ := h
      obtain ⟨k, rfl, h2, h3⟩ := ixOf_at h1
      refine ⟨k + 1, rfl, h2, fun m hm z hz => ?_⟩
      cases m with
      | zero =>
        cases hz
        exact hy
      | succ m => exact h3 m (by omega) z hz
theorem strs_flat (ss : List Str) : (ss.map V.str).all flatV = true := by
  rw [List.all_eq_true]
  intro v hv
  obtain ⟨s, _, rfl⟩ := List.mem_map.mp hv
  rfl
/-- a tuple of texts that stands in the written part -/
def GTup (K : PySem.W.Frag) (mg : MG) (n : Str) (ws : List Str) : Prop := ∃ t o its k, mg n = some (.ref t) ∧ K.lookup t = some o ∧ o.cls = .type "tuple" ∧ o.data = .seq its k ∧ its.size ≤ sizeLine ∧ Vals (ws.map V.str) its.toList
/-- one's own class: what isinstance asks -/
structure InsC (K : PySem.W.Frag) (mg : MG) (n : Str) (C : Addr) : Prop where
  m : mg n = some (.ref C)
  cls : Cls K C
  ha : PySem.W.findIn K (.ref C) "__class__" = some (some (.builtin "object.__class__"))
  hn : PySem.W.specialIn K (.builtin "object.__class__") "__get__" = some (some (.builtin "getset_descriptor.__get__"))
  htk : PySem.W.takesIn K (.builtin "object.__class__") = some true
  hm : PySem.W.mroIn K C (.type "object") = some true
def InsR {α : Type} (C : Addr) (R : Rel α) : Prop := ∀ {H : Hp} {v : V} {x : α}, R.r H v x → ∃ a dx fs, v = .ref a ∧ H a = some (.ins C dx fs)
theorem rul_ins {C : Addr} : InsR C (rRul C) := fun r => by
  obtain ⟨a, dx, d1, d2, h1, h2, _⟩ := r
  exact ⟨a, dx, _, h1, h2⟩
theorem tab_ins {C : Addr} : InsR C (rTab C) := fun r => by
  obtain ⟨a, dx, d1, d2, d3, d4, h1, h2, _⟩ := r
  exact ⟨a, dx, _, h1, h2⟩
section
variable {X : Cx}
/-- l.count(x), flat items -/
def rCntV (K : PySem.W.Frag) : V → List V → Hp → VK → Prop := fun x xs H Q => ∃ (p : Addr) (ys : List V) (y : V), x = .ref p ∧ xs = [y] ∧ SqL K H p ys ∧ flatV y = true ∧ ys.all flatV = true ∧ Q (.int (ys.countP fun z => eqV z y : Nat)) H
theorem cnt_vals {y : V} (fy : flatV y = true) : ∀ {ys : List V} {us : List Value}, Vals ys us → ys.all flatV = true → us.countP (eqU y) = ys.countP fun z => eqV z y
  | _, _, .nil, _ => rfl
  | _, _, .cons r t, f => by
    rw [List.all_cons, Bool.and_eq_true] at f
    rw [List.countP_cons, List.countP_cons, cnt_vals fy t f.2, eqU_of r f.1]
theorem mt_cntV : MtR X "list.count" (rCntV X.K) := by
  intro pins s σ H x xs v us Q I rx rxs h
  obtain ⟨p, ys, y, rfl, rfl, hs, fy, fys, q⟩ := h
  cases rx
  obtain ⟨u, rfl, ru⟩ := rxs.one
  obtain ⟨its, rv, ⟨⟨cls, dd, data, sl⟩, n, ho, hc, hdn, hd⟩, hlen⟩ := I.list hs
  simp only at hc hd
  subst hc hd
  refine call_meets PySem.F.slot_list_count ⟨_, ho, rfl⟩ PySem.F.entry_list_count (PySem.F.args_list_count_2 _ _)
    (SeqAt.list_countAt p its.toArray n dd sl u (eqU y)) ⟨ho, fun z hz => mem_eqAt ru fy rv fys z (by simpa using hz), ?_⟩
  have ec : its.toArray.toList.countP (eqU y) = ys.countP fun z => eqV z y := cnt_vals fy rv fys
  rw [ec]
  exact ⟨.int (ys.countP fun z => eqV z y : Nat), H, I.tok _, ⟨s.toks, rfl⟩, q⟩
/-! d.values() -/
def vvO (p d : Addr) : HO := .ext fun h => h.IsValuesView p d
theorem vvO_ok {P : Program} {w : World} {H : Hp} {h : Heap} {p d : Addr} (e : h.get? p = some { cls := .type "dict_values", data := .fields #[.ref d] }) : ObjOk P w H h p (vvO p d) :=
  ⟨⟨_, e, rfl, rfl⟩, ⟨_, e⟩, fun h1 h2 ⟨o, ho, r⟩ k => ⟨o, k o ho, r⟩⟩
def rVv : V → List V → Hp → VK → Prop := fun x xs H Q => ∃ (d : Addr) (ws : List (Key × V)), x = .ref d ∧ xs = [] ∧ Rd H d (.dK ws) ∧ ∀ p, H p = none → Q (.ref p) (upd H p (vvO p d))
theorem mt_vv : MtR X "dict.values" rVv := by
  intro pins s σ H x xs v us Q I rx rxs hr
  obtain ⟨d, ws, rfl, rfl, hd, q⟩ := hr
  cases rx
  cases rxs
  obtain ⟨_, lo, vs, _, dd⟩ := dk_rd I.hok hd
  refine PySem.call_meetsIn F.slot_dict_values dd.typeIs F.entry_dict_values (F.args_dict_values_1 _) (meets_dict_values (mixKind X.prog X.w) d lo) ⟨⟨vs, dd⟩, ?_⟩
  exact ⟨.ref s.heap.objs.size, _, I.laid (t' := s.toks) (fun b u e => Heap.get?_push_of_some _ e) (Nat.le_refl _) (vvO_ok (Heap.get?_push_size _ rfl)), rfl, q _ (I.hok.fresh (Nat.le_refl _))⟩
theorem pe_vv {o : Expr} {te : TE} {ap cp : Pos} (he : PE X o te) (hb : attributeBase o "values" X.env (eval o X.env) = eval o X.env := by rfl) (hl : (ap.endLine == cp.line) = true := by rfl) : PE X (.Call (.Attribute o "values" ap) [] [] cp) (fun σ H Q => te σ H fun x H1 => rVv x [] H1 Q) := by
  refine ⟨fun pins s σ H Q I hq => ?_⟩
  refine wpAny_Call_method (T := "dict") (id := "dict.values") hb rfl hl F.plainAttrs_dict F.slot_dict_values F.type_dict_values (thn (he.run pins s σ H _ I hq) fun u s1 ⟨x, H1, I1, rx, hv⟩ => ?_)
  obtain ⟨d, ws, rfl, h2, hd, h3⟩ := hv
  obtain rfl : u = Value.ref d := rx
  obtain ⟨_, lo, vs, _, dd⟩ := dk_rd I1.hok hd
  exact ⟨dd.typeIs, dd.mapOf.noDict, Calls.callWith_builtin rfl (PySem.evalArgs_none (mt_vv pins s1 σ H1 (.ref d) [] (.ref d) [] Q I1 rfl .nil ⟨d, ws, rfl, h2, hd, h3⟩))⟩
def rListVv : List V → Hp → VK → Prop := fun xs H Q => ∃ (p d : Addr) (ws : List (Key × V)), xs = [.ref p] ∧ H p = some (vvO p d) ∧ Rd H d (.dK ws) ∧ ∀ l, H l = none → Q (.ref l) (upd H l (.lst (ws.map (·.2))))
theorem vals_seconds : ∀ {ws : List (Key × V)} {vs : List (Key × Value)} {us : List Value}, us = vs.map (·.2) → Paired (fun (w : Key × V) (v : Key × Value) => RelV w.2 v.2) ws vs → Vals (ws.map (·.2)) us
  | _, _, _, e, .nil => by subst e; exact .nil
  | _, _, _, e, .cons h t => by subst e; exact .cons h (vals_seconds rfl t)
theorem cr_listVv (hc : X.calm = true) : CallR X (.type "list") rListVv := by
  intro pins s σ H xs us Q I r hq
  obtain ⟨p, d, ws, rfl, hp, hd, q⟩ := hq
  obtain rfl := Vals.ref1 r
  have view : s.heap.IsValuesView p d := (show ObjOk X.prog X.w H s.heap p (vvO p d) from I.hok p _ hp).1
  obtain ⟨zl, lo, vs, rel, dd⟩ := dk_rd I.hok hd
  obtain ⟨ep, hat⟩ := dd.dictAt
  have l1 : ws.length = vs.length := Paired.length rel
  refine PySem.W.kdl_call (PySem.W.kdl_values (knd := mixKind X.prog X.w) (kvs := vs) (ep := ep)) (I.ok.hd hc) ⟨view, hat⟩ (by omega) fun h' tk acc c hk hD hacc => ?_
  have I2 : Inv X pins σ H { s with heap := h', toks := tk } := I.kept (t' := tk) hk
  have nl := I.hok.fresh (Nat.le_refl s.heap.objs.size)
  have ea : acc.toList = vs.map (·.2) := PySem.W.kdl_vals_eq (kvs := vs) acc.toList (by rw [Array.length_toList]; exact hacc.1) fun j v e => hacc.2 j v (by rw [← Array.getElem?_toList]; exact e)
  refine ⟨.ref s.heap.objs.size, _, I2.take (h' := h') (t' := tk) (o := .lst (ws.map (·.2))) (fun b ob _ e => e) (I.fpOk (b := s.heap.objs.size) (Nat.le_refl _) nl) ⟨by rw [List.length_map]; exact zl, acc.toList, c, vals_seconds ea (pimp rel fun _ _ z => z.2), by rw [Array.toArray_toList]; exact hD⟩, rfl, q _ nl⟩
end
section
variable {X Xb : Cx} {E : Ent} {own new own' : Own} {B H B' H' : Hp} {σ : L2.St} {α β γ δ τ ρ ρ' : Type} {R : Rel α} {S : Rel β} {T : Rel γ} {U : Rel δ} {e a b c d o it tg : Expr} {x : α} {y : β} {p pos pos' ap cp apos : Pos} {i j k k0 : Nat} {z w : Bool} {xs : List α} {ys : List β} {es : List Expr}
variable {n m f : Str} {rest body other : List Stmt} {D : Ends} {P : ρ → Prop} {Er : Err → Prop} {CR : Addr}
theorem ee_makeR {ps : List Str} {args : δ → AR} {g : δ → Res Rul} {d : δ} {r : Rul} (C : Cok X k0) (G : MkT X k n CR ps (SpInitR CR args g)) (hk : k + 1 ≤ k0) (hg : Gl X n) (ha : EvAs X E own B H σ (e :: es) (args d)) (hm : g d = .ok r)
    (hdb : (n == ("__debug__" : Str)) = false := by rfl) (hst : starEach (e :: es) X.env = (false, eval e X.env) :: starEach es X.env := by rfl) (hpl : (backTo pos (starEach es X.env)).any (·.1) = false := by rfl) : EvE X E own B H σ (.Call (.Name n p) (e :: es) [] pos) (rRul CR) r := fun B1 H1 S1 e1 e2 Q kq => by
  obtain ⟨f, fd, M, F, hmg, hb⟩ := G
  refine WE.of (pe_make (dvs := []) (ds := []) M F (C.room.mono hk) hg hmg hb .nil pass0 paW hdb hst hpl) (ha B1 H1 S1 e1 e2 _ fun vs B2 H2 S2 e3 e4 ra => ?_)
  intro x dx hx hdx hne
  rw [List.append_nil]
  have S3 : Stt E own (upd B2 dx (.own x)) (upd H2 dx (.own x)) := S2.lay hdx
  have hx3 : upd H2 dx (.own x) x = none := by rw [upd_ne hne.symm]; exact hx
  refine ⟨upd B2 dx (.own x), upd H2 dx (.own x), d, x, dx, vs, rfl, rfl, hx3, S3.bh, S3.tu, (args d).mono (S2.layB hdx).ex (Sx.new hdx).ex ra, Fin.eq hm fun d1 d2 B4 H4 T h1 h2 => ⟨rfl, ?_⟩⟩
  have S4 := S3.call T
  have nB := (S4.ow _ (List.mem_cons_self ..)).2.1
  have eB := (Sx.new (o := .ins CR dx (rulF d1 d2)) nB).ex
  exact kq (.ref x) _ H4 S4.keep (e3.trans (((S2.layB hdx).ex.trans T.b0.ex).trans eB)) (e4.trans ((Sx.new hdx).ex.trans T.h0.ex)) ⟨x, dx, d1, d2, rfl, upd_same, Rel.mono _ eB h1, Rel.mono _ eB h2⟩
theorem ev_lenRow {x : RowT} (hg : Gl X "len") (hm : X.mg "len" = none) (ha : EvB X E own B H σ a rRow x) (hs : St1 X a := by rfl) : EvB X E own B H σ (.Call (.Name "len" p) [a] [] pos) rInt (lenRow x) :=
  ev_b1 (f := lenRow) (pe_callB call_len_seq hg hm PySem.boot_len (pa1 hs) (he := hs)) ha fun H1 v Q h k => by
    cases x with
    | inl y =>
      obtain ⟨p, vs, h1, h2, h3⟩ := lenPr.l (show rKin.r H1 v y from h)
      exact ⟨p, vs, by rw [h1], .inr (SqT.of h2), k _ (by rw [h3]; rfl)⟩
    | inr y =>
      obtain ⟨p, vs, h1, h2, h3⟩ := lenT3.l (show rSide.r H1 v y from h)
      exact ⟨p, vs, by rw [h1], .inr (SqT.of h2), k _ (by rw [h3]; rfl)⟩
theorem rowL_eq {x : RowT} {y : Str × List (Option Int)} (h : rowL x = some y) : x = .inl y := by
  cases x with
  | inl z => cases h; rfl
  | inr z => cases h
theorem rowR_eq {x : RowT} {y : Bool × List Str × List Str} (h : rowR x = some y) : x = .inr y := by
  cases x with
  | inl z => cases h
  | inr z => cases h; rfl
theorem ee_rowL {x : RowT} {y : Str × List (Option Int)} (h : EvE X E own B H σ e rRow x) (q : rowL x = some y) : EvE X E own B H σ e rKin y := by
  rw [rowL_eq q] at h
  exact h
theorem ee_rowR {x : RowT} {y : Bool × List Str × List Str} (h : EvE X E own B H σ e rRow x) (q : rowR x = some y) : EvE X E own B H σ e rSide y := by
  rw [rowR_eq q] at h
  exact h
theorem ee_inl {x : Str × List (Option Int)} (h : EvE X E own B H σ e rKin x) : EvE X E own B H σ e rRow (.inl x) := h
theorem ee_inr {x : Bool × List Str × List Str} (h : EvE X E own B H σ e rSide x) : EvE X E own B H σ e rRow (.inr x) := h
theorem ee_inlO {x : Option (Str × List (Option Int))} (h : EvE X E own B H σ e (rOpt rKin) x) : EvE X E own B H σ e (rOpt rRow) (x.map Sum.inl) := by
  cases x with
  | none => exact h
  | some y => exact h
theorem ee_inrO {x : Option (Bool × List Str × List Str)} (h : EvE X E own B H σ e (rOpt rSide) x) : EvE X E own B H σ e (rOpt rRow) (x.map Sum.inr) := by
  cases x with
  | none => exact h
  | some y => exact h
/-- list(TEXTS) -/
theorem el_listGT {ws : List Str} {p2 : Pos} (G : GTup X.K X.mg n ws) (hg : Gl X "list") (hm : X.mg "list" = none) (hgn : Gl X n) (hd : (n == ("__debug__" : Str)) = false := by rfl) (hs : St1 X (.Name n p2) := by rfl) : EvL X E own B H σ (.Call (.Name "list" p) [.Name n p2] [] pos) rStr ws := fun B1 H1 S1 e1 e2 Q k => by
  obtain ⟨t, o, its, kk, h1, h2, h3, h4, h5, h6⟩ := G
  refine WE.of (pe_callTy call_list_of hg hm (by decide +kernel) (pa_cons (pe_gref hgn h1 hd) pa_nil hs) (he := hs)) ?_
  exact ⟨t, ws.map V.str, rfl, .inr (.inr ⟨o, its, kk, h2, h3, h4, h5, h6⟩), fun l hl => k l _ B1 _ (S1.alloc hl fun ys z => by cases z) (Ex.refl _) (Sx.new hl).ex (strs_pair _)⟩
/-- isinstance(x, one's own class) -/
theorem ev_isC {C : Addr} {cs : Str} {p2 : Pos} (IC : InsC X.K X.mg cs C) (hR : InsR C R) (hg : Gl X "isinstance") (hm : X.mg "isinstance" = none) (hgc : Gl X cs) (ha : EvB X E own B H σ a R x) (hdb : (cs == ("__debug__" : Str)) = false := by decide)
    (hs : starEach (a :: [.Name cs p2]) X.env = (false, eval a X.env) :: starEach [.Name cs p2] X.env := by rfl) (hs2 : St1 X (.Name cs p2) := by rfl) (hpl : (backTo pos (starEach [.Name cs p2] X.env)).any (·.1) = false := by rfl) :
    EvB X E own B H σ (.Call (.Name "isinstance" p) [a, .Name cs p2] [] pos) rBool true := fun B1 H1 S1 e1 e2 Q k =>
  WE.of (pe_callB call_isi hg hm (by decide +kernel) (pa_cons peW (pa_cons (pe_gref hgc IC.m hdb) pa_nil hs2) hs) (he := hs) (hpl := hpl)) (ha B1 H1 S1 e1 e2 _ fun v B2 H2 S2 e3 e4 r => by
    obtain ⟨q, dx, fs, h1, h2⟩ := hR r
    exact ⟨v, .ref C, .ref C, .ref C, true, rfl, .own C, by rw [h1]; exact .base (.ins h2 IC.cls IC.ha IC.hn IC.htk IC.hm), kit_self, k _ B2 H2 S2 e3 e4 rfl⟩)
/-- l.count(a text), l.index(a text) -/
theorem cnt_strs (s : Str) : ∀ ss : List Str, ((ss.map V.str).countP fun z => eqV z (V.str s)) = ss.count s
  | [] => rfl
  | t :: r => by
    rw [List.map_cons, List.countP_cons, cnt_strs s r, List.count_cons]
    rfl
theorem ev_cntS {s : Str} {ss : List Str} (ho : EvB X E own B H σ o (rLst rStr) ss) (ha : EvB X E own B H σ a rStr s)
    (hbase : attributeBase o "count" X.env (eval o X.env) = eval o X.env := by rfl)
    (hfew : ((backTo cp (starEach [a] X.env)).all (fun x => !x.1) && (backToKw cp (keywordEach [] X.env)).all (fun x => x.1.isSome) && decide ([a].length + ([] : List Keyword).length + (if ([] : List Keyword).isEmpty then 0 else 1) < 30)) = true := by rfl)
    (hline : (ap.endLine == cp.line) = true := by rfl) (hs : starEach [a] X.env = (false, eval a X.env) :: starEach [] X.env := by rfl) (hpl : (backTo cp (starEach [] X.env)).any (·.1) = false := by rfl) :
    EvB X E own B H σ (.Call (.Attribute o "count" ap) [a] [] cp) rInt (ss.count s : Nat) := fun B1 H1 S1 e1 e2 Q k =>
  WE.of (pe_bm PySem.F.plainAttrs_list PySem.F.slot_list_count PySem.F.type_list_count mt_cntV peW (pa_cons peW pa_nil hs) hbase hfew hline hs hpl) (ho B1 H1 S1 e1 e2 _ fun v B2 H2 S2 e3 e4 r => by
    obtain ⟨q, vs, rfl, h2, h3⟩ := r
    refine ⟨.inl ⟨rfl, vs, .inl h2⟩, ha B2 H2 S2 (e1.trans e3) (e2.trans e4) _ fun w B3 H3 S3 e5 e6 r2 => ?_⟩
    have r2 : w = .str s := r2
    subst r2
    rw [strs_rel h3] at h2
    exact ⟨q, _, _, rfl, rfl, .inl (e6.rdL h2), rfl, strs_flat _, by rw [cnt_strs]; exact k _ B3 H3 S3 (e3.trans e5) (e4.trans e6) rfl⟩)
theorem ev_ixOfS {s : Str} {ss : List Str} {d : Int} (ho : EvB X E own B H σ o (rLst rStr) ss) (ha : EvB X E own B H σ a rStr s) (hd : ixOf ss s = some d)
    (hbase : attributeBase o "index" X.env (eval o X.env) = eval o X.env := by rfl)
    (hfew : ((backTo cp (starEach [a] X.env)).all (fun x => !x.1) && (backToKw cp (keywordEach [] X.env)).all (fun x => x.1.isSome) && decide ([a].length + ([] : List Keyword).length + (if ([] : List Keyword).isEmpty then 0 else 1) < 30)) = true := by rfl)
    (hline : (ap.endLine == cp.line) = true := by rfl) (hs : starEach [a] X.env = (false, eval a X.env) :: starEach [] X.env := by rfl) (hpl : (backTo cp (starEach [] X.env)).any (·.1) = false := by rfl) :
    EvB X E own B H σ (.Call (.Attribute o "index" ap) [a] [] cp) rInt d := fun B1 H1 S1 e1 e2 Q k =>
  WE.of (pe_bm PySem.F.plainAttrs_list PySem.F.slot_list_index PySem.F.type_list_index mt_index peW (pa_cons peW pa_nil hs) hbase hfew hline hs hpl) (ho B1 H1 S1 e1 e2 _ fun v B2 H2 S2 e3 e4 r => by
    obtain ⟨q, vs, rfl, h2, h3⟩ := r
    refine ⟨.inl ⟨rfl, vs, .inl h2⟩, ha B2 H2 S2 (e1.trans e3) (e2.trans e4) _ fun w B3 H3 S3 e5 e6 r2 => ?_⟩
    have r2 : w = .str s := r2
    subst r2
    rw [strs_rel h3] at h2
    obtain ⟨j, rfl, g1, g2⟩ := ixOf_at hd
    refine ⟨q, _, _, j, .str s, rfl, rfl, .inl (e6.rdL h2), rfl, strs_flat _, by rw [List.getElem?_map, g1]; rfl, by show (s == s) = true; exact beq_self_eq_true s, fun mm z hm hz => ?_, k _ B3 H3 S3 (e3.trans e5) (e4.trans e6) rfl⟩
    rw [List.getElem?_map, Option.map_eq_some_iff] at hz
    obtain ⟨t, g3, rfl⟩ := hz
    show (t == s) = false
    exact beq_false_of_ne (g2 mm hm t g3))
def absI (i : Int) : Int := if i < 0 then -i else i
theorem ev_abs {d : Int} (hg : Gl X "abs") (hm : X.mg "abs" = none) (ha : EvB X E own B H σ a rInt d) (hs : St1 X a := by rfl) : EvB X E own B H σ (.Call (.Name "abs" p) [a] [] pos) rInt (absI d) :=
  ev_b1 (f := absI) (pe_callB call_abs hg hm (by decide +kernel) (pa1 hs) (he := hs)) ha fun H1 v Q h k => ⟨d, by rw [show v = .int d from h], k _ rfl⟩
theorem ee_none {kk} : EvE X E own B H σ (.Constant .none kk pos) (rOpt R) none := fun B1 H1 S1 e1 e2 Q k => WE.of pe_non (k .non B1 H1 S1 (Ex.refl _) (Ex.refl _) rfl)
theorem ee_fld {CA : Addr} {pr : α → β} (cls : Cls X.K CA) (na : NoAttr X.K CA f) (F : FldOf CA f R S pr) (ho : EvE X E own B H σ o R x) (hb : attributeBase o f X.env (eval o X.env) = eval o X.env := by rfl) : EvE X E own B H σ (.Attribute o f pos) S (pr x) := fun B1 H1 S1 e1 e2 Q q =>
  WE.of (pe_fld peW hb) (ho B1 H1 S1 e1 e2 _ fun v B2 H2 S2 e3 e4 r => by
    obtain ⟨a, dx, fs, u, h1, h2, h3, h4⟩ := F.g r
    exact ⟨a, CA, dx, fs, u, h1, S2.bh _ _ h2, cls, na, h3, q u B2 H2 S2 e3 e4 h4⟩)
theorem ee_meth0 {ps : List Str} {args : δ → AR} {g : δ → Res ρ} {RR : Rel ρ} {d : δ} {r : ρ} {CA : Addr} {pl : Sem Bool} (C : Cok X k0) (cls : Cls X.K CA) (G : MCal X k CA m ps (SpA args (kE RR) g)) (hk : k ≤ k0) (ho : EvB X E own B H σ o R x) (hi : InsOf CA m R) (hA : args d = aC R x aN) (hm : g d = .ok r)
    (ht : eval (.Call (.Attribute o m apos) [] [] pos) X.env = (do
      let ov ← eval o X.env
      standAt apos.atName
      let (f, first) ← holding [ov] (getMethod ov m pl)
      callWith pos f first (backTo pos (starEach [] X.env)) (backToKw pos (keywordEach [] X.env))) := by rfl) : EvE X E own B H σ (.Call (.Attribute o m apos) [] [] pos) RR r := fun B1 H1 S1 e1 e2 Q q => by
  obtain ⟨fa, fd, F, hM, hb⟩ := G
  refine WE.of (pe_meth0 (pl := pl) peW cls hM F (C.room.mono hk) hb .nil pass0 ht) (ho B1 H1 S1 e1 e2 _ fun v B2 H2 S2 e3 e4 r => ?_)
  obtain ⟨a, dx, fs, h1, h2, h3⟩ := hi r
  exact ⟨a, dx, fs, h1, h2, h3, B2, d, S2.bh, S2.tu, by rw [hA]; exact ⟨v, [], rfl, r, rfl⟩, kE_call S2 hm fun p B4 H4 S4 e7 e8 r => q p B4 H4 S4 (e3.trans e7) (e4.trans e8) r⟩
theorem ee_meth0K {ps : List Str} {args : δ → AR} {g : δ → Res ρ} {RR : Rel ρ} {d : δ} {r : ρ} {CA : Addr} {pl : Sem Bool} (C : Cok X k0) (cls : Cls X.K CA) (G : MCal X k CA m ps (SpA args (kE RR) g)) (hk : k ≤ k0) (ho : EvE X E own B H σ o R x) (hi : InsOf CA m R) (hA : args d = aK R x aN) (hm : g d = .ok r)
    (ht : eval (.Call (.Attribute o m apos) [] [] pos) X.env = (do
      let ov ← eval o X.env
      standAt apos.atName
      let (f, first) ← holding [ov] (getMethod ov m pl)
      callWith pos f first (backTo pos (starEach [] X.env)) (backToKw pos (keywordEach [] X.env))) := by rfl) : EvE X E own B H σ (.Call (.Attribute o m apos) [] [] pos) RR r := fun B1 H1 S1 e1 e2 Q q => by
  obtain ⟨fa, fd, F, hM, hb⟩ := G
  refine WE.of (pe_meth0 (pl := pl) peW cls hM F (C.room.mono hk) hb .nil pass0 ht) (ho B1 H1 S1 e1 e2 _ fun v B2 H2 S2 e3 e4 r => ?_)
  obtain ⟨a, dx, fs, h1, h2, h3⟩ := hi r
  exact ⟨a, dx, fs, h1, S2.bh _ _ h2, h3, B2, d, S2.bh, S2.tu, by rw [hA]; exact ⟨v, [], rfl, r, rfl⟩, kE_call S2 hm fun p B4 H4 S4 e7 e8 r => q p B4 H4 S4 (e3.trans e7) (e4.trans e8) r⟩
theorem ee_methK {ps : List Str} {A : AR} {args : δ → AR} {g : δ → Res ρ} {RR : Rel ρ} {d : δ} {r : ρ} {CA : Addr} {pl : Sem Bool} (C : Cok X k0) (cls : Cls X.K CA) (G : MCal X k CA m ps (SpA args (kE RR) g)) (hk : k ≤ k0) (ho : EvE X E own B H σ o R x) (hi : InsOf CA m R) (ha : EvAs X E own B H σ (e :: es) A) (hA : args d = aK R x A) (hm : g d = .ok r)
    (hst : starEach (e :: es) X.env = (false, eval e X.env) :: starEach es X.env := by rfl) (hpl : (backTo pos (starEach es X.env)).any (·.1) = false := by rfl)
    (ht : eval (.Call (.Attribute o m apos) (e :: es) [] pos) X.env = (do
      let ov ← eval o X.env
      standAt apos.atName
      let (f, first) ← holding [ov] (getMethod ov m pl)
      callWith pos f first (backTo pos (starEach (e :: es) X.env)) (backToKw pos (keywordEach [] X.env))) := by rfl) : EvE X E own B H σ (.Call (.Attribute o m apos) (e :: es) [] pos) RR r := fun B1 H1 S1 e1 e2 Q q => by
  obtain ⟨fa, fd, F, hM, hb⟩ := G
  refine WE.of (pe_meth (pl := pl) peW cls hM F (C.room.mono hk) hb .nil pass0 paW hst hpl ht) (ho B1 H1 S1 e1 e2 _ fun v B2 H2 S2 e3 e4 r => ?_)
  obtain ⟨a, dx, fs, h1, h2, h3⟩ := hi r
  refine ⟨a, dx, fs, h1, S2.bh _ _ h2, h3, ha B2 H2 S2 (e1.trans e3) (e2.trans e4) _ fun vs B3 H3 S3 e5 e6 q2 => ?_⟩
  rw [List.append_nil]
  exact ⟨B3, d, S3.bh, S3.tu, by rw [hA]; exact ⟨v, vs, rfl, R.mono e5 r, q2⟩, kE_call S3 hm fun v B4 H4 S4 e7 e8 r => q v B4 H4 S4 ((e3.trans e5).trans e7) ((e4.trans e6).trans e8) r⟩
theorem el_listRM {p2 pos2 : Pos} (hc : X.calm = true) (hg : Gl X "list") (hm : X.mg "list" = none) (hg2 : Gl X "reversed") (hm2 : X.mg "reversed" = none) (ha : EvM X E own B H σ a R xs) (hs : St1 X a := by rfl)
    (hs2 : starEach [.Call (.Name "reversed" p2) [a] [] pos2] X.env = (false, eval (.Call (.Name "reversed" p2) [a] [] pos2) X.env) :: starEach [] X.env := by rfl) : EvL X E own B H σ (.Call (.Name "list" p) [.Call (.Name "reversed" p2) [a] [] pos2] [] pos) R xs.reverse := fun B1 H1 S1 e1 e2 Q k =>
  WE.of (pe_listRev hc hg hm hg2 hm2 peW hs hs2) (ha B1 H1 S1 e1 e2 _ fun q vs B2 H2 S2 e3 e4 h2 h3 =>
    ⟨q, vs, rfl, .inl (.inl h2), fun l hl => k l _ B2 _ (S2.alloc hl fun ys z => by cases z) e3 (e4.trans (Sx.new hl).ex) (prev h3)⟩)
/-- list(d.values()) -/
theorem el_listVals {kvs : List (Int × α)} (hc : X.calm = true) (hg : Gl X "list") (hm : X.mg "list" = none) (ho : EvE X E own B H σ o (rDI R) kvs)
    (hb : attributeBase o "values" X.env (eval o X.env) = eval o X.env := by rfl) (hl : (ap.endLine == cp.line) = true := by rfl) (hs : St1 X (.Call (.Attribute o "values" ap) [] [] cp) := by rfl) : EvL X E own B H σ (.Call (.Name "list" p) [.Call (.Attribute o "values" ap) [] [] cp] [] pos) R (kvs.map (·.2)) := fun B1 H1 S1 e1 e2 Q k => by
  refine WE.of (pe_callTy (cr_listVv hc) hg hm (by decide +kernel) (pa_cons (pe_vv peW hb hl) pa_nil hs) (he := hs)) (ho B1 H1 S1 e1 e2 _ fun v B2 H2 S2 e3 e4 r => ?_)
  obtain ⟨d, ws, rfl, h2, h3⟩ := r
  refine ⟨d, ws, rfl, rfl, S2.bh.ex.dK h2, fun q hq => ?_⟩
  have x3 : Ex H2 (upd H2 q (vvO q d)) := (Sx.new hq).ex
  have S3 := S2.alloc hq (o := vvO q d) fun ys z => by cases z
  refine ⟨q, d, ws, rfl, upd_same, x3.dK (S2.bh.ex.dK h2), fun l hl => ?_⟩
  have S5 := (S3.alloc hl (o := .lst (ws.map (·.2))) fun ys z => by cases z).swap.drop
  refine k l _ _ _ S5 e3 ((e4.trans x3).trans (Sx.new hl).ex) ?_
  have : ∀ {ws : List (Key × V)} {kvs : List (Int × α)}, pI R B2 ws kvs → Paired (R.r B2) (ws.map (·.2)) (kvs.map (·.2)) := by
    intro ws kvs h
    induction h with
    | nil => exact .nil
    | cons h t ih => exact .cons h.2 ih
  exact this h3
end
section
variable {P : Program} {w : World} {K : PySem.W.Frag} {mg : Str → Option Value} {base : Heap}
theorem initR_ok {x qual : Str} {st : Stmt} {f : Addr} {fd : FuncData} {N ps : List Str} {k : Nat} {δ : Type} {CR : Addr} {args : δ → AR} {g : δ → Res Rul} (F : Fun K x qual st f fd) (S : FnScope N ps (defScope st)) (hl : ∀ d vs B H, (args d).r vs B H → vs.length + 1 = ps.length)
    (body : ∀ X : Cx, X.prog = P → X.w = w → X.K = K → X.mg = mg → X.base = base → Cok X k → Scp X N (defScope st) → (∀ x, X.fn x = true) → ∀ B H0 a dx us d (Q : VK), H0 a = none → Sx B H0 → Tx H0 B → (args d).r us B H0 → Fin (kRul CR a dx ⟨B, H0⟩ Q) NoErr (g d) →
      WSs X (defBody st) { nx := fun _ H' => Q .non H', rt := Q } (start N (.ref a :: us)) (upd H0 a (.ins CR dx []))) : FnOk P w K mg base CX0 (k + 1) f fd ps (SpInitR CR args g) := by
  refine F.ok S (fun vs H Q E h => ?_) (fun cdv A outer s H vs Q E hr h => ?_)
  · obtain ⟨B, H0, d, a, dx, us, rfl, _, _, _, _, h3, _⟩ := h
    exact hl d us B H0 h3
  · obtain ⟨B, H0, d, a, dx, us, rfl, rfl, h0, h1, h2, h3, h4⟩ := h
    exact ⟨_, pssW, body ((cxOf CX0 P w K mg base N qual (defScope st) f cdv A outer s _ E).nox) rfl rfl rfl rfl rfl ⟨rfl, S.nd, hr, PassesOwn.never⟩ ⟨rfl, rfl⟩ (fun _ => rfl) B H0 a dx us d Q h0 h1 h2 h3 h4⟩
end
/-! ### numbers of bounded size -/
instance {i j : Int} : Decidable (CMulX i j) := by unfold CMulX; infer_instance
section
variable {X : Cx} {E : Ent} {own : Own} {B H : Hp} {σ : L2.St} {a b : Expr} {pos : Pos} {i j : Int}
theorem ev_mulX (ha : EvB X E own B H σ a rInt i) (hb : EvB X E own B H σ b rInt j) (hc : CMulX i j) : EvB X E own B H σ (.BinOp a .Mult b pos) rInt (i * j) := ev_op op_mulX ha hb (rI_ok hc)
end
def spLawB : Sp := fun vs H Q _ => ∃ (a : Addr) (ns : List Int), vs = [.ref a] ∧ Rd H a (.lst (ns.map V.int)) ∧ ns.length ≤ 63 ∧ (∀ z ∈ ns, Builtin.Int.intBits z ≤ 1048576) ∧ ∀ H', Q (.bl true) H'
theorem fn_lawB {P : Program} {w : World} {K : PySem.W.Frag} {mg : Str → Option Value} {base : Heap} {k : Nat} {f : Addr} {fd : FuncData} {p : Str} {m : List Int → Res Bool}
    {args : List Int → AR} (F : FnOk P w K mg base CX0 k f fd [p] (SpA args (kE rBool) m)) (h : ∀ ns : List Int, ns.length ≤ 63 → (∀ z ∈ ns, Builtin.Int.intBits z ≤ 1048576) → m ns = .ok true) (ha : ∀ (H : Hp) (v : V) (ns : List Int), (rLst rInt).r H v ns → (args ns).r [v] H H := by exact fun H v ns h => ⟨_, _, rfl, h, rfl⟩) : FnOk P w K mg base CX0 k f fd [p] spLawB := by
  refine F.imp fun vs H Q E hs => ?_
  obtain ⟨a, ns, rfl, hr, hl, hb, hq⟩ := hs
  refine ⟨H, ns, Sx.refl _, fun _ _ e => e, ha _ _ _ ⟨a, _, rfl, hr, ints_rel' ns⟩, ?_⟩
  rw [h ns hl hb]
  intro v B2 H2 _ r
  rw [show v = .bl true from r]
  exact hq H2
theorem walk_lawB {l : PySem.W.OpenLaw} {q : Program} {loose : List Str} {XP : (Str → Option Value) → Heap → Prop} {YP : World → Heap → Prop} {d : DefRec} {K : Params → PySem.W.Frag} {k : Nat} {p : Str} (hn : l.most = some 63) (hdf : d.params.defaults = []) (hr : Room k callerA)
    (hY : ∀ (w : World) (h : Heap), YP w h → (K w.params).In h) (hN : ∀ w : World, noLst (K w.params) = true)
    (F : ∀ (w : World) (mg : Str → Option Value) (fa : Addr) (h : Heap), (K w.params).In h → h.Ns mainGlobals mg → mg d.name = some (.ref fa) →
      ∃ fd : FuncData, (∀ (s : Shared) (u : Value), BindsTo s fd ⟨[u], []⟩ [(p, u)]) ∧ ∀ base : Heap, (K w.params).In base → base.Ns mainGlobals mg → FnOk l.prog w (K w.params) mg base CX0 k fa fd [p] spLawB) :
    PySem.W.WalkO q loose XP YP l.row.toRowW d [] (fun f vs => PySem.call f vs) :=
  L2.walk_ofB (n := 63) (k := k) (x := p) (CX := fun _ => CX0) (sp := fun _ => spLawB) hn (by decide) hdf hr hY F (fun w _ a ns hl hb _ hS => ⟨a, ns, rfl, by
    rcases hS with h | ⟨o, its, n, h1, h2, _⟩
    · exact h
    · exact (noLst.out (hN w) h1 h2).elim, hl, hb, fun _ => rfl⟩) fun _ _ _ _ _ z => z
end Sg

namespace Sg
open PySem PySem.Spec PyProof.Rows L2
/-! ### a text again and again -/
@[irreducible] def repS (s : Str) (n : Int) : Str := ⟨(List.replicate n.toNat s.cps).foldl (· ++ ·) #[]⟩
def CRep (s : Str) (n : Int) : Prop := 2 ≤ n ∧ n ≤ 16777216 ∧ 1 ≤ s.length ∧ s.length * n.toNat ≤ 16777216
instance {s : Str} {n : Int} : Decidable (CRep s n) := by unfold CRep; infer_instance
theorem rep_size (s : Str) : ∀ (k : Nat) (a : Array Nat), ((List.replicate k s.cps).foldl (· ++ ·) a).size = a.size + k * s.cps.size
  | 0, a => by simp
  | k + 1, a => by
    rw [List.replicate_succ, List.foldl_cons, rep_size s k, Array.size_append, Nat.succ_mul]
    omega
theorem rep_len (s : Str) (n : Int) : (repS s n).length = n.toNat * s.length := by
  unfold repS
  show ((List.replicate n.toNat s.cps).foldl (· ++ ·) #[]).size = _
  rw [rep_size]
  show 0 + _ = _
  rw [Nat.zero_add]
  rfl
section
variable {X : Cx}
theorem op_mul_str : OpR X (binaryOp .Mult) (fun x y H Q => ∃ s n, x = .str s ∧ y = .int n ∧ CRep s n ∧ Q (.str (repS s n)) H) := by
  intro pins s σ H x y v u Q I rx ry h
  obtain ⟨z, n, rfl, rfl, ⟨c1, c2, c3, c4⟩, q⟩ := h
  obtain ⟨t, rfl⟩ := rx
  obtain ⟨t', rfl⟩ := ry
  have hn : ¬ n < 1 := by omega
  have hw : (n == 1 || z.length == 0) = false := by
    rw [Bool.or_eq_false_iff]
    exact ⟨beq_false_of_ne (by omega), beq_false_of_ne (by omega)⟩
  refine PySem.P.mul_str (by rw [decide_eq_false (by omega), decide_eq_false (by omega)]; rfl) (fun _ _ z1 => ?_) (fun _ _ => ?_) ?_
  · have h1 : (z.length : Int) * n ≤ 2 ^ 63 - 1 := by
      have e : ((z.length * n.toNat : Nat) : Int) = (z.length : Int) * n := by
        rw [Int.natCast_mul, Int.toNat_of_nonneg (by omega)]
      omega
    have h2 := (Int.le_ediv_iff_mul_le (show 0 < n by omega)).mpr h1
    omega
  · show decide (z.length * n.toNat > sizeLine) = false
    exact decide_eq_false (by rw [sizeLine_eq]; omega)
  · rw [if_neg hn, if_neg (by rw [hw]; decide)]
    have := rep_len z n
    unfold repS at q this
    refine ⟨?_, .str _, H, I.tok _, ⟨_, rfl⟩, q⟩
    rw [Nat.mul_comm] at this
    rw [sizeLine_eq]
    refine Nat.le_trans (Nat.le_of_eq this) ?_
    exact c4
end
/-! ### a whole number or a text -/
def rIS : Rel (Int ⊕ Str) := ⟨fun _ v x => v = match x with | .inl i => .int i | .inr s => .str s, fun _ h => h⟩
instance : Imm rIS := ⟨fun _ h => h⟩
instance : NN rIS := ⟨fun {H v x} h => by
  rw [show v = _ from h]
  cases x <;> exact fun q => by cases q⟩
def isD : Int ⊕ Str → PyData
  | .inl i => .int i
  | .inr s => .str s
instance {K : PySem.W.Frag} : DatP K rIS := ⟨isD, fun {H v x} h => by
    rw [show v = _ from h]
    cases x
    · exact .int _
    · exact .str _, fun x => by cases x <;> rfl, 0, fun x => by cases x <;> exact Nat.le_refl _, fun x y => by
    cases x <;> cases y <;> simp [isD, PyData.eqv]⟩
instance {K : PySem.W.Frag} : DatP K rCh := ⟨fun c => .str ⟨#[c]⟩, fun {H v x} h => by
    rw [show v = _ from h]
    exact .str _, fun x => rfl, 0, fun x => Nat.le_refl _, fun x y => by
    simp [PyData.eqv]⟩
instance : Flat rBool := ⟨fun h => by rw [show _ = _ from h]; rfl, fun h h' => by
  rw [show _ = _ from h, show _ = _ from h']
  show (_ == _) = _
  rw [Bool.eq_iff_iff]
  simp⟩
/-- of none a class of one's own -/
structure InsN (K : PySem.W.Frag) (C : Addr) : Prop where
  ic : PySem.W.isClsIn K C = true
  it : PySem.W.typeIn K (.ref C) = some (.type "type")
  sn : PySem.W.subIn K (.type "NoneType") (.ref C) = some false
section
variable {X : Cx} {E : Ent} {own : Own} {B H : Hp} {σ : L2.St} {α : Type} {R : Rel α} {a b o e : Expr} {x : α} {p pos ap cp : Pos} {xs : List α} {i : Int} {s : Str}
theorem ev_repS (ha : EvB X E own B H σ a rStr s) (hb : EvB X E own B H σ b rInt i) (hc : CRep s i) : EvB X E own B H σ (.BinOp a .Mult b pos) rStr (repS s i) := fun B1 H1 S1 e1 e2 Q k =>
  WE.of (pe_op op_mul_str peW peW) (ha B1 H1 S1 e1 e2 _ fun v B2 H2 S2 e3 e4 r => hb B2 H2 S2 (e1.trans e3) (e2.trans e4) _ fun w B3 H3 S3 e5 e6 r' => ⟨s, i, r, r', hc, k _ B3 H3 S3 (e3.trans e5) (e4.trans e6) rfl⟩)
theorem ev_cutS {lo hi : Option Expr} {l u : Option Int} (ho : EvB X E own B H σ o rStr s) (hl : EvP X E own B H σ lo l) (hu : EvP X E own B H σ hi u) (hz : s.length ≤ sizeLine) : EvB X E own B H σ (.Subscript o (.Slice lo hi none p) pos) rStr (cutS s l u) := fun B1 H1 S1 e1 e2 Q k => by
  obtain ⟨tl, pl, hl⟩ := hl
  obtain ⟨tu, pu, hu⟩ := hu
  exact WE.of (pe_slice sl_str peW pl pu) (ho B1 H1 S1 e1 e2 _ fun v B2 H2 S2 e3 e4 r => hl B2 H2 S2 (e1.trans e3) (e2.trans e4) _ fun B3 H3 S3 e5 e6 => hu B3 H3 S3 ((e1.trans e3).trans e5) ((e2.trans e4).trans e6) _ fun B4 H4 S4 e7 e8 =>
    ⟨s, r, hz, k _ B4 H4 S4 ((e3.trans e5).trans e7) ((e4.trans e6).trans e8) rfl⟩)
theorem tl_cutS (z : Str) (l u : Option Int) : TL.tl (cutS z l u) = cut (TL.tl z) l u := by
  have e : (TL.tl z).length = z.length := (TL.len_tl z).symm
  unfold cut
  rw [e]
  rfl
theorem ev_isL (h : EvB X E own B H σ a rInt i) : EvB X E own B H σ a rIS (.inl i) := h
theorem ev_isR (h : EvB X E own B H σ a rStr s) : EvB X E own B H σ a rIS (.inr s) := h
theorem ev_isCO {x : Option α} {C : Addr} {cs : Str} {p2 : Pos} (IC : InsC X.K X.mg cs C) (IN : InsN X.K C) (hR : InsR C R) (hg : Gl X "isinstance") (hm : X.mg "isinstance" = none) (hgc : Gl X cs) (ha : EvB X E own B H σ a (rOpt R) x) (hdb : (cs == ("__debug__" : Str)) = false := by decide)
    (hs : starEach (a :: [.Name cs p2]) X.env = (false, eval a X.env) :: starEach [.Name cs p2] X.env := by rfl) (hs2 : St1 X (.Name cs p2) := by rfl) (hpl : (backTo pos (starEach [.Name cs p2] X.env)).any (·.1) = false := by rfl) :
    EvB X E own B H σ (.Call (.Name "isinstance" p) [a, .Name cs p2] [] pos) rBool x.isSome := fun B1 H1 S1 e1 e2 Q k =>
  WE.of (pe_callB call_isi hg hm (by decide +kernel) (pa_cons peW (pa_cons (pe_gref hgc IC.m hdb) pa_nil hs2) hs) (he := hs) (hpl := hpl)) (ha B1 H1 S1 e1 e2 _ fun v B2 H2 S2 e3 e4 r => by
    cases x with
    | none => exact ⟨v, .ref C, .type "NoneType", .ref C, false, rfl, .own C, by rw [show v = .non from r]; exact .base .non, by
        show (if (Value.type "NoneType" == Value.ref C) = true then some true else PySem.W.kitCls X.K (.type "NoneType") (.ref C)) = some false
        rw [if_neg (by show ¬ (false = true); exact Bool.false_ne_true)]
        exact kit_cl IN.ic IN.it IN.sn, k _ B2 H2 S2 e3 e4 rfl⟩
    | some y =>
      obtain ⟨q, dx, fs, h1, h2⟩ := hR (show v ≠ .non ∧ R.r H2 v y from r).2
      exact ⟨v, .ref C, .ref C, .ref C, true, rfl, .own C, by rw [h1]; exact .base (.ins h2 IC.cls IC.ha IC.hn IC.htk IC.hm), kit_self, k _ B2 H2 S2 e3 e4 rfl⟩)
theorem cnt_flat [DecidableEq α] [Flat R] {H1 : Hp} {v : V} {x : α} (hx : R.r H1 v x) : ∀ {vs : List V} {xs : List α}, Paired (R.r H1) vs xs → vs.all flatV = true ∧ (vs.countP fun z => eqV z v) = xs.count x
  | _, _, .nil => ⟨rfl, rfl⟩
  | _, _, .cons (a := w) (b := y) h t => by
    obtain ⟨h1, h2⟩ := cnt_flat hx t
    refine ⟨by rw [List.all_cons, Flat.f h, h1] <;> rfl, ?_⟩
    rw [List.countP_cons, h2, Flat.eq h hx, List.count_cons]
    by_cases q : y = x
    · subst q; simp
    · simp [q]
theorem ev_cntF [DecidableEq α] [Flat R] (ho : EvB X E own B H σ o (rLst R) xs) (ha : EvB X E own B H σ a R x)
    (hbase : attributeBase o "count" X.env (eval o X.env) = eval o X.env := by rfl)
    (hfew : ((backTo cp (starEach [a] X.env)).all (fun x => !x.1) && (backToKw cp (keywordEach [] X.env)).all (fun x => x.1.isSome) && decide ([a].length + ([] : List Keyword).length + (if ([] : List Keyword).isEmpty then 0 else 1) < 30)) = true := by rfl)
    (hline : (ap.endLine == cp.line) = true := by rfl) (hs : starEach [a] X.env = (false, eval a X.env) :: starEach [] X.env := by rfl) (hpl : (backTo cp (starEach [] X.env)).any (·.1) = false := by rfl) :
    EvB X E own B H σ (.Call (.Attribute o "count" ap) [a] [] cp) rInt (xs.count x : Nat) := fun B1 H1 S1 e1 e2 Q k =>
  WE.of (pe_bm PySem.F.plainAttrs_list PySem.F.slot_list_count PySem.F.type_list_count mt_cntV peW (pa_cons peW pa_nil hs) hbase hfew hline hs hpl) (ho B1 H1 S1 e1 e2 _ fun v B2 H2 S2 e3 e4 r => by
    obtain ⟨q, vs, rfl, h2, h3⟩ := r
    refine ⟨.inl ⟨rfl, vs, .inl h2⟩, ha B2 H2 S2 (e1.trans e3) (e2.trans e4) _ fun w B3 H3 S3 e5 e6 r2 => ?_⟩
    obtain ⟨f1, f2⟩ := cnt_flat r2 (pimp h3 fun _ _ z => R.mono e6 z)
    exact ⟨q, vs, w, rfl, rfl, .inl (e6.rdL h2), Flat.f r2, f1, by rw [f2]; exact k _ B3 H3 S3 (e3.trans e5) (e4.trans e6) rfl⟩)
theorem pget2 {α β : Type} {F : α → β → Prop} : ∀ {l₁ : List α} {l₂ : List β}, Paired F l₁ l₂ → ∀ (j : Nat), (∀ y, l₂[j]? = some y → ∃ x, l₁[j]? = some x ∧ F x y) ∧ ∀ x, l₁[j]? = some x → ∃ y, l₂[j]? = some y ∧ F x y
  | _, _, .nil, j => ⟨fun y h => (by cases h), fun y h => (by cases h)⟩
  | _, _, .cons h t, 0 => ⟨fun y e => (by cases e; exact ⟨_, rfl, h⟩), fun y e => (by cases e; exact ⟨_, rfl, h⟩)⟩
  | _, _, .cons h t, j + 1 => pget2 t j
theorem ev_ixOfF [DecidableEq α] [Flat R] {d : Int} (ho : EvB X E own B H σ o (rLst R) xs) (ha : EvB X E own B H σ a R x) (hd : ixOf xs x = some d)
    (hbase : attributeBase o "index" X.env (eval o X.env) = eval o X.env := by rfl)
    (hfew : ((backTo cp (starEach [a] X.env)).all (fun x => !x.1) && (backToKw cp (keywordEach [] X.env)).all (fun x => x.1.isSome) && decide ([a].length + ([] : List Keyword).length + (if ([] : List Keyword).isEmpty then 0 else 1) < 30)) = true := by rfl)
    (hline : (ap.endLine == cp.line) = true := by rfl) (hs : starEach [a] X.env = (false, eval a X.env) :: starEach [] X.env := by rfl) (hpl : (backTo cp (starEach [] X.env)).any (·.1) = false := by rfl) :
    EvB X E own B H σ (.Call (.Attribute o "index" ap) [a] [] cp) rInt d := fun B1 H1 S1 e1 e2 Q k =>
  WE.of (pe_bm PySem.F.plainAttrs_list PySem.F.slot_list_index PySem.F.type_list_index mt_index peW (pa_cons peW pa_nil hs) hbase hfew hline hs hpl) (ho B1 H1 S1 e1 e2 _ fun v B2 H2 S2 e3 e4 r => by
    obtain ⟨q, vs, rfl, h2, h3⟩ := r
    refine ⟨.inl ⟨rfl, vs, .inl h2⟩, ha B2 H2 S2 (e1.trans e3) (e2.trans e4) _ fun w B3 H3 S3 e5 e6 r2 => ?_⟩
    have h3 := pimp h3 fun _ _ z => R.mono e6 z
    obtain ⟨f1, _⟩ := cnt_flat r2 h3
    obtain ⟨j, rfl, g1, g2⟩ := ixOf_at hd
    obtain ⟨u, hu, ru⟩ := (pget2 h3 j).1 _ g1
    refine ⟨q, vs, w, j, u, rfl, rfl, .inl (e6.rdL h2), Flat.f r2, f1, hu, by rw [Flat.eq ru r2]; exact decide_eq_true rfl, fun mm z hm hz => ?_, k _ B3 H3 S3 (e3.trans e5) (e4.trans e6) rfl⟩
    obtain ⟨y, hy, ry⟩ := (pget2 h3 mm).2 _ hz
    rw [Flat.eq ry r2]
    exact decide_eq_false (g2 mm hm y hy))
end
section
variable {X X' : Cx}
theorem Tr.tr {C : Addr} (t : Tr X X') (h : RulTxt X.K C) : RulTxt X'.K C := by rw [t.K]; exact h
theorem Tr.gtu {n : Str} {ws : List Str} (t : Tr X X') (h : GTup X.K X.mg n ws) : GTup X'.K X'.mg n ws := by rw [t.K, t.mg]; exact h
theorem Tr.isC {n : Str} {C : Addr} (t : Tr X X') (h : InsC X.K X.mg n C) : InsC X'.K X'.mg n C := by rw [t.K, t.mg]; exact h
theorem Tr.isN {C : Addr} (t : Tr X X') (h : InsN X.K C) : InsN X'.K C := by rw [t.K]; exact h
end
end Sg

namespace Sg
open PySem PySem.Spec PyProof.Rows L2
/-! ### plain laws -/
section
variable {α β τ ρ : Type}
theorem ok_bind (a : α) (f : α → Res β) : (Res.ok a).bind f = f a := rfl
theorem of_some {a : α} {f : α → Res β} {o : Option α} (h : o = some a) : (Res.of o).bind f = f a := by rw [h]; rfl
theorem need_pos {c : Prop} [Decidable c] {m : Res α} (h : c) : Res.need c m = m := by unfold Res.need; rw [if_pos h]
theorem bind_eq {m : Res α} {a : α} {f : α → Res β} (h : m = .ok a) : m.bind f = f a := by rw [h]; rfl
theorem forM_inv {step : τ → α → Res τ} (I : List α → τ → Prop) : ∀ (xs pre : List α) (a : τ), I pre a → (∀ pr x po a, pre ++ xs = pr ++ x :: po → I pr a → ∃ a', step a x = .ok a' ∧ I (pr ++ [x]) a') → ∃ a', forM step xs a = .ok a' ∧ I (pre ++ xs) a'
  | [], pre, a, h, _ => ⟨a, rfl, by rw [List.append_nil]; exact h⟩
  | x :: r, pre, a, h, hs => by
    obtain ⟨a', e, h'⟩ := hs pre x r a rfl h
    obtain ⟨a2, e2, h2⟩ := forM_inv I r (pre ++ [x]) a' h' fun pr y po b eq hb => hs pr y po b (by rw [← eq, List.append_assoc]; rfl) hb
    refine ⟨a2, ?_, by rw [List.append_assoc] at h2; exact h2⟩
    unfold forM
    rw [e]
    exact e2
theorem forM_inv0 {step : τ → α → Res τ} {xs : List α} {a : τ} (I : List α → τ → Prop) (h : I [] a) (hs : ∀ pr x po a, xs = pr ++ x :: po → I pr a → ∃ a', step a x = .ok a' ∧ I (pr ++ [x]) a') : ∃ a', forM step xs a = .ok a' ∧ I xs a' := by
  obtain ⟨a', e, q⟩ := forM_inv I xs [] a h fun pr x po a eq => hs pr x po a (by simpa using eq)
  exact ⟨a', e, by simpa using q⟩
theorem forR_inv {step : τ → α → Res (ρ ⊕ τ)} (I : List α → τ → Prop) : ∀ (xs pre : List α) (a : τ), I pre a → (∀ pr x po a, pre ++ xs = pr ++ x :: po → I pr a → ∃ a', step a x = .ok (.inr a') ∧ I (pr ++ [x]) a') → ∃ a', forR step xs a = .ok (.inr a') ∧ I (pre ++ xs) a'
  | [], pre, a, h, _ => ⟨a, rfl, by rw [List.append_nil]; exact h⟩
  | x :: r, pre, a, h, hs => by
    obtain ⟨a', e, h'⟩ := hs pre x r a rfl h
    obtain ⟨a2, e2, h2⟩ := forR_inv I r (pre ++ [x]) a' h' fun pr y po b eq hb => hs pr y po b (by rw [← eq, List.append_assoc]; rfl) hb
    refine ⟨a2, ?_, by rw [List.append_assoc] at h2; exact h2⟩
    unfold forR
    rw [e]
    exact e2
theorem forR_all {step : τ → α → Res (ρ ⊕ τ)} {a : τ} : ∀ {xs : List α}, (∀ x ∈ xs, step a x = .ok (.inr a)) → forR step xs a = .ok (.inr a)
  | [], _ => rfl
  | x :: r, h => by
    unfold forR
    rw [h x (List.mem_cons_self ..)]
    exact forR_all fun y hy => h y (List.mem_cons_of_mem _ hy)
theorem forM_all {step : τ → α → Res τ} {a : τ} : ∀ {xs : List α}, (∀ x ∈ xs, step a x = .ok a) → forM step xs a = .ok a
  | [], _ => rfl
  | x :: r, h => by
    unfold forM
    rw [h x (List.mem_cons_self ..)]
    exact forM_all fun y hy => h y (List.mem_cons_of_mem _ hy)
theorem whileR_inv {step : τ → Res (ρ ⊕ τ)} (I : τ → Prop) (P : ρ → Prop) (m : τ → Nat) (hs : ∀ a, I a → (∃ u, step a = .ok (.inl u) ∧ P u) ∨ ∃ a', step a = .ok (.inr a') ∧ I a' ∧ m a' < m a) : ∀ (n : Nat) (a : τ), I a → m a < n → ∃ u, whileR step n a = .ok u ∧ P u
  | 0, _, _, h => absurd h (Nat.not_lt_zero _)
  | n + 1, a, h, hm => by
    unfold whileR
    rcases hs a h with ⟨u, e, p⟩ | ⟨a', e, h', hlt⟩
    · rw [e]
      exact ⟨u, rfl, p⟩
    · rw [e]
      exact whileR_inv I P m hs n a' h' (by omega)
theorem mfM_ok {c : α → Res Bool} {f : α → Res β} {cb : α → Bool} {fb : α → β} : ∀ {xs : List α}, (∀ x ∈ xs, c x = .ok (cb x)) → (∀ x ∈ xs, cb x = true → f x = .ok (fb x)) → mfM c f xs = .ok ((xs.filter cb).map fb)
  | [], _, _ => rfl
  | x :: r, hc, hf => by
    have ih := mfM_ok (xs := r) (fun y hy => hc y (List.mem_cons_of_mem _ hy)) (fun y hy => hf y (List.mem_cons_of_mem _ hy))
    unfold mfM
    rw [hc x (List.mem_cons_self ..), ok_bind, ih, List.filter_cons]
    by_cases h : cb x = true
    · rw [if_pos h, if_pos h, hf x (List.mem_cons_self ..) h]
      rfl
    · rw [if_neg h, if_neg h]
/-- it ends well -/
def Ok (P : α → Prop) (m : Res α) : Prop := ∃ a, m = .ok a ∧ P a
theorem Ok.ret {P : α → Prop} {a : α} (h : P a) : Ok P (.ok a) := ⟨a, rfl, h⟩
theorem Ok.bind {Q : α → Prop} {P : β → Prop} {m : Res α} {f : α → Res β} (h : Ok Q m) (k : ∀ a, m = .ok a → Q a → Ok P (f a)) : Ok P (m.bind f) := by
  obtain ⟨a, e, q⟩ := h
  obtain ⟨b, e2, p⟩ := k a e q
  exact ⟨b, (bind_eq e).trans e2, p⟩
theorem Ok.need {P : α → Prop} {c : Prop} [Decidable c] {m : Res α} (h : c) (k : Ok P m) : Ok P (Res.need c m) := by
  rw [need_pos h]
  exact k
theorem Ok.of {P : β → Prop} {o : Option α} {a : α} {f : α → Res β} (h : o = some a) (k : Ok P (f a)) : Ok P ((Res.of o).bind f) := by
  rw [of_some h]
  exact k
theorem Ok.tt {P : α → Prop} {b : Bool} {m n : Res α} (h : b = true) (k : Ok P m) : Ok P (if b = true then m else n) := by
  rw [if_pos h]
  exact k
theorem Ok.ff {P : α → Prop} {b : Bool} {m n : Res α} (h : b = false) (k : Ok P n) : Ok P (if b = true then m else n) := by
  rw [if_neg (by rw [h]; exact Bool.false_ne_true)]
  exact k
theorem Ok.ite {P : α → Prop} {b : Bool} {m n : Res α} (h : b = true → Ok P m) (k : b = false → Ok P n) : Ok P (if b = true then m else n) := by
  cases e : b with
  | true => exact h e
  | false => exact k e
theorem Ok.imp {P Q : α → Prop} {m : Res α} (h : Ok P m) (k : ∀ a, P a → Q a) : Ok Q m := by
  obtain ⟨a, e, p⟩ := h
  exact ⟨a, e, k a p⟩
theorem Ok.forM {step : τ → α → Res τ} {xs : List α} {a : τ} (I : List α → τ → Prop) (h : I [] a) (hs : ∀ pr x po a, xs = pr ++ x :: po → I pr a → Ok (I (pr ++ [x])) (step a x)) : Ok (I xs) (forM step xs a) := forM_inv0 I h hs
theorem Ok.forR {step : τ → α → Res (ρ ⊕ τ)} {xs : List α} {a : τ} (I : List α → τ → Prop) (h : I [] a) (hs : ∀ pr x po a, xs = pr ++ x :: po → I pr a → Ok (fun o => ∃ a', o = .inr a' ∧ I (pr ++ [x]) a') (step a x)) : Ok (fun o => ∃ a', o = .inr a' ∧ I xs a') (forR step xs a) := by
  obtain ⟨a', e, q⟩ := forR_inv (step := step) I xs [] a h fun pr x po a eq hI => by
    obtain ⟨o, e, a', rfl, q⟩ := hs pr x po a (by simpa using eq) hI
    exact ⟨a', e, q⟩
  exact ⟨_, e, a', rfl, by simpa using q⟩
theorem Ok.mfM {c : α → Res Bool} {f : α → Res β} {cb : α → Bool} {fb : α → β} {xs : List α} {P : List β → Prop} (hc : ∀ x ∈ xs, c x = .ok (cb x)) (hf : ∀ x ∈ xs, cb x = true → f x = .ok (fb x)) (h : P ((xs.filter cb).map fb)) : Ok P (mfM c f xs) := ⟨_, mfM_ok hc hf, h⟩
theorem Ok.mfMap {f : α → Res β} {fb : α → β} {xs : List α} {P : List β → Prop} (hf : ∀ x ∈ xs, f x = .ok (fb x)) (h : P (xs.map fb)) : Ok P (Sg.mfM (fun _ => Res.ok true) f xs) := by
  have := mfM_ok (cb := fun _ => true) (c := fun _ => Res.ok true) (fun x _ => rfl) (fun x hx _ => hf x hx)
  rw [List.filter_eq_self.mpr (fun _ _ => rfl)] at this
  exact ⟨_, this, h⟩
/-! dicts -/
variable {κ : Type} [DecidableEq κ]
theorem dget_nil (k : κ) : dget ([] : List (κ × α)) k = none := rfl
theorem dget_cons (q : κ × α) (d : List (κ × α)) (k : κ) : dget (q :: d) k = if q.1 = k then some q.2 else dget d k := by
  unfold dget
  rw [List.find?_cons]
  by_cases h : q.1 = k
  · rw [decide_eq_true h, if_pos h]
    rfl
  · rw [decide_eq_false h, if_neg h]
theorem dget_app (d e : List (κ × α)) (k : κ) : dget (d ++ e) k = (dget d k).or (dget e k) := by
  induction d with
  | nil => rfl
  | cons q r ih =>
    rw [List.cons_append, dget_cons, dget_cons, ih]
    by_cases h : q.1 = k
    · rw [if_pos h, if_pos h]
      rfl
    · rw [if_neg h, if_neg h]
theorem dget_none {d : List (κ × α)} {k : κ} : dget d k = none ↔ k ∉ d.map (·.1) := by
  induction d with
  | nil => simp [dget_nil]
  | cons q r ih =>
    rw [dget_cons, List.map_cons, List.mem_cons, not_or]
    by_cases h : q.1 = k
    · rw [if_pos h]
      constructor
      · intro z; cases z
      · intro z; exact absurd h.symm z.1
    · rw [if_neg h, ih]
      exact ⟨fun z => ⟨fun y => h y.symm, z⟩, fun z => z.2⟩
theorem dget_isSome {d : List (κ × α)} {k : κ} : (dget d k).isSome = true ↔ k ∈ d.map (·.1) := by
  cases h : dget d k with
  | none => exact ⟨fun z => (by cases z), fun z => absurd z (dget_none.mp h)⟩
  | some v =>
    refine ⟨fun _ => Classical.byContradiction fun z => ?_, fun _ => rfl⟩
    rw [dget_none.mpr z] at h
    cases h
theorem dget_mem {d : List (κ × α)} {k : κ} {v : α} (h : dget d k = some v) : (k, v) ∈ d := by
  induction d with
  | nil => cases h
  | cons q r ih =>
    rw [dget_cons] at h
    by_cases e : q.1 = k
    · rw [if_pos e] at h
      have e2 : q.2 = v := Option.some.inj h
      have : q = (k, v) := Prod.ext e e2
      rw [this]
      exact List.mem_cons_self ..
    · rw [if_neg e] at h
      exact List.mem_cons_of_mem _ (ih h)
theorem dget_of {d : List (κ × α)} (nd : (d.map (·.1)).Nodup) {k : κ} {v : α} (h : (k, v) ∈ d) : dget d k = some v := by
  induction d with
  | nil => cases h
  | cons q r ih =>
    rw [List.map_cons, List.nodup_cons] at nd
    rw [dget_cons]
    rcases List.mem_cons.mp h with e | h'
    · rw [← e, if_pos rfl]
    · have : q.1 ≠ k := fun z => nd.1 (by rw [z]; exact List.mem_map.mpr ⟨(k, v), h', rfl⟩)
      rw [if_neg this]
      exact ih nd.2 h'
theorem dput_new {d : List (κ × α)} {k : κ} {v : α} (h : k ∉ d.map (·.1)) : dput d k v = d ++ [(k, v)] := by
  unfold dput
  have : (d.any fun kv => decide (kv.1 = k)) = false := by
    rw [List.any_eq_false]
    intro q hq z
    exact h (List.mem_map.mpr ⟨q, hq, of_decide_eq_true z⟩)
  rw [this]
  rfl
theorem dput_keys {d : List (κ × α)} {k : κ} {v : α} : (dput d k v).map (·.1) = if k ∈ d.map (·.1) then d.map (·.1) else d.map (·.1) ++ [k] := by
  by_cases h : k ∈ d.map (·.1)
  · rw [if_pos h]
    unfold dput
    have : (d.any fun kv => decide (kv.1 = k)) = true := by
      obtain ⟨q, hq, e⟩ := List.mem_map.mp h
      exact List.any_eq_true.mpr ⟨q, hq, decide_eq_true e⟩
    rw [this, if_pos rfl, List.map_map]
    apply List.map_congr_left
    intro q hq
    show (if q.1 = k then (q.1, v) else q : κ × α).1 = q.1
    by_cases e : q.1 = k
    · rw [if_pos e]
    · rw [if_neg e]
  · rw [if_neg h, dput_new h, List.map_append]
    rfl
theorem dget_mapset {k l : κ} {v : α} : ∀ d : List (κ × α), dget (d.map (fun kv => if kv.1 = k then (kv.1, v) else kv)) l = if k = l then (dget d l).map (fun _ => v) else dget d l
  | [] => by
    rw [List.map_nil, dget_nil]
    by_cases h : k = l
    · rw [if_pos h]; rfl
    · rw [if_neg h]
  | q :: r => by
    rw [List.map_cons, dget_cons, dget_cons, dget_mapset r]
    by_cases h : k = l
    · rw [if_pos h, if_pos h]
      by_cases e : q.1 = k
      · rw [if_pos e, if_pos (e.trans h), if_pos (e.trans h)]
        rfl
      · rw [if_neg e, if_neg (fun z => e (z.trans h.symm)), if_neg (fun z => e (z.trans h.symm))]
    · rw [if_neg h, if_neg h]
      by_cases e : q.1 = k
      · rw [if_pos e, if_neg (fun z => h (e.symm.trans z)), if_neg (fun z => h (e.symm.trans z))]
      · rw [if_neg e]
theorem dget_dput {d : List (κ × α)} {k l : κ} {v : α} : dget (dput d k v) l = if k = l then some v else dget d l := by
  by_cases h : k ∈ d.map (·.1)
  · unfold dput
    have : (d.any fun kv => decide (kv.1 = k)) = true := by
      obtain ⟨q, hq, e⟩ := List.mem_map.mp h
      exact List.any_eq_true.mpr ⟨q, hq, decide_eq_true e⟩
    rw [this, if_pos rfl, dget_mapset]
    by_cases kl : k = l
    · rw [if_pos kl, if_pos kl]
      rw [kl] at h
      have := dget_isSome.mpr h
      cases e : dget d l with
      | none => rw [e] at this; cases this
      | some w => rfl
    · rw [if_neg kl, if_neg kl]
  · rw [dput_new h, dget_app]
    by_cases kl : k = l
    · rw [if_pos kl, ← kl, dget_none.mpr h, dget_cons, if_pos rfl]
      rfl
    · rw [if_neg kl, dget_cons, if_neg kl, dget_nil]
      cases dget d l <;> rfl
theorem dput_nd {d : List (κ × α)} {k : κ} {v : α} (nd : (d.map (·.1)).Nodup) : ((dput d k v).map (·.1)).Nodup := by
  rw [dput_keys]
  by_cases h : k ∈ d.map (·.1)
  · rw [if_pos h]
    exact nd
  · rw [if_neg h]
    exact List.nodup_append.mpr ⟨nd, List.nodup_cons.mpr ⟨by simp, List.nodup_nil⟩, fun a ha b hb e => h (by rw [← List.mem_singleton.mp hb, ← e]; exact ha)⟩
theorem dmerge_nd {d : List (κ × α)} (nd : (d.map (·.1)).Nodup) : dmerge d = d := by
  have key : ∀ (e acc : List (κ × α)), ((acc ++ e).map (·.1)).Nodup → e.foldl (fun acc kv => dput acc kv.1 kv.2) acc = acc ++ e := by
    intro e
    induction e with
    | nil => intro acc _; rw [List.append_nil]; rfl
    | cons q r ih =>
      intro acc h
      have hn : q.1 ∉ acc.map (·.1) := by
        rw [List.map_append, List.map_cons] at h
        have := (List.nodup_append.mp h).2.2
        exact fun z => this _ z _ (List.mem_cons_self ..) rfl
      rw [List.foldl_cons, dput_new hn, ih]
      · rw [List.append_assoc]; rfl
      · rw [List.append_assoc]; exact h
  exact key d [] (by simpa using nd)
theorem nd_len : ∀ {xs ys : List κ}, xs.Nodup → (∀ x ∈ xs, x ∈ ys) → xs.length ≤ ys.length
  | [], _, _, _ => Nat.zero_le _
  | x :: r, ys, nd, h => by
    rw [List.nodup_cons] at nd
    have hx := h x (List.mem_cons_self ..)
    have := nd_len (xs := r) (ys := ys.erase x) nd.2 fun y hy => (List.mem_erase_of_ne (fun (z : y = x) => nd.1 (z ▸ hy))).mpr (h y (List.mem_cons_of_mem _ hy))
    rw [List.length_erase_of_mem hx] at this
    have := List.length_pos_of_mem hx
    rw [List.length_cons]
    omega
/-! sorted -/
theorem sortI_mem {x : Int} {xs : List Int} : x ∈ sortI xs ↔ x ∈ xs := (sortI_perm xs).mem_iff
theorem sortI_nd {xs : List Int} (h : xs.Nodup) : (sortI xs).Nodup := (sortI_perm xs).nodup_iff.mpr h
theorem sortI_len (xs : List Int) : (sortI xs).length = xs.length := (sortI_perm xs).length_eq
/-- no neighbours alike -/
theorem zip_adj {xs : List Int} (nd : xs.Nodup) : ∀ p ∈ xs.zip (xs.drop 1), p.1 ≠ p.2 := by
  induction xs with
  | nil => intro p h; cases h
  | cons a r ih =>
    intro p hp
    cases r with
    | nil => cases hp
    | cons b t =>
      rw [List.drop_one, List.tail_cons, List.zip_cons_cons] at hp
      rw [List.nodup_cons] at nd
      rcases List.mem_cons.mp hp with e | hp
      · rw [e]
        intro z
        have z' : a = b := z
        exact nd.1 (by rw [z']; exact List.mem_cons_self ..)
      · exact ih nd.2 p (by rw [List.drop_one, List.tail_cons]; exact hp)
theorem cut_tail (xs : List α) (k : Nat) : cut xs (some (k : Int)) none = xs.drop k := by
  unfold cut
  rw [HT.sIx_nat, HT.sIx_none]
  by_cases h : k ≤ xs.length
  · rw [Nat.min_eq_left h, List.take_of_length_le (Nat.le_of_eq List.length_drop)]
  · rw [Nat.min_eq_right (by omega), List.drop_length, List.drop_of_length_le (by omega)]
    simp
theorem cut_head (xs : List α) (k : Nat) : cut xs none (some (k : Int)) = xs.take k := by
  unfold cut
  rw [HT.sIx_nat, HT.sIx_none, List.drop_zero, Nat.sub_zero]
  by_cases h : k ≤ xs.length
  · rw [Nat.min_eq_left h]
  · rw [Nat.min_eq_right (by omega), List.take_length, List.take_of_length_le (by omega)]
theorem cut_mid (xs : List α) (j k : Nat) (h : j ≤ k) : cut xs (some (j : Int)) (some (k : Int)) = (xs.take k).drop j := by
  unfold cut
  rw [HT.sIx_nat, HT.sIx_nat, List.drop_take]
  by_cases h1 : k ≤ xs.length
  · rw [Nat.min_eq_left h1, Nat.min_eq_left (by omega)]
  · by_cases h2 : j ≤ xs.length
    · rw [Nat.min_eq_right (by omega), Nat.min_eq_left h2, List.take_of_length_le (Nat.le_of_eq List.length_drop), List.take_of_length_le (by rw [List.length_drop]; omega)]
    · rw [Nat.min_eq_right (by omega), Nat.min_eq_right (by omega), List.drop_length, List.drop_of_length_le (by omega)]
      simp
theorem cut_init (xs : List α) : cut xs none (some (-1)) = xs.dropLast := by
  unfold cut
  rw [HT.sIx_none, List.drop_zero, Nat.sub_zero]
  have : HT.sIx xs.length xs.length (some (-1)) = ((-1 : Int) + (xs.length : Int)).toNat := by
    simp [HT.sIx]
  rw [this, List.dropLast_eq_take]
  congr 1
  omega
theorem cut_len {xs : List α} {a b : Option Int} : (cut xs a b).length ≤ xs.length := by
  unfold cut
  rw [List.length_take, List.length_drop]
  omega
theorem cut_mem {xs : List α} {a b : Option Int} {x : α} (h : x ∈ cut xs a b) : x ∈ xs := List.mem_of_mem_drop (List.mem_of_mem_take h)
theorem atI_nat (xs : List α) (k : Nat) : atI xs (k : Int) = xs[k]? := by
  unfold atI ixN
  rw [if_pos (Int.natCast_nonneg _)]
  by_cases h : k < xs.length
  · rw [if_pos (by omega)]
    rfl
  · rw [if_neg (by omega), List.getElem?_eq_none (by omega)]
    rfl
theorem atI_in {xs : List α} {k : Int} (h0 : 0 ≤ k) (h1 : k < xs.length) : ∃ x, atI xs k = some x ∧ x ∈ xs := by
  obtain ⟨j, rfl⟩ := Int.eq_ofNat_of_zero_le h0
  have hj : j < xs.length := by omega
  exact ⟨xs[j], (atI_nat xs j).trans (List.getElem?_eq_getElem hj), List.getElem_mem hj⟩
end
end Sg

namespace Sg
open PySem PySem.Spec PyProof.Rows L2
/-! ### what holds if it ends well -/
def Sat {α : Type} (P : α → Prop) (m : Res α) : Prop := ∀ a, m = .ok a → P a
section
variable {α β τ : Type}
theorem Sat.ret {P : α → Prop} {a : α} (h : P a) : Sat P (.ok a) := fun b e => by cases e; exact h
theorem Sat.any {m : Res α} : Sat (fun _ => True) m := fun _ _ => trivial
theorem Sat.bind {Q : α → Prop} {P : β → Prop} {m : Res α} {f : α → Res β} (h : Sat Q m) (k : ∀ a, Q a → Sat P (f a)) : Sat P (m.bind f) := fun b e => by
  obtain ⟨a, e1, e2⟩ := Res.bind_ok e
  exact k a (h a e1) b e2
theorem Sat.need {P : α → Prop} {c : Prop} [Decidable c] {m : Res α} (h : c → Sat P m) : Sat P (Res.need c m) := fun b e => by
  obtain ⟨hc, e⟩ := Res.need_ok e
  exact h hc b e
theorem Sat.of {P : β → Prop} {o : Option α} {f : α → Res β} (h : ∀ a, o = some a → Sat P (f a)) : Sat P ((Res.of o).bind f) := fun b e => by
  obtain ⟨a, e1, e2⟩ := Res.of_ok e
  exact h a e1 b e2
theorem Sat.ite {P : α → Prop} {b : Bool} {m n : Res α} (h : b = true → Sat P m) (k : b = false → Sat P n) : Sat P (if b = true then m else n) := by
  cases e : b with
  | true => exact h e
  | false => exact k e
theorem Sat.imp {P Q : α → Prop} {m : Res α} (h : Sat P m) (k : ∀ a, P a → Q a) : Sat Q m := fun a e => k a (h a e)
theorem Sat.forM {step : τ → α → Res τ} (I : τ → Prop) : ∀ {xs : List α} {a : τ}, I a → (∀ a x, x ∈ xs → I a → Sat I (step a x)) → Sat I (forM step xs a)
  | [], a, h, _ => Sat.ret h
  | x :: xs, a, h, hs => by
    unfold Sg.forM
    exact Sat.bind (hs a x (List.mem_cons_self ..) h) fun b hb => Sat.forM I hb fun c y hy => hs c y (List.mem_cons_of_mem _ hy)
theorem Ok.sat {P Q : α → Prop} {m : Res α} (h : Ok P m) (k : Sat Q m) : Ok (fun a => P a ∧ Q a) m := by
  obtain ⟨a, e, p⟩ := h
  exact ⟨a, e, p, k a e⟩
theorem dput_mem {κ : Type} [DecidableEq κ] {d : List (κ × α)} {k : κ} {v : α} {q : κ × α} (h : q ∈ dput d k v) : q = (k, v) ∨ q ∈ d := by
  unfold dput at h
  by_cases hc : (d.any fun kv => decide (kv.1 = k)) = true
  · rw [if_pos hc] at h
    obtain ⟨z, hz, e⟩ := List.mem_map.mp h
    by_cases hk : z.1 = k
    · rw [if_pos hk] at e
      subst e
      subst hk
      exact .inl rfl
    · rw [if_neg hk] at e
      subst e
      exact .inr hz
  · rw [if_neg hc] at h
    rcases List.mem_append.mp h with h | h
    · exact .inr h
    · exact .inl (List.mem_singleton.mp h)
end
/-! ### small steps -/
theorem cut_low (xs : List Int) (lo hi : Int) (h0 : 0 ≤ lo) (h1 : lo ≤ hi) : (cut xs (some lo) (some hi)).length ≤ (hi - lo).toNat := by
  obtain ⟨a, rfl⟩ := Int.eq_ofNat_of_zero_le h0
  obtain ⟨b, rfl⟩ := Int.eq_ofNat_of_zero_le (show 0 ≤ hi by omega)
  rw [cut_mid _ _ _ (by omega), List.length_drop, List.length_take]
  omega
theorem Ok.is {α : Type} {P : α → Prop} {m : Res α} {a : α} (e : m = .ok a) (h : P a) : Ok P m := ⟨a, e, h⟩
theorem Ok.bindE {α β : Type} {P : β → Prop} {m : Res α} {f : α → Res β} {a : α} (e : m = .ok a) (k : Ok P (f a)) : Ok P (m.bind f) := by
  rw [bind_eq e]
  exact k
end Sg

namespace Sg.W
open PySem PySem.Spec PyProof.Rows L2 Sg
def topS (i : Nat) : Stmt := PySem.Challenge.pw_signforms_k73_refused_rules.main.body.getD i (.Pass ⟨0, 0, 0, 0⟩)
/-! l_row -/
abbrev st_l_row : Stmt := topS 27
abbrev N_l_row : List Str := ["_law_way", "_law_one", "_law_two", "_law_words", "_law_signs", "_law_limit", "_law_some", "_law_left", "_law_right", "_law_k"]
theorem tb_l_row : nmOk (defScope st_l_row) [("_law_way", .local), ("_law_one", .cell), ("_law_two", .cell), ("_law_words", .cell), ("_law_signs", .cell), ("_law_limit", .cell), ("_law_some", .local), ("_law_left", .local), ("_law_right", .local), ("int", .globalImplicit), ("range", .globalImplicit)] = true := by decide +kernel
theorem sc_l_row : FnScope N_l_row ["_law_way", "_law_one", "_law_two"] (defScope st_l_row) := ⟨rfl, rfl, rfl, by decide +kernel, rfl, by decide +kernel, by decide +kernel⟩
abbrev csc_l_row_c1 : Scope := { kind := .function, names := [(".0", .local), ("_law_k", .local), ("_law_limit", .free), ("_law_one", .free), ("_law_signs", .free)], isGenerator := false, isCoroutine := false, more := [] }
theorem tb_l_row_c1 : nmOk (relS csc_l_row_c1 (defScope st_l_row)) [("_law_k", .local), ("_law_limit", .cell), ("_law_one", .cell), ("_law_signs", .cell)] = true := by decide +kernel
theorem bk_l_row_c1 : blkC N_l_row (defScope st_l_row) csc_l_row_c1 [("_law_k", 9)] = true := by decide +kernel
abbrev csc_l_row_c2 : Scope := { kind := .function, names := [(".0", .local), ("_law_k", .local), ("_law_limit", .free), ("_law_one", .free), ("_law_words", .free)], isGenerator := false, isCoroutine := false, more := [] }
theorem tb_l_row_c2 : nmOk (relS csc_l_row_c2 (defScope st_l_row)) [("_law_k", .local), ("_law_limit", .cell), ("_law_one", .cell), ("_law_words", .cell)] = true := by decide +kernel
theorem bk_l_row_c2 : blkC N_l_row (defScope st_l_row) csc_l_row_c2 [("_law_k", 9)] = true := by decide +kernel
abbrev csc_l_row_c3 : Scope := { kind := .function, names := [(".0", .local), ("_law_k", .local), ("_law_limit", .free), ("_law_two", .free), ("_law_words", .free)], isGenerator := false, isCoroutine := false, more := [] }
theorem tb_l_row_c3 : nmOk (relS csc_l_row_c3 (defScope st_l_row)) [("_law_k", .local), ("_law_limit", .cell), ("_law_two", .cell), ("_law_words", .cell)] = true := by decide +kernel
theorem bk_l_row_c3 : blkC N_l_row (defScope st_l_row) csc_l_row_c3 [("_law_k", 9)] = true := by decide +kernel
def m_l_row (l_way : Int) (l_one : Int) (l_two : Int) : Res Str := Res.need (CMul (((l_two / 7) % 16) % 3) (b2i (decide (((l_two / 7) % 16) < 6)))) ((Res.of (atI [("a" : Str), ("cut" : Str), ("cutoffabc" : Str)] ((((l_two / 7) % 16) % 3) * (b2i (decide (((l_two / 7) % 16) < 6)))))).bind fun x2 => Res.need (([x2, ("bb" : Str), ("kind" : Str), ("keep" : Str)]).length + ([("any" : Str), ("edge" : Str), ("other" : Str), ("zzz" : Str)]).length ≤ sizeLine) (if (decide ((l_way % 5) < 2)) = true then Res.need (CRep ("0" : Str) 59) (Res.need ((("1" : Str)).length + ((repS ("0" : Str) 59)).length ≤ sizeLine) (Res.need (CRep ("0" : Str) 60) (Res.need ((("1" : Str)).length + ((repS ("0" : Str) 60)).length ≤ sizeLine) ((Res.of (atI [4, 6] (b2i (decide (((l_way / 5) % 4) = 0))))).bind fun x32 => (Res.of (atI [(1 + (l_two % 3)), 0] (b2i (decide (((l_way / 20) % 16) = 7))))).bind fun x38 => Res.need ((-8000000 : Int) ≤ x38 ∧ (x38 : Int) ≤ 8000000) ((mfM (fun i41 : Int => Res.ok true) (fun i41 => Res.need (CDiv l_one ((5 * i41) + 1)) (Res.need (0 < x32) ((Res.of (atI [("0" : Str), ("7" : Str), ("12" : Str), (("1" : Str) ++ (repS ("0" : Str) 59)), (("1" : Str) ++ (repS ("0" : Str) 60)), ("5" : Str)] ((l_one / ((5 * i41) + 1)) % x32))).bind fun x44 => Res.ok x44))) (rangeI 0 x38)).bind fun l46 => (Res.of (atI [3, 7] (b2i (decide (((l_two / 21) % 4) = 0))))).bind fun x59 => Res.need (0 < x59) ((Res.of (atI ([x2, ("bb" : Str), ("kind" : Str), ("keep" : Str)] ++ [("any" : Str), ("edge" : Str), ("other" : Str), ("zzz" : Str)]) ((l_two / 3) % x59))).bind fun x62 => Res.need (([("kind" : Str), x62]).length + (l46).length ≤ sizeLine) (Res.need ((([("kind" : Str), x62] ++ l46).map (·.length)).sum + ([("kind" : Str), x62] ++ l46).length * (" " : Str).length ≤ 16777216) (Res.ok (Txt.join (" " : Str) ([("kind" : Str), x62] ++ l46)))))))))) else (Res.of (atI [3, 8] ((l_way / 5) % 2))).bind fun x70 => Res.need ((-8000000 : Int) ≤ ((l_one / 11) % 4) ∧ (((l_one / 11) % 4) : Int) ≤ 8000000) ((mfM (fun i77 : Int => Res.ok true) (fun i77 => Res.need (CDiv l_one ((3 * i77) + 1)) (Res.need (0 < x70) ((Res.of (atI [0, 1, 2, 4, 5, 6, 7, 3] ((l_one / ((3 * i77) + 1)) % x70))).bind fun x80 => (Res.of (atI ([x2, ("bb" : Str), ("kind" : Str), ("keep" : Str)] ++ [("any" : Str), ("edge" : Str), ("other" : Str), ("zzz" : Str)]) x80)).bind fun x82 => Res.ok x82))) (rangeI 0 ((l_one / 11) % 4))).bind fun l84 => Res.need ((-8000000 : Int) ≤ ((l_two / 11) % 4) ∧ (((l_two / 11) % 4) : Int) ≤ 8000000) ((mfM (fun i98 : Int => Res.ok true) (fun i98 => Res.need (CDiv l_two ((3 * i98) + 1)) (Res.need (0 < x70) ((Res.of (atI [4, 6, 0, 1, 2, 5, 3, 7] ((l_two / ((3 * i98) + 1)) % x70))).bind fun x101 => (Res.of (atI ([x2, ("bb" : Str), ("kind" : Str), ("keep" : Str)] ++ [("any" : Str), ("edge" : Str), ("other" : Str), ("zzz" : Str)]) x101)).bind fun x103 => Res.ok x103))) (rangeI 0 ((l_two / 11) % 4))).bind fun l105 => (if (decide (((l_way / 10) % 16) = 3)) = true then Res.need ((l84).length + ([("a" : Str), ("a" : Str), ("a" : Str)]).length ≤ sizeLine) (Res.ok (l84 ++ [("a" : Str), ("a" : Str), ("a" : Str)])) else Res.ok l84).bind fun (a144 : (List Str)) => (Res.of (atI [("keep" : Str), ("cut" : Str)] (l_way % 2))).bind fun x151 => Res.need (([x151]).length + (a144).length ≤ sizeLine) (Res.need ((([x151] ++ a144)).length + ([("|" : Str)]).length ≤ sizeLine) (Res.need (((([x151] ++ a144) ++ [("|" : Str)])).length + (l105).length ≤ sizeLine) (Res.need ((((([x151] ++ a144) ++ [("|" : Str)]) ++ l105).map (·.length)).sum + ((([x151] ++ a144) ++ [("|" : Str)]) ++ l105).length * (" " : Str).length ≤ 16777216) (Res.ok (Txt.join (" " : Str) ((([x151] ++ a144) ++ [("|" : Str)]) ++ l105))))))))))
abbrev args_l_row (CT CR : Addr) : Int × Int × Int → AR := fun d => (aC rInt d.1 (aC rInt d.2.1 (aC rInt d.2.2 aN)))
abbrev sp_l_row (CT CR : Addr) : Sp := SpA (args_l_row CT CR) (kE rStr) (fun d => m_l_row d.1 d.2.1 d.2.2)
theorem body_l_row {X : Cx} {CT CR : Addr} (C : Cok X 0) (VS : Scp X N_l_row (defScope st_l_row)) (fn : ∀ x, X.fn x = true) (T : Blt X.mg) (TR : RulTxt X.K CR)  : ∀ (B H : Hp) (vs : List V) (d : Int × Int × Int) (Q : VK), Sx B H → Tx H B → (args_l_row CT CR d).r vs B H → Fin ((kE rStr) ⟨B, H⟩ Q) NoErr (m_l_row d.1 d.2.1 d.2.2) →
    WSs X (defBody st_l_row) { nx := fun _ H' => Q .non H', rt := Q } (start N_l_row vs) H := by
  rintro B H vs ⟨l_way, l_one, l_two⟩ Q hb ht ⟨_, _, rfl, rfl, ⟨_, _, rfl, rfl, ⟨_, _, rfl, rfl, rfl⟩⟩⟩ F
  have S0 := Stt.enter hb ht
  obtain ⟨h1, F⟩ := Fin.need F
  obtain ⟨x2, h3, F⟩ := Fin.of F
  refine s_asg C (VS.slot tb_l_row fn 3 3) S0 ((el_lst (R := rStr) (ea_cons ((ev_ixL ((el_lst (R := rStr) (ea_cons (ev_s).toE (ea_cons (ev_s).toE (ea_cons (ev_s).toE ea_nil))))).toB (ev_mul (ev_mod (ev_mod (ev_div (ev_v (VS.var tb_l_row 2 2) rfl rfl) ev_i ⟨by decide, by decide⟩) ev_i (by decide)) ev_i (by decide)) (ev_intB (VS.gl tb_l_row 9) T.int (c_lt.ev (ev_mod (ev_div (ev_v (VS.var tb_l_row 2 2) rfl rfl) ev_i ⟨by decide, by decide⟩) ev_i (by decide)) ev_i)) h1) h3)).toE (ea_cons (ev_s).toE (ea_cons (ev_s).toE (ea_cons (ev_s).toE ea_nil)))))).toE (fun v8 B4 H5 S6 e7 r9 => ?_)
  obtain ⟨h10, F⟩ := Fin.need F
  refine s_asg C (VS.slot tb_l_row fn 3 3) S6 ((el_cat ((ee_v (VS.var tb_l_row 3 3) rfl r9)).toB ((el_lst (R := rStr) (ea_cons (ev_s).toE (ea_cons (ev_s).toE (ea_cons (ev_s).toE (ea_cons (ev_s).toE ea_nil)))))).toB h10)).toE (fun v15 B11 H12 S13 e14 r16 => ?_)
  refine s_if S13 (c_lt.et (ev_mod (ev_v (VS.var tb_l_row 0 0) rfl rfl) ev_i (by decide)) ev_i) (fun z17 B18 H19 S20 e21 => ?_) (fun z17 B66 H67 S68 e69 => ?_)
  · replace F := Fin.tt F z17
    obtain ⟨h22, F⟩ := Fin.need F
    obtain ⟨h23, F⟩ := Fin.need F
    obtain ⟨h24, F⟩ := Fin.need F
    obtain ⟨h25, F⟩ := Fin.need F
    refine s_asg C (VS.slot tb_l_row fn 4 4) S20 ((el_lst (R := rStr) (ea_cons (ev_s).toE (ea_cons (ev_s).toE (ea_cons (ev_s).toE (ea_cons ((ev_catS ev_s (ev_repS ev_s ev_i h22) h23)).toE (ea_cons ((ev_catS ev_s (ev_repS ev_s ev_i h24) h25)).toE (ea_cons (ev_s).toE ea_nil)))))))).toE (fun v30 B26 H27 S28 e29 r31 => ?_)
    obtain ⟨x32, h33, F⟩ := Fin.of F
    refine s_asgI C (VS.slot tb_l_row fn 5 5) S28 (ev_ixL ((el_lst (R := rInt) (ea_cons (ev_i).toE (ea_cons (ev_i).toE ea_nil)))).toB (ev_intB (VS.gl tb_l_row 9) T.int (c_eqI.ev (ev_mod (ev_div (ev_v (VS.var tb_l_row 0 0) rfl rfl) ev_i ⟨by decide, by decide⟩) ev_i (by decide)) ev_i)) h33) (fun B34 H35 S36 e37 => ?_)
    obtain ⟨x38, h39, F⟩ := Fin.of F
    obtain ⟨h40, F⟩ := Fin.need F
    obtain ⟨l46, h47, F⟩ := Fin.get F
    refine s_asgLc (S := rStr) C (i := 6) (n := "_law_some") (by rw [VS.n]; rfl) (VS.lk tb_l_row 6) (sw_loc VS sc_l_row.kind (VS.lk tb_l_row 6)) S36 (VS.blk bk_l_row_c1) (ei_r1 (VS.gl tb_l_row 10) T.range (ev_ixL ((el_lst (R := rInt) (ea_cons ((ev_add ev_i (ev_mod (ev_v (VS.var tb_l_row 2 2) rfl rfl) ev_i (by decide)))).toE (ea_cons (ev_i).toE ea_nil)))).toB (ev_intB (VS.gl tb_l_row 9) T.int (c_eqI.ev (ev_mod (ev_div (ev_v (VS.var tb_l_row 0 0) rfl rfl) ev_i ⟨by decide, by decide⟩) ev_i (by decide)) ev_i)) h39) h40) (fun _ _ => trivial) (fun Xb hX => tg_name (R := rInt) (hX.cok C) (hX.slot VS tb_l_row_c1 9 0)) h47
                                                            (fun Xb i41 σ2 acc Dd Bc1 Hc1 b hX1 S1001 ec1 tg hb => by
                                                                obtain ⟨v1001, rfl, rfl⟩ := tg
                                                                have T1 : Blt Xb.mg := by rw [hX1.mg]; exact T
                                                                have TR1 : RulTxt Xb.K CR := by rw [hX1.K]; exact TR
                                                                have hb := Res.ok_inj hb
                                                                subst hb
                                                                exact ets_nil
                                                            )
                                                            (fun Xb i41 y σ2 acc Dd Bc1 Hc1 hX1 S1001 ec1 tg hb hf => by
                                                                obtain ⟨v1001, rfl, rfl⟩ := tg
                                                                have T1 : Blt Xb.mg := by rw [hX1.mg]; exact T
                                                                have TR1 : RulTxt Xb.K CR := by rw [hX1.K]; exact TR
                                                                obtain ⟨h42, hf⟩ := Res.need_ok hf
                                                                obtain ⟨h43, hf⟩ := Res.need_ok hf
                                                                obtain ⟨x44, h45, hf⟩ := Res.of_ok hf
                                                                have hf := Res.ok_inj hf
                                                                subst hf
                                                                exact ((ev_ixL ((ee_v ((hX1.scp VS).var tb_l_row_c1 4 3) rfl (Rel.mono _ (e37.trans ec1) r31))).toB (ev_mod (ev_div (ev_v ((hX1.scp VS).var tb_l_row_c1 1 2) rfl rfl) (ev_add (ev_mulL ev_i (ev_v ((hX1.scp VS).var tb_l_row_c1 9 0) rfl rfl)) ev_i) h42) (ev_v ((hX1.scp VS).var tb_l_row_c1 5 1) rfl rfl) h43) h45)).toE
                                                            ) (fun x B3 σ2 h => by obtain ⟨v, _, rfl⟩ := h; rfl) (fun x B3 B4 σ2 ⟨v, r, q⟩ e => ⟨v, Rel.mono _ e r, q⟩) (fun p48 u49 B50 H51 S52 e53 r54 => ?_)
    obtain ⟨Bk55, S56, e57, r58⟩ := rl_keep (R := rStr) S52 (k := 0) rfl r54
    obtain ⟨x59, h60, F⟩ := Fin.of F
    obtain ⟨h61, F⟩ := Fin.need F
    obtain ⟨x62, h63, F⟩ := Fin.of F
    obtain ⟨h64, F⟩ := Fin.need F
    obtain ⟨h65, F⟩ := Fin.need F
    exact s_retE S56 ((ev_join ev_s ((el_cat ((el_lst (R := rStr) (ea_cons (ev_s).toE (ea_cons ((ev_ixL ((ee_v (VS.var tb_l_row 3 3) rfl (Rel.mono _ ((((e21.trans e29).trans e37).trans e53).trans e57) r16))).toB (ev_mod (ev_div (ev_v (VS.var tb_l_row 2 2) rfl rfl) ev_i ⟨by decide, by decide⟩) (ev_ixL ((el_lst (R := rInt) (ea_cons (ev_i).toE (ea_cons (ev_i).toE ea_nil)))).toB (ev_intB (VS.gl tb_l_row 9) T.int (c_eqI.ev (ev_mod (ev_div (ev_v (VS.var tb_l_row 2 2) rfl rfl) ev_i ⟨by decide, by decide⟩) ev_i (by decide)) ev_i)) h60) h61) h63)).toE ea_nil)))).toB ((ee_v (VS.var tb_l_row 6 6) rfl r58)).toB h64)).toB h65)).toE F
  · replace F := Fin.ff F z17
    refine WSs.nil ?_
    obtain ⟨x70, h71, F⟩ := Fin.of F
    refine s_asgI C (VS.slot tb_l_row fn 5 5) S68 (ev_ixL ((el_lst (R := rInt) (ea_cons (ev_i).toE (ea_cons (ev_i).toE ea_nil)))).toB (ev_mod (ev_div (ev_v (VS.var tb_l_row 0 0) rfl rfl) ev_i ⟨by decide, by decide⟩) ev_i (by decide)) h71) (fun B72 H73 S74 e75 => ?_)
    obtain ⟨h76, F⟩ := Fin.need F
    obtain ⟨l84, h85, F⟩ := Fin.get F
    refine s_asgLc (S := rStr) C (i := 7) (n := "_law_left") (by rw [VS.n]; rfl) (VS.lk tb_l_row 7) (sw_loc VS sc_l_row.kind (VS.lk tb_l_row 7)) S74 (VS.blk bk_l_row_c2) (ei_r1 (VS.gl tb_l_row 10) T.range (ev_mod (ev_div (ev_v (VS.var tb_l_row 1 1) rfl rfl) ev_i ⟨by decide, by decide⟩) ev_i (by decide)) h76) (fun _ _ => trivial) (fun Xb hX => tg_name (R := rInt) (hX.cok C) (hX.slot VS tb_l_row_c2 9 0)) h85
                                                            (fun Xb i77 σ2 acc Dd Bc2 Hc2 b hX2 S1002 ec2 tg hb => by
                                                                obtain ⟨v1002, rfl, rfl⟩ := tg
                                                                have T2 : Blt Xb.mg := by rw [hX2.mg]; exact T
                                                                have TR2 : RulTxt Xb.K CR := by rw [hX2.K]; exact TR
                                                                have hb := Res.ok_inj hb
                                                                subst hb
                                                                exact ets_nil
                                                            )
                                                            (fun Xb i77 y σ2 acc Dd Bc2 Hc2 hX2 S1002 ec2 tg hb hf => by
                                                                obtain ⟨v1002, rfl, rfl⟩ := tg
                                                                have T2 : Blt Xb.mg := by rw [hX2.mg]; exact T
                                                                have TR2 : RulTxt Xb.K CR := by rw [hX2.K]; exact TR
                                                                obtain ⟨h78, hf⟩ := Res.need_ok hf
                                                                obtain ⟨h79, hf⟩ := Res.need_ok hf
                                                                obtain ⟨x80, h81, hf⟩ := Res.of_ok hf
                                                                obtain ⟨x82, h83, hf⟩ := Res.of_ok hf
                                                                have hf := Res.ok_inj hf
                                                                subst hf
                                                                exact ((ev_ixL ((ee_v ((hX2.scp VS).var tb_l_row_c2 3 3) rfl (Rel.mono _ ((e69.trans e75).trans ec2) r16))).toB (ev_ixL ((el_lst (R := rInt) (ea_cons (ev_i).toE (ea_cons (ev_i).toE (ea_cons (ev_i).toE (ea_cons (ev_i).toE (ea_cons (ev_i).toE (ea_cons (ev_i).toE (ea_cons (ev_i).toE (ea_cons (ev_i).toE ea_nil)))))))))).toB (ev_mod (ev_div (ev_v ((hX2.scp VS).var tb_l_row_c2 1 2) rfl rfl) (ev_add (ev_mulL ev_i (ev_v ((hX2.scp VS).var tb_l_row_c2 9 0) rfl rfl)) ev_i) h78) (ev_v ((hX2.scp VS).var tb_l_row_c2 5 1) rfl rfl) h79) h81) h83)).toE
                                                            ) (fun x B3 σ2 h => by obtain ⟨v, _, rfl⟩ := h; rfl) (fun x B3 B4 σ2 ⟨v, r, q⟩ e => ⟨v, Rel.mono _ e r, q⟩) (fun p86 u87 B88 H89 S90 e91 r92 => ?_)
    obtain ⟨Bk93, S94, e95, r96⟩ := rl_keep (R := rStr) S90 (k := 0) rfl r92
    obtain ⟨h97, F⟩ := Fin.need F
    obtain ⟨l105, h106, F⟩ := Fin.get F
    refine s_asgLc (S := rStr) C (i := 8) (n := "_law_right") (by rw [VS.n]; rfl) (VS.lk tb_l_row 8) (sw_loc VS sc_l_row.kind (VS.lk tb_l_row 8)) S94 (VS.blk bk_l_row_c3) (ei_r1 (VS.gl tb_l_row 10) T.range (ev_mod (ev_div (ev_v (VS.var tb_l_row 2 2) rfl rfl) ev_i ⟨by decide, by decide⟩) ev_i (by decide)) h97) (fun _ _ => trivial) (fun Xb hX => tg_name (R := rInt) (hX.cok C) (hX.slot VS tb_l_row_c3 9 0)) h106
                                                            (fun Xb i98 σ2 acc Dd Bc3 Hc3 b hX3 S1003 ec3 tg hb => by
                                                                obtain ⟨v1003, rfl, rfl⟩ := tg
                                                                have T3 : Blt Xb.mg := by rw [hX3.mg]; exact T
                                                                have TR3 : RulTxt Xb.K CR := by rw [hX3.K]; exact TR
                                                                have hb := Res.ok_inj hb
                                                                subst hb
                                                                exact ets_nil
                                                            )
                                                            (fun Xb i98 y σ2 acc Dd Bc3 Hc3 hX3 S1003 ec3 tg hb hf => by
                                                                obtain ⟨v1003, rfl, rfl⟩ := tg
                                                                have T3 : Blt Xb.mg := by rw [hX3.mg]; exact T
                                                                have TR3 : RulTxt Xb.K CR := by rw [hX3.K]; exact TR
                                                                obtain ⟨h99, hf⟩ := Res.need_ok hf
                                                                obtain ⟨h100, hf⟩ := Res.need_ok hf
                                                                obtain ⟨x101, h102, hf⟩ := Res.of_ok hf
                                                                obtain ⟨x103, h104, hf⟩ := Res.of_ok hf
                                                                have hf := Res.ok_inj hf
                                                                subst hf
                                                                exact ((ev_ixL ((ee_v ((hX3.scp VS).var tb_l_row_c3 3 3) rfl (Rel.mono _ ((((e69.trans e75).trans e91).trans e95).trans ec3) r16))).toB (ev_ixL ((el_lst (R := rInt) (ea_cons (ev_i).toE (ea_cons (ev_i).toE (ea_cons (ev_i).toE (ea_cons (ev_i).toE (ea_cons (ev_i).toE (ea_cons (ev_i).toE (ea_cons (ev_i).toE (ea_cons (ev_i).toE ea_nil)))))))))).toB (ev_mod (ev_div (ev_v ((hX3.scp VS).var tb_l_row_c3 2 2) rfl rfl) (ev_add (ev_mulL ev_i (ev_v ((hX3.scp VS).var tb_l_row_c3 9 0) rfl rfl)) ev_i) h99) (ev_v ((hX3.scp VS).var tb_l_row_c3 5 1) rfl rfl) h100) h102) h104)).toE
                                                            ) (fun x B3 σ2 h => by obtain ⟨v, _, rfl⟩ := h; rfl) (fun x B3 B4 σ2 ⟨v, r, q⟩ e => ⟨v, Rel.mono _ e r, q⟩) (fun p107 u108 B109 H110 S111 e112 r113 => ?_)
    obtain ⟨Bk114, S115, e116, r117⟩ := rl_keep (R := rStr) S111 (k := 0) rfl r113
    refine s_ifJ S115 (c_eqI.et (ev_mod (ev_div (ev_v (VS.var tb_l_row 0 0) rfl rfl) ev_i ⟨by decide, by decide⟩) ev_i (by decide)) ev_i) F (fun (a : (List Str)) σ' own' B' => ∃ (w118_7 : V), σ' = [some (.int l_way), some (.int l_one), some (.int l_two), some v15, none, some (.int x70), none, some w118_7, some (.ref p107), none] ∧ own' = [] ∧ (rLst rStr).r B' w118_7 a) (fun z143 B126 H127 S128 e129 Q130 F => ?_) (fun z143 B138 H139 S140 e141 Q142 F => ?_) (fun a144 _ _ B145 H146 iv149 S147 e148 F => ?_)
    · skip
      obtain ⟨h131, F⟩ := Fin.need F
      refine s_asg C (VS.slot tb_l_row fn 7 7) S128 ((el_cat ((ee_v (VS.var tb_l_row 7 7) rfl (Rel.mono _ ((e112.trans e116).trans e129) r96))).toB ((el_lst (R := rStr) (ea_cons (ev_s).toE (ea_cons (ev_s).toE (ea_cons (ev_s).toE ea_nil))))).toB h131)).toE (fun v136 B132 H133 S134 e135 r137 => ?_)
      exact WSs.nil ⟨(l84 ++ [("a" : Str), ("a" : Str), ("a" : Str)]), _, _, F, S134, e135, ⟨_, rfl, rfl, r137⟩⟩
    · skip
      exact WSs.nil ⟨l84, _, _, F, S140, (Ex.refl _), ⟨_, rfl, rfl, (Rel.mono _ ((e112.trans e116).trans e141) r96)⟩⟩
    · skip
      obtain ⟨w118_7, rfl, rfl, r150⟩ := iv149
      obtain ⟨x151, h152, F⟩ := Fin.of F
      obtain ⟨h153, F⟩ := Fin.need F
      obtain ⟨h154, F⟩ := Fin.need F
      obtain ⟨h155, F⟩ := Fin.need F
      obtain ⟨h156, F⟩ := Fin.need F
      exact s_retE S147 ((ev_join ev_s ((el_cat ((el_cat ((el_cat ((el_lst (R := rStr) (ea_cons ((ev_ixL ((el_lst (R := rStr) (ea_cons (ev_s).toE (ea_cons (ev_s).toE ea_nil)))).toB (ev_mod (ev_v (VS.var tb_l_row 0 0) rfl rfl) ev_i (by decide)) h152)).toE ea_nil))).toB ((ee_v (VS.var tb_l_row 7 7) rfl r150)).toB h153)).toB ((el_lst (R := rStr) (ea_cons (ev_s).toE ea_nil))).toB h154)).toB ((ee_v (VS.var tb_l_row 8 8) rfl (Rel.mono _ e148 r117))).toB h155)).toB h156)).toE F
/-! l_at -/
abbrev st_l_at : Stmt := topS 26
abbrev N_l_at : List Str := ["_law_script", "_law_k"]
theorem tb_l_at : nmOk (defScope st_l_at) [("_law_script", .local), ("_law_k", .local), ("len", .globalImplicit)] = true := by decide +kernel
theorem sc_l_at : FnScope N_l_at ["_law_script", "_law_k"] (defScope st_l_at) := ⟨rfl, rfl, rfl, by decide +kernel, rfl, by decide +kernel, by decide +kernel⟩
def m_l_at (l_script : (List Int)) (l_k : Int) : Res Int := (if (decide (l_k < ((l_script).length : Int))) = true then (Res.of (atI l_script l_k)).bind fun x1 => Res.ok x1 else Res.ok 0).bind fun f3 => Res.ok f3
abbrev args_l_at (CT CR : Addr) : (List Int) × Int → AR := fun d => (aC (rLst rInt) d.1 (aC rInt d.2 aN))
abbrev sp_l_at (CT CR : Addr) : Sp := SpA (args_l_at CT CR) (kE rInt) (fun d => m_l_at d.1 d.2)
theorem body_l_at {X : Cx} {CT CR : Addr} (C : Cok X 0) (VS : Scp X N_l_at (defScope st_l_at)) (fn : ∀ x, X.fn x = true) (T : Blt X.mg) (TR : RulTxt X.K CR)  : ∀ (B H : Hp) (vs : List V) (d : (List Int) × Int) (Q : VK), Sx B H → Tx H B → (args_l_at CT CR d).r vs B H → Fin ((kE rInt) ⟨B, H⟩ Q) NoErr (m_l_at d.1 d.2) →
    WSs X (defBody st_l_at) { nx := fun _ H' => Q .non H', rt := Q } (start N_l_at vs) H := by
  rintro B H vs ⟨l_script, l_k⟩ Q hb ht ⟨v1, _, rfl, r1_, ⟨_, _, rfl, rfl, rfl⟩⟩ F
  have S0 := Stt.enter hb ht
  obtain ⟨f3, h4, F⟩ := Fin.get F
  exact s_retE S0 ((ev_ife (c_lt.et (ev_v (VS.var tb_l_at 1 1) rfl rfl) (ev_lenL (VS.gl tb_l_at 2) T.len (ev_v (VS.var tb_l_at 0 0) rfl (Rel.mono _ S0.h0.ex r1_)))) (fun hz => by
                                                                have q5 := Res.tt_ok h4 hz
                                                                obtain ⟨x1, h2, q5⟩ := Res.of_ok q5
                                                                have q5 := Res.ok_inj q5
                                                                rw [← q5]
                                                                exact (ev_ixL (ev_v (VS.var tb_l_at 0 0) rfl (Rel.mono _ S0.h0.ex r1_)) (ev_v (VS.var tb_l_at 1 1) rfl rfl) h2)
                                                            ) (fun hz => by
                                                                have q5 := Res.ff_ok h4 hz
                                                                have q5 := Res.ok_inj q5
                                                                rw [← q5]
                                                                exact ev_i
                                                            ))).toE F
/-! l_spoilt -/
abbrev st_l_spoilt : Stmt := topS 28
abbrev N_l_spoilt : List Str := ["_law_writing", "_law_cell", "_law_signs", "_law_sign", "_law_at_here"]
theorem tb_l_spoilt : nmOk (defScope st_l_spoilt) [("_law_writing", .local), ("_law_cell", .local), ("_law_signs", .local), ("_law_sign", .local), ("_law_at_here", .local), ("len", .globalImplicit)] = true := by decide +kernel
theorem sc_l_spoilt : FnScope N_l_spoilt ["_law_writing", "_law_cell"] (defScope st_l_spoilt) := ⟨rfl, rfl, rfl, by decide +kernel, rfl, by decide +kernel, by decide +kernel⟩
def m_l_spoilt (l_writing : Str) (l_cell : Int) : Res Str := Res.need ((("0123456789abkz|AZ \t\n_-" : Str)).length ≤ sizeLine) (Res.need (0 < ((("0123456789abkz|AZ \t\n_-" : Str)).length : Int)) (Res.need (("0123456789abkz|AZ \t\n_-" : Str).length ≤ sizeLine) ((Res.of (atI ("0123456789abkz|AZ \t\n_-" : Str).cps.toList ((l_cell / 4) % ((("0123456789abkz|AZ \t\n_-" : Str)).length : Int)))).bind fun ch8 => Res.need ((l_writing).length ≤ sizeLine) (Res.need (0 < (((l_writing).length : Int) + 1)) (if (decide ((l_cell % 8) = 1)) = true then Res.need (l_writing.length ≤ sizeLine) (Res.need (((cutS l_writing none (some ((l_cell / 100) % (((l_writing).length : Int) + 1))))).length + ((chS ch8)).length ≤ sizeLine) (Res.need (l_writing.length ≤ sizeLine) (Res.need ((((cutS l_writing none (some ((l_cell / 100) % (((l_writing).length : Int) + 1)))) ++ (chS ch8))).length + ((cutS l_writing (some ((l_cell / 100) % (((l_writing).length : Int) + 1))) none)).length ≤ sizeLine) (Res.ok (((cutS l_writing none (some ((l_cell / 100) % (((l_writing).length : Int) + 1)))) ++ (chS ch8)) ++ (cutS l_writing (some ((l_cell / 100) % (((l_writing).length : Int) + 1))) none)))))) else if (decide ((l_cell % 8) = 3)) = true then Res.need (l_writing.length ≤ sizeLine) (Res.need (((cutS l_writing none (some ((l_cell / 100) % (((l_writing).length : Int) + 1))))).length + ((chS ch8)).length ≤ sizeLine) (Res.need (l_writing.length ≤ sizeLine) (Res.need ((((cutS l_writing none (some ((l_cell / 100) % (((l_writing).length : Int) + 1)))) ++ (chS ch8))).length + ((cutS l_writing (some (((l_cell / 100) % (((l_writing).length : Int) + 1)) + 1)) none)).length ≤ sizeLine) (Res.ok (((cutS l_writing none (some ((l_cell / 100) % (((l_writing).length : Int) + 1)))) ++ (chS ch8)) ++ (cutS l_writing (some (((l_cell / 100) % (((l_writing).length : Int) + 1)) + 1)) none)))))) else if ((decide ((l_cell % 8) = 5)) || (decide ((l_cell % 8) = 7))) = true then Res.need (l_writing.length ≤ sizeLine) (Res.need (l_writing.length ≤ sizeLine) (Res.need (((cutS l_writing none (some ((l_cell / 100) % (((l_writing).length : Int) + 1))))).length + ((cutS l_writing (some (((l_cell / 100) % (((l_writing).length : Int) + 1)) + 1)) none)).length ≤ sizeLine) (Res.ok ((cutS l_writing none (some ((l_cell / 100) % (((l_writing).length : Int) + 1)))) ++ (cutS l_writing (some (((l_cell / 100) % (((l_writing).length : Int) + 1)) + 1)) none))))) else Res.ok l_writing)))))
abbrev args_l_spoilt (CT CR : Addr) : Str × Int → AR := fun d => (aC rStr d.1 (aC rInt d.2 aN))
abbrev sp_l_spoilt (CT CR : Addr) : Sp := SpA (args_l_spoilt CT CR) (kE rStr) (fun d => m_l_spoilt d.1 d.2)
theorem body_l_spoilt {X : Cx} {CT CR : Addr} (C : Cok X 0) (VS : Scp X N_l_spoilt (defScope st_l_spoilt)) (fn : ∀ x, X.fn x = true) (T : Blt X.mg) (TR : RulTxt X.K CR)  : ∀ (B H : Hp) (vs : List V) (d : Str × Int) (Q : VK), Sx B H → Tx H B → (args_l_spoilt CT CR d).r vs B H → Fin ((kE rStr) ⟨B, H⟩ Q) NoErr (m_l_spoilt d.1 d.2) →
    WSs X (defBody st_l_spoilt) { nx := fun _ H' => Q .non H', rt := Q } (start N_l_spoilt vs) H := by
  rintro B H vs ⟨l_writing, l_cell⟩ Q hb ht ⟨_, _, rfl, rfl, ⟨_, _, rfl, rfl, rfl⟩⟩ F
  have S0 := Stt.enter hb ht
  refine s_asgS C (VS.slot tb_l_spoilt fn 2 2) S0 ev_s (fun B1 H2 S3 e4 => ?_)
  obtain ⟨h5, F⟩ := Fin.need F
  obtain ⟨h6, F⟩ := Fin.need F
  obtain ⟨h7, F⟩ := Fin.need F
  obtain ⟨ch8, h9, F⟩ := Fin.of F
  refine s_asg C (VS.slot tb_l_spoilt fn 3 3) S3 ((ev_ixS (ev_v (VS.var tb_l_spoilt 2 2) rfl rfl) (ev_mod (ev_div (ev_v (VS.var tb_l_spoilt 1 1) rfl rfl) ev_i ⟨by decide, by decide⟩) (ev_lenS (VS.gl tb_l_spoilt 5) T.len (ev_v (VS.var tb_l_spoilt 2 2) rfl rfl) h5) h6) h7 h9)).toE (fun v14 B10 H11 S12 e13 r15 => ?_)
  obtain ⟨h16, F⟩ := Fin.need F
  obtain ⟨h17, F⟩ := Fin.need F
  refine s_asgI C (VS.slot tb_l_spoilt fn 4 4) S12 (ev_mod (ev_div (ev_v (VS.var tb_l_spoilt 1 1) rfl rfl) ev_i ⟨by decide, by decide⟩) (ev_add (ev_lenS (VS.gl tb_l_spoilt 5) T.len (ev_v (VS.var tb_l_spoilt 0 0) rfl rfl) h16) ev_i) h17) (fun B18 H19 S20 e21 => ?_)
  refine s_if S20 (c_eqI.et (ev_mod (ev_v (VS.var tb_l_spoilt 1 1) rfl rfl) ev_i (by decide)) ev_i) (fun z22 B23 H24 S25 e26 => ?_) (fun z22 B31 H32 S33 e34 => ?_)
  · replace F := Fin.tt F z22
    obtain ⟨h27, F⟩ := Fin.need F
    obtain ⟨h28, F⟩ := Fin.need F
    obtain ⟨h29, F⟩ := Fin.need F
    obtain ⟨h30, F⟩ := Fin.need F
    exact s_retE S25 ((ev_catS (ev_catS (ev_cutS (ev_v (VS.var tb_l_spoilt 0 0) rfl rfl) ep_n (ep_s (ev_v (VS.var tb_l_spoilt 4 4) rfl rfl)) h27) (ev_chS ((ee_v (VS.var tb_l_spoilt 3 3) rfl (Rel.mono _ (e21.trans e26) r15))).toB) h28) (ev_cutS (ev_v (VS.var tb_l_spoilt 0 0) rfl rfl) (ep_s (ev_v (VS.var tb_l_spoilt 4 4) rfl rfl)) ep_n h29) h30)).toE F
  · replace F := Fin.ff F z22
    refine WSs.nil ?_
    refine s_if S33 (c_eqI.et (ev_mod (ev_v (VS.var tb_l_spoilt 1 1) rfl rfl) ev_i (by decide)) ev_i) (fun z35 B36 H37 S38 e39 => ?_) (fun z35 B44 H45 S46 e47 => ?_)
    · replace F := Fin.tt F z35
      obtain ⟨h40, F⟩ := Fin.need F
      obtain ⟨h41, F⟩ := Fin.need F
      obtain ⟨h42, F⟩ := Fin.need F
      obtain ⟨h43, F⟩ := Fin.need F
      exact s_retE S38 ((ev_catS (ev_catS (ev_cutS (ev_v (VS.var tb_l_spoilt 0 0) rfl rfl) ep_n (ep_s (ev_v (VS.var tb_l_spoilt 4 4) rfl rfl)) h40) (ev_chS ((ee_v (VS.var tb_l_spoilt 3 3) rfl (Rel.mono _ ((e21.trans e34).trans e39) r15))).toB) h41) (ev_cutS (ev_v (VS.var tb_l_spoilt 0 0) rfl rfl) (ep_s (ev_add (ev_v (VS.var tb_l_spoilt 4 4) rfl rfl) ev_i)) ep_n h42) h43)).toE F
    · replace F := Fin.ff F z35
      refine WSs.nil ?_
      refine s_if S46 ((ew_or' (c_eqI.et (ev_mod (ev_v (VS.var tb_l_spoilt 1 1) rfl rfl) ev_i (by decide)) ev_i) fun _ => (ew_or1 (c_eqI.et (ev_mod (ev_v (VS.var tb_l_spoilt 1 1) rfl rfl) ev_i (by decide)) ev_i)))).t (fun z48 B49 H50 S51 e52 => ?_) (fun z48 B56 H57 S58 e59 => ?_)
      · replace F := Fin.tt F z48
        obtain ⟨h53, F⟩ := Fin.need F
        obtain ⟨h54, F⟩ := Fin.need F
        obtain ⟨h55, F⟩ := Fin.need F
        exact s_retE S51 ((ev_catS (ev_cutS (ev_v (VS.var tb_l_spoilt 0 0) rfl rfl) ep_n (ep_s (ev_v (VS.var tb_l_spoilt 4 4) rfl rfl)) h53) (ev_cutS (ev_v (VS.var tb_l_spoilt 0 0) rfl rfl) (ep_s (ev_add (ev_v (VS.var tb_l_spoilt 4 4) rfl rfl) ev_i)) ep_n h54) h55)).toE F
      · replace F := Fin.ff F z48
        refine WSs.nil ?_
        exact s_retE S58 ((ev_v (VS.var tb_l_spoilt 0 0) rfl rfl)).toE F
/-! l_rows -/
abbrev st_l_rows : Stmt := topS 32
abbrev N_l_rows : List Str := ["_law_writing", "_law_rows_here", "_law_row_here"]
theorem tb_l_rows : nmOk (defScope st_l_rows) [("_law_writing", .local), ("_law_rows_here", .local)] = true := by decide +kernel
theorem sc_l_rows : FnScope N_l_rows ["_law_writing"] (defScope st_l_rows) := ⟨rfl, rfl, rfl, by decide +kernel, rfl, by decide +kernel, by decide +kernel⟩
abbrev csc_l_rows_c1 : Scope := { kind := .function, names := [(".0", .local), ("_law_row_here", .local)], isGenerator := false, isCoroutine := false, more := [] }
theorem tb_l_rows_c1 : nmOk (relS csc_l_rows_c1 (defScope st_l_rows)) [("_law_row_here", .local)] = true := by decide +kernel
theorem bk_l_rows_c1 : blkC N_l_rows (defScope st_l_rows) csc_l_rows_c1 [("_law_row_here", 2)] = true := by decide +kernel
def m_l_rows (l_writing : Str) : Res (List (List Str)) := Res.need (l_writing.length + 2 ≤ sizeLine) ((Res.of (atI (Txt.split l_writing ("\n" : Str)) (-1))).bind fun x8 => (if (decide (x8 = ("" : Str))) = true then Res.ok (cut (Txt.split l_writing ("\n" : Str)) none (some (-1))) else Res.ok (Txt.split l_writing ("\n" : Str))).bind fun (a34 : (List Str)) => (mfM (fun i41 : Str => Res.ok true) (fun i41 => Res.need (i41.length + 2 ≤ sizeLine) (Res.ok (Txt.split i41 (" " : Str)))) a34).bind fun l43 => Res.ok l43)
abbrev args_l_rows (CT CR : Addr) : Str → AR := fun d => (aC rStr d aN)
abbrev sp_l_rows (CT CR : Addr) : Sp := SpA (args_l_rows CT CR) (kL (rLst rStr)) (fun d => m_l_rows d)
theorem body_l_rows {X : Cx} {CT CR : Addr} (C : Cok X 0) (VS : Scp X N_l_rows (defScope st_l_rows)) (fn : ∀ x, X.fn x = true) (T : Blt X.mg) (TR : RulTxt X.K CR)  : ∀ (B H : Hp) (vs : List V) (d : Str) (Q : VK), Sx B H → Tx H B → (args_l_rows CT CR d).r vs B H → Fin ((kL (rLst rStr)) ⟨B, H⟩ Q) NoErr (m_l_rows d) →
    WSs X (defBody st_l_rows) { nx := fun _ H' => Q .non H', rt := Q } (start N_l_rows vs) H := by
  rintro B H vs l_writing Q hb ht ⟨_, _, rfl, rfl, rfl⟩ F
  have S0 := Stt.enter hb ht
  obtain ⟨h1, F⟩ := Fin.need F
  refine s_asg C (VS.slot tb_l_rows fn 1 1) S0 ((el_split (ev_v (VS.var tb_l_rows 0 0) rfl rfl) ev_s (by decide) h1)).toE (fun v6 B2 H3 S4 e5 r7 => ?_)
  obtain ⟨x8, h9, F⟩ := Fin.of F
  refine s_ifJ S4 (c_eqS.et (ev_ixL ((ee_v (VS.var tb_l_rows 1 1) rfl r7)).toB (ev_neg ev_i) h9) ev_s) F (fun (a : (List Str)) σ' own' B' => ∃ (w10_1 : V), σ' = [some (.str l_writing), some w10_1, none] ∧ own' = [] ∧ (rLst rStr).r B' w10_1 a) (fun z33 B17 H18 S19 e20 Q21 F => ?_) (fun z33 B28 H29 S30 e31 Q32 F => ?_) (fun a34 _ _ B35 H36 iv39 S37 e38 F => ?_)
  · skip
    refine s_asg C (VS.slot tb_l_rows fn 1 1) S19 ((el_cut ((ee_v (VS.var tb_l_rows 1 1) rfl (Rel.mono _ e20 r7))).toB ep_n (ep_s (ev_neg ev_i)))).toE (fun v26 B22 H23 S24 e25 r27 => ?_)
    exact WSs.nil ⟨(cut (Txt.split l_writing ("\n" : Str)) none (some (-1))), _, _, F, S24, e25, ⟨_, rfl, rfl, r27⟩⟩
  · skip
    exact WSs.nil ⟨(Txt.split l_writing ("\n" : Str)), _, _, F, S30, (Ex.refl _), ⟨_, rfl, rfl, (Rel.mono _ e31 r7)⟩⟩
  · skip
    obtain ⟨w10_1, rfl, rfl, r40⟩ := iv39
    obtain ⟨l43, h44, F⟩ := Fin.get F
    exact s_retL S37 (el_lc (S := (rLst rStr)) C (VS.blk bk_l_rows_c1) (ei_E (ee_v (VS.var tb_l_rows 1 1) rfl r40)) (fun _ _ => trivial) (fun Xb hX => tg_name (R := rStr) (hX.cok C) (hX.slot VS tb_l_rows_c1 2 0)) h44
                                                            (fun Xb i41 σ2 acc Dd Bc1 Hc1 b hX1 S1001 ec1 tg hb => by
                                                                obtain ⟨v1001, rfl, rfl⟩ := tg
                                                                have T1 : Blt Xb.mg := by rw [hX1.mg]; exact T
                                                                have TR1 : RulTxt Xb.K CR := by rw [hX1.K]; exact TR
                                                                have hb := Res.ok_inj hb
                                                                subst hb
                                                                exact ets_nil
                                                            )
                                                            (fun Xb i41 y σ2 acc Dd Bc1 Hc1 hX1 S1001 ec1 tg hb hf => by
                                                                obtain ⟨v1001, rfl, rfl⟩ := tg
                                                                have T1 : Blt Xb.mg := by rw [hX1.mg]; exact T
                                                                have TR1 : RulTxt Xb.K CR := by rw [hX1.K]; exact TR
                                                                obtain ⟨h42, hf⟩ := Res.need_ok hf
                                                                have hf := Res.ok_inj hf
                                                                subst hf
                                                                exact ((el_split (ev_v ((hX1.scp VS).var tb_l_rows_c1 2 0) rfl rfl) ev_s (by decide) h42)).toE
                                                            ) (fun x B3 σ2 h => by obtain ⟨v, _, rfl⟩ := h; rfl) (fun x B3 B4 σ2 ⟨v, r, q⟩ e => ⟨v, Rel.mono _ e r, q⟩)) F
/-! l_is_word -/
abbrev st_l_is_word : Stmt := topS 29
abbrev N_l_is_word : List Str := ["_law_word", "_law_sign"]
theorem tb_l_is_word : nmOk (defScope st_l_is_word) [("_law_word", .local), ("len", .globalImplicit)] = true := by decide +kernel
theorem sc_l_is_word : FnScope N_l_is_word ["_law_word"] (defScope st_l_is_word) := ⟨rfl, rfl, rfl, by decide +kernel, rfl, by decide +kernel, by decide +kernel⟩
abbrev csc_l_is_word_c1 : Scope := { kind := .function, names := [(".0", .local), ("_law_sign", .local)], isGenerator := false, isCoroutine := false, more := [] }
theorem tb_l_is_word_c1 : nmOk (relS csc_l_is_word_c1 (defScope st_l_is_word)) [("_law_sign", .local)] = true := by decide +kernel
theorem bk_l_is_word_c1 : blkC N_l_is_word (defScope st_l_is_word) csc_l_is_word_c1 [("_law_sign", 1)] = true := by decide +kernel
def m_l_is_word (l_word : Str) : Res Bool := Res.need ((l_word).length ≤ sizeLine) ((if (decide (0 < ((l_word).length : Int)) && decide (((l_word).length : Int) < 9)) = true then Res.need (l_word.cps.toList.length ≤ sizeLine) (Res.ok (decide (((l_word.cps.toList.filter fun i3 => (!(decide (i3 ∈ ("abcdefghijklmnopqrstuvwxyz" : Str).cps.toList)))).map fun i3 => i3) = ([] : List Nat)))) else Res.ok false).bind fun b4 => Res.ok b4)
abbrev args_l_is_word (CT CR : Addr) : Str → AR := fun d => (aC rStr d aN)
abbrev sp_l_is_word (CT CR : Addr) : Sp := SpA (args_l_is_word CT CR) (kE rBool) (fun d => m_l_is_word d)
theorem body_l_is_word {X : Cx} {CT CR : Addr} (C : Cok X 0) (VS : Scp X N_l_is_word (defScope st_l_is_word)) (fn : ∀ x, X.fn x = true) (T : Blt X.mg) (TR : RulTxt X.K CR)  : ∀ (B H : Hp) (vs : List V) (d : Str) (Q : VK), Sx B H → Tx H B → (args_l_is_word CT CR d).r vs B H → Fin ((kE rBool) ⟨B, H⟩ Q) NoErr (m_l_is_word d) →
    WSs X (defBody st_l_is_word) { nx := fun _ H' => Q .non H', rt := Q } (start N_l_is_word vs) H := by
  rintro B H vs l_word Q hb ht ⟨_, _, rfl, rfl, rfl⟩ F
  have S0 := Stt.enter hb ht
  obtain ⟨h1, F⟩ := Fin.need F
  obtain ⟨b4, h5, F⟩ := Fin.get F
  exact s_retE S0 ((ev_and (ev_chR (w0 := (decide (0 < ((l_word).length : Int)) && decide (((l_word).length : Int) < 9))) c_lt c_lt ev_i (ev_lenS (VS.gl tb_l_is_word 1) T.len (ev_v (VS.var tb_l_is_word 0 0) rfl rfl) h1) (fun hz => ⟨_, ev_i, by rw [hz]; rfl⟩) (fun hz => by rw [hz]; rfl)) (fun hz => by
                                                                have q6 := Res.tt_ok h5 hz
                                                                obtain ⟨h2, q6⟩ := Res.need_ok q6
                                                                have q6 := Res.ok_inj q6
                                                                rw [← q6]
                                                                exact (ev_one ((c_eqP (R := (rLst rCh)) C.hu64).ev ((el_lc (S := rCh) C (VS.blk bk_l_is_word_c1) (ei_str (ev_v (VS.var tb_l_is_word 0 0) rfl rfl) h2) (fun _ _ => trivial) (fun Xb hX => tg_name (R := rCh) (hX.cok C) (hX.slot VS tb_l_is_word_c1 1 0)) (mfM_fm (fun i3 : Nat => (!(decide (i3 ∈ ("abcdefghijklmnopqrstuvwxyz" : Str).cps.toList)))) (fun i3 : Nat => i3) _)
                                                            (fun Xb i3 σ2 acc Dd Bc1 Hc1 b hX1 S1001 ec1 tg hb => by
                                                                obtain ⟨v1001, rv1, rfl⟩ := tg
                                                                have T1 : Blt Xb.mg := by rw [hX1.mg]; exact T
                                                                have TR1 : RulTxt Xb.K CR := by rw [hX1.K]; exact TR
                                                                have hb := Res.ok_inj hb
                                                                subst hb
                                                                exact ets_one (et_ninCh ((ee_v ((hX1.scp VS).var tb_l_is_word_c1 1 0) rfl rv1)).toB ev_s)
                                                            )
                                                            (fun Xb i3 y σ2 acc Dd Bc1 Hc1 hX1 S1001 ec1 tg hb hf => by
                                                                obtain ⟨v1001, rv1, rfl⟩ := tg
                                                                have T1 : Blt Xb.mg := by rw [hX1.mg]; exact T
                                                                have TR1 : RulTxt Xb.K CR := by rw [hX1.K]; exact TR
                                                                have hf := Res.ok_inj hf
                                                                subst hf
                                                                exact (ee_v ((hX1.scp VS).var tb_l_is_word_c1 1 0) rfl rv1)
                                                            ) (fun x B3 σ2 h => by obtain ⟨v, _, rfl⟩ := h; rfl) (fun x B3 B4 σ2 ⟨v, r, q⟩ e => ⟨v, Rel.mono _ e r, q⟩))).toB ((el_nil (R := rCh))).toB))
                                                            ) (fun hz => (Res.ok_inj (Res.ff_ok h5 hz)).symm))).toE F
/-! l_is_sign -/
abbrev st_l_is_sign : Stmt := topS 30
abbrev N_l_is_sign : List Str := ["_law_word", "_law_figure"]
theorem tb_l_is_sign : nmOk (defScope st_l_is_sign) [("_law_word", .local), ("len", .globalImplicit)] = true := by decide +kernel
theorem sc_l_is_sign : FnScope N_l_is_sign ["_law_word"] (defScope st_l_is_sign) := ⟨rfl, rfl, rfl, by decide +kernel, rfl, by decide +kernel, by decide +kernel⟩
abbrev csc_l_is_sign_c1 : Scope := { kind := .function, names := [(".0", .local), ("_law_figure", .local)], isGenerator := false, isCoroutine := false, more := [] }
theorem tb_l_is_sign_c1 : nmOk (relS csc_l_is_sign_c1 (defScope st_l_is_sign)) [("_law_figure", .local)] = true := by decide +kernel
theorem bk_l_is_sign_c1 : blkC N_l_is_sign (defScope st_l_is_sign) csc_l_is_sign_c1 [("_law_figure", 1)] = true := by decide +kernel
def m_l_is_sign (l_word : Str) : Res Bool := (if (decide (l_word = ("" : Str))) = true then Res.ok true else Res.need ((l_word).length ≤ sizeLine) ((if (decide (60 < ((l_word).length : Int))) = true then Res.ok true else (if (!decide (l_word = ("0" : Str))) = true then Res.need (l_word.length ≤ sizeLine) ((Res.of (atI l_word.cps.toList 0)).bind fun ch3 => Res.ok (decide ((chS ch3) = ("0" : Str)))) else Res.ok false).bind fun b5 => Res.ok b5).bind fun b8 => Res.ok b8)).bind fun b11 => if b11 = true then Res.ok false else Res.need (l_word.cps.toList.length ≤ sizeLine) (Res.ok (decide (((l_word.cps.toList.filter fun i24 => (!(decide (i24 ∈ ("0123456789" : Str).cps.toList)))).map fun i24 => i24) = ([] : List Nat))))
abbrev args_l_is_sign (CT CR : Addr) : Str → AR := fun d => (aC rStr d aN)
abbrev sp_l_is_sign (CT CR : Addr) : Sp := SpA (args_l_is_sign CT CR) (kE rBool) (fun d => m_l_is_sign d)
theorem body_l_is_sign {X : Cx} {CT CR : Addr} (C : Cok X 0) (VS : Scp X N_l_is_sign (defScope st_l_is_sign)) (fn : ∀ x, X.fn x = true) (T : Blt X.mg) (TR : RulTxt X.K CR)  : ∀ (B H : Hp) (vs : List V) (d : Str) (Q : VK), Sx B H → Tx H B → (args_l_is_sign CT CR d).r vs B H → Fin ((kE rBool) ⟨B, H⟩ Q) NoErr (m_l_is_sign d) →
    WSs X (defBody st_l_is_sign) { nx := fun _ H' => Q .non H', rt := Q } (start N_l_is_sign vs) H := by
  rintro B H vs l_word Q hb ht ⟨_, _, rfl, rfl, rfl⟩ F
  have S0 := Stt.enter hb ht
  obtain ⟨b11, h12, F⟩ := Fin.get F
  refine s_if S0 ((ew_or (c_eqS.et (ev_v (VS.var tb_l_is_sign 0 0) rfl rfl) ev_s) (fun hz => by
                                                                have q13 := Res.ff_ok h12 hz
                                                                obtain ⟨h1, q13⟩ := Res.need_ok q13
                                                                obtain ⟨b8, h9, q13⟩ := Res.bind_ok q13
                                                                have q13 := Res.ok_inj q13
                                                                rw [← q13]
                                                                exact (ew_or (c_gt.et (ev_lenS (VS.gl tb_l_is_sign 1) T.len (ev_v (VS.var tb_l_is_sign 0 0) rfl rfl) h1) ev_i) (fun hz => by
                                                                have q10 := Res.ff_ok h9 hz
                                                                obtain ⟨b5, h6, q10⟩ := Res.bind_ok q10
                                                                have q10 := Res.ok_inj q10
                                                                rw [← q10]
                                                                exact (ew_or1 ((ew_and (c_neS.et (ev_v (VS.var tb_l_is_sign 0 0) rfl rfl) ev_s) (fun hz => by
                                                                have q7 := Res.tt_ok h6 hz
                                                                obtain ⟨h2, q7⟩ := Res.need_ok q7
                                                                obtain ⟨ch3, h4, q7⟩ := Res.of_ok q7
                                                                have q7 := Res.ok_inj q7
                                                                rw [← q7]
                                                                exact (ew_and1 (c_eqS.et (ev_chS (ev_ixS (ev_v (VS.var tb_l_is_sign 0 0) rfl rfl) ev_i h2 h4)) ev_s))
                                                            ) (fun hz => (Res.ok_inj (Res.ff_ok h6 hz)).symm))).t)
                                                            ) (fun hz => (Res.ok_inj (Res.tt_ok h9 hz)).symm))
                                                            ) (fun hz => (Res.ok_inj (Res.tt_ok h12 hz)).symm))).t (fun z14 B15 H16 S17 e18 => ?_) (fun z14 B19 H20 S21 e22 => ?_)
  · replace F := Fin.tt F z14
    exact s_retE S17 (ev_bl).toE F
  · replace F := Fin.ff F z14
    refine WSs.nil ?_
    obtain ⟨h23, F⟩ := Fin.need F
    exact s_retE S21 (((c_eqP (R := (rLst rCh)) C.hu64).ev ((el_lc (S := rCh) C (VS.blk bk_l_is_sign_c1) (ei_str (ev_v (VS.var tb_l_is_sign 0 0) rfl rfl) h23) (fun _ _ => trivial) (fun Xb hX => tg_name (R := rCh) (hX.cok C) (hX.slot VS tb_l_is_sign_c1 1 0)) (mfM_fm (fun i24 : Nat => (!(decide (i24 ∈ ("0123456789" : Str).cps.toList)))) (fun i24 : Nat => i24) _)
                                                            (fun Xb i24 σ2 acc Dd Bc1 Hc1 b hX1 S1001 ec1 tg hb => by
                                                                obtain ⟨v1001, rv1, rfl⟩ := tg
                                                                have T1 : Blt Xb.mg := by rw [hX1.mg]; exact T
                                                                have TR1 : RulTxt Xb.K CR := by rw [hX1.K]; exact TR
                                                                have hb := Res.ok_inj hb
                                                                subst hb
                                                                exact ets_one (et_ninCh ((ee_v ((hX1.scp VS).var tb_l_is_sign_c1 1 0) rfl rv1)).toB ev_s)
                                                            )
                                                            (fun Xb i24 y σ2 acc Dd Bc1 Hc1 hX1 S1001 ec1 tg hb hf => by
                                                                obtain ⟨v1001, rv1, rfl⟩ := tg
                                                                have T1 : Blt Xb.mg := by rw [hX1.mg]; exact T
                                                                have TR1 : RulTxt Xb.K CR := by rw [hX1.K]; exact TR
                                                                have hf := Res.ok_inj hf
                                                                subst hf
                                                                exact (ee_v ((hX1.scp VS).var tb_l_is_sign_c1 1 0) rfl rv1)
                                                            ) (fun x B3 σ2 h => by obtain ⟨v, _, rfl⟩ := h; rfl) (fun x B3 B4 σ2 ⟨v, r, q⟩ e => ⟨v, Rel.mono _ e r, q⟩))).toB ((el_nil (R := rCh))).toB)).toE F
/-! l_sort -/
abbrev st_l_sort : Stmt := topS 31
abbrev N_l_sort : List Str := ["_law_words", "_law_at_here", "_law_some", "_law_word"]
theorem tb_l_sort : nmOk (defScope st_l_sort) [("_law_words", .local), ("_law_at_here", .local), ("_law_some", .local), ("len", .globalImplicit), ("_law_is_word", .globalImplicit)] = true := by decide +kernel
theorem sc_l_sort : FnScope N_l_sort ["_law_words"] (defScope st_l_sort) := ⟨rfl, rfl, rfl, by decide +kernel, rfl, by decide +kernel, by decide +kernel⟩
abbrev csc_l_sort_c1 : Scope := { kind := .function, names := [(".0", .local), ("_law_word", .local), ("_law_is_sign", .globalImplicit)], isGenerator := false, isCoroutine := false, more := [] }
theorem tb_l_sort_c1 : nmOk (relS csc_l_sort_c1 (defScope st_l_sort)) [("_law_word", .local), ("_law_is_sign", .globalImplicit)] = true := by decide +kernel
theorem bk_l_sort_c1 : blkC N_l_sort (defScope st_l_sort) csc_l_sort_c1 [("_law_word", 3)] = true := by decide +kernel
abbrev csc_l_sort_c2 : Scope := { kind := .function, names := [(".0", .local), ("_law_word", .local)], isGenerator := false, isCoroutine := false, more := [] }
theorem tb_l_sort_c2 : nmOk (relS csc_l_sort_c2 (defScope st_l_sort)) [("_law_word", .local)] = true := by decide +kernel
theorem bk_l_sort_c2 : blkC N_l_sort (defScope st_l_sort) csc_l_sort_c2 [("_law_word", 3)] = true := by decide +kernel
abbrev csc_l_sort_c3 : Scope := { kind := .function, names := [(".0", .local), ("_law_word", .local), ("_law_is_word", .globalImplicit)], isGenerator := false, isCoroutine := false, more := [] }
theorem tb_l_sort_c3 : nmOk (relS csc_l_sort_c3 (defScope st_l_sort)) [("_law_word", .local), ("_law_is_word", .globalImplicit)] = true := by decide +kernel
theorem bk_l_sort_c3 : blkC N_l_sort (defScope st_l_sort) csc_l_sort_c3 [("_law_word", 3)] = true := by decide +kernel
def m_l_sort (l_words : (List Str)) : Res Str := (Res.of (atI l_words 0)).bind fun x1 => (if (decide (x1 = ("kind" : Str))) = true then (if (decide (2 < ((l_words).length : Int))) = true then (Res.of (atI l_words 1)).bind fun x3 => (m_l_is_word x3).bind fun r5 => Res.ok r5 else Res.ok false).bind fun b7 => Res.ok b7 else Res.ok false).bind fun b10 => if b10 = true then (mfM (fun i18 : Str => (m_l_is_sign i18).bind fun r19 => Res.ok (!r19)) (fun i18 => Res.ok i18) (cut l_words (some 2) none)).bind fun l21 => if (decide (l21 = ([] : List Str))) = true then Res.ok ("kind" : Str) else (Res.of (atI l_words 0)).bind fun x32 => if ((decide (x32 ∈ [("keep" : Str), ("cut" : Str)])) && (decide (((((l_words.filter fun i34 => (decide (i34 = ("|" : Str)))).map fun i34 => i34)).length : Int) = 1))) = true then (Res.of (ixOf l_words ("|" : Str))).bind fun x40 => Res.need (((cut l_words (some 1) (some x40))).length + ((cut l_words (some (x40 + 1)) none)).length ≤ sizeLine) ((if (decide (x40 ≤ 4)) = true then (if (decide ((((l_words).length : Int) - x40) ≤ 4)) = true then (mfM (fun i53 : Str => (m_l_is_word i53).bind fun r54 => Res.ok (!r54)) (fun i53 => Res.ok i53) ((cut l_words (some 1) (some x40)) ++ (cut l_words (some (x40 + 1)) none))).bind fun l56 => Res.ok (decide (l56 = ([] : List Str))) else Res.ok false).bind fun b58 => Res.ok b58 else Res.ok false).bind fun b61 => if b61 = true then Res.ok ("side" : Str) else Res.ok ("none" : Str)) else Res.ok ("none" : Str) else (Res.of (atI l_words 0)).bind fun x81 => if ((decide (x81 ∈ [("keep" : Str), ("cut" : Str)])) && (decide (((((l_words.filter fun i83 => (decide (i83 = ("|" : Str)))).map fun i83 => i83)).length : Int) = 1))) = true then (Res.of (ixOf l_words ("|" : Str))).bind fun x89 => Res.need (((cut l_words (some 1) (some x89))).length + ((cut l_words (some (x89 + 1)) none)).length ≤ sizeLine) ((if (decide (x89 ≤ 4)) = true then (if (decide ((((l_words).length : Int) - x89) ≤ 4)) = true then (mfM (fun i102 : Str => (m_l_is_word i102).bind fun r103 => Res.ok (!r103)) (fun i102 => Res.ok i102) ((cut l_words (some 1) (some x89)) ++ (cut l_words (some (x89 + 1)) none))).bind fun l105 => Res.ok (decide (l105 = ([] : List Str))) else Res.ok false).bind fun b107 => Res.ok b107 else Res.ok false).bind fun b110 => if b110 = true then Res.ok ("side" : Str) else Res.ok ("none" : Str)) else Res.ok ("none" : Str)
abbrev args_l_sort (CT CR : Addr) : (List Str) → AR := fun d => (aC (rLst rStr) d aN)
abbrev sp_l_sort (CT CR : Addr) : Sp := SpA (args_l_sort CT CR) (kE rStr) (fun d => m_l_sort d)
theorem body_l_sort {X : Cx} {CT CR : Addr} (C : Cok X 1) (VS : Scp X N_l_sort (defScope st_l_sort)) (fn : ∀ x, X.fn x = true) (T : Blt X.mg) (TR : RulTxt X.K CR) (G_l_is_word : Cal X 1 "_law_is_word" ["_law_word"] (sp_l_is_word CT CR)) (G_l_is_sign : Cal X 1 "_law_is_sign" ["_law_word"] (sp_l_is_sign CT CR)) : ∀ (B H : Hp) (vs : List V) (d : (List Str)) (Q : VK), Sx B H → Tx H B → (args_l_sort CT CR d).r vs B H → Fin ((kE rStr) ⟨B, H⟩ Q) NoErr (m_l_sort d) →
    WSs X (defBody st_l_sort) { nx := fun _ H' => Q .non H', rt := Q } (start N_l_sort vs) H := by
  rintro B H vs l_words Q hb ht ⟨v1, _, rfl, r1_, rfl⟩ F
  have S0 := Stt.enter hb ht
  obtain ⟨x1, h2, F⟩ := Fin.of F
  obtain ⟨b10, h11, F⟩ := Fin.get F
  refine s_if S0 ((ew_and (c_eqS.et (ev_ixL (ev_v (VS.var tb_l_sort 0 0) rfl (Rel.mono _ S0.h0.ex r1_)) ev_i h2) ev_s) (fun hz => by
                                                                have q12 := Res.tt_ok h11 hz
                                                                obtain ⟨b7, h8, q12⟩ := Res.bind_ok q12
                                                                have q12 := Res.ok_inj q12
                                                                rw [← q12]
                                                                exact (ew_and (c_gt.et (ev_lenL (VS.gl tb_l_sort 3) T.len (ev_v (VS.var tb_l_sort 0 0) rfl (Rel.mono _ S0.h0.ex r1_))) ev_i) (fun hz => by
                                                                have q9 := Res.tt_ok h8 hz
                                                                obtain ⟨x3, h4, q9⟩ := Res.of_ok q9
                                                                obtain ⟨r5, h6, q9⟩ := Res.bind_ok q9
                                                                have q9 := Res.ok_inj q9
                                                                rw [← q9]
                                                                exact (ew_and1 (et_val ((ee_call C G_l_is_word (by decide) (VS.gl tb_l_sort 4) (d := (x3)) (as_cons (ev_ixL (ev_v (VS.var tb_l_sort 0 0) rfl (Rel.mono _ S0.h0.ex r1_)) ev_i h4) as_nil) h6)).toB))
                                                            ) (fun hz => (Res.ok_inj (Res.ff_ok h8 hz)).symm))
                                                            ) (fun hz => (Res.ok_inj (Res.ff_ok h11 hz)).symm))).t (fun z13 B14 H15 S16 e17 => ?_) (fun z13 B77 H78 S79 e80 => ?_)
  · replace F := Fin.tt F z13
    obtain ⟨l21, h22, F⟩ := Fin.get F
    refine s_if S16 ((c_eqP (R := (rLst rStr)) C.hu64).et ((el_lc (S := rStr) C (VS.blk bk_l_sort_c1) (ei_E ((el_cut (ev_v (VS.var tb_l_sort 0 0) rfl (Rel.mono _ S16.h0.ex r1_)) (ep_s ev_i) ep_n)).toE) (fun _ _ => trivial) (fun Xb hX => tg_name (R := rStr) (hX.cok C) (hX.slot VS tb_l_sort_c1 3 0)) h22
                                                            (fun Xb i18 σ2 acc Dd Bc1 Hc1 b hX1 S1001 ec1 tg hb => by
                                                                obtain ⟨v1001, rfl, rfl⟩ := tg
                                                                have T1 : Blt Xb.mg := by rw [hX1.mg]; exact T
                                                                have TR1 : RulTxt Xb.K CR := by rw [hX1.K]; exact TR
                                                                obtain ⟨r19, h20, hb⟩ := Res.bind_ok hb
                                                                have hb := Res.ok_inj hb
                                                                subst hb
                                                                exact ets_one (et_not (et_val ((ee_call (hX1.cok C) (hX1.cal G_l_is_sign) (by decide) ((hX1.scp VS).gl tb_l_sort_c1 1) (d := (i18)) (as_cons (ev_v ((hX1.scp VS).var tb_l_sort_c1 3 0) rfl rfl) as_nil) h20)).toB))
                                                            )
                                                            (fun Xb i18 y σ2 acc Dd Bc1 Hc1 hX1 S1001 ec1 tg hb hf => by
                                                                obtain ⟨v1001, rfl, rfl⟩ := tg
                                                                have T1 : Blt Xb.mg := by rw [hX1.mg]; exact T
                                                                have TR1 : RulTxt Xb.K CR := by rw [hX1.K]; exact TR
                                                                have hf := Res.ok_inj hf
                                                                subst hf
                                                                exact ((ev_v ((hX1.scp VS).var tb_l_sort_c1 3 0) rfl rfl)).toE
                                                            ) (fun x B3 σ2 h => by obtain ⟨v, _, rfl⟩ := h; rfl) (fun x B3 B4 σ2 ⟨v, r, q⟩ e => ⟨v, Rel.mono _ e r, q⟩))).toB ((el_nil (R := rStr))).toB) (fun z23 B24 H25 S26 e27 => ?_) (fun z23 B28 H29 S30 e31 => ?_)
    · replace F := Fin.tt F z23
      exact s_retE S26 (ev_s).toE F
    · replace F := Fin.ff F z23
      refine WSs.nil ?_
      refine WSs.nil ?_
      obtain ⟨x32, h33, F⟩ := Fin.of F
      refine s_if S30 ((ew_and' (et_in (ev_ixL (ev_v (VS.var tb_l_sort 0 0) rfl (Rel.mono _ S30.h0.ex r1_)) ev_i h33) ((el_lst (R := rStr) (ea_cons (ev_s).toE (ea_cons (ev_s).toE ea_nil)))).toB) fun _ => (ew_and1 (c_eqI.et (ev_lenL (VS.gl tb_l_sort 3) T.len ((el_lc (S := rStr) C (VS.blk bk_l_sort_c2) (ei_0 (VS.var tb_l_sort 0 0) rfl r1_) (fun _ _ => trivial) (fun Xb hX => tg_name (R := rStr) (hX.cok C) (hX.slot VS tb_l_sort_c2 3 0)) (mfM_fm (fun i34 : Str => (decide (i34 = ("|" : Str)))) (fun i34 : Str => i34) _)
                                                            (fun Xb i34 σ2 acc Dd Bc2 Hc2 b hX2 S1002 ec2 tg hb => by
                                                                obtain ⟨v1002, rfl, rfl⟩ := tg
                                                                have T2 : Blt Xb.mg := by rw [hX2.mg]; exact T
                                                                have TR2 : RulTxt Xb.K CR := by rw [hX2.K]; exact TR
                                                                have hb := Res.ok_inj hb
                                                                subst hb
                                                                exact ets_one (c_eqS.et (ev_v ((hX2.scp VS).var tb_l_sort_c2 3 0) rfl rfl) ev_s)
                                                            )
                                                            (fun Xb i34 y σ2 acc Dd Bc2 Hc2 hX2 S1002 ec2 tg hb hf => by
                                                                obtain ⟨v1002, rfl, rfl⟩ := tg
                                                                have T2 : Blt Xb.mg := by rw [hX2.mg]; exact T
                                                                have TR2 : RulTxt Xb.K CR := by rw [hX2.K]; exact TR
                                                                have hf := Res.ok_inj hf
                                                                subst hf
                                                                exact ((ev_v ((hX2.scp VS).var tb_l_sort_c2 3 0) rfl rfl)).toE
                                                            ) (fun x B3 σ2 h => by obtain ⟨v, _, rfl⟩ := h; rfl) (fun x B3 B4 σ2 ⟨v, r, q⟩ e => ⟨v, Rel.mono _ e r, q⟩))).toB) ev_i)))).t (fun z35 B36 H37 S38 e39 => ?_) (fun z35 B73 H74 S75 e76 => ?_)
      · replace F := Fin.tt F z35
        obtain ⟨x40, h41, F⟩ := Fin.of F
        refine s_asgI C (VS.slot tb_l_sort fn 1 1) S38 (ev_ixOfS (ev_v (VS.var tb_l_sort 0 0) rfl (Rel.mono _ S38.h0.ex r1_)) ev_s h41) (fun B42 H43 S44 e45 => ?_)
        obtain ⟨h46, F⟩ := Fin.need F
        refine s_asg C (VS.slot tb_l_sort fn 2 2) S44 ((el_cat ((el_cut (ev_v (VS.var tb_l_sort 0 0) rfl (Rel.mono _ S44.h0.ex r1_)) (ep_s ev_i) (ep_s (ev_v (VS.var tb_l_sort 1 1) rfl rfl)))).toB ((el_cut (ev_v (VS.var tb_l_sort 0 0) rfl (Rel.mono _ S44.h0.ex r1_)) (ep_s (ev_add (ev_v (VS.var tb_l_sort 1 1) rfl rfl) ev_i)) ep_n)).toB h46)).toE (fun v51 B47 H48 S49 e50 r52 => ?_)
        obtain ⟨b61, h62, F⟩ := Fin.get F
        refine s_if S49 ((ew_and (c_le.et (ev_v (VS.var tb_l_sort 1 1) rfl rfl) ev_i) (fun hz => by
                                                                have q63 := Res.tt_ok h62 hz
                                                                obtain ⟨b58, h59, q63⟩ := Res.bind_ok q63
                                                                have q63 := Res.ok_inj q63
                                                                rw [← q63]
                                                                exact (ew_and (c_le.et (ev_sub (ev_lenL (VS.gl tb_l_sort 3) T.len (ev_v (VS.var tb_l_sort 0 0) rfl (Rel.mono _ S49.h0.ex r1_))) (ev_v (VS.var tb_l_sort 1 1) rfl rfl)) ev_i) (fun hz => by
                                                                have q60 := Res.tt_ok h59 hz
                                                                obtain ⟨l56, h57, q60⟩ := Res.bind_ok q60
                                                                have q60 := Res.ok_inj q60
                                                                rw [← q60]
                                                                exact (ew_and1 ((c_eqP (R := (rLst rStr)) C.hu64).et ((el_lc (S := rStr) C (VS.blk bk_l_sort_c3) (ei_E (ee_v (VS.var tb_l_sort 2 2) rfl r52)) (fun _ _ => trivial) (fun Xb hX => tg_name (R := rStr) (hX.cok C) (hX.slot VS tb_l_sort_c3 3 0)) h57
                                                            (fun Xb i53 σ2 acc Dd Bc3 Hc3 b hX3 S1003 ec3 tg hb => by
                                                                obtain ⟨v1003, rfl, rfl⟩ := tg
                                                                have T3 : Blt Xb.mg := by rw [hX3.mg]; exact T
                                                                have TR3 : RulTxt Xb.K CR := by rw [hX3.K]; exact TR
                                                                obtain ⟨r54, h55, hb⟩ := Res.bind_ok hb
                                                                have hb := Res.ok_inj hb
                                                                subst hb
                                                                exact ets_one (et_not (et_val ((ee_call (hX3.cok C) (hX3.cal G_l_is_word) (by decide) ((hX3.scp VS).gl tb_l_sort_c3 1) (d := (i53)) (as_cons (ev_v ((hX3.scp VS).var tb_l_sort_c3 3 0) rfl rfl) as_nil) h55)).toB))
                                                            )
                                                            (fun Xb i53 y σ2 acc Dd Bc3 Hc3 hX3 S1003 ec3 tg hb hf => by
                                                                obtain ⟨v1003, rfl, rfl⟩ := tg
                                                                have T3 : Blt Xb.mg := by rw [hX3.mg]; exact T
                                                                have TR3 : RulTxt Xb.K CR := by rw [hX3.K]; exact TR
                                                                have hf := Res.ok_inj hf
                                                                subst hf
                                                                exact ((ev_v ((hX3.scp VS).var tb_l_sort_c3 3 0) rfl rfl)).toE
                                                            ) (fun x B3 σ2 h => by obtain ⟨v, _, rfl⟩ := h; rfl) (fun x B3 B4 σ2 ⟨v, r, q⟩ e => ⟨v, Rel.mono _ e r, q⟩))).toB ((el_nil (R := rStr))).toB))
                                                            ) (fun hz => (Res.ok_inj (Res.ff_ok h59 hz)).symm))
                                                            ) (fun hz => (Res.ok_inj (Res.ff_ok h62 hz)).symm))).t (fun z64 B65 H66 S67 e68 => ?_) (fun z64 B69 H70 S71 e72 => ?_)
        · replace F := Fin.tt F z64
          exact s_retE S67 (ev_s).toE F
        · replace F := Fin.ff F z64
          refine WSs.nil ?_
          refine WSs.nil ?_
          exact s_retE S71 (ev_s).toE F
      · replace F := Fin.ff F z35
        refine WSs.nil ?_
        exact s_retE S75 (ev_s).toE F
  · replace F := Fin.ff F z13
    refine WSs.nil ?_
    obtain ⟨x81, h82, F⟩ := Fin.of F
    refine s_if S79 ((ew_and' (et_in (ev_ixL (ev_v (VS.var tb_l_sort 0 0) rfl (Rel.mono _ S79.h0.ex r1_)) ev_i h82) ((el_lst (R := rStr) (ea_cons (ev_s).toE (ea_cons (ev_s).toE ea_nil)))).toB) fun _ => (ew_and1 (c_eqI.et (ev_lenL (VS.gl tb_l_sort 3) T.len ((el_lc (S := rStr) C (VS.blk bk_l_sort_c2) (ei_0 (VS.var tb_l_sort 0 0) rfl r1_) (fun _ _ => trivial) (fun Xb hX => tg_name (R := rStr) (hX.cok C) (hX.slot VS tb_l_sort_c2 3 0)) (mfM_fm (fun i83 : Str => (decide (i83 = ("|" : Str)))) (fun i83 : Str => i83) _)
                                                            (fun Xb i83 σ2 acc Dd Bc2 Hc2 b hX2 S1002 ec2 tg hb => by
                                                                obtain ⟨v1002, rfl, rfl⟩ := tg
                                                                have T2 : Blt Xb.mg := by rw [hX2.mg]; exact T
                                                                have TR2 : RulTxt Xb.K CR := by rw [hX2.K]; exact TR
                                                                have hb := Res.ok_inj hb
                                                                subst hb
                                                                exact ets_one (c_eqS.et (ev_v ((hX2.scp VS).var tb_l_sort_c2 3 0) rfl rfl) ev_s)
                                                            )
                                                            (fun Xb i83 y σ2 acc Dd Bc2 Hc2 hX2 S1002 ec2 tg hb hf => by
                                                                obtain ⟨v1002, rfl, rfl⟩ := tg
                                                                have T2 : Blt Xb.mg := by rw [hX2.mg]; exact T
                                                                have TR2 : RulTxt Xb.K CR := by rw [hX2.K]; exact TR
                                                                have hf := Res.ok_inj hf
                                                                subst hf
                                                                exact ((ev_v ((hX2.scp VS).var tb_l_sort_c2 3 0) rfl rfl)).toE
                                                            ) (fun x B3 σ2 h => by obtain ⟨v, _, rfl⟩ := h; rfl) (fun x B3 B4 σ2 ⟨v, r, q⟩ e => ⟨v, Rel.mono _ e r, q⟩))).toB) ev_i)))).t (fun z84 B85 H86 S87 e88 => ?_) (fun z84 B122 H123 S124 e125 => ?_)
    · replace F := Fin.tt F z84
      obtain ⟨x89, h90, F⟩ := Fin.of F
      refine s_asgI C (VS.slot tb_l_sort fn 1 1) S87 (ev_ixOfS (ev_v (VS.var tb_l_sort 0 0) rfl (Rel.mono _ S87.h0.ex r1_)) ev_s h90) (fun B91 H92 S93 e94 => ?_)
      obtain ⟨h95, F⟩ := Fin.need F
      refine s_asg C (VS.slot tb_l_sort fn 2 2) S93 ((el_cat ((el_cut (ev_v (VS.var tb_l_sort 0 0) rfl (Rel.mono _ S93.h0.ex r1_)) (ep_s ev_i) (ep_s (ev_v (VS.var tb_l_sort 1 1) rfl rfl)))).toB ((el_cut (ev_v (VS.var tb_l_sort 0 0) rfl (Rel.mono _ S93.h0.ex r1_)) (ep_s (ev_add (ev_v (VS.var tb_l_sort 1 1) rfl rfl) ev_i)) ep_n)).toB h95)).toE (fun v100 B96 H97 S98 e99 r101 => ?_)
      obtain ⟨b110, h111, F⟩ := Fin.get F
      refine s_if S98 ((ew_and (c_le.et (ev_v (VS.var tb_l_sort 1 1) rfl rfl) ev_i) (fun hz => by
                                                                have q112 := Res.tt_ok h111 hz
                                                                obtain ⟨b107, h108, q112⟩ := Res.bind_ok q112
                                                                have q112 := Res.ok_inj q112
                                                                rw [← q112]
                                                                exact (ew_and (c_le.et (ev_sub (ev_lenL (VS.gl tb_l_sort 3) T.len (ev_v (VS.var tb_l_sort 0 0) rfl (Rel.mono _ S98.h0.ex r1_))) (ev_v (VS.var tb_l_sort 1 1) rfl rfl)) ev_i) (fun hz => by
                                                                have q109 := Res.tt_ok h108 hz
                                                                obtain ⟨l105, h106, q109⟩ := Res.bind_ok q109
                                                                have q109 := Res.ok_inj q109
                                                                rw [← q109]
                                                                exact (ew_and1 ((c_eqP (R := (rLst rStr)) C.hu64).et ((el_lc (S := rStr) C (VS.blk bk_l_sort_c3) (ei_E (ee_v (VS.var tb_l_sort 2 2) rfl r101)) (fun _ _ => trivial) (fun Xb hX => tg_name (R := rStr) (hX.cok C) (hX.slot VS tb_l_sort_c3 3 0)) h106
                                                            (fun Xb i102 σ2 acc Dd Bc3 Hc3 b hX3 S1003 ec3 tg hb => by
                                                                obtain ⟨v1003, rfl, rfl⟩ := tg
                                                                have T3 : Blt Xb.mg := by rw [hX3.mg]; exact T
                                                                have TR3 : RulTxt Xb.K CR := by rw [hX3.K]; exact TR
                                                                obtain ⟨r103, h104, hb⟩ := Res.bind_ok hb
                                                                have hb := Res.ok_inj hb
                                                                subst hb
                                                                exact ets_one (et_not (et_val ((ee_call (hX3.cok C) (hX3.cal G_l_is_word) (by decide) ((hX3.scp VS).gl tb_l_sort_c3 1) (d := (i102)) (as_cons (ev_v ((hX3.scp VS).var tb_l_sort_c3 3 0) rfl rfl) as_nil) h104)).toB))
                                                            )
                                                            (fun Xb i102 y σ2 acc Dd Bc3 Hc3 hX3 S1003 ec3 tg hb hf => by
                                                                obtain ⟨v1003, rfl, rfl⟩ := tg
                                                                have T3 : Blt Xb.mg := by rw [hX3.mg]; exact T
                                                                have TR3 : RulTxt Xb.K CR := by rw [hX3.K]; exact TR
                                                                have hf := Res.ok_inj hf
                                                                subst hf
                                                                exact ((ev_v ((hX3.scp VS).var tb_l_sort_c3 3 0) rfl rfl)).toE
                                                            ) (fun x B3 σ2 h => by obtain ⟨v, _, rfl⟩ := h; rfl) (fun x B3 B4 σ2 ⟨v, r, q⟩ e => ⟨v, Rel.mono _ e r, q⟩))).toB ((el_nil (R := rStr))).toB))
                                                            ) (fun hz => (Res.ok_inj (Res.ff_ok h108 hz)).symm))
                                                            ) (fun hz => (Res.ok_inj (Res.ff_ok h111 hz)).symm))).t (fun z113 B114 H115 S116 e117 => ?_) (fun z113 B118 H119 S120 e121 => ?_)
      · replace F := Fin.tt F z113
        exact s_retE S116 (ev_s).toE F
      · replace F := Fin.ff F z113
        refine WSs.nil ?_
        refine WSs.nil ?_
        exact s_retE S120 (ev_s).toE F
    · replace F := Fin.ff F z84
      refine WSs.nil ?_
      exact s_retE S124 (ev_s).toE F
/-! l_due -/
abbrev st_l_due : Stmt := topS 33
abbrev N_l_due : List Str := ["_law_rows_here", "_law_known", "_law_heads", "_law_at_here", "_law_signs", "_law_twice", "_law_strange", "_law_word", "_law_sign"]
theorem tb_l_due : nmOk (defScope st_l_due) [("_law_rows_here", .local), ("_law_known", .cell), ("_law_heads", .cell), ("_law_at_here", .local), ("_law_signs", .cell), ("_law_twice", .local), ("_law_strange", .local), ("range", .globalImplicit), ("len", .globalImplicit), ("_law_sort", .globalImplicit)] = true := by decide +kernel
theorem sc_l_due : FnScope N_l_due ["_law_rows_here"] (defScope st_l_due) := ⟨rfl, rfl, rfl, by decide +kernel, rfl, by decide +kernel, by decide +kernel⟩
abbrev csc_l_due_c1 : Scope := { kind := .function, names := [(".0", .local), ("_law_sign", .local), ("_law_heads", .free), ("_law_signs", .free)], isGenerator := false, isCoroutine := false, more := [] }
theorem tb_l_due_c1 : nmOk (relS csc_l_due_c1 (defScope st_l_due)) [("_law_sign", .local), ("_law_heads", .cell), ("_law_signs", .cell)] = true := by decide +kernel
theorem bk_l_due_c1 : blkC N_l_due (defScope st_l_due) csc_l_due_c1 [("_law_sign", 8)] = true := by decide +kernel
abbrev csc_l_due_c2 : Scope := { kind := .function, names := [(".0", .local), ("_law_word", .local), ("_law_known", .free)], isGenerator := false, isCoroutine := false, more := [] }
theorem tb_l_due_c2 : nmOk (relS csc_l_due_c2 (defScope st_l_due)) [("_law_word", .local), ("_law_known", .cell)] = true := by decide +kernel
theorem bk_l_due_c2 : blkC N_l_due (defScope st_l_due) csc_l_due_c2 [("_law_word", 7)] = true := by decide +kernel
def m_l_due (l_rows_here : (List (List Str))) : Res (List (Int ⊕ Str)) := Res.need ((-8000000 : Int) ≤ ((l_rows_here).length : Int) ∧ (((l_rows_here).length : Int) : Int) ≤ 8000000) ((forR (fun (a31 : Unit) (x32 : Int) => ((Res.of (atI l_rows_here x32)).bind fun x48 => (m_l_sort x48).bind fun r50 => if (decide (r50 = ("none" : Str))) = true then Res.ok (Sum.inl [(Sum.inl 0 : Int ⊕ Str), (Sum.inl (x32 + 1) : Int ⊕ Str)]) else Res.ok (Sum.inr ()) : Res ((List (Int ⊕ Str)) ⊕ Unit))) (rangeI 0 ((l_rows_here).length : Int)) ()).bind (sel (fun r => Res.ok r) (fun (a44 : Unit) => Res.need ((-8000000 : Int) ≤ ((l_rows_here).length : Int) ∧ (((l_rows_here).length : Int) : Int) ≤ 8000000) ((forR (fun (a129 : ((List Str) × (List Str))) (x130 : Int) => ((Res.of (atI l_rows_here x130)).bind fun x150 => (Res.of (atI x150 0)).bind fun x152 => if (decide (x152 = ("kind" : Str))) = true then (Res.of (atI l_rows_here x130)).bind fun x159 => (Res.of (atI l_rows_here x130)).bind fun x179 => (Res.of (atI x179 1)).bind fun x181 => if ((decide (x181 ∈ a129.1)) || (!decide ((((cut x159 (some 2) none).filter fun i167 => ((decide (i167 ∈ a129.2)) || (decide (1 < (((cut x159 (some 2) none).count i167 : Nat) : Int))))).map fun i167 => i167) = ([] : List Str)))) = true then Res.ok (Sum.inl [(Sum.inl 1 : Int ⊕ Str), (Sum.inl (x130 + 1) : Int ⊕ Str)]) else (Res.of (atI l_rows_here x130)).bind fun x192 => (Res.of (atI x192 1)).bind fun x194 => Res.need (a129.1.length < sizeLine) (Res.need ((a129.2).length + ((cut x159 (some 2) none)).length ≤ sizeLine) (Res.ok (Sum.inr ((a129.1 ++ [x194]), (a129.2 ++ (cut x159 (some 2) none)))))) else Res.ok (Sum.inr (a129.1, a129.2)) : Res ((List (Int ⊕ Str)) ⊕ ((List Str) × (List Str))))) (rangeI 0 ((l_rows_here).length : Int)) ([("any" : Str), ("edge" : Str), ("other" : Str)], ([] : List Str))).bind (sel (fun r => Res.ok r) (fun (a142 : ((List Str) × (List Str))) => Res.need ((-8000000 : Int) ≤ ((l_rows_here).length : Int) ∧ (((l_rows_here).length : Int) : Int) ≤ 8000000) ((forR (fun (a245 : Unit) (x246 : Int) => ((Res.of (atI l_rows_here x246)).bind fun x262 => (Res.of (atI l_rows_here x246)).bind fun x276 => (Res.of (atI x276 0)).bind fun x278 => if ((!decide (x278 = ("kind" : Str))) && (!decide ((((cut x262 (some 1) none).filter fun i264 => ((!decide (i264 = ("|" : Str))) && (!(decide (i264 ∈ a142.1))))).map fun i264 => i264) = ([] : List Str)))) = true then Res.ok (Sum.inl [(Sum.inl 2 : Int ⊕ Str), (Sum.inl (x246 + 1) : Int ⊕ Str)]) else Res.ok (Sum.inr ()) : Res ((List (Int ⊕ Str)) ⊕ Unit))) (rangeI 0 ((l_rows_here).length : Int)) ()).bind (sel (fun r => Res.ok r) (fun (a258 : Unit) => Res.ok ([] : (List (Int ⊕ Str))))))))))))
abbrev args_l_due (CT CR : Addr) : (List (List Str)) → AR := fun d => (aC (rLst (rLst rStr)) d aN)
abbrev sp_l_due (CT CR : Addr) : Sp := SpA (args_l_due CT CR) (kE (rTup rIS)) (fun d => m_l_due d)
theorem body_l_due {X : Cx} {CT CR : Addr} (C : Cok X 2) (VS : Scp X N_l_due (defScope st_l_due)) (fn : ∀ x, X.fn x = true) (T : Blt X.mg) (TR : RulTxt X.K CR) (G_l_sort : Cal X 2 "_law_sort" ["_law_words"] (sp_l_sort CT CR)) : ∀ (B H : Hp) (vs : List V) (d : (List (List Str))) (Q : VK), Sx B H → Tx H B → (args_l_due CT CR d).r vs B H → Fin ((kE (rTup rIS)) ⟨B, H⟩ Q) NoErr (m_l_due d) →
    WSs X (defBody st_l_due) { nx := fun _ H' => Q .non H', rt := Q } (start N_l_due vs) H := by
  rintro B H vs l_rows_here Q hb ht ⟨v1, _, rfl, r1_, rfl⟩ F
  have S0 := Stt.enter hb ht
  refine s_asgL C (VS.slot tb_l_due fn 1 1) S0 (el_lst (R := rStr) (ea_cons (ev_s).toE (ea_cons (ev_s).toE (ea_cons (ev_s).toE ea_nil)))) (fun p5 u6 B1 H2 S3 e4 r7 => ?_)
  refine s_asg C (VS.slot tb_l_due fn 2 2) S3 ((el_nil (R := rStr))).toE (fun v12 B8 H9 S10 e11 r13 => ?_)
  obtain ⟨h14, F⟩ := Fin.need F
  refine s_forR C (tg_name (R := rInt) C (VS.slot tb_l_due fn 3 3)) S10 (ei_r1 (VS.gl tb_l_due 7) T.range (ev_lenL (VS.gl tb_l_due 8) T.len (ev_v (VS.var tb_l_due 0 0) rfl (Rel.mono _ S10.h0.ex r1_))) h14) F (fun (a : Unit) σ' own' B' => ∃ (j30_3 : Option V), σ' = [some v1, some (.ref p5), some v12, j30_3, none, none, none, none, none] ∧ own' = [(p5, .lst u6)])
      (fun Bz e => ⟨_, rfl, rfl⟩) (fun _ _ _ _ _ => trivial) (fun _ _ _ _ _ h e => by obtain ⟨w0, h1, h2⟩ := h; exact ⟨w0, h1, h2⟩) (fun a31 x32 _ _ _ B33 H34 Q38 iv37 S35 e36 tg F => ?_) (fun a44 _ _ B39 H40 iv43 S41 e42 F => ?_)
  · obtain ⟨j30_3i, rfl, rfl⟩ := iv37
    obtain ⟨v46, rfl, rfl⟩ := tg
    obtain ⟨x48, h49, F⟩ := Fin.of F
    obtain ⟨r50, h51, F⟩ := Fin.get F
    refine s_if S35 (c_eqS.et ((ee_call C G_l_sort (by decide) (VS.gl tb_l_due 9) (d := (x48)) (as_cons (ev_ixL (ev_v (VS.var tb_l_due 0 0) rfl (Rel.mono _ S35.h0.ex r1_)) (ev_v (VS.var tb_l_due 3 3) rfl rfl) h49) as_nil) h51)).toB ev_s) (fun z52 B53 H54 S55 e56 => ?_) (fun z52 B57 H58 S59 e60 => ?_)
    · replace F := Fin.tt F z52
      exact s_retE S55 (ee_tup (R := rIS) (ea_cons ((ev_isL ev_i)).toE (ea_cons ((ev_isL (ev_add (ev_v (VS.var tb_l_due 3 3) rfl rfl) ev_i))).toE ea_nil))) F
    · replace F := Fin.ff F z52
      refine WSs.nil ?_
      exact WSs.nil ⟨(), _, _, F, S59, e60, ⟨_, rfl, rfl⟩⟩
  · obtain ⟨j30_3, rfl, rfl⟩ := iv43
    obtain ⟨h61, F⟩ := Fin.need F
    refine s_forR C (tg_name (R := rInt) C (VS.slot tb_l_due fn 3 3)) S41 (ei_r1 (VS.gl tb_l_due 7) T.range (ev_lenL (VS.gl tb_l_due 8) T.len (ev_v (VS.var tb_l_due 0 0) rfl (Rel.mono _ S41.h0.ex r1_))) h61) F (fun (a : ((List Str) × (List Str))) σ' own' B' => ∃ (w128_1 : List V), ∃ (w128_2 : V), ∃ (j128_4 : Option V), ∃ (j128_5 : Option V), ∃ (j128_3 : Option V), σ' = [some v1, some (.ref p5), some w128_2, j128_3, j128_4, j128_5, none, none, none] ∧ own' = [(p5, .lst w128_1)] ∧ Paired (rStr.r B') w128_1 a.1 ∧ (rLst rStr).r B' w128_2 a.2)
        (fun Bz e => ⟨u6, _, _, _, _, rfl, rfl, (pimp r7 fun _ _ z => Rel.mono _ ((e11.trans e42).trans e) z), (Rel.mono _ (e42.trans e) r13)⟩) (fun _ _ _ _ _ => trivial) (fun _ _ _ _ _ h e => by obtain ⟨w0, w1, w2, w3, w4, h1, h2, f0, f1⟩ := h; exact ⟨w0, w1, w2, w3, w4, h1, h2, pimp f0 fun _ _ z => Rel.mono _ e z, Rel.mono _ e f1⟩) (fun a129 x130 _ _ _ B131 H132 Q136 iv135 S133 e134 tg F => ?_) (fun a142 _ _ B137 H138 iv141 S139 e140 F => ?_)
    · obtain ⟨w128_1i, w128_2i, j128_4i, j128_5i, j128_3i, rfl, rfl, r143, r144⟩ := iv135
      obtain ⟨v146, rfl, rfl⟩ := tg
      obtain ⟨x150, h151, F⟩ := Fin.of F
      obtain ⟨x152, h153, F⟩ := Fin.of F
      refine s_if S133 (c_eqS.et (ev_ixL (ev_ixL (ev_v (VS.var tb_l_due 0 0) rfl (Rel.mono _ S133.h0.ex r1_)) (ev_v (VS.var tb_l_due 3 3) rfl rfl) h151) ev_i h153) ev_s) (fun z154 B155 H156 S157 e158 => ?_) (fun z154 B210 H211 S212 e213 => ?_)
      · replace F := Fin.tt F z154
        obtain ⟨x159, h160, F⟩ := Fin.of F
        refine s_asg C (VS.slot tb_l_due fn 4 4) S157 ((el_cut (ev_ixL (ev_v (VS.var tb_l_due 0 0) rfl (Rel.mono _ S157.h0.ex r1_)) (ev_v (VS.var tb_l_due 3 3) rfl rfl) h160) (ep_s ev_i) ep_n)).toE (fun v165 B161 H162 S163 e164 r166 => ?_)
        refine s_asgLc (S := rStr) C (i := 5) (n := "_law_twice") (by rw [VS.n]; rfl) (VS.lk tb_l_due 5) (sw_loc VS sc_l_due.kind (VS.lk tb_l_due 5)) S163 (VS.blk bk_l_due_c1) (ei_E (ee_v (VS.var tb_l_due 4 4) rfl r166)) (fun _ _ => trivial) (fun Xb hX => tg_name (R := rStr) (hX.cok C) (hX.slot VS tb_l_due_c1 8 0)) (mfM_fm (fun i167 : Str => ((decide (i167 ∈ a129.2)) || (decide (1 < (((cut x159 (some 2) none).count i167 : Nat) : Int))))) (fun i167 : Str => i167) _)
                                                            (fun Xb i167 σ2 acc Dd Bc1 Hc1 b hX1 S1001 ec1 tg hb => by
                                                                obtain ⟨v1001, rfl, rfl⟩ := tg
                                                                have T1 : Blt Xb.mg := by rw [hX1.mg]; exact T
                                                                have TR1 : RulTxt Xb.K CR := by rw [hX1.K]; exact TR
                                                                have hb := Res.ok_inj hb
                                                                subst hb
                                                                exact ets_one ((ew_or' (et_in (ev_v ((hX1.scp VS).var tb_l_due_c1 8 0) rfl rfl) ((ee_v ((hX1.scp VS).var tb_l_due_c1 2 1) rfl (Rel.mono _ ((e158.trans e164).trans ec1) r144))).toB) fun _ => (ew_or1 (c_gt.et (ev_cntS ((ee_v ((hX1.scp VS).var tb_l_due_c1 4 2) rfl (Rel.mono _ ec1 r166))).toB (ev_v ((hX1.scp VS).var tb_l_due_c1 8 0) rfl rfl)) ev_i)))).t
                                                            )
                                                            (fun Xb i167 y σ2 acc Dd Bc1 Hc1 hX1 S1001 ec1 tg hb hf => by
                                                                obtain ⟨v1001, rfl, rfl⟩ := tg
                                                                have T1 : Blt Xb.mg := by rw [hX1.mg]; exact T
                                                                have TR1 : RulTxt Xb.K CR := by rw [hX1.K]; exact TR
                                                                have hf := Res.ok_inj hf
                                                                subst hf
                                                                exact ((ev_v ((hX1.scp VS).var tb_l_due_c1 8 0) rfl rfl)).toE
                                                            ) (fun x B3 σ2 h => by obtain ⟨v, _, rfl⟩ := h; rfl) (fun x B3 B4 σ2 ⟨v, r, q⟩ e => ⟨v, Rel.mono _ e r, q⟩) (fun p168 u169 B170 H171 S172 e173 r174 => ?_)
        obtain ⟨Bk175, S176, e177, r178⟩ := rl_keep (R := rStr) S172 (k := 0) rfl r174
        obtain ⟨x179, h180, F⟩ := Fin.of F
        obtain ⟨x181, h182, F⟩ := Fin.of F
        refine s_if S176 ((ew_or' (et_in (ev_ixL (ev_ixL (ev_v (VS.var tb_l_due 0 0) rfl (Rel.mono _ S176.h0.ex r1_)) (ev_v (VS.var tb_l_due 3 3) rfl rfl) h180) ev_i h182) (ev_own (VS.var tb_l_due 1 1) rfl (List.mem_of_getElem? (i := 0) rfl) (pimp r143 fun _ _ z => Rel.mono _ (((e158.trans e164).trans e173).trans e177) z))) fun _ => (ew_or1 ((c_neP (R := (rLst rStr)) C.hu64).et ((ee_v (VS.var tb_l_due 5 5) rfl r178)).toB ((el_nil (R := rStr))).toB)))).t (fun z183 B184 H185 S186 e187 => ?_) (fun z183 B188 H189 S190 e191 => ?_)
        · replace F := Fin.tt F z183
          exact s_retE S186 (ee_tup (R := rIS) (ea_cons ((ev_isL ev_i)).toE (ea_cons ((ev_isL (ev_add (ev_v (VS.var tb_l_due 3 3) rfl rfl) ev_i))).toE ea_nil))) F
        · replace F := Fin.ff F z183
          refine WSs.nil ?_
          obtain ⟨x192, h193, F⟩ := Fin.of F
          obtain ⟨x194, h195, F⟩ := Fin.of F
          obtain ⟨h196, F⟩ := Fin.need F
          refine s_append S190 (VS.var tb_l_due 1 1) rfl (k := 0) rfl (pimp r143 fun _ _ z => Rel.mono _ ((((e158.trans e164).trans e173).trans e177).trans e191) z) ((ev_ixL (ev_ixL (ev_v (VS.var tb_l_due 0 0) rfl (Rel.mono _ S190.h0.ex r1_)) (ev_v (VS.var tb_l_due 3 3) rfl rfl) h193) ev_i h195)).toE h196 (fun v197 B198 H199 S200 e201 r202 => ?_)
          obtain ⟨h203, F⟩ := Fin.need F
          refine s_asg C (VS.slot tb_l_due fn 2 2) S200 ((el_cat ((ee_v (VS.var tb_l_due 2 2) rfl (Rel.mono _ (((((e158.trans e164).trans e173).trans e177).trans e191).trans e201) r144))).toB ((ee_v (VS.var tb_l_due 4 4) rfl (Rel.mono _ (((e173.trans e177).trans e191).trans e201) r166))).toB h203)).toE (fun v208 B204 H205 S206 e207 r209 => ?_)
          refine WSs.nil ?_
          exact WSs.nil ⟨((a129.1 ++ [x194]), (a129.2 ++ (cut x159 (some 2) none))), _, _, F, S206, ((((((e158.trans e164).trans e173).trans e177).trans e191).trans e201).trans e207), ⟨(w128_1i ++ [v197]), _, _, _, _, rfl, rfl, (pimp r202 fun _ _ z => Rel.mono _ e207 z), r209⟩⟩
      · replace F := Fin.ff F z154
        refine WSs.nil ?_
        exact WSs.nil ⟨(a129.1, a129.2), _, _, F, S212, e213, ⟨w128_1i, _, _, _, _, rfl, rfl, (pimp r143 fun _ _ z => Rel.mono _ e213 z), (Rel.mono _ e213 r144)⟩⟩
    · obtain ⟨w128_1, w128_2, j128_4, j128_5, j128_3, rfl, rfl, r148, r149⟩ := iv141
      obtain ⟨h214, F⟩ := Fin.need F
      refine s_forR C (tg_name (R := rInt) C (VS.slot tb_l_due fn 3 3)) S139 (ei_r1 (VS.gl tb_l_due 7) T.range (ev_lenL (VS.gl tb_l_due 8) T.len (ev_v (VS.var tb_l_due 0 0) rfl (Rel.mono _ S139.h0.ex r1_))) h214) F (fun (a : Unit) σ' own' B' => ∃ (j244_6 : Option V), ∃ (j244_3 : Option V), σ' = [some v1, some (.ref p5), some w128_2, j244_3, j128_4, j128_5, j244_6, none, none] ∧ own' = [(p5, .lst w128_1)])
          (fun Bz e => ⟨_, _, rfl, rfl⟩) (fun _ _ _ _ _ => trivial) (fun _ _ _ _ _ h e => by obtain ⟨w0, w1, h1, h2⟩ := h; exact ⟨w0, w1, h1, h2⟩) (fun a245 x246 _ _ _ B247 H248 Q252 iv251 S249 e250 tg F => ?_) (fun a258 _ _ B253 H254 iv257 S255 e256 F => ?_)
      · obtain ⟨j244_6i, j244_3i, rfl, rfl⟩ := iv251
        obtain ⟨v260, rfl, rfl⟩ := tg
        obtain ⟨x262, h263, F⟩ := Fin.of F
        refine s_asgLc (S := rStr) C (i := 6) (n := "_law_strange") (by rw [VS.n]; rfl) (VS.lk tb_l_due 6) (sw_loc VS sc_l_due.kind (VS.lk tb_l_due 6)) S249 (VS.blk bk_l_due_c2) (ei_E ((el_cut (ev_ixL (ev_v (VS.var tb_l_due 0 0) rfl (Rel.mono _ S249.h0.ex r1_)) (ev_v (VS.var tb_l_due 3 3) rfl rfl) h263) (ep_s ev_i) ep_n)).toE) (fun _ _ => trivial) (fun Xb hX => tg_name (R := rStr) (hX.cok C) (hX.slot VS tb_l_due_c2 7 0)) (mfM_fm (fun i264 : Str => ((!decide (i264 = ("|" : Str))) && (!(decide (i264 ∈ a142.1))))) (fun i264 : Str => i264) _)
                                                            (fun Xb i264 σ2 acc Dd Bc2 Hc2 b hX2 S1002 ec2 tg hb => by
                                                                obtain ⟨v1002, rfl, rfl⟩ := tg
                                                                have T2 : Blt Xb.mg := by rw [hX2.mg]; exact T
                                                                have TR2 : RulTxt Xb.K CR := by rw [hX2.K]; exact TR
                                                                have hb := Res.ok_inj hb
                                                                subst hb
                                                                exact ets_one ((ew_and' (c_neS.et (ev_v ((hX2.scp VS).var tb_l_due_c2 7 0) rfl rfl) ev_s) fun _ => (ew_and1 (et_nin (ev_v ((hX2.scp VS).var tb_l_due_c2 7 0) rfl rfl) (ev_own ((hX2.scp VS).var tb_l_due_c2 1 1) rfl (List.mem_of_getElem? (i := 1) rfl) (pimp r148 fun _ _ z => Rel.mono _ (e250.trans ec2) z)))))).t
                                                            )
                                                            (fun Xb i264 y σ2 acc Dd Bc2 Hc2 hX2 S1002 ec2 tg hb hf => by
                                                                obtain ⟨v1002, rfl, rfl⟩ := tg
                                                                have T2 : Blt Xb.mg := by rw [hX2.mg]; exact T
                                                                have TR2 : RulTxt Xb.K CR := by rw [hX2.K]; exact TR
                                                                have hf := Res.ok_inj hf
                                                                subst hf
                                                                exact ((ev_v ((hX2.scp VS).var tb_l_due_c2 7 0) rfl rfl)).toE
                                                            ) (fun x B3 σ2 h => by obtain ⟨v, _, rfl⟩ := h; rfl) (fun x B3 B4 σ2 ⟨v, r, q⟩ e => ⟨v, Rel.mono _ e r, q⟩) (fun p265 u266 B267 H268 S269 e270 r271 => ?_)
        obtain ⟨Bk272, S273, e274, r275⟩ := rl_keep (R := rStr) S269 (k := 0) rfl r271
        obtain ⟨x276, h277, F⟩ := Fin.of F
        obtain ⟨x278, h279, F⟩ := Fin.of F
        refine s_if S273 ((ew_and' (c_neS.et (ev_ixL (ev_ixL (ev_v (VS.var tb_l_due 0 0) rfl (Rel.mono _ S273.h0.ex r1_)) (ev_v (VS.var tb_l_due 3 3) rfl rfl) h277) ev_i h279) ev_s) fun _ => (ew_and1 ((c_neP (R := (rLst rStr)) C.hu64).et ((ee_v (VS.var tb_l_due 6 6) rfl r275)).toB ((el_nil (R := rStr))).toB)))).t (fun z280 B281 H282 S283 e284 => ?_) (fun z280 B285 H286 S287 e288 => ?_)
        · replace F := Fin.tt F z280
          exact s_retE S283 (ee_tup (R := rIS) (ea_cons ((ev_isL ev_i)).toE (ea_cons ((ev_isL (ev_add (ev_v (VS.var tb_l_due 3 3) rfl rfl) ev_i))).toE ea_nil))) F
        · replace F := Fin.ff F z280
          refine WSs.nil ?_
          exact WSs.nil ⟨(), _, _, F, S287, ((e270.trans e274).trans e288), ⟨_, _, rfl, rfl⟩⟩
      · obtain ⟨j244_6, j244_3, rfl, rfl⟩ := iv257
        exact s_retE S255 (ee_tup (R := rIS) ea_nil) F
/-! rows_of -/
abbrev st_rows_of : Stmt := topS 19
abbrev N_rows_of : List Str := ["writing", "rows"]
theorem tb_rows_of : nmOk (defScope st_rows_of) [("writing", .local), ("rows", .local)] = true := by decide +kernel
theorem sc_rows_of : FnScope N_rows_of ["writing"] (defScope st_rows_of) := ⟨rfl, rfl, rfl, by decide +kernel, rfl, by decide +kernel, by decide +kernel⟩
def m_rows_of (writing : Str) : Res (List Str) := Res.need (writing.length + 2 ≤ sizeLine) ((Res.of (atI (Txt.split writing ("\n" : Str)) (-1))).bind fun x9 => (if (decide (x9 = ("" : Str))) = true then (Res.of ((Txt.split writing ("\n" : Str)).getLast?)).bind fun x22 => Res.ok ((Txt.split writing ("\n" : Str)).dropLast) else Res.ok (Txt.split writing ("\n" : Str))).bind fun (a33 : (List Str)) => Res.ok a33)
abbrev args_rows_of (CT CR : Addr) : Str → AR := fun d => (aC rStr d aN)
abbrev sp_rows_of (CT CR : Addr) : Sp := SpA (args_rows_of CT CR) (kL rStr) (fun d => m_rows_of d)
theorem body_rows_of {X : Cx} {CT CR : Addr} (C : Cok X 0) (VS : Scp X N_rows_of (defScope st_rows_of)) (fn : ∀ x, X.fn x = true) (T : Blt X.mg) (TR : RulTxt X.K CR)  : ∀ (B H : Hp) (vs : List V) (d : Str) (Q : VK), Sx B H → Tx H B → (args_rows_of CT CR d).r vs B H → Fin ((kL rStr) ⟨B, H⟩ Q) NoErr (m_rows_of d) →
    WSs X (defBody st_rows_of) { nx := fun _ H' => Q .non H', rt := Q } (start N_rows_of vs) H := by
  rintro B H vs writing Q hb ht ⟨_, _, rfl, rfl, rfl⟩ F
  have S0 := Stt.enter hb ht
  obtain ⟨h1, F⟩ := Fin.need F
  refine s_asgL C (VS.slot tb_rows_of fn 1 1) S0 (el_split (ev_v (VS.var tb_rows_of 0 0) rfl rfl) ev_s (by decide) h1) (fun p6 u7 B2 H3 S4 e5 r8 => ?_)
  obtain ⟨x9, h10, F⟩ := Fin.of F
  refine s_ifJ S4 (c_eqS.et (ev_ixL (ev_own (VS.var tb_rows_of 1 1) rfl (List.mem_of_getElem? (i := 0) rfl) r8) (ev_neg ev_i) h10) ev_s) F (fun (a : (List Str)) σ' own' B' => ∃ (w11_1 : List V), σ' = [some (.str writing), some (.ref p6)] ∧ own' = [(p6, .lst w11_1)] ∧ Paired (rStr.r B') w11_1 a) (fun z32 B17 H18 S19 e20 Q21 F => ?_) (fun z32 B27 H28 S29 e30 Q31 F => ?_) (fun a33 _ _ B34 H35 iv38 S36 e37 F => ?_)
  · skip
    obtain ⟨x22, h23, F⟩ := Fin.of F
    refine s_popX S19 (VS.var tb_rows_of 1 1) rfl (k := 0) rfl (pimp r8 fun _ _ z => Rel.mono _ e20 z) h23 (fun H24 S25 r26 => ?_)
    exact WSs.nil ⟨(Txt.split writing ("\n" : Str)).dropLast, _, _, F, S25, (Ex.refl _), ⟨u7.dropLast, rfl, rfl, r26⟩⟩
  · skip
    exact WSs.nil ⟨(Txt.split writing ("\n" : Str)), _, _, F, S29, (Ex.refl _), ⟨u7, rfl, rfl, (pimp r8 fun _ _ z => Rel.mono _ e30 z)⟩⟩
  · skip
    obtain ⟨w11_1, rfl, rfl, r39⟩ := iv38
    exact s_retO S36 (VS.var tb_rows_of 1 1) rfl (k := 0) rfl r39 F
/-! is_word -/
abbrev st_is_word : Stmt := topS 15
abbrev N_is_word : List Str := ["word", "sign"]
theorem tb_is_word : nmOk (defScope st_is_word) [("word", .local), ("len", .globalImplicit), ("all", .globalImplicit)] = true := by decide +kernel
theorem sc_is_word : FnScope N_is_word ["word"] (defScope st_is_word) := ⟨rfl, rfl, rfl, by decide +kernel, rfl, by decide +kernel, by decide +kernel⟩
abbrev csc_is_word_c1 : Scope := { kind := .function, names := [(".0", .local), ("sign", .local), ("LETTERS", .globalImplicit)], isGenerator := false, isCoroutine := false, more := [] }
theorem tb_is_word_c1 : nmOk (relS csc_is_word_c1 (defScope st_is_word)) [("sign", .local), ("LETTERS", .globalImplicit)] = true := by decide +kernel
theorem bk_is_word_c1 : blkC N_is_word (defScope st_is_word) csc_is_word_c1 [("sign", 1)] = true := by decide +kernel
def m_is_word (word : Str) : Res Bool := Res.need ((word).length ≤ sizeLine) ((if (decide (1 ≤ ((word).length : Int)) && decide (((word).length : Int) ≤ 8)) = true then Res.need (word.cps.toList.length ≤ sizeLine) (Res.ok (((word.cps.toList.map fun i3 => (decide (i3 ∈ ("abcdefghijklmnopqrstuvwxyz" : Str).cps.toList)))).all id)) else Res.ok false).bind fun b4 => Res.ok b4)
abbrev args_is_word (CT CR : Addr) : Str → AR := fun d => (aC rStr d aN)
abbrev sp_is_word (CT CR : Addr) : Sp := SpA (args_is_word CT CR) (kE rBool) (fun d => m_is_word d)
theorem body_is_word {X : Cx} {CT CR : Addr} (C : Cok X 0) (VS : Scp X N_is_word (defScope st_is_word)) (fn : ∀ x, X.fn x = true) (T : Blt X.mg) (TR : RulTxt X.K CR) (V_LETTERS : ∃ t, X.mg "LETTERS" = some (.str ("abcdefghijklmnopqrstuvwxyz" : Str) t)) : ∀ (B H : Hp) (vs : List V) (d : Str) (Q : VK), Sx B H → Tx H B → (args_is_word CT CR d).r vs B H → Fin ((kE rBool) ⟨B, H⟩ Q) NoErr (m_is_word d) →
    WSs X (defBody st_is_word) { nx := fun _ H' => Q .non H', rt := Q } (start N_is_word vs) H := by
  rintro B H vs word Q hb ht ⟨_, _, rfl, rfl, rfl⟩ F
  have S0 := Stt.enter hb ht
  obtain ⟨h1, F⟩ := Fin.need F
  obtain ⟨b4, h5, F⟩ := Fin.get F
  exact s_retE S0 ((ev_and (ev_chR (w0 := (decide (1 ≤ ((word).length : Int)) && decide (((word).length : Int) ≤ 8))) c_le c_le ev_i (ev_lenS (VS.gl tb_is_word 1) T.len (ev_v (VS.var tb_is_word 0 0) rfl rfl) h1) (fun hz => ⟨_, ev_i, by rw [hz]; rfl⟩) (fun hz => by rw [hz]; rfl)) (fun hz => by
                                                                have q6 := Res.tt_ok h5 hz
                                                                obtain ⟨h2, q6⟩ := Res.need_ok q6
                                                                have q6 := Res.ok_inj q6
                                                                rw [← q6]
                                                                exact (ev_one (ev_all C.calm (VS.gl tb_is_word 2) T.all ((el_lc (S := rBool) C (VS.blk bk_is_word_c1) (ei_str (ev_v (VS.var tb_is_word 0 0) rfl rfl) h2) (fun _ _ => trivial) (fun Xb hX => tg_name (R := rCh) (hX.cok C) (hX.slot VS tb_is_word_c1 1 0)) (mfM_map (fun i3 : Nat => (decide (i3 ∈ ("abcdefghijklmnopqrstuvwxyz" : Str).cps.toList))) _)
                                                            (fun Xb i3 σ2 acc Dd Bc1 Hc1 b hX1 S1001 ec1 tg hb => by
                                                                obtain ⟨v1001, rv1, rfl⟩ := tg
                                                                have T1 : Blt Xb.mg := by rw [hX1.mg]; exact T
                                                                have TR1 : RulTxt Xb.K CR := by rw [hX1.K]; exact TR
                                                                have hb := Res.ok_inj hb
                                                                subst hb
                                                                exact ets_nil
                                                            )
                                                            (fun Xb i3 y σ2 acc Dd Bc1 Hc1 hX1 S1001 ec1 tg hb hf => by
                                                                obtain ⟨v1001, rv1, rfl⟩ := tg
                                                                have T1 : Blt Xb.mg := by rw [hX1.mg]; exact T
                                                                have TR1 : RulTxt Xb.K CR := by rw [hX1.K]; exact TR
                                                                have hf := Res.ok_inj hf
                                                                subst hf
                                                                exact ((ev_inCh ((ee_v ((hX1.scp VS).var tb_is_word_c1 1 0) rfl rv1)).toB (ev_globS (hX1.gvS V_LETTERS) ((hX1.scp VS).gl tb_is_word_c1 1)))).toE
                                                            ) (fun x B3 σ2 h => by obtain ⟨v, _, rfl⟩ := h; rfl) (fun x B3 B4 σ2 ⟨v, r, q⟩ e => ⟨v, Rel.mono _ e r, q⟩))).toB))
                                                            ) (fun hz => (Res.ok_inj (Res.ff_ok h5 hz)).symm))).toE F
/-! sign_of_word -/
abbrev st_sign_of_word : Stmt := topS 16
abbrev N_sign_of_word : List Str := ["word", "figure"]
theorem tb_sign_of_word : nmOk (defScope st_sign_of_word) [("word", .local), ("len", .globalImplicit), ("all", .globalImplicit), ("int", .globalImplicit)] = true := by decide +kernel
theorem sc_sign_of_word : FnScope N_sign_of_word ["word"] (defScope st_sign_of_word) := ⟨rfl, rfl, rfl, by decide +kernel, rfl, by decide +kernel, by decide +kernel⟩
abbrev csc_sign_of_word_c1 : Scope := { kind := .function, names := [(".0", .local), ("figure", .local), ("FIGURES", .globalImplicit)], isGenerator := false, isCoroutine := false, more := [] }
theorem tb_sign_of_word_c1 : nmOk (relS csc_sign_of_word_c1 (defScope st_sign_of_word)) [("figure", .local), ("FIGURES", .globalImplicit)] = true := by decide +kernel
theorem bk_sign_of_word_c1 : blkC N_sign_of_word (defScope st_sign_of_word) csc_sign_of_word_c1 [("figure", 1)] = true := by decide +kernel
def m_sign_of_word (word : Str) : Res (Option Int) := (if (decide (word = ("" : Str))) = true then Res.ok true else Res.need ((word).length ≤ sizeLine) ((if (decide (60 < ((word).length : Int))) = true then Res.ok true else Res.need (word.cps.toList.length ≤ sizeLine) (Res.ok (!(((word.cps.toList.map fun i3 => (decide (i3 ∈ ("0123456789" : Str).cps.toList)))).all id)))).bind fun b4 => Res.ok b4)).bind fun b7 => if b7 = true then Res.ok none else Res.need (word.length ≤ sizeLine) ((Res.of (atI word.cps.toList 0)).bind fun ch20 => if ((decide ((chS ch20) = ("0" : Str))) && (!decide (word = ("0" : Str)))) = true then Res.ok none else Res.need (word.length ≤ 640) ((Res.of (PySem.intText? word)).bind fun x32 => Res.ok (some x32)))
abbrev args_sign_of_word (CT CR : Addr) : Str → AR := fun d => (aC rStr d aN)
abbrev sp_sign_of_word (CT CR : Addr) : Sp := SpA (args_sign_of_word CT CR) (kE (rOpt rInt)) (fun d => m_sign_of_word d)
theorem body_sign_of_word {X : Cx} {CT CR : Addr} (C : Cok X 0) (VS : Scp X N_sign_of_word (defScope st_sign_of_word)) (fn : ∀ x, X.fn x = true) (T : Blt X.mg) (TR : RulTxt X.K CR) (V_FIGURES : ∃ t, X.mg "FIGURES" = some (.str ("0123456789" : Str) t)) : ∀ (B H : Hp) (vs : List V) (d : Str) (Q : VK), Sx B H → Tx H B → (args_sign_of_word CT CR d).r vs B H → Fin ((kE (rOpt rInt)) ⟨B, H⟩ Q) NoErr (m_sign_of_word d) →
    WSs X (defBody st_sign_of_word) { nx := fun _ H' => Q .non H', rt := Q } (start N_sign_of_word vs) H := by
  rintro B H vs word Q hb ht ⟨_, _, rfl, rfl, rfl⟩ F
  have S0 := Stt.enter hb ht
  obtain ⟨b7, h8, F⟩ := Fin.get F
  refine s_if S0 ((ew_or (c_eqS.et (ev_v (VS.var tb_sign_of_word 0 0) rfl rfl) ev_s) (fun hz => by
                                                                have q9 := Res.ff_ok h8 hz
                                                                obtain ⟨h1, q9⟩ := Res.need_ok q9
                                                                obtain ⟨b4, h5, q9⟩ := Res.bind_ok q9
                                                                have q9 := Res.ok_inj q9
                                                                rw [← q9]
                                                                exact (ew_or (c_gt.et (ev_lenS (VS.gl tb_sign_of_word 1) T.len (ev_v (VS.var tb_sign_of_word 0 0) rfl rfl) h1) ev_i) (fun hz => by
                                                                have q6 := Res.ff_ok h5 hz
                                                                obtain ⟨h2, q6⟩ := Res.need_ok q6
                                                                have q6 := Res.ok_inj q6
                                                                rw [← q6]
                                                                exact (ew_or1 (et_not (et_val (ev_all C.calm (VS.gl tb_sign_of_word 2) T.all ((el_lc (S := rBool) C (VS.blk bk_sign_of_word_c1) (ei_str (ev_v (VS.var tb_sign_of_word 0 0) rfl rfl) h2) (fun _ _ => trivial) (fun Xb hX => tg_name (R := rCh) (hX.cok C) (hX.slot VS tb_sign_of_word_c1 1 0)) (mfM_map (fun i3 : Nat => (decide (i3 ∈ ("0123456789" : Str).cps.toList))) _)
                                                            (fun Xb i3 σ2 acc Dd Bc1 Hc1 b hX1 S1001 ec1 tg hb => by
                                                                obtain ⟨v1001, rv1, rfl⟩ := tg
                                                                have T1 : Blt Xb.mg := by rw [hX1.mg]; exact T
                                                                have TR1 : RulTxt Xb.K CR := by rw [hX1.K]; exact TR
                                                                have hb := Res.ok_inj hb
                                                                subst hb
                                                                exact ets_nil
                                                            )
                                                            (fun Xb i3 y σ2 acc Dd Bc1 Hc1 hX1 S1001 ec1 tg hb hf => by
                                                                obtain ⟨v1001, rv1, rfl⟩ := tg
                                                                have T1 : Blt Xb.mg := by rw [hX1.mg]; exact T
                                                                have TR1 : RulTxt Xb.K CR := by rw [hX1.K]; exact TR
                                                                have hf := Res.ok_inj hf
                                                                subst hf
                                                                exact ((ev_inCh ((ee_v ((hX1.scp VS).var tb_sign_of_word_c1 1 0) rfl rv1)).toB (ev_globS (hX1.gvS V_FIGURES) ((hX1.scp VS).gl tb_sign_of_word_c1 1)))).toE
                                                            ) (fun x B3 σ2 h => by obtain ⟨v, _, rfl⟩ := h; rfl) (fun x B3 B4 σ2 ⟨v, r, q⟩ e => ⟨v, Rel.mono _ e r, q⟩))).toB))))
                                                            ) (fun hz => (Res.ok_inj (Res.tt_ok h5 hz)).symm))
                                                            ) (fun hz => (Res.ok_inj (Res.tt_ok h8 hz)).symm))).t (fun z10 B11 H12 S13 e14 => ?_) (fun z10 B15 H16 S17 e18 => ?_)
  · replace F := Fin.tt F z10
    exact s_retE S13 ((ev_none (R := rInt))).toE F
  · replace F := Fin.ff F z10
    refine WSs.nil ?_
    obtain ⟨h19, F⟩ := Fin.need F
    obtain ⟨ch20, h21, F⟩ := Fin.of F
    refine s_if S17 ((ew_and' (c_eqS.et (ev_chS (ev_ixS (ev_v (VS.var tb_sign_of_word 0 0) rfl rfl) ev_i h19 h21)) ev_s) fun _ => (ew_and1 (c_neS.et (ev_v (VS.var tb_sign_of_word 0 0) rfl rfl) ev_s)))).t (fun z22 B23 H24 S25 e26 => ?_) (fun z22 B27 H28 S29 e30 => ?_)
    · replace F := Fin.tt F z22
      exact s_retE S25 ((ev_none (R := rInt))).toE F
    · replace F := Fin.ff F z22
      refine WSs.nil ?_
      obtain ⟨h31, F⟩ := Fin.need F
      obtain ⟨x32, h33, F⟩ := Fin.of F
      exact s_retE S29 ((ev_some (ev_intS (VS.gl tb_sign_of_word 3) T.int (ev_v (VS.var tb_sign_of_word 0 0) rfl rfl) h33 h31))).toE F
/-! kind_row -/
abbrev st_kind_row : Stmt := topS 17
abbrev N_kind_row : List Str := ["words", "signs", "word"]
theorem tb_kind_row : nmOk (defScope st_kind_row) [("words", .local), ("signs", .local), ("len", .globalImplicit), ("is_word", .globalImplicit)] = true := by decide +kernel
theorem sc_kind_row : FnScope N_kind_row ["words"] (defScope st_kind_row) := ⟨rfl, rfl, rfl, by decide +kernel, rfl, by decide +kernel, by decide +kernel⟩
abbrev csc_kind_row_c1 : Scope := { kind := .function, names := [(".0", .local), ("word", .local), ("sign_of_word", .globalImplicit)], isGenerator := false, isCoroutine := false, more := [] }
theorem tb_kind_row_c1 : nmOk (relS csc_kind_row_c1 (defScope st_kind_row)) [("word", .local), ("sign_of_word", .globalImplicit)] = true := by decide +kernel
theorem bk_kind_row_c1 : blkC N_kind_row (defScope st_kind_row) csc_kind_row_c1 [("word", 2)] = true := by decide +kernel
def m_kind_row (words : (List Str)) : Res (Option (Str × (List (Option Int)))) := (if (decide (((words).length : Int) < 3)) = true then Res.ok true else (Res.of (atI words 1)).bind fun x1 => (m_is_word x1).bind fun r3 => Res.ok (!r3)).bind fun b5 => if b5 = true then Res.ok none else (mfM (fun i17 : Str => Res.ok true) (fun i17 => (m_sign_of_word i17).bind fun r18 => Res.ok r18) (cut words (some 2) none)).bind fun l20 => if (decide (none ∈ l20)) = true then Res.ok none else (Res.of (atI words 1)).bind fun x42 => Res.ok (some (x42, l20))
abbrev args_kind_row (CT CR : Addr) : (List Str) → AR := fun d => (aC (rLst rStr) d aN)
abbrev sp_kind_row (CT CR : Addr) : Sp := SpA (args_kind_row CT CR) (kE (rOpt (rPr rStr (rLst (rOpt rInt))))) (fun d => m_kind_row d)
theorem body_kind_row {X : Cx} {CT CR : Addr} (C : Cok X 1) (VS : Scp X N_kind_row (defScope st_kind_row)) (fn : ∀ x, X.fn x = true) (T : Blt X.mg) (TR : RulTxt X.K CR) (G_is_word : Cal X 1 "is_word" ["word"] (sp_is_word CT CR)) (G_sign_of_word : Cal X 1 "sign_of_word" ["word"] (sp_sign_of_word CT CR)) : ∀ (B H : Hp) (vs : List V) (d : (List Str)) (Q : VK), Sx B H → Tx H B → (args_kind_row CT CR d).r vs B H → Fin ((kE (rOpt (rPr rStr (rLst (rOpt rInt))))) ⟨B, H⟩ Q) NoErr (m_kind_row d) →
    WSs X (defBody st_kind_row) { nx := fun _ H' => Q .non H', rt := Q } (start N_kind_row vs) H := by
  rintro B H vs words Q hb ht ⟨v1, _, rfl, r1_, rfl⟩ F
  have S0 := Stt.enter hb ht
  obtain ⟨b5, h6, F⟩ := Fin.get F
  refine s_if S0 ((ew_or (c_lt.et (ev_lenL (VS.gl tb_kind_row 2) T.len (ev_v (VS.var tb_kind_row 0 0) rfl (Rel.mono _ S0.h0.ex r1_))) ev_i) (fun hz => by
                                                                have q7 := Res.ff_ok h6 hz
                                                                obtain ⟨x1, h2, q7⟩ := Res.of_ok q7
                                                                obtain ⟨r3, h4, q7⟩ := Res.bind_ok q7
                                                                have q7 := Res.ok_inj q7
                                                                rw [← q7]
                                                                exact (ew_or1 (et_not (et_val ((ee_call C G_is_word (by decide) (VS.gl tb_kind_row 3) (d := (x1)) (as_cons (ev_ixL (ev_v (VS.var tb_kind_row 0 0) rfl (Rel.mono _ S0.h0.ex r1_)) ev_i h2) as_nil) h4)).toB)))
                                                            ) (fun hz => (Res.ok_inj (Res.tt_ok h6 hz)).symm))).t (fun z8 B9 H10 S11 e12 => ?_) (fun z8 B13 H14 S15 e16 => ?_)
  · replace F := Fin.tt F z8
    exact s_retE S11 (ee_none (R := (rPr rStr (rLst (rOpt rInt))))) F
  · replace F := Fin.ff F z8
    refine WSs.nil ?_
    obtain ⟨l20, h21, F⟩ := Fin.get F
    refine s_asgLc (S := (rOpt rInt)) C (i := 1) (n := "signs") (by rw [VS.n]; rfl) (VS.lk tb_kind_row 1) (sw_loc VS sc_kind_row.kind (VS.lk tb_kind_row 1)) S15 (VS.blk bk_kind_row_c1) (ei_E ((el_cut (ev_v (VS.var tb_kind_row 0 0) rfl (Rel.mono _ S15.h0.ex r1_)) (ep_s ev_i) ep_n)).toE) (fun _ _ => trivial) (fun Xb hX => tg_name (R := rStr) (hX.cok C) (hX.slot VS tb_kind_row_c1 2 0)) h21
                                                            (fun Xb i17 σ2 acc Dd Bc1 Hc1 b hX1 S1001 ec1 tg hb => by
                                                                obtain ⟨v1001, rfl, rfl⟩ := tg
                                                                have T1 : Blt Xb.mg := by rw [hX1.mg]; exact T
                                                                have TR1 : RulTxt Xb.K CR := by rw [hX1.K]; exact TR
                                                                have hb := Res.ok_inj hb
                                                                subst hb
                                                                exact ets_nil
                                                            )
                                                            (fun Xb i17 y σ2 acc Dd Bc1 Hc1 hX1 S1001 ec1 tg hb hf => by
                                                                obtain ⟨v1001, rfl, rfl⟩ := tg
                                                                have T1 : Blt Xb.mg := by rw [hX1.mg]; exact T
                                                                have TR1 : RulTxt Xb.K CR := by rw [hX1.K]; exact TR
                                                                obtain ⟨r18, h19, hf⟩ := Res.bind_ok hf
                                                                have hf := Res.ok_inj hf
                                                                subst hf
                                                                exact (ee_call (hX1.cok C) (hX1.cal G_sign_of_word) (by decide) ((hX1.scp VS).gl tb_kind_row_c1 1) (d := (i17)) (as_cons (ev_v ((hX1.scp VS).var tb_kind_row_c1 2 0) rfl rfl) as_nil) h19)
                                                            ) (fun x B3 σ2 h => by obtain ⟨v, _, rfl⟩ := h; rfl) (fun x B3 B4 σ2 ⟨v, r, q⟩ e => ⟨v, Rel.mono _ e r, q⟩) (fun p22 u23 B24 H25 S26 e27 r28 => ?_)
    obtain ⟨Bk29, S30, e31, r32⟩ := rl_keep (R := (rOpt rInt)) S26 (k := 0) rfl r28
    refine s_if S30 (et_inD C.hu65 (ev_none (R := rInt)) ((ee_v (VS.var tb_kind_row 1 1) rfl r32)).toB) (fun z33 B34 H35 S36 e37 => ?_) (fun z33 B38 H39 S40 e41 => ?_)
    · replace F := Fin.tt F z33
      exact s_retE S36 (ee_none (R := (rPr rStr (rLst (rOpt rInt))))) F
    · replace F := Fin.ff F z33
      refine WSs.nil ?_
      obtain ⟨x42, h43, F⟩ := Fin.of F
      exact s_retE S40 (ee_some (ee_pr ((ev_ixL (ev_v (VS.var tb_kind_row 0 0) rfl (Rel.mono _ S40.h0.ex r1_)) ev_i h43)).toE (ee_v (VS.var tb_kind_row 1 1) rfl (Rel.mono _ e41 r32)))) F
/-! side_row -/
abbrev st_side_row : Stmt := topS 18
abbrev N_side_row : List Str := ["words", "at", "left", "right", "word"]
theorem tb_side_row : nmOk (defScope st_side_row) [("words", .local), ("at", .local), ("left", .local), ("right", .local), ("max", .globalImplicit), ("len", .globalImplicit), ("MOST_WORDS", .globalImplicit), ("all", .globalImplicit)] = true := by decide +kernel
theorem sc_side_row : FnScope N_side_row ["words"] (defScope st_side_row) := ⟨rfl, rfl, rfl, by decide +kernel, rfl, by decide +kernel, by decide +kernel⟩
abbrev csc_side_row_c1 : Scope := { kind := .function, names := [(".0", .local), ("word", .local), ("is_word", .globalImplicit)], isGenerator := false, isCoroutine := false, more := [] }
theorem tb_side_row_c1 : nmOk (relS csc_side_row_c1 (defScope st_side_row)) [("word", .local), ("is_word", .globalImplicit)] = true := by decide +kernel
theorem bk_side_row_c1 : blkC N_side_row (defScope st_side_row) csc_side_row_c1 [("word", 4)] = true := by decide +kernel
def m_side_row (words : (List Str)) : Res (Option (Bool × (List Str) × (List Str))) := if (!decide (((words.count ("|" : Str) : Nat) : Int) = 1)) = true then Res.ok none else (Res.of (ixOf words ("|" : Str))).bind fun x10 => (if (decide (3 < (if (((cut words (some (x10 + 1)) none)).length : Int) > (((cut words (some 1) (some x10))).length : Int) then (((cut words (some (x10 + 1)) none)).length : Int) else (((cut words (some 1) (some x10))).length : Int)))) = true then Res.ok true else Res.need (((cut words (some 1) (some x10))).length + ((cut words (some (x10 + 1)) none)).length ≤ sizeLine) ((mfM (fun i29 : Str => Res.ok true) (fun i29 => (m_is_word i29).bind fun r30 => Res.ok r30) ((cut words (some 1) (some x10)) ++ (cut words (some (x10 + 1)) none))).bind fun l32 => Res.ok (!((l32).all id)))).bind fun b34 => if b34 = true then Res.ok none else (Res.of (atI words 0)).bind fun x46 => Res.ok (some ((decide (x46 = ("keep" : Str))), (cut words (some 1) (some x10)), (cut words (some (x10 + 1)) none)))
abbrev args_side_row (CT CR : Addr) : (List Str) → AR := fun d => (aC (rLst rStr) d aN)
abbrev sp_side_row (CT CR : Addr) : Sp := SpA (args_side_row CT CR) (kE (rOpt (rT3 rBool (rLst rStr) (rLst rStr)))) (fun d => m_side_row d)
theorem body_side_row {X : Cx} {CT CR : Addr} (C : Cok X 1) (VS : Scp X N_side_row (defScope st_side_row)) (fn : ∀ x, X.fn x = true) (T : Blt X.mg) (TR : RulTxt X.K CR) (G_is_word : Cal X 1 "is_word" ["word"] (sp_is_word CT CR)) (V_MOST_WORDS : ∃ t, X.mg "MOST_WORDS" = some (.int 3 t)) : ∀ (B H : Hp) (vs : List V) (d : (List Str)) (Q : VK), Sx B H → Tx H B → (args_side_row CT CR d).r vs B H → Fin ((kE (rOpt (rT3 rBool (rLst rStr) (rLst rStr)))) ⟨B, H⟩ Q) NoErr (m_side_row d) →
    WSs X (defBody st_side_row) { nx := fun _ H' => Q .non H', rt := Q } (start N_side_row vs) H := by
  rintro B H vs words Q hb ht ⟨v1, _, rfl, r1_, rfl⟩ F
  have S0 := Stt.enter hb ht
  refine s_if S0 (c_neI.et (ev_cntS (ev_v (VS.var tb_side_row 0 0) rfl (Rel.mono _ S0.h0.ex r1_)) ev_s) ev_i) (fun z1 B2 H3 S4 e5 => ?_) (fun z1 B6 H7 S8 e9 => ?_)
  · replace F := Fin.tt F z1
    exact s_retE S4 (ee_none (R := (rT3 rBool (rLst rStr) (rLst rStr)))) F
  · replace F := Fin.ff F z1
    refine WSs.nil ?_
    obtain ⟨x10, h11, F⟩ := Fin.of F
    refine s_asgI C (VS.slot tb_side_row fn 1 1) S8 (ev_ixOfS (ev_v (VS.var tb_side_row 0 0) rfl (Rel.mono _ S8.h0.ex r1_)) ev_s h11) (fun B12 H13 S14 e15 => ?_)
    refine s_asg C (VS.slot tb_side_row fn 2 2) S14 ((el_cut (ev_v (VS.var tb_side_row 0 0) rfl (Rel.mono _ S14.h0.ex r1_)) (ep_s ev_i) (ep_s (ev_v (VS.var tb_side_row 1 1) rfl rfl)))).toE (fun v20 B16 H17 S18 e19 r21 => ?_)
    refine s_asg C (VS.slot tb_side_row fn 3 3) S18 ((el_cut (ev_v (VS.var tb_side_row 0 0) rfl (Rel.mono _ S18.h0.ex r1_)) (ep_s (ev_add (ev_v (VS.var tb_side_row 1 1) rfl rfl) ev_i)) ep_n)).toE (fun v26 B22 H23 S24 e25 r27 => ?_)
    obtain ⟨b34, h35, F⟩ := Fin.get F
    refine s_if S24 ((ew_or (c_gt.et (ev_max2 C.calm (VS.gl tb_side_row 4) T.max (ev_lenL (VS.gl tb_side_row 5) T.len ((ee_v (VS.var tb_side_row 2 2) rfl (Rel.mono _ e25 r21))).toB) (ev_lenL (VS.gl tb_side_row 5) T.len ((ee_v (VS.var tb_side_row 3 3) rfl r27)).toB)) (ev_globI V_MOST_WORDS (VS.gl tb_side_row 6))) (fun hz => by
                                                                have q36 := Res.ff_ok h35 hz
                                                                obtain ⟨h28, q36⟩ := Res.need_ok q36
                                                                obtain ⟨l32, h33, q36⟩ := Res.bind_ok q36
                                                                have q36 := Res.ok_inj q36
                                                                rw [← q36]
                                                                exact (ew_or1 (et_not (et_val (ev_all C.calm (VS.gl tb_side_row 7) T.all ((el_lc (S := rBool) C (VS.blk bk_side_row_c1) (ei_E ((el_cat ((ee_v (VS.var tb_side_row 2 2) rfl (Rel.mono _ e25 r21))).toB ((ee_v (VS.var tb_side_row 3 3) rfl r27)).toB h28)).toE) (fun _ _ => trivial) (fun Xb hX => tg_name (R := rStr) (hX.cok C) (hX.slot VS tb_side_row_c1 4 0)) h33
                                                            (fun Xb i29 σ2 acc Dd Bc1 Hc1 b hX1 S1001 ec1 tg hb => by
                                                                obtain ⟨v1001, rfl, rfl⟩ := tg
                                                                have T1 : Blt Xb.mg := by rw [hX1.mg]; exact T
                                                                have TR1 : RulTxt Xb.K CR := by rw [hX1.K]; exact TR
                                                                have hb := Res.ok_inj hb
                                                                subst hb
                                                                exact ets_nil
                                                            )
                                                            (fun Xb i29 y σ2 acc Dd Bc1 Hc1 hX1 S1001 ec1 tg hb hf => by
                                                                obtain ⟨v1001, rfl, rfl⟩ := tg
                                                                have T1 : Blt Xb.mg := by rw [hX1.mg]; exact T
                                                                have TR1 : RulTxt Xb.K CR := by rw [hX1.K]; exact TR
                                                                obtain ⟨r30, h31, hf⟩ := Res.bind_ok hf
                                                                have hf := Res.ok_inj hf
                                                                subst hf
                                                                exact (ee_call (hX1.cok C) (hX1.cal G_is_word) (by decide) ((hX1.scp VS).gl tb_side_row_c1 1) (d := (i29)) (as_cons (ev_v ((hX1.scp VS).var tb_side_row_c1 4 0) rfl rfl) as_nil) h31)
                                                            ) (fun x B3 σ2 h => by obtain ⟨v, _, rfl⟩ := h; rfl) (fun x B3 B4 σ2 ⟨v, r, q⟩ e => ⟨v, Rel.mono _ e r, q⟩))).toB))))
                                                            ) (fun hz => (Res.ok_inj (Res.tt_ok h35 hz)).symm))).t (fun z37 B38 H39 S40 e41 => ?_) (fun z37 B42 H43 S44 e45 => ?_)
    · replace F := Fin.tt F z37
      exact s_retE S40 (ee_none (R := (rT3 rBool (rLst rStr) (rLst rStr)))) F
    · replace F := Fin.ff F z37
      refine WSs.nil ?_
      obtain ⟨x46, h47, F⟩ := Fin.of F
      exact s_retE S44 (ee_some (ee_t3 ((c_eqS.ev (ev_ixL (ev_v (VS.var tb_side_row 0 0) rfl (Rel.mono _ S44.h0.ex r1_)) ev_i h47) ev_s)).toE (ee_v (VS.var tb_side_row 2 2) rfl (Rel.mono _ (e25.trans e45) r21)) (ee_v (VS.var tb_side_row 3 3) rfl (Rel.mono _ e45 r27)))) F
/-! row_read -/
abbrev st_row_read : Stmt := topS 20
abbrev N_row_read : List Str := ["row", "words"]
theorem tb_row_read : nmOk (defScope st_row_read) [("row", .local), ("words", .local), ("kind_row", .globalImplicit), ("side_row", .globalImplicit)] = true := by decide +kernel
theorem sc_row_read : FnScope N_row_read ["row"] (defScope st_row_read) := ⟨rfl, rfl, rfl, by decide +kernel, rfl, by decide +kernel, by decide +kernel⟩
def m_row_read (row : Str) : Res (Option RowT) := Res.need (row.length + 2 ≤ sizeLine) ((Res.of (atI (Txt.split row (" " : Str)) 0)).bind fun x8 => if (decide (x8 = ("kind" : Str))) = true then (m_kind_row (Txt.split row (" " : Str))).bind fun r15 => Res.ok (r15.map Sum.inl) else (Res.of (atI (Txt.split row (" " : Str)) 0)).bind fun x21 => (if (decide (x21 = ("keep" : Str))) = true then Res.ok true else (Res.of (atI (Txt.split row (" " : Str)) 0)).bind fun x23 => Res.ok (decide (x23 = ("cut" : Str)))).bind fun b25 => if b25 = true then (m_side_row (Txt.split row (" " : Str))).bind fun r33 => Res.ok (r33.map Sum.inr) else Res.ok none)
abbrev args_row_read (CT CR : Addr) : Str → AR := fun d => (aC rStr d aN)
abbrev sp_row_read (CT CR : Addr) : Sp := SpA (args_row_read CT CR) (kE (rOpt rRow)) (fun d => m_row_read d)
theorem body_row_read {X : Cx} {CT CR : Addr} (C : Cok X 2) (VS : Scp X N_row_read (defScope st_row_read)) (fn : ∀ x, X.fn x = true) (T : Blt X.mg) (TR : RulTxt X.K CR) (G_kind_row : Cal X 2 "kind_row" ["words"] (sp_kind_row CT CR)) (G_side_row : Cal X 2 "side_row" ["words"] (sp_side_row CT CR)) : ∀ (B H : Hp) (vs : List V) (d : Str) (Q : VK), Sx B H → Tx H B → (args_row_read CT CR d).r vs B H → Fin ((kE (rOpt rRow)) ⟨B, H⟩ Q) NoErr (m_row_read d) →
    WSs X (defBody st_row_read) { nx := fun _ H' => Q .non H', rt := Q } (start N_row_read vs) H := by
  rintro B H vs row Q hb ht ⟨_, _, rfl, rfl, rfl⟩ F
  have S0 := Stt.enter hb ht
  obtain ⟨h1, F⟩ := Fin.need F
  refine s_asg C (VS.slot tb_row_read fn 1 1) S0 ((el_split (ev_v (VS.var tb_row_read 0 0) rfl rfl) ev_s (by decide) h1)).toE (fun v6 B2 H3 S4 e5 r7 => ?_)
  obtain ⟨x8, h9, F⟩ := Fin.of F
  refine s_if S4 (c_eqS.et (ev_ixL ((ee_v (VS.var tb_row_read 1 1) rfl r7)).toB ev_i h9) ev_s) (fun z10 B11 H12 S13 e14 => ?_) (fun z10 B17 H18 S19 e20 => ?_)
  · replace F := Fin.tt F z10
    obtain ⟨r15, h16, F⟩ := Fin.get F
    exact s_retE S13 (ee_inlO (ee_call C G_kind_row (by decide) (VS.gl tb_row_read 2) (d := ((Txt.split row (" " : Str)))) (as_cons ((ee_v (VS.var tb_row_read 1 1) rfl (Rel.mono _ e14 r7))).toB as_nil) h16)) F
  · replace F := Fin.ff F z10
    refine WSs.nil ?_
    obtain ⟨x21, h22, F⟩ := Fin.of F
    obtain ⟨b25, h26, F⟩ := Fin.get F
    refine s_if S19 ((ew_or (c_eqS.et (ev_ixL ((ee_v (VS.var tb_row_read 1 1) rfl (Rel.mono _ e20 r7))).toB ev_i h22) ev_s) (fun hz => by
                                                                have q27 := Res.ff_ok h26 hz
                                                                obtain ⟨x23, h24, q27⟩ := Res.of_ok q27
                                                                have q27 := Res.ok_inj q27
                                                                rw [← q27]
                                                                exact (ew_or1 (c_eqS.et (ev_ixL ((ee_v (VS.var tb_row_read 1 1) rfl (Rel.mono _ e20 r7))).toB ev_i h24) ev_s))
                                                            ) (fun hz => (Res.ok_inj (Res.tt_ok h26 hz)).symm))).t (fun z28 B29 H30 S31 e32 => ?_) (fun z28 B35 H36 S37 e38 => ?_)
    · replace F := Fin.tt F z28
      obtain ⟨r33, h34, F⟩ := Fin.get F
      exact s_retE S31 (ee_inrO (ee_call C G_side_row (by decide) (VS.gl tb_row_read 3) (d := ((Txt.split row (" " : Str)))) (as_cons ((ee_v (VS.var tb_row_read 1 1) rfl (Rel.mono _ (e20.trans e32) r7))).toB as_nil) h34)) F
    · replace F := Fin.ff F z28
      refine WSs.nil ?_
      exact s_retE S37 (ee_none (R := rRow)) F
/-! heads_of -/
abbrev st_heads_of : Stmt := topS 21
abbrev N_heads_of : List Str := ["told", "heads", "taken", "at", "row", "sign"]
theorem tb_heads_of : nmOk (defScope st_heads_of) [("told", .local), ("heads", .local), ("taken", .local), ("at", .local), ("row", .local), ("sign", .local), ("list", .globalImplicit), ("OWN_WORDS", .globalImplicit), ("enumerate", .globalImplicit), ("len", .globalImplicit), ("Double", .globalImplicit)] = true := by decide +kernel
theorem sc_heads_of : FnScope N_heads_of ["told"] (defScope st_heads_of) := ⟨rfl, rfl, rfl, by decide +kernel, rfl, by decide +kernel, by decide +kernel⟩
def m_heads_of (told : (List RowT)) : Res (List (Int × Str)) := (forM (fun (a116 : ((List Str) × (List (Int × Str)))) (x117 : (Int × RowT)) => (if (decide ((lenRow x117.2) = 2)) = true then (Res.of (rowL x117.2)).bind fun x143 => if (decide (x143.1 ∈ a116.1)) = true then Res.err ⟨"Double", [("at", .int x117.1)]⟩ else (Res.of (rowL x117.2)).bind fun x154 => Res.need (a116.1.length < sizeLine) ((Res.of (rowL x117.2)).bind fun x163 => (forM (fun (a190 : (List (Int × Str))) (x191 : (Option Int)) => ((Res.of (x191)).bind fun x209 => if (dget a190 x209).isSome = true then Res.err ⟨"Double", [("at", .int x117.1)]⟩ else (Res.of (rowL x117.2)).bind fun x220 => (Res.of (x191)).bind fun x222 => Res.need (a190.length < sizeLine) (Res.ok (dput a190 x222 x220.1)) : Res (List (Int × Str)))) x163.2 a116.2).bind fun (a203 : (List (Int × Str))) => Res.ok ((a116.1 ++ [x154.1]), a203)) else Res.ok (a116.1, a116.2) : Res ((List Str) × (List (Int × Str))))) (enumI 1 told) ((["any", "edge", "other"] : List Str), ([] : (List (Int × Str))))).bind fun (a129 : ((List Str) × (List (Int × Str)))) => Res.ok a129.2
abbrev args_heads_of (CT CR : Addr) : (List RowT) → AR := fun d => (aK (rLst rRow) d aN)
abbrev sp_heads_of (CT CR : Addr) (mg : MG) : Sp := SpX mg (args_heads_of CT CR) (kE (rDI rStr)) (fun d => m_heads_of d)
theorem body_heads_of {X : Cx} {CT CR : Addr} (C : Cok X 2) (VS : Scp X N_heads_of (defScope st_heads_of)) (fn : ∀ x, X.fn x = true) (T : Blt X.mg) (TR : RulTxt X.K CR) (ZI_Double : RzI X.prog X.w X.K X.mg X.base "Double" "at" ["self", "at"]) (GT_OWN_WORDS : GTup X.K X.mg "OWN_WORDS" (["any", "edge", "other"] : List Str)) : ∀ (B H : Hp) (vs : List V) (d : (List RowT)) (Q : VK) (Er : Err → Prop), (∀ own B2 σ, XOk X ⟨B, H⟩ own B2 σ Er) → Sx B H → Tx H B → (args_heads_of CT CR d).r vs B H → Fin ((kE (rDI rStr)) ⟨B, H⟩ Q) Er (m_heads_of d) →
    WSs X (defBody st_heads_of) { nx := fun _ H' => Q .non H', rt := Q } (start N_heads_of vs) H := by
  rintro B H vs told Q Er XO hb ht ⟨v1, _, rfl, r1_, rfl⟩ F
  have S0 := Stt.enter hb ht
  refine s_asgDI C (VS.slot tb_heads_of fn 1 1) S0 (ed_nI (R := rStr)) (fun p5 u6 B1 H2 S3 e4 r7 => ?_)
  refine s_asgL C (VS.slot tb_heads_of fn 2 2) S3 (el_listGT GT_OWN_WORDS (VS.gl tb_heads_of 6) T.list (VS.gl tb_heads_of 7)) (fun p12 u13 B8 H9 S10 e11 r14 => ?_)
  refine s_forM C (tg_pair (R := rInt) (S := rRow) C (VS.slot tb_heads_of fn 3 3) (VS.slot tb_heads_of fn 4 4)) S10 (ei_enumS (VS.gl tb_heads_of 8) T.enumerate (by decide) (ee_v (VS.var tb_heads_of 0 0) rfl (Rel.mono _ (e4.trans e11) r1_))) F (fun (a : ((List Str) × (List (Int × Str)))) σ' own' B' => ∃ (w115_2 : List V), ∃ (w115_1 : List (Key × V)), ∃ (j115_5 : Option V), ∃ (j115_3 : Option V), ∃ (j115_4 : Option V), σ' = [some v1, some (.ref p5), some (.ref p12), j115_3, j115_4, j115_5] ∧ own' = [(p12, .lst w115_2), (p5, .dK w115_1)] ∧ Paired (rStr.r B') w115_2 a.1 ∧ pI rStr B' w115_1 a.2)
      (fun Bz e => ⟨u13, u6, _, _, _, rfl, rfl, (pimp r14 fun _ _ z => Rel.mono _ e z), (r7.up (e11.trans e))⟩) (fun _ _ _ _ _ => trivial) (fun _ _ _ _ _ h e => by obtain ⟨w0, w1, w2, w3, w4, h1, h2, f0, f1⟩ := h; exact ⟨w0, w1, w2, w3, w4, h1, h2, pimp f0 fun _ _ z => Rel.mono _ e z, f1.up e⟩) (fun a116 x117 _ _ _ B118 H119 Q123 iv122 S120 e121 tg F => ?_) (fun a129 _ _ B124 H125 iv128 S126 e127 F => ?_)
  · obtain ⟨w115_2i, w115_1i, j115_5i, j115_3i, j115_4i, rfl, rfl, r130, r131⟩ := iv122
    obtain ⟨v133, v134, rfl, r135, rfl⟩ := tg
    refine s_if S120 (c_eqI.et (ev_lenRow (VS.gl tb_heads_of 9) T.len ((ee_v (VS.var tb_heads_of 4 4) rfl r135)).toB) ev_i) (fun z138 B139 H140 S141 e142 => ?_) (fun z138 B231 H232 S233 e234 => ?_)
    · replace F := Fin.tt F z138
      obtain ⟨x143, h144, F⟩ := Fin.of F
      refine s_if S141 (et_in (ev_fst ((ee_rowL (ee_v (VS.var tb_heads_of 4 4) rfl (Rel.mono _ e142 r135)) h144)).toB) (ev_own (VS.var tb_heads_of 2 2) rfl (List.mem_of_getElem? (i := 0) rfl) (pimp r130 fun _ _ z => Rel.mono _ e142 z))) (fun z145 B146 H147 S148 e149 => ?_) (fun z145 B150 H151 S152 e153 => ?_)
      · replace F := Fin.tt F z145
        exact s_raise1 (XO _ _ _) C (by decide) ZI_Double (VS.gl tb_heads_of 10) S148 (ev_v (VS.var tb_heads_of 3 3) rfl rfl) F
      · replace F := Fin.ff F z145
        refine WSs.nil ?_
        obtain ⟨x154, h155, F⟩ := Fin.of F
        obtain ⟨h156, F⟩ := Fin.need F
        refine s_append S152 (VS.var tb_heads_of 2 2) rfl (k := 0) rfl (pimp r130 fun _ _ z => Rel.mono _ (e142.trans e153) z) (ee_fst (ee_rowL (ee_v (VS.var tb_heads_of 4 4) rfl (Rel.mono _ (e142.trans e153) r135)) h155)) h156 (fun v157 B158 H159 S160 e161 r162 => ?_)
        obtain ⟨x163, h164, F⟩ := Fin.of F
        refine s_forM C (tg_name (R := (rOpt rInt)) C (VS.slot tb_heads_of fn 5 5)) S160 (ei_E (ee_snd (ee_rowL (ee_v (VS.var tb_heads_of 4 4) rfl (Rel.mono _ ((e142.trans e153).trans e161) r135)) h164))) F (fun (a : (List (Int × Str))) σ' own' B' => ∃ (w189_1 : List (Key × V)), ∃ (j189_5 : Option V), σ' = [some v1, some (.ref p5), some (.ref p12), some (.int x117.1), some v134, j189_5] ∧ own' = [(p12, .lst (w115_2i ++ [v157])), (p5, .dK w189_1)] ∧ pI rStr B' w189_1 a)
            (fun Bz e => ⟨w115_1i, _, rfl, rfl, (r131.up (((e142.trans e153).trans e161).trans e))⟩) (fun _ _ _ _ _ => trivial) (fun _ _ _ _ _ h e => by obtain ⟨w0, w1, h1, h2, f0⟩ := h; exact ⟨w0, w1, h1, h2, f0.up e⟩) (fun a190 x191 _ _ _ B192 H193 Q197 iv196 S194 e195 tg F => ?_) (fun a203 _ _ B198 H199 iv202 S200 e201 F => ?_)
        · obtain ⟨w189_1i, j189_5i, rfl, rfl, r204⟩ := iv196
          obtain ⟨v206, r207, rfl⟩ := tg
          obtain ⟨x209, h210, F⟩ := Fin.of F
          refine s_if S194 (et_din C dkI ((ee_unopt (ee_v (VS.var tb_heads_of 5 5) rfl r207) h210)).toB (ev_ownDI (VS.var tb_heads_of 1 1) rfl (List.mem_of_getElem? (i := 1) rfl) r204)) (fun z211 B212 H213 S214 e215 => ?_) (fun z211 B216 H217 S218 e219 => ?_)
          · replace F := Fin.tt F z211
            exact s_raise1 (XO _ _ _) C (by decide) ZI_Double (VS.gl tb_heads_of 10) S214 (ev_v (VS.var tb_heads_of 3 3) rfl rfl) F
          · replace F := Fin.ff F z211
            refine WSs.nil ?_
            obtain ⟨x220, h221, F⟩ := Fin.of F
            obtain ⟨x222, h223, F⟩ := Fin.of F
            obtain ⟨h224, F⟩ := Fin.need F
            refine s_dputI C S218 (VS.var tb_heads_of 1 1) rfl (k := 1) rfl (r204.up e219) (ee_fst (ee_rowL (ee_v (VS.var tb_heads_of 4 4) rfl (Rel.mono _ ((((e142.trans e153).trans e161).trans e195).trans e219) r135)) h221)) ((ee_unopt (ee_v (VS.var tb_heads_of 5 5) rfl (Rel.mono _ e219 r207)) h223)).toB h224 (fun u225 B226 H227 S228 e229 r230 => ?_)
            exact WSs.nil ⟨(dput a190 x222 x220.1), _, _, F, S228, (e219.trans e229), ⟨u225, _, rfl, rfl, r230⟩⟩
        · obtain ⟨w189_1, j189_5, rfl, rfl, r208⟩ := iv202
          refine WSs.nil ?_
          exact WSs.nil ⟨((a116.1 ++ [x154.1]), a203), _, _, F, S200, (((e142.trans e153).trans e161).trans e201), ⟨(w115_2i ++ [v157]), w189_1, _, _, _, rfl, rfl, (pimp r162 fun _ _ z => Rel.mono _ e201 z), r208⟩⟩
    · replace F := Fin.ff F z138
      refine WSs.nil ?_
      exact WSs.nil ⟨(a116.1, a116.2), _, _, F, S233, e234, ⟨w115_2i, w115_1i, _, _, _, rfl, rfl, (pimp r130 fun _ _ z => Rel.mono _ e234 z), (r131.up e234)⟩⟩
  · obtain ⟨w115_2, w115_1, j115_5, j115_3, j115_4, rfl, rfl, r136, r137⟩ := iv128
    obtain ⟨Bk238, S235, e236, r237⟩ := rdi_keep (R := rStr) S126 (k := 1) rfl r137
    exact s_retE S235 (ee_v (VS.var tb_heads_of 1 1) rfl r237) F
/-! Rules___init__ -/
abbrev st_Rules___init__ : Stmt := inClass (topS 22) 0
abbrev N_Rules___init__ : List Str := ["self", "heads", "sides"]
theorem tb_Rules___init__ : nmOk (defScope st_Rules___init__) [("self", .local), ("heads", .local), ("sides", .local)] = true := by decide +kernel
theorem sc_Rules___init__ : FnScope N_Rules___init__ ["self", "heads", "sides"] (defScope st_Rules___init__) := ⟨rfl, rfl, rfl, by decide +kernel, rfl, by decide +kernel, by decide +kernel⟩
def m_Rules___init__ (heads : (List (Int × Str))) (sides : (List (Bool × (List Str) × (List Str)))) : Res Rul := Res.ok (⟨heads, sides⟩ : Rul)
abbrev args_Rules___init__ (CT CR : Addr) : (List (Int × Str)) × (List (Bool × (List Str) × (List Str))) → AR := fun d => (aK (rDI rStr) d.1 (aK (rLst (rT3 rBool (rLst rStr) (rLst rStr))) d.2 aN))
abbrev sp_Rules___init__ (CT CR : Addr) : Sp := SpInitR CR (args_Rules___init__ CT CR) (fun d => m_Rules___init__ d.1 d.2)
theorem body_Rules___init__ {X : Cx} {CT CR : Addr} (C : Cok X 0) (VS : Scp X N_Rules___init__ (defScope st_Rules___init__)) (fn : ∀ x, X.fn x = true) (T : Blt X.mg) (TR : RulTxt X.K CR)  : ∀ (B H0 : Hp) (a0 dx : Addr) (us : List V) (d : (List (Int × Str)) × (List (Bool × (List Str) × (List Str)))) (Q : VK), H0 a0 = none → Sx B H0 → Tx H0 B → (args_Rules___init__ CT CR d).r us B H0 → Fin (kRul CR a0 dx ⟨B, H0⟩ Q) NoErr (m_Rules___init__ d.1 d.2) →
    WSs X (defBody st_Rules___init__) { nx := fun _ H' => Q .non H', rt := Q } (start N_Rules___init__ (.ref a0 :: us)) (upd H0 a0 (.ins CR dx [])) := by
  rintro B H0 a0 dx us ⟨heads, sides⟩ Q h0 hb ht ⟨v2, _, rfl, r2_, ⟨v3, _, rfl, r3_, rfl⟩⟩ F
  have S0 := (Stt.enter hb ht).alloc (o := .ins CR dx []) h0 (fun ys z => by cases z)
  refine s_fset (k := 0) S0 (VS.var tb_Rules___init__ 0 0) rfl rfl TR.cls TR.n_heads (ee_v (VS.var tb_Rules___init__ 1 1) rfl r2_) (Nat.le_of_ble_eq_true rfl) rfl (fun d1 B2 H3 S4 e5 r6 => ?_)
  refine s_fset (k := 0) S4 (VS.var tb_Rules___init__ 0 0) rfl rfl TR.cls TR.n_sides (ee_v (VS.var tb_Rules___init__ 2 2) rfl (Rel.mono _ e5 r3_)) (Nat.le_of_ble_eq_true rfl) rfl (fun d7 B8 H9 S10 e11 r12 => ?_)
  exact WSs.nil (F _ _ _ _ S10 (Rel.mono _ e11 r6) r12)
/-! read_rules -/
abbrev st_read_rules : Stmt := topS 24
abbrev N_read_rules : List Str := ["writing", "told", "at", "row", "found", "heads", "known", "word"]
theorem tb_read_rules : nmOk (defScope st_read_rules) [("writing", .local), ("told", .local), ("at", .local), ("row", .local), ("found", .local), ("heads", .local), ("known", .cell), ("enumerate", .globalImplicit), ("rows_of", .globalImplicit), ("row_read", .globalImplicit), ("NoRow", .globalImplicit), ("heads_of", .globalImplicit), ("list", .globalImplicit), ("OWN_WORDS", .globalImplicit), ("len", .globalImplicit), ("all", .globalImplicit), ("NoKind", .globalImplicit), ("Rules", .globalImplicit)] = true := by decide +kernel
theorem sc_read_rules : FnScope N_read_rules ["writing"] (defScope st_read_rules) := ⟨rfl, rfl, rfl, by decide +kernel, rfl, by decide +kernel, by decide +kernel⟩
abbrev csc_read_rules_c1 : Scope := { kind := .function, names := [(".0", .local), ("word", .local), ("known", .free)], isGenerator := false, isCoroutine := false, more := [] }
theorem tb_read_rules_c1 : nmOk (relS csc_read_rules_c1 (defScope st_read_rules)) [("word", .local), ("known", .cell)] = true := by decide +kernel
theorem bk_read_rules_c1 : blkC N_read_rules (defScope st_read_rules) csc_read_rules_c1 [("word", 7)] = true := by decide +kernel
abbrev csc_read_rules_c2 : Scope := { kind := .function, names := [(".0", .local), ("row", .local), ("len", .globalImplicit)], isGenerator := false, isCoroutine := false, more := [] }
theorem tb_read_rules_c2 : nmOk (relS csc_read_rules_c2 (defScope st_read_rules)) [("row", .local), ("len", .globalImplicit)] = true := by decide +kernel
theorem bk_read_rules_c2 : blkC N_read_rules (defScope st_read_rules) csc_read_rules_c2 [("row", 3)] = true := by decide +kernel
def m_read_rules (writing : Str) : Res Rul := (m_rows_of writing).sure.bind fun r8 => (forM (fun (a39 : (List RowT)) (x40 : (Int × Str)) => ((m_row_read x40.2).sure.bind fun r58 => if (r58).isNone = true then Res.err ⟨"NoRow", [("at", .int x40.1)]⟩ else (Res.of (r58)).bind fun x75 => Res.need (a39.length < sizeLine) (Res.ok (a39 ++ [x75])) : Res (List RowT))) (enumI 1 r8) ([] : List RowT)).bind fun (a52 : (List RowT)) => (m_heads_of a52).bind fun r88 => Res.need (((["any", "edge", "other"] : List Str)).length + ((r88.map (·.2))).length ≤ sizeLine) ((forM (fun (a126 : Unit) (x127 : (Int × RowT)) => ((if (decide ((lenRow x127.2) = 3)) = true then (Res.of (rowR x127.2)).bind fun x144 => (Res.of (rowR x127.2)).bind fun x146 => Res.need ((x144.2.1).length + (x146.2.2).length ≤ sizeLine) (Res.ok (!((((x144.2.1 ++ x146.2.2).map fun i149 => (decide (i149 ∈ ((["any", "edge", "other"] : List Str) ++ (r88.map (·.2))))))).all id))) else Res.ok false).sure.bind fun b150 => if b150 = true then Res.err ⟨"NoKind", [("at", .int x127.1)]⟩ else Res.ok () : Res Unit)) (enumI 1 a52) ()).bind fun (a139 : Unit) => (mfM (fun i162 : RowT => Res.ok (decide ((lenRow i162) = 3))) (fun i162 => (Res.of (rowR i162)).bind fun x163 => Res.ok x163) a52).sure.bind fun l165 => (m_Rules___init__ r88 l165).sure.bind fun r167 => Res.ok r167)
abbrev args_read_rules (CT CR : Addr) : Str → AR := fun d => (aC rStr d aN)
abbrev sp_read_rules (CT CR : Addr) (mg : MG) : Sp := SpX mg (args_read_rules CT CR) (kE (rRul CR)) (fun d => m_read_rules d)
theorem body_read_rules {X : Cx} {CT CR : Addr} (C : Cok X 3) (VS : Scp X N_read_rules (defScope st_read_rules)) (fn : ∀ x, X.fn x = true) (T : Blt X.mg) (TR : RulTxt X.K CR) (G_rows_of : Cal X 1 "rows_of" ["writing"] (sp_rows_of CT CR)) (G_row_read : Cal X 3 "row_read" ["row"] (sp_row_read CT CR)) (G_heads_of : CalX X 3 "heads_of" ["told"] (sp_heads_of CT CR X.mg)) (G_Rules___init__ : MkT X 1 "Rules" CR ["self", "heads", "sides"] (sp_Rules___init__ CT CR)) (ZI_NoRow : RzI X.prog X.w X.K X.mg X.base "NoRow" "at" ["self", "at"]) (ZI_NoKind : RzI X.prog X.w X.K X.mg X.base "NoKind" "at" ["self", "at"]) (GT_OWN_WORDS : GTup X.K X.mg "OWN_WORDS" (["any", "edge", "other"] : List Str)) : ∀ (B H : Hp) (vs : List V) (d : Str) (Q : VK) (Er : Err → Prop), (∀ own B2 σ, XOk X ⟨B, H⟩ own B2 σ Er) → Sx B H → Tx H B → (args_read_rules CT CR d).r vs B H → Fin ((kE (rRul CR)) ⟨B, H⟩ Q) Er (m_read_rules d) →
    WSs X (defBody st_read_rules) { nx := fun _ H' => Q .non H', rt := Q } (start N_read_rules vs) H := by
  rintro B H vs writing Q Er XO hb ht ⟨_, _, rfl, rfl, rfl⟩ F
  have S0 := Stt.enter hb ht
  refine s_asgL C (VS.slot tb_read_rules fn 1 1) S0 (el_nil (R := rRow)) (fun p5 u6 B1 H2 S3 e4 r7 => ?_)
  obtain ⟨r8, h9, F⟩ := Fin.getS F
  refine s_forM C (tg_pair (R := rInt) (S := rStr) C (VS.slot tb_read_rules fn 2 2) (VS.slot tb_read_rules fn 3 3)) S3 (ei_enumS (VS.gl tb_read_rules 7) T.enumerate (by decide) ((el_call C G_rows_of (by decide) (VS.gl tb_read_rules 8) (d := (writing)) (as_cons (ev_v (VS.var tb_read_rules 0 0) rfl rfl) as_nil) h9)).toE) F (fun (a : (List RowT)) σ' own' B' => ∃ (w38_1 : List V), ∃ (j38_4 : Option V), ∃ (j38_2 : Option V), ∃ (j38_3 : Option V), σ' = [some (.str writing), some (.ref p5), j38_2, j38_3, j38_4, none, none, none] ∧ own' = [(p5, .lst w38_1)] ∧ Paired (rRow.r B') w38_1 a)
      (fun Bz e => ⟨u6, _, _, _, rfl, rfl, (pimp r7 fun _ _ z => Rel.mono _ e z)⟩) (fun _ _ _ _ _ => trivial) (fun _ _ _ _ _ h e => by obtain ⟨w0, w1, w2, w3, h1, h2, f0⟩ := h; exact ⟨w0, w1, w2, w3, h1, h2, pimp f0 fun _ _ z => Rel.mono _ e z⟩) (fun a39 x40 _ _ _ B41 H42 Q46 iv45 S43 e44 tg F => ?_) (fun a52 _ _ B47 H48 iv51 S49 e50 F => ?_)
  · obtain ⟨w38_1i, j38_4i, j38_2i, j38_3i, rfl, rfl, r53⟩ := iv45
    obtain ⟨v55, v56, rfl, rfl, rfl⟩ := tg
    obtain ⟨r58, h59, F⟩ := Fin.getS F
    refine s_asg C (VS.slot tb_read_rules fn 4 4) S43 (ee_call C G_row_read (by decide) (VS.gl tb_read_rules 9) (d := (x40.2)) (as_cons (ev_v (VS.var tb_read_rules 3 3) rfl rfl) as_nil) h59) (fun v64 B60 H61 S62 e63 r65 => ?_)
    refine s_if S62 (c_isN.et ((ee_v (VS.var tb_read_rules 4 4) rfl r65)).toB ev_n) (fun z66 B67 H68 S69 e70 => ?_) (fun z66 B71 H72 S73 e74 => ?_)
    · replace F := Fin.tt F z66
      exact s_raise1 (XO _ _ _) C (by decide) ZI_NoRow (VS.gl tb_read_rules 10) S69 (ev_v (VS.var tb_read_rules 2 2) rfl rfl) F
    · replace F := Fin.ff F z66
      refine WSs.nil ?_
      obtain ⟨x75, h76, F⟩ := Fin.of F
      obtain ⟨h77, F⟩ := Fin.need F
      refine s_append S73 (VS.var tb_read_rules 1 1) rfl (k := 0) rfl (pimp r53 fun _ _ z => Rel.mono _ (e63.trans e74) z) (ee_unopt (ee_v (VS.var tb_read_rules 4 4) rfl (Rel.mono _ e74 r65)) h76) h77 (fun v78 B79 H80 S81 e82 r83 => ?_)
      exact WSs.nil ⟨(a39 ++ [x75]), _, _, F, S81, ((e63.trans e74).trans e82), ⟨(w38_1i ++ [v78]), _, _, _, rfl, rfl, r83⟩⟩
  · obtain ⟨w38_1, j38_4, j38_2, j38_3, rfl, rfl, r57⟩ := iv51
    obtain ⟨Bk87, S84, e85, r86⟩ := rl_keep (R := rRow) S49 (k := 0) rfl r57
    rcases Fin.getX F with ⟨er90, h89, F⟩ | ⟨r88, h89, F⟩
    · exact s_asgNev C (VS.slot tb_read_rules fn 5 5) S84 (ee_errX (XO _ _ _) C G_heads_of (by decide) (VS.gl tb_read_rules 11) (d := (a52)) (ak_cons (ee_v (VS.var tb_read_rules 1 1) rfl r86) as_nil) h89 F)
    refine s_asg C (VS.slot tb_read_rules fn 5 5) S84 (ee_callX C G_heads_of (by decide) (VS.gl tb_read_rules 11) (d := (a52)) (ak_cons (ee_v (VS.var tb_read_rules 1 1) rfl r86) as_nil) h89) (fun v95 B91 H92 S93 e94 r96 => ?_)
    obtain ⟨h97, F⟩ := Fin.need F
    refine s_asg C (VS.slot tb_read_rules fn 6 6) S93 ((el_cat ((el_listGT GT_OWN_WORDS (VS.gl tb_read_rules 12) T.list (VS.gl tb_read_rules 13))).toB ((el_listVals C.calm (VS.gl tb_read_rules 12) T.list (ee_v (VS.var tb_read_rules 5 5) rfl r96))).toB h97)).toE (fun v102 B98 H99 S100 e101 r103 => ?_)
    refine s_forM C (tg_pair (R := rInt) (S := rRow) C (VS.slot tb_read_rules fn 2 2) (VS.slot tb_read_rules fn 3 3)) S100 (ei_enumS (VS.gl tb_read_rules 7) T.enumerate (by decide) (ee_v (VS.var tb_read_rules 1 1) rfl (Rel.mono _ (e94.trans e101) r86))) F (fun (a : Unit) σ' own' B' => ∃ (j125_2 : Option V), ∃ (j125_3 : Option V), σ' = [some (.str writing), some (.ref p5), j125_2, j125_3, j38_4, some v95, some v102, none] ∧ own' = [])
        (fun Bz e => ⟨_, _, rfl, rfl⟩) (fun _ _ _ _ _ => trivial) (fun _ _ _ _ _ h e => by obtain ⟨w0, w1, h1, h2⟩ := h; exact ⟨w0, w1, h1, h2⟩) (fun a126 x127 _ _ _ B128 H129 Q133 iv132 S130 e131 tg F => ?_) (fun a139 _ _ B134 H135 iv138 S136 e137 F => ?_)
    · obtain ⟨j125_2i, j125_3i, rfl, rfl⟩ := iv132
      obtain ⟨v141, v142, rfl, r143, rfl⟩ := tg
      obtain ⟨b150, h151, F⟩ := Fin.getS F
      refine s_if S130 ((ew_and (c_eqI.et (ev_lenRow (VS.gl tb_read_rules 14) T.len ((ee_v (VS.var tb_read_rules 3 3) rfl r143)).toB) ev_i) (fun hz => by
                                                                have q152 := Res.tt_ok h151 hz
                                                                obtain ⟨x144, h145, q152⟩ := Res.of_ok q152
                                                                obtain ⟨x146, h147, q152⟩ := Res.of_ok q152
                                                                obtain ⟨h148, q152⟩ := Res.need_ok q152
                                                                have q152 := Res.ok_inj q152
                                                                rw [← q152]
                                                                exact (ew_and1 (et_not (et_val (ev_all C.calm (VS.gl tb_read_rules 15) T.all ((el_lc (S := rBool) C (VS.blk bk_read_rules_c1) (ei_E ((el_cat (ev_t31 ((ee_rowR (ee_v (VS.var tb_read_rules 3 3) rfl r143) h145)).toB) (ev_t32 ((ee_rowR (ee_v (VS.var tb_read_rules 3 3) rfl r143) h147)).toB) h148)).toE) (fun _ _ => trivial) (fun Xb hX => tg_name (R := rStr) (hX.cok C) (hX.slot VS tb_read_rules_c1 7 0)) (mfM_map (fun i149 : Str => (decide (i149 ∈ ((["any", "edge", "other"] : List Str) ++ (r88.map (·.2)))))) _)
                                                            (fun Xb i149 σ2 acc Dd Bc1 Hc1 b hX1 S1001 ec1 tg hb => by
                                                                obtain ⟨v1001, rfl, rfl⟩ := tg
                                                                have T1 : Blt Xb.mg := by rw [hX1.mg]; exact T
                                                                have TR1 : RulTxt Xb.K CR := by rw [hX1.K]; exact TR
                                                                have hb := Res.ok_inj hb
                                                                subst hb
                                                                exact ets_nil
                                                            )
                                                            (fun Xb i149 y σ2 acc Dd Bc1 Hc1 hX1 S1001 ec1 tg hb hf => by
                                                                obtain ⟨v1001, rfl, rfl⟩ := tg
                                                                have T1 : Blt Xb.mg := by rw [hX1.mg]; exact T
                                                                have TR1 : RulTxt Xb.K CR := by rw [hX1.K]; exact TR
                                                                have hf := Res.ok_inj hf
                                                                subst hf
                                                                exact ((ev_in (ev_v ((hX1.scp VS).var tb_read_rules_c1 7 0) rfl rfl) ((ee_v ((hX1.scp VS).var tb_read_rules_c1 6 1) rfl (Rel.mono _ (e131.trans ec1) r103))).toB)).toE
                                                            ) (fun x B3 σ2 h => by obtain ⟨v, _, rfl⟩ := h; rfl) (fun x B3 B4 σ2 ⟨v, r, q⟩ e => ⟨v, Rel.mono _ e r, q⟩))).toB))))
                                                            ) (fun hz => (Res.ok_inj (Res.ff_ok h151 hz)).symm))).t (fun z153 B154 H155 S156 e157 => ?_) (fun z153 B158 H159 S160 e161 => ?_)
      · replace F := Fin.tt F z153
        exact s_raise1 (XO _ _ _) C (by decide) ZI_NoKind (VS.gl tb_read_rules 16) S156 (ev_v (VS.var tb_read_rules 2 2) rfl rfl) F
      · replace F := Fin.ff F z153
        refine WSs.nil ?_
        exact WSs.nil ⟨(), _, _, F, S160, e161, ⟨_, _, rfl, rfl⟩⟩
    · obtain ⟨j125_2, j125_3, rfl, rfl⟩ := iv138
      obtain ⟨l165, h166, F⟩ := Fin.getS F
      obtain ⟨r167, h168, F⟩ := Fin.getS F
      exact s_retE S136 (ee_makeR C G_Rules___init__ (by decide) (VS.gl tb_read_rules 17) (d := (r88, l165)) (ak_cons (ee_v (VS.var tb_read_rules 5 5) rfl (Rel.mono _ (e101.trans e137) r96)) (ak_cons ((el_lc (S := (rT3 rBool (rLst rStr) (rLst rStr))) C (VS.blk bk_read_rules_c2) (ei_E (ee_v (VS.var tb_read_rules 1 1) rfl (Rel.mono _ ((e94.trans e101).trans e137) r86))) (fun _ _ => trivial) (fun Xb hX => tg_name (R := rRow) (hX.cok C) (hX.slot VS tb_read_rules_c2 3 0)) h166
                                                            (fun Xb i162 σ2 acc Dd Bc2 Hc2 b hX2 S1002 ec2 tg hb => by
                                                                obtain ⟨v1002, rv2, rfl⟩ := tg
                                                                have T2 : Blt Xb.mg := by rw [hX2.mg]; exact T
                                                                have TR2 : RulTxt Xb.K CR := by rw [hX2.K]; exact TR
                                                                have hb := Res.ok_inj hb
                                                                subst hb
                                                                exact ets_one (c_eqI.et (ev_lenRow ((hX2.scp VS).gl tb_read_rules_c2 1) T2.len ((ee_v ((hX2.scp VS).var tb_read_rules_c2 3 0) rfl rv2)).toB) ev_i)
                                                            )
                                                            (fun Xb i162 y σ2 acc Dd Bc2 Hc2 hX2 S1002 ec2 tg hb hf => by
                                                                obtain ⟨v1002, rv2, rfl⟩ := tg
                                                                have T2 : Blt Xb.mg := by rw [hX2.mg]; exact T
                                                                have TR2 : RulTxt Xb.K CR := by rw [hX2.K]; exact TR
                                                                obtain ⟨x163, h164, hf⟩ := Res.of_ok hf
                                                                have hf := Res.ok_inj hf
                                                                subst hf
                                                                exact (ee_rowR (ee_v ((hX2.scp VS).var tb_read_rules_c2 3 0) rfl rv2) h164)
                                                            ) (fun x B3 σ2 h => by obtain ⟨v, _, rfl⟩ := h; rfl) (fun x B3 B4 σ2 ⟨v, r, q⟩ e => ⟨v, Rel.mono _ e r, q⟩))).toE as_nil)) h168) F
/-! l_told -/
abbrev st_l_told : Stmt := topS 34
abbrev N_l_told : List Str := ["_law_writing", "_law_told_here", "_law_found", "e", "_law_sorts", "_law_others"]
theorem tb_l_told : nmOk (defScope st_l_told) [("_law_writing", .local), ("_law_told_here", .local), ("_law_found", .local), ("e", .local), ("_law_sorts", .local), ("_law_others", .local), ("read_rules", .globalImplicit), ("FormError", .globalImplicit), ("isinstance", .globalImplicit), ("NoRow", .globalImplicit), ("Double", .globalImplicit), ("NoKind", .globalImplicit), ("ValueError", .globalImplicit), ("NoStep", .globalImplicit), ("Nothing", .globalImplicit), ("TooMany", .globalImplicit), ("Twice", .globalImplicit), ("Rules", .globalImplicit)] = true := by decide +kernel
theorem sc_l_told : FnScope N_l_told ["_law_writing"] (defScope st_l_told) := ⟨rfl, rfl, rfl, by decide +kernel, rfl, by decide +kernel, by decide +kernel⟩
def m_l_told (l_writing : Str) : Res (List (Int ⊕ Str)) := (((m_read_rules l_writing).bind fun r68 => Res.ok (Sum.inr ((some r68), ([] : (List (Int ⊕ Str))))) : Res ((List (Int ⊕ Str)) ⊕ ((Option Rul) × (List (Int ⊕ Str))))).catch (hdl (["Double", "NoKind", "NoRow"] : List Str) fun (er83 : Err) => (Res.of (atI [((["NoRow"] : List Str).contains er83.cls), ((["Double"] : List Str).contains er83.cls), ((["NoKind"] : List Str).contains er83.cls), ((["Double", "NoKind", "NoRow"] : List Str).contains er83.cls)] 3)).bind fun x100 => if (x100 && ((!(([] : List Str).contains er83.cls)) && (decide (((([((["NoRow"] : List Str).contains er83.cls), ((["Double"] : List Str).contains er83.cls), ((["NoKind"] : List Str).contains er83.cls), ((["Double", "NoKind", "NoRow"] : List Str).contains er83.cls)]).count true : Nat) : Int) = 2)))) = true then (Res.of (ixOf ([((["NoRow"] : List Str).contains er83.cls), ((["Double"] : List Str).contains er83.cls), ((["NoKind"] : List Str).contains er83.cls), ((["Double", "NoKind", "NoRow"] : List Str).contains er83.cls)]) true)).bind fun x107 => (Res.of (fldI er83 "at")).bind fun x109 => Res.ok (Sum.inr (none, [(Sum.inl x107 : Int ⊕ Str), (Sum.inl x109 : Int ⊕ Str)])) else Res.ok (Sum.inr (none, [(Sum.inr ("other" : Str) : Int ⊕ Str)])))).bind (sel (fun u => Res.ok u) fun (a121 : ((Option Rul) × (List (Int ⊕ Str)))) => if ((decide (a121.2 = ([] : (List (Int ⊕ Str))))) && (!a121.1.isSome)) = true then Res.ok [(Sum.inr ("no rules" : Str) : Int ⊕ Str)] else Res.ok a121.2)
abbrev args_l_told (CT CR : Addr) : Str → AR := fun d => (aC rStr d aN)
abbrev sp_l_told (CT CR : Addr) : Sp := SpA (args_l_told CT CR) (kE (rTup rIS)) (fun d => m_l_told d)
theorem body_l_told {X : Cx} {CT CR : Addr} (C : Cok X 4) (VS : Scp X N_l_told (defScope st_l_told)) (fn : ∀ x, X.fn x = true) (T : Blt X.mg) (TR : RulTxt X.K CR) (G_read_rules : CalX X 4 "read_rules" ["writing"] (sp_read_rules CT CR X.mg)) (IB : IsB X.K) (I_NoRow : IsAll X.K X.mg (["Double", "NoKind", "NoRow"] : List Str) "NoRow" (["NoRow"] : List Str)) (I_Double : IsAll X.K X.mg (["Double", "NoKind", "NoRow"] : List Str) "Double" (["Double"] : List Str)) (I_NoKind : IsAll X.K X.mg (["Double", "NoKind", "NoRow"] : List Str) "NoKind" (["NoKind"] : List Str)) (J_ValueError : IsAllB X.K X.mg (["Double", "NoKind", "NoRow"] : List Str) "ValueError" "ValueError" (["Double", "NoKind", "NoRow"] : List Str)) (IT_NoStep_Nothing_TooMany_Twice : IsAllT X.K X.mg (["Double", "NoKind", "NoRow"] : List Str) (["NoStep", "Nothing", "TooMany", "Twice"] : List Str) ([] : List Str)) (KC_Twice : ∃ C, X.mg "Twice" = some (.ref C)) (KC_TooMany : ∃ C, X.mg "TooMany" = some (.ref C)) (KC_Nothing : ∃ C, X.mg "Nothing" = some (.ref C)) (KC_NoStep : ∃ C, X.mg "NoStep" = some (.ref C)) (NF_at : NoFld X.K X.mg (["Double", "NoKind", "NoRow"] : List Str) "at") (IC_Rules : InsC X.K X.mg "Rules" CR) (IN_Rules : InsN X.K CR) (EA_FormError : ExAll X.K X.mg (["Double", "NoKind", "NoRow"] : List Str) "FormError") (TX : Tp X) : ∀ (B H : Hp) (vs : List V) (d : Str) (Q : VK), Sx B H → Tx H B → (args_l_told CT CR d).r vs B H → Fin ((kE (rTup rIS)) ⟨B, H⟩ Q) NoErr (m_l_told d) →
    WSs X (defBody st_l_told) { nx := fun _ H' => Q .non H', rt := Q } (start N_l_told vs) H := by
  rintro B H vs l_writing Q hb ht ⟨_, _, rfl, rfl, rfl⟩ F
  have S0 := Stt.enter hb ht
  refine s_asg C (VS.slot tb_l_told fn 1 1) S0 (ee_tup (R := rIS) ea_nil) (fun v5 B1 H2 S3 e4 r6 => ?_)
  refine s_asg C (VS.slot tb_l_told fn 2 2) S3 (ee_none (R := (rRul CR))) (fun v11 B7 H8 S9 e10 r12 => ?_)
  refine s_tryN TX C (VS.slot tb_l_told fn 3 3) (Scp.kind VS tb_l_told 3) EA_FormError (VS.gl tb_l_told 7) S9 F (fun (a : ((Option Rul) × (List (Int ⊕ Str)))) σ' own' B' => ∃ (w13_2 : V), ∃ (w13_1 : V), ∃ (j13_4 : Option V), ∃ (j13_5 : Option V), σ' = [some (.str l_writing), some w13_1, some w13_2, none, j13_4, j13_5] ∧ own' = [] ∧ (rOpt (rRul CR)).r B' w13_2 a.1 ∧ (rTup rIS).r B' w13_1 a.2) (fun X _ Er tr127 C XO67 F => ?_) (fun X p er83 tr128 C B77 H78 _ S79 e80 hx81 hl82 F => ?_) (fun a121 _ _ B122 H123 iv126 S124 e125 F => ?_)
  · skip
    have VS := tr127.scp VS
    have fn := tr127.fns fn
    have T := tr127.blt T
    have TR := tr127.tr TR
    have G_read_rules : CalX X 4 "read_rules" ["writing"] (sp_read_rules CT CR X.mg) := by rw [tr127.mg]; exact tr127.calX G_read_rules
    have IB := tr127.isB IB
    have I_NoRow := tr127.isA I_NoRow
    have I_Double := tr127.isA I_Double
    have I_NoKind := tr127.isA I_NoKind
    have J_ValueError := tr127.isAB J_ValueError
    have IT_NoStep_Nothing_TooMany_Twice := tr127.isAT IT_NoStep_Nothing_TooMany_Twice
    have KC_Twice : ∃ C, X.mg "Twice" = some (.ref C) := by rw [tr127.mg]; exact KC_Twice
    have KC_TooMany : ∃ C, X.mg "TooMany" = some (.ref C) := by rw [tr127.mg]; exact KC_TooMany
    have KC_Nothing : ∃ C, X.mg "Nothing" = some (.ref C) := by rw [tr127.mg]; exact KC_Nothing
    have KC_NoStep : ∃ C, X.mg "NoStep" = some (.ref C) := by rw [tr127.mg]; exact KC_NoStep
    have NF_at := tr127.noFld NF_at
    have IC_Rules := tr127.isC IC_Rules
    have IN_Rules := tr127.isN IN_Rules
    have EA_FormError := tr127.exA EA_FormError
    rcases Fin.getX F with ⟨er70, h69, F⟩ | ⟨r68, h69, F⟩
    · exact s_asgNev C (VS.slot tb_l_told fn 2 2) S9 (ee_errX XO67 C G_read_rules (by decide) (VS.gl tb_l_told 6) (d := (l_writing)) (as_cons (ev_v (VS.var tb_l_told 0 0) rfl rfl) as_nil) h69 F)
    refine s_asg C (VS.slot tb_l_told fn 2 2) S9 (ee_some (ee_callX C G_read_rules (by decide) (VS.gl tb_l_told 6) (d := (l_writing)) (as_cons (ev_v (VS.var tb_l_told 0 0) rfl rfl) as_nil) h69)) (fun v75 B71 H72 S73 e74 r76 => ?_)
    exact WSs.nil ⟨((some r68), ([] : (List (Int ⊕ Str)))), _, _, F, S73, e74, ⟨_, _, _, _, rfl, rfl, r76, (Rel.mono _ (e10.trans e74) r6)⟩⟩
  · skip
    have VS := tr128.scp VS
    have fn := tr128.fns fn
    have T := tr128.blt T
    have TR := tr128.tr TR
    have G_read_rules : CalX X 4 "read_rules" ["writing"] (sp_read_rules CT CR X.mg) := by rw [tr128.mg]; exact tr128.calX G_read_rules
    have IB := tr128.isB IB
    have I_NoRow := tr128.isA I_NoRow
    have I_Double := tr128.isA I_Double
    have I_NoKind := tr128.isA I_NoKind
    have J_ValueError := tr128.isAB J_ValueError
    have IT_NoStep_Nothing_TooMany_Twice := tr128.isAT IT_NoStep_Nothing_TooMany_Twice
    have KC_Twice : ∃ C, X.mg "Twice" = some (.ref C) := by rw [tr128.mg]; exact KC_Twice
    have KC_TooMany : ∃ C, X.mg "TooMany" = some (.ref C) := by rw [tr128.mg]; exact KC_TooMany
    have KC_Nothing : ∃ C, X.mg "Nothing" = some (.ref C) := by rw [tr128.mg]; exact KC_Nothing
    have KC_NoStep : ∃ C, X.mg "NoStep" = some (.ref C) := by rw [tr128.mg]; exact KC_NoStep
    have NF_at := tr128.noFld NF_at
    have IC_Rules := tr128.isC IC_Rules
    have IN_Rules := tr128.isN IN_Rules
    have EA_FormError := tr128.exA EA_FormError
    refine s_asgE_h C (VS.slot tb_l_told fn 4 4) S79 ((el_lst (R := rBool) (ea_cons ((ev_isX IB C (VS.gl tb_l_told 8) T.isinstance (VS.gl tb_l_told 9) (VS.var tb_l_told 3 3) rfl hx81 (I_NoRow _ hl82))).toE (ea_cons ((ev_isX IB C (VS.gl tb_l_told 8) T.isinstance (VS.gl tb_l_told 10) (VS.var tb_l_told 3 3) rfl hx81 (I_Double _ hl82))).toE (ea_cons ((ev_isX IB C (VS.gl tb_l_told 8) T.isinstance (VS.gl tb_l_told 11) (VS.var tb_l_told 3 3) rfl hx81 (I_NoKind _ hl82))).toE (ea_cons ((ev_isXB IB C (VS.gl tb_l_told 8) T.isinstance (VS.gl tb_l_told 12) J_ValueError.1 (by decide +kernel) (VS.var tb_l_told 3 3) rfl hx81 (J_ValueError.2 _ hl82))).toE ea_nil)))))).toE (fun v88 B84 H85 S86 e87 r89 => ?_)
    refine s_asgB_h C (VS.slot tb_l_told fn 5 5) S86 (ev_isXT IB C (VS.gl tb_l_told 8) T.isinstance (VS.var tb_l_told 3 3) rfl (hx81.mono e87) hl82 IT_NoStep_Nothing_TooMany_Twice (ee_tup (ea_cons (ee_cls (VS.gl tb_l_told 13) KC_NoStep) (ea_cons (ee_cls (VS.gl tb_l_told 14) KC_Nothing) (ea_cons (ee_cls (VS.gl tb_l_told 15) KC_TooMany) (ea_cons (ee_cls (VS.gl tb_l_told 16) KC_Twice) ea_nil)))))) (fun B90 H91 S92 e93 => ?_)
    refine s_asgE_h C (VS.slot tb_l_told fn 1 1) S92 (ee_tup (R := rIS) (ea_cons ((ev_isR ev_s)).toE ea_nil)) (fun v98 B94 H95 S96 e97 r99 => ?_)
    obtain ⟨x100, h101, F⟩ := Fin.of F
    refine s_if S96 ((ew_and' (et_val (ev_ixL ((ee_v (VS.var tb_l_told 4 4) rfl (Rel.mono _ (e93.trans e97) r89))).toB ev_i h101)) fun _ => (ew_and' (et_not (et_val (ev_v (VS.var tb_l_told 5 5) rfl rfl))) fun _ => (ew_and1 (c_eqI.et (ev_cntF ((ee_v (VS.var tb_l_told 4 4) rfl (Rel.mono _ (e93.trans e97) r89))).toB ev_bl) ev_i))))).t (fun z102 B103 H104 S105 e106 => ?_) (fun z102 B117 H118 S119 e120 => ?_)
    · replace F := Fin.tt F z102
      obtain ⟨x107, h108, F⟩ := Fin.of F
      obtain ⟨x109, h110, F⟩ := Fin.of F
      refine s_asgE_h C (VS.slot tb_l_told fn 1 1) S105 (ee_tup (R := rIS) (ea_cons ((ev_isL (ev_ixOfF ((ee_v (VS.var tb_l_told 4 4) rfl (Rel.mono _ ((e93.trans e97).trans e106) r89))).toB ev_bl h108))).toE (ea_cons ((ev_isL (ev_fldI C (VS.var tb_l_told 3 3) rfl (hx81.mono (((e87.trans e93).trans e97).trans e106)) hl82 NF_at h110))).toE ea_nil))) (fun v115 B111 H112 S113 e114 r116 => ?_)
      refine WSs.nil ?_
      exact WSs.nil ⟨(none, [(Sum.inl x107 : Int ⊕ Str), (Sum.inl x109 : Int ⊕ Str)]), _, _, F, S113, ((((e87.trans e93).trans e97).trans e106).trans e114), ⟨_, _, _, _, rfl, rfl, (Rel.mono _ (((((e80.trans e87).trans e93).trans e97).trans e106).trans e114) r12), r116⟩⟩
    · replace F := Fin.ff F z102
      refine WSs.nil ?_
      exact WSs.nil ⟨(none, [(Sum.inr ("other" : Str) : Int ⊕ Str)]), _, _, F, S119, (((e87.trans e93).trans e97).trans e120), ⟨_, _, _, _, rfl, rfl, (Rel.mono _ ((((e80.trans e87).trans e93).trans e97).trans e120) r12), (Rel.mono _ e120 r99)⟩⟩
  · skip
    obtain ⟨w13_2, w13_1, j13_4, j13_5, rfl, rfl, r129, r130⟩ := iv126
    refine s_if S124 ((ew_and' ((c_eqP (R := (rTup rIS)) C.hu64).et ((ee_v (VS.var tb_l_told 1 1) rfl r130)).toB ((ee_tup (R := rIS) ea_nil)).toB) fun _ => (ew_and1 (et_not (et_val (ev_isCO IC_Rules IN_Rules rul_ins (VS.gl tb_l_told 8) T.isinstance (VS.gl tb_l_told 17) ((ee_v (VS.var tb_l_told 2 2) rfl r129)).toB)))))).t (fun z131 B132 H133 S134 e135 => ?_) (fun z131 B136 H137 S138 e139 => ?_)
    · replace F := Fin.tt F z131
      exact s_retE S134 (ee_tup (R := rIS) (ea_cons ((ev_isR ev_s)).toE ea_nil)) F
    · replace F := Fin.ff F z131
      refine WSs.nil ?_
      exact s_retE S138 (ee_v (VS.var tb_l_told 1 1) rfl (Rel.mono _ e139 r130)) F
/-! law -/
abbrev st_law : Stmt := topS 35
abbrev N_law : List Str := ["_law_script", "_law_rows_here", "_law_k", "_law_writing", "_law_due_here"]
theorem tb_law : nmOk (defScope st_law) [("_law_script", .local), ("_law_rows_here", .local), ("_law_k", .local), ("_law_writing", .local), ("_law_due_here", .local), ("range", .globalImplicit), ("min", .globalImplicit), ("len", .globalImplicit), ("_law_row", .globalImplicit), ("_law_spoilt", .globalImplicit), ("_law_at", .globalImplicit), ("_law_due", .globalImplicit), ("_law_rows", .globalImplicit), ("_law_told", .globalImplicit)] = true := by decide +kernel
theorem sc_law : FnScope N_law ["_law_script"] (defScope st_law) := ⟨rfl, rfl, rfl, by decide +kernel, rfl, by decide +kernel, by decide +kernel⟩
def m_law (l_script : (List Int)) : Res Bool := Res.need ((-8000000 : Int) ≤ 1 ∧ (1 : Int) ≤ 8000000 ∧ (-8000000 : Int) ≤ (if 25 < (((l_script).length : Int) - 2) then 25 else (((l_script).length : Int) - 2)) ∧ ((if 25 < (((l_script).length : Int) - 2) then 25 else (((l_script).length : Int) - 2)) : Int) ≤ 8000000) ((forM (fun (a27 : (List Str)) (x28 : Int) => ((Res.of (atI l_script x28)).bind fun x46 => (Res.of (atI l_script (x28 + 1))).bind fun x48 => (Res.of (atI l_script (x28 + 2))).bind fun x50 => (m_l_row x46 x48 x50).bind fun r52 => Res.need (a27.length < sizeLine) (Res.ok (a27 ++ [r52])) : Res (List Str))) (rangeS 1 (if 25 < (((l_script).length : Int) - 2) then 25 else (((l_script).length : Int) - 2)) 3) ([] : List Str)).bind fun (a40 : (List Str)) => Res.need ((a40.map (·.length)).sum + a40.length * ("\n" : Str).length ≤ 16777216) ((m_l_at l_script 0).bind fun r62 => (m_l_spoilt (Txt.join ("\n" : Str) a40) r62).bind fun r64 => (m_l_rows r64).bind fun r70 => (m_l_due r70).bind fun r72 => (m_l_told r64).bind fun r80 => (if (decide (r80 = r72)) = true then (m_l_told r64).bind fun r82 => Res.ok (decide (r82 = r72)) else Res.ok false).bind fun b84 => Res.ok b84))
abbrev args_law (CT CR : Addr) : (List Int) → AR := fun d => (aC (rLst rInt) d aN)
abbrev sp_law (CT CR : Addr) : Sp := SpA (args_law CT CR) (kE rBool) (fun d => m_law d)
theorem body_law {X : Cx} {CT CR : Addr} (C : Cok X 5) (VS : Scp X N_law (defScope st_law)) (fn : ∀ x, X.fn x = true) (T : Blt X.mg) (TR : RulTxt X.K CR) (G_l_row : Cal X 1 "_law_row" ["_law_way", "_law_one", "_law_two"] (sp_l_row CT CR)) (G_l_at : Cal X 1 "_law_at" ["_law_script", "_law_k"] (sp_l_at CT CR)) (G_l_spoilt : Cal X 1 "_law_spoilt" ["_law_writing", "_law_cell"] (sp_l_spoilt CT CR)) (G_l_rows : Cal X 1 "_law_rows" ["_law_writing"] (sp_l_rows CT CR)) (G_l_due : Cal X 3 "_law_due" ["_law_rows_here"] (sp_l_due CT CR)) (G_l_told : Cal X 5 "_law_told" ["_law_writing"] (sp_l_told CT CR)) : ∀ (B H : Hp) (vs : List V) (d : (List Int)) (Q : VK), Sx B H → Tx H B → (args_law CT CR d).r vs B H → Fin ((kE rBool) ⟨B, H⟩ Q) NoErr (m_law d) →
    WSs X (defBody st_law) { nx := fun _ H' => Q .non H', rt := Q } (start N_law vs) H := by
  rintro B H vs l_script Q hb ht ⟨v1, _, rfl, r1_, rfl⟩ F
  have S0 := Stt.enter hb ht
  refine s_asgL C (VS.slot tb_law fn 1 1) S0 (el_nil (R := rStr)) (fun p5 u6 B1 H2 S3 e4 r7 => ?_)
  obtain ⟨h8, F⟩ := Fin.need F
  refine s_forM C (tg_name (R := rInt) C (VS.slot tb_law fn 2 2)) S3 (ei_r3 (VS.gl tb_law 5) T.range ev_i (ev_min2 C.calm (VS.gl tb_law 6) T.min (ev_sub (ev_lenL (VS.gl tb_law 7) T.len (ev_v (VS.var tb_law 0 0) rfl (Rel.mono _ S3.h0.ex r1_))) ev_i) ev_i) ev_i h8 (by decide) (by decide)) F (fun (a : (List Str)) σ' own' B' => ∃ (w26_1 : List V), ∃ (j26_2 : Option V), σ' = [some v1, some (.ref p5), j26_2, none, none] ∧ own' = [(p5, .lst w26_1)] ∧ Paired (rStr.r B') w26_1 a)
      (fun Bz e => ⟨u6, _, rfl, rfl, (pimp r7 fun _ _ z => Rel.mono _ e z)⟩) (fun _ _ _ _ _ => trivial) (fun _ _ _ _ _ h e => by obtain ⟨w0, w1, h1, h2, f0⟩ := h; exact ⟨w0, w1, h1, h2, pimp f0 fun _ _ z => Rel.mono _ e z⟩) (fun a27 x28 _ _ _ B29 H30 Q34 iv33 S31 e32 tg F => ?_) (fun a40 _ _ B35 H36 iv39 S37 e38 F => ?_)
  · obtain ⟨w26_1i, j26_2i, rfl, rfl, r41⟩ := iv33
    obtain ⟨v43, rfl, rfl⟩ := tg
    obtain ⟨x46, h47, F⟩ := Fin.of F
    obtain ⟨x48, h49, F⟩ := Fin.of F
    obtain ⟨x50, h51, F⟩ := Fin.of F
    obtain ⟨r52, h53, F⟩ := Fin.get F
    obtain ⟨h54, F⟩ := Fin.need F
    refine s_append S31 (VS.var tb_law 1 1) rfl (k := 0) rfl r41 (ee_call C G_l_row (by decide) (VS.gl tb_law 8) (d := (x46, x48, x50)) (as_cons (ev_ixL (ev_v (VS.var tb_law 0 0) rfl (Rel.mono _ S31.h0.ex r1_)) (ev_v (VS.var tb_law 2 2) rfl rfl) h47) (as_cons (ev_ixL (ev_v (VS.var tb_law 0 0) rfl (Rel.mono _ S31.h0.ex r1_)) (ev_add (ev_v (VS.var tb_law 2 2) rfl rfl) ev_i) h49) (as_cons (ev_ixL (ev_v (VS.var tb_law 0 0) rfl (Rel.mono _ S31.h0.ex r1_)) (ev_add (ev_v (VS.var tb_law 2 2) rfl rfl) ev_i) h51) as_nil))) h53) h54 (fun v55 B56 H57 S58 e59 r60 => ?_)
    exact WSs.nil ⟨(a27 ++ [r52]), _, _, F, S58, e59, ⟨(w26_1i ++ [v55]), _, rfl, rfl, r60⟩⟩
  · obtain ⟨w26_1, j26_2, rfl, rfl, r45⟩ := iv39
    obtain ⟨h61, F⟩ := Fin.need F
    obtain ⟨r62, h63, F⟩ := Fin.get F
    obtain ⟨r64, h65, F⟩ := Fin.get F
    refine s_asgS C (VS.slot tb_law fn 3 3) S37 ((ee_call C G_l_spoilt (by decide) (VS.gl tb_law 9) (d := ((Txt.join ("\n" : Str) a40), r62)) (as_cons (ev_join ev_s (ev_own (VS.var tb_law 1 1) rfl (List.mem_of_getElem? (i := 0) rfl) r45) h61) (as_cons ((ee_call C G_l_at (by decide) (VS.gl tb_law 10) (d := (l_script, 0)) (as_cons (ev_v (VS.var tb_law 0 0) rfl (Rel.mono _ S37.h0.ex r1_)) (as_cons ev_i as_nil)) h63)).toB as_nil)) h65)).toB (fun B66 H67 S68 e69 => ?_)
    obtain ⟨r70, h71, F⟩ := Fin.get F
    obtain ⟨r72, h73, F⟩ := Fin.get F
    refine s_asg C (VS.slot tb_law fn 4 4) S68 (ee_call C G_l_due (by decide) (VS.gl tb_law 11) (d := (r70)) (as_cons ((el_call C G_l_rows (by decide) (VS.gl tb_law 12) (d := (r64)) (as_cons (ev_v (VS.var tb_law 3 3) rfl rfl) as_nil) h71)).toB as_nil) h73) (fun v78 B74 H75 S76 e77 r79 => ?_)
    obtain ⟨r80, h81, F⟩ := Fin.get F
    obtain ⟨b84, h85, F⟩ := Fin.get F
    exact s_retE S76 ((ev_and ((c_eqP (R := (rTup rIS)) C.hu64).ev ((ee_call C G_l_told (by decide) (VS.gl tb_law 13) (d := (r64)) (as_cons (ev_v (VS.var tb_law 3 3) rfl rfl) as_nil) h81)).toB ((ee_v (VS.var tb_law 4 4) rfl r79)).toB) (fun hz => by
                                                                have q86 := Res.tt_ok h85 hz
                                                                obtain ⟨r82, h83, q86⟩ := Res.bind_ok q86
                                                                have q86 := Res.ok_inj q86
                                                                rw [← q86]
                                                                exact (ev_one ((c_eqP (R := (rTup rIS)) C.hu64).ev ((ee_call C G_l_told (by decide) (VS.gl tb_law 13) (d := (r64)) (as_cons (ev_v (VS.var tb_law 3 3) rfl rfl) as_nil) h83)).toB ((ee_v (VS.var tb_law 4 4) rfl r79)).toB))
                                                            ) (fun hz => (Res.ok_inj (Res.ff_ok h85 hz)).symm))).toE F
abbrev M60 : Int := powI 10 60
theorem m60 : M60 = 1000000000000000000000000000000000000000000000000000000000000 := by decide +kernel
/-! ### numbers, written -/
open TL in
theorem str_tl {n : Int} (h : 0 ≤ n) : tl (strI n) = numL n.toNat := by
  obtain ⟨k, rfl⟩ := Int.eq_ofNat_of_zero_le h
  exact tl_num k
theorem pow60 : (M60 : Int) = ((10 ^ 60 : Nat) : Int) := by rw [m60]; decide
def Nm (n : Int) : Prop := 0 ≤ n ∧ n < M60
theorem Nm.nat {n : Int} (h : Nm n) : n.toNat < 10 ^ 60 := by
  obtain ⟨h1, h2⟩ := h
  rw [pow60] at h2
  omega
theorem Nm.log {n : Int} (h : Nm n) : n.natAbs.log2 < 1920 := by
  have h1 := h.nat
  have h2 : n.natAbs = n.toNat := by have := h.1; omega
  rw [h2]
  by_cases z : n.toNat = 0
  · rw [z]; decide
  · refine (Nat.log2_lt z).mpr (Nat.lt_of_lt_of_le h1 ?_)
    decide +kernel
theorem Nm.len {n : Int} (h : Nm n) : (strI n).length ≤ 60 := by
  rw [TL.len_tl, str_tl h.1]
  exact TL.numL_len (by decide) h.nat
theorem Nm.read {n : Int} (h : Nm n) : PySem.intText? (strI n) = some n := by
  have hl := TL.numL_len (k := 60) (by decide) h.nat
  have h1 := h.1
  obtain ⟨k, rfl⟩ := Int.eq_ofNat_of_zero_le h1
  exact TL.int_num (by rw [Int.toNat_natCast] at hl; omega)
theorem digits_of {n : Int} (h : 0 ≤ n) : ∀ c ∈ TL.tl (strI n), 48 ≤ c ∧ c ≤ 57 := fun c hc => by
  rw [str_tl h] at hc
  exact TL.numL_digits _ c hc
theorem num_ne {n : Int} (h : 0 ≤ n) {s : Str} {c : Nat} (hc : c ∈ TL.tl s) (hd : c < 48 ∨ 57 < c) : strI n ≠ s := fun z => by
  have := digits_of h c (by rw [z]; exact hc)
  omega
theorem num_nil {n : Int} (h : 0 ≤ n) : TL.tl (strI n) ≠ [] := by
  rw [str_tl h]
  exact TL.numL_ne _
theorem numL_head : ∀ (n : Nat), 1 ≤ n → ∀ c r, TL.numL n = c :: r → c ≠ 48 := by
  intro n
  induction n using Nat.strongRecOn with
  | _ n ih =>
    intro h1 c r e
    by_cases h : n < 10
    · rw [TL.numL_lt h] at e
      cases e
      omega
    · rw [TL.numL_step (by omega)] at e
      cases hq : TL.numL (n / 10) with
      | nil => exact absurd hq (TL.numL_ne _)
      | cons d q =>
        rw [hq] at e
        cases e
        exact ih (n / 10) (by omega) (by omega) c q hq
theorem chS_eq {c : Nat} {d : Nat} (h : chS c = chS d) : c = d := by
  have := congrArg TL.tl h
  have this : [c] = [d] := this
  exact (List.cons.inj this).1
theorem figs : TL.tl ("0123456789" : Str) = [48, 49, 50, 51, 52, 53, 54, 55, 56, 57] := by decide +kernel
theorem zero_s : ("0" : Str) = chS 48 := by decide +kernel

/-! ### texts joined -/
theorem w_sp : TL.tl (" " : Str) = [32] := by decide +kernel
theorem w_nl : TL.tl ("\n" : Str) = [10] := by decide +kernel
theorem mem_joinL {c : Nat} {sep : List Nat} : ∀ {ps : List (List Nat)}, c ∈ TL.joinL sep ps → c ∈ sep ∨ ∃ p ∈ ps, c ∈ p
  | [], h => by cases h
  | [p], h => .inr ⟨p, List.mem_singleton.mpr rfl, h⟩
  | p :: q :: r, h => by
    have h : c ∈ p ++ (sep ++ TL.joinL sep (q :: r)) := h
    rcases List.mem_append.mp h with h | h
    · exact .inr ⟨p, List.mem_cons_self .., h⟩
    · rcases List.mem_append.mp h with h | h
      · exact .inl h
      · rcases mem_joinL h with h | ⟨z, h1, h2⟩
        · exact .inl h
        · exact .inr ⟨z, List.mem_cons_of_mem _ h1, h2⟩
theorem tl_jn (y : Str) (ps : List Str) : TL.tl (Txt.join y ps) = TL.joinL (TL.tl y) (ps.map TL.tl) := by rw [TL.join_eq, TL.tl_join]
theorem joinL_ne {sep : List Nat} {ps : List (List Nat)} {p : List Nat} (h : p ∈ ps) (hp : p ≠ []) : TL.joinL sep ps ≠ [] := by
  obtain ⟨c, r, e⟩ := List.exists_cons_of_ne_nil hp
  have key : ∀ {ps : List (List Nat)}, p ∈ ps → ∀ c ∈ p, c ∈ TL.joinL sep ps := by
    intro ps
    induction ps with
    | nil => intro h; cases h
    | cons q ps ih =>
      intro h c hc
      cases ps with
      | nil => rw [List.mem_singleton.mp h] at hc; exact hc
      | cons q2 r2 =>
        show c ∈ q ++ (sep ++ TL.joinL sep (q2 :: r2))
        rcases List.mem_cons.mp h with h | h
        · rw [← h]; exact List.mem_append_left _ hc
        · exact List.mem_append_right _ (List.mem_append_right _ (ih h c hc))
  intro z
  have := key h c (by rw [e]; exact List.mem_cons_self ..)
  rw [z] at this
  cases this
theorem sum_len {ws : List Str} {k : Nat} (h : ∀ w ∈ ws, w.length ≤ k) : (ws.map (·.length)).sum ≤ k * ws.length := by
  induction ws with
  | nil => simp
  | cons w ws ih =>
    have h1 := h w (List.mem_cons_self ..)
    have h2 := ih fun z hz => h z (List.mem_cons_of_mem _ hz)
    rw [List.map_cons, List.sum_cons, List.length_cons, Nat.mul_succ]
    omega
theorem jn_len (y : Str) {ws : List Str} {k : Nat} (h : ∀ w ∈ ws, w.length ≤ k) : (Txt.join y ws).length ≤ (k + y.length) * ws.length := by
  rw [TL.join_eq]
  have h1 := StrLaws.join_length_le y ws
  have h2 := sum_len h
  rw [Nat.add_mul, Nat.mul_comm y.length]
  omega
theorem atI_last {α : Type} (xs : List α) (x : α) : atI (xs ++ [x]) (-1) = some x := by
  unfold atI ixN
  rw [if_neg (by decide), if_pos (by rw [List.length_append, List.length_singleton]; omega)]
  show (xs ++ [x])[_]? = _
  rw [show (-1 + ((xs ++ [x]).length : Int)).toNat = xs.length by rw [List.length_append, List.length_singleton]; omega, List.getElem?_append_right (Nat.le_refl _), Nat.sub_self]
  rfl
theorem enumI_cons {α : Type} (k : Int) (x : α) (xs : List α) : enumI k (x :: xs) = (k, x) :: enumI (k + 1) xs := by
  refine List.ext_getElem? fun i => ?_
  cases i with
  | zero =>
    rw [enumI_at (x := x) rfl, show k + ((0 : Nat) : Int) = k by omega]
    rfl
  | succ i =>
    rw [List.getElem?_cons_succ]
    cases e : xs[i]? with
    | none =>
      have h1 := List.getElem?_eq_none_iff.mp e
      rw [List.getElem?_eq_none (by rw [enumI_len, List.length_cons]; omega), List.getElem?_eq_none (by rw [enumI_len]; omega)]
    | some y =>
      rw [enumI_at (x := y) (by rw [List.getElem?_cons_succ]; exact e), enumI_at e, show k + ((i + 1 : Nat) : Int) = k + 1 + (i : Int) by omega]

/-! ### lines of a writing -/
def dS (ts : List Str) : List Nat := ts.flatMap fun t => TL.tl t ++ [10]
theorem dS_cons (t : Str) (ts : List Str) : dS (t :: ts) = TL.tl t ++ [10] ++ dS ts := List.flatMap_cons
theorem joinDS : ∀ ts : List Str, TL.joinL [10] (ts.map TL.tl ++ [[]]) = dS ts
  | [] => rfl
  | [t] => by
    show TL.tl t ++ ([10] ++ []) = TL.tl t ++ [10] ++ []
    simp
  | t :: u :: r => by
    have ih := joinDS (u :: r)
    show TL.tl t ++ ([10] ++ TL.joinL [10] ((u :: r).map TL.tl ++ [[]])) = _
    rw [ih, dS_cons t, List.append_assoc]
theorem joinNS : ∀ ts : List Str, ts ≠ [] → TL.joinL [10] (ts.map TL.tl) ++ [10] = dS ts
  | [], h => absurd rfl h
  | [t], _ => by
    show TL.tl t ++ [10] = TL.tl t ++ [10] ++ []
    simp
  | t :: u :: r, _ => by
    have ih := joinNS (u :: r) (by simp)
    show TL.tl t ++ ([10] ++ TL.joinL [10] ((u :: r).map TL.tl)) ++ [10] = _
    rw [dS_cons t, ← ih]
    simp
theorem rowsD {w : Str} {ts : List Str} (hn : ∀ t ∈ ts, 10 ∉ TL.tl t) (hl : w.length ≤ 1000000) (h : TL.tl w = dS ts) : m_rows_of w = .ok ts := by
  have e : w = Txt.join ("\n" : Str) (ts ++ [("" : Str)]) := TL.ext_tl (by
    rw [h, tl_jn, w_nl, List.map_append]
    exact (joinDS ts).symm)
  have sp : Txt.split w ("\n" : Str) = ts ++ [("" : Str)] := by
    rw [e]
    refine TL.split_join (S := []) w_nl (by decide +kernel) (by simp) fun p hp => ?_
    rcases List.mem_append.mp hp with hp | hp
    · exact hn p hp
    · rw [List.mem_singleton.mp hp]
      exact fun z => by cases z
  unfold m_rows_of
  rw [need_pos (by rw [sizeLine_eq]; omega), sp, of_some (atI_last _ _), if_pos (by decide), of_some (a := ("" : Str)) (by simp), List.dropLast_concat]
  rfl
theorem rowsN {ts : List Str} (hn : ∀ t ∈ ts, 10 ∉ TL.tl t) (hne : ∀ t ∈ ts, t ≠ ("" : Str)) (hl : (Txt.join ("\n" : Str) ts).length ≤ 1000000) : m_rows_of (Txt.join ("\n" : Str) ts) = .ok ts := by
  rcases List.eq_nil_or_concat ts with rfl | ⟨ts', t, rfl⟩
  · exact rowsD hn hl (by rw [tl_jn]; rfl)
  · rw [List.concat_eq_append] at hn hne hl ⊢
    have sp : Txt.split (Txt.join ("\n" : Str) (ts' ++ [t])) ("\n" : Str) = ts' ++ [t] := TL.split_join (S := []) w_nl (by decide +kernel) (by simp) hn
    unfold m_rows_of
    rw [need_pos (by rw [sizeLine_eq]; omega), sp, of_some (atI_last _ _), if_neg (by simpa using hne t (by simp))]
    rfl
/-! ### words -/
def Wd (w : Str) : Prop := 1 ≤ w.length ∧ w.length ≤ 8 ∧ ∀ c ∈ TL.tl w, 97 ≤ c ∧ c ≤ 122
theorem letters : TL.tl ("abcdefghijklmnopqrstuvwxyz" : Str) = (List.range 26).map (· + 97) := by decide +kernel
theorem letter_mem {c : Nat} (h : 97 ≤ c ∧ c ≤ 122) : c ∈ TL.tl ("abcdefghijklmnopqrstuvwxyz" : Str) := by
  rw [letters]
  exact List.mem_map.mpr ⟨c - 97, List.mem_range.mpr (by omega), by omega⟩
theorem Wd.ne {w s : Str} (h : Wd w) {c : Nat} (hc : c ∈ TL.tl s) (hd : c < 97 ∨ 122 < c) : w ≠ s := fun z => by
  have := h.2.2 c (by rw [z]; exact hc)
  omega
theorem bar_s : TL.tl ("|" : Str) = [124] := by decide +kernel
theorem Wd.bar {w : Str} (h : Wd w) : w ≠ ("|" : Str) := h.ne (c := 124) (by rw [bar_s]; simp) (by omega)
theorem wl_any : TL.tl ("any" : Str) = [97, 110, 121] := by decide +kernel
theorem wd_any : Wd ("any" : Str) := ⟨by decide, by decide, by rw [wl_any]; decide⟩
theorem wl_edge : TL.tl ("edge" : Str) = [101, 100, 103, 101] := by decide +kernel
theorem wd_edge : Wd ("edge" : Str) := ⟨by decide, by decide, by rw [wl_edge]; decide⟩
theorem wl_other : TL.tl ("other" : Str) = [111, 116, 104, 101, 114] := by decide +kernel
theorem wd_other : Wd ("other" : Str) := ⟨by decide, by decide, by rw [wl_other]; decide⟩
abbrev OWNW : List Str := ["any", "edge", "other"]
theorem own_wd : ∀ w ∈ OWNW, Wd w := fun w hw => by
  simp only [List.mem_cons, List.not_mem_nil, or_false] at hw
  rcases hw with rfl | rfl | rfl
  · exact wd_any
  · exact wd_edge
  · exact wd_other
theorem is_word_ok {w : Str} (h : Wd w) : m_is_word w = .ok true := by
  obtain ⟨h1, h2, h3⟩ := h
  have hl : w.cps.toList.length = w.length := (TL.len_tl w).symm
  unfold m_is_word
  rw [need_pos (by rw [sizeLine_eq]; omega), if_pos (by rw [Bool.and_eq_true]; exact ⟨decide_eq_true (by omega), decide_eq_true (by omega)⟩), need_pos (by rw [hl, sizeLine_eq]; omega)]
  refine congrArg Res.ok ?_
  rw [List.all_eq_true]
  intro b hb
  obtain ⟨c, hc, rfl⟩ := List.mem_map.mp hb
  exact decide_eq_true (letter_mem (h3 c hc))
theorem sign_of_ok {n : Int} (h : Nm n) : m_sign_of_word (strI n) = .ok (some n) := by
  have hd := digits_of h.1
  have hne := num_nil h.1
  have hl : (strI n).length = (TL.tl (strI n)).length := TL.len_tl _
  have h60 := h.len
  have e0 : strI n ≠ ("" : Str) := fun z => hne (by rw [z]; rfl)
  have al : ((strI n).cps.toList.map fun i3 => (decide (i3 ∈ ("0123456789" : Str).cps.toList))).all id = true := by
    rw [List.all_eq_true]
    intro b hb
    obtain ⟨c, hc, rfl⟩ := List.mem_map.mp hb
    have := hd c hc
    show decide (c ∈ TL.tl ("0123456789" : Str)) = true
    rw [figs]
    refine decide_eq_true ?_
    simp only [List.mem_cons, List.not_mem_nil, or_false]
    omega
  unfold m_sign_of_word
  rw [if_neg (by simpa using e0), need_pos (by rw [sizeLine_eq]; omega), if_neg (by rw [decide_eq_true_iff]; omega), need_pos (show (strI n).cps.toList.length ≤ sizeLine by rw [show (strI n).cps.toList.length = (strI n).length from hl.symm, sizeLine_eq]; omega), al, ok_bind, ok_bind, if_neg (by decide), need_pos (by rw [sizeLine_eq]; omega)]
  cases e : TL.tl (strI n) with
  | nil => exact absurd e hne
  | cons d r =>
    have e1 : atI (strI n).cps.toList 0 = some d := by
      show atI (TL.tl (strI n)) 0 = _
      rw [e]
      exact atI_nat (d :: r) 0
    rw [of_some e1]
    have key : (decide (chS d = ("0" : Str)) && !decide (strI n = ("0" : Str))) = false := by
      by_cases z : n = 0
      · subst z
        have : strI 0 = ("0" : Str) := by decide +kernel
        rw [this]
        simp
      · rw [Bool.and_eq_false_iff]
        left
        refine decide_eq_false fun q => ?_
        rw [zero_s] at q
        have q := chS_eq q
        rw [str_tl h.1] at e
        exact numL_head n.toNat (by have := h.1; omega) d r e q
    rw [key, if_neg (by decide), need_pos (by omega), of_some h.read]
/-! ### rows of rules -/
inductive Rw where
  | kd (w : Str) (ns : List Int)
  | sd (b : Bool) (l r : List Str)
def wdR : Rw → List Str
  | .kd w ns => ("kind" : Str) :: w :: ns.map strI
  | .sd b l r => (if b then ("keep" : Str) else ("cut" : Str)) :: (l ++ ("|" : Str) :: r)
def txR (l : Rw) : Str := Txt.join (" " : Str) (wdR l)
def tokR : Rw → RowT
  | .kd w ns => .inl (w, ns.map some)
  | .sd b l r => .inr (b, l, r)
def GoodR : Rw → Prop
  | .kd w ns => Wd w ∧ ns ≠ [] ∧ ns.length ≤ 3 ∧ ∀ n ∈ ns, Nm n
  | .sd _ l r => l.length ≤ 3 ∧ r.length ≤ 3 ∧ ∀ w ∈ l ++ r, Wd w
theorem w_kind : TL.tl ("kind" : Str) = [107, 105, 110, 100] := by decide +kernel
theorem w_keep : TL.tl ("keep" : Str) = [107, 101, 101, 112] := by decide +kernel
theorem w_cut : TL.tl ("cut" : Str) = [99, 117, 116] := by decide +kernel
theorem first_side (b : Bool) : ∀ c ∈ TL.tl (if b then ("keep" : Str) else ("cut" : Str)), 97 ≤ c := by
  cases b
  · show ∀ c ∈ TL.tl ("cut" : Str), 97 ≤ c
    rw [w_cut]; decide
  · show ∀ c ∈ TL.tl ("keep" : Str), 97 ≤ c
    rw [w_keep]; decide
theorem wdR_signs {l : Rw} (g : GoodR l) : ∀ w ∈ wdR l, ∀ c ∈ TL.tl w, 48 ≤ c := by
  intro w hw c hc
  cases l with
  | kd v ns =>
    obtain ⟨g1, _, _, g4⟩ := g
    simp only [wdR, List.mem_cons] at hw
    rcases hw with rfl | rfl | hw
    · rw [w_kind] at hc
      simp only [List.mem_cons, List.not_mem_nil, or_false] at hc
      omega
    · have := g1.2.2 c hc
      omega
    · obtain ⟨n, hn, rfl⟩ := List.mem_map.mp hw
      exact (digits_of (g4 n hn).1 c hc).1
  | sd b l r =>
    obtain ⟨_, _, g⟩ := g
    simp only [wdR, List.mem_cons, List.mem_append] at hw
    rcases hw with rfl | hw | rfl | hw
    · have := first_side b c hc
      omega
    · have := (g w (List.mem_append_left _ hw)).2.2 c hc
      omega
    · rw [bar_s] at hc
      have := List.mem_singleton.mp hc
      omega
    · have := (g w (List.mem_append_right _ hw)).2.2 c hc
      omega
theorem wdR_ne (l : Rw) : wdR l ≠ [] := by cases l <;> simp [wdR]
theorem split_txR {l : Rw} (g : GoodR l) : Txt.split (txR l) (" " : Str) = wdR l :=
  TL.split_join (S := []) w_sp (by decide +kernel) (wdR_ne l) fun p hp z => by
    have := wdR_signs g p hp 32 z
    omega
theorem txR_signs {l : Rw} (g : GoodR l) : ∀ c ∈ TL.tl (txR l), c = 32 ∨ 48 ≤ c := fun c hc => by
  unfold txR at hc
  rw [tl_jn, w_sp] at hc
  rcases mem_joinL hc with h | ⟨p, hp, h⟩
  · exact .inl (List.mem_singleton.mp h)
  · obtain ⟨w, hw, rfl⟩ := List.mem_map.mp hp
    exact .inr (wdR_signs g w hw c h)
theorem txR_nl {l : Rw} (g : GoodR l) : 10 ∉ TL.tl (txR l) := fun z => by
  rcases txR_signs g 10 z with h | h <;> omega
theorem txR_ne (l : Rw) : txR l ≠ ("" : Str) := fun z => by
  have e : TL.tl (txR l) = [] := by rw [z]; rfl
  unfold txR at e
  rw [tl_jn] at e
  have : ∃ w ∈ wdR l, TL.tl w ≠ [] := by
    cases l with
    | kd v ns => exact ⟨("kind" : Str), by simp [wdR], by rw [w_kind]; simp⟩
    | sd b l r => exact ⟨("|" : Str), by simp [wdR], by rw [bar_s]; simp⟩
  obtain ⟨w, hw, h⟩ := this
  exact joinL_ne (List.mem_map.mpr ⟨w, hw, rfl⟩) h e
theorem wdR_len {l : Rw} (g : GoodR l) : (wdR l).length ≤ 8 ∧ ∀ w ∈ wdR l, w.length ≤ 60 := by
  cases l with
  | kd v ns =>
    obtain ⟨g1, _, g3, g4⟩ := g
    refine ⟨by simp [wdR]; omega, fun w hw => ?_⟩
    simp only [wdR, List.mem_cons] at hw
    rcases hw with rfl | rfl | hw
    · decide
    · have := g1.2.1; omega
    · obtain ⟨n, hn, rfl⟩ := List.mem_map.mp hw
      exact (g4 n hn).len
  | sd b l r =>
    obtain ⟨g1, g2, g⟩ := g
    refine ⟨by simp [wdR]; omega, fun w hw => ?_⟩
    simp only [wdR, List.mem_cons, List.mem_append] at hw
    rcases hw with rfl | hw | rfl | hw
    · cases b <;> decide
    · have := (g w (List.mem_append_left _ hw)).2.1; omega
    · decide
    · have := (g w (List.mem_append_right _ hw)).2.1; omega
theorem txR_len {l : Rw} (g : GoodR l) : (txR l).length ≤ 488 := by
  obtain ⟨h1, h2⟩ := wdR_len g
  have h3 := jn_len (" " : Str) h2
  have h4 : (60 + (" " : Str).length) * (wdR l).length ≤ 61 * 8 := Nat.mul_le_mul (by decide) h1
  show (Txt.join (" " : Str) (wdR l)).length ≤ _
  omega
theorem ixOf_app {α : Type} [DecidableEq α] {x : α} {r : List α} : ∀ {l : List α}, x ∉ l → ixOf (l ++ x :: r) x = some (l.length : Int)
  | [], _ => by
    show (if x = x then some (0 : Int) else _) = _
    rw [if_pos rfl]
    rfl
  | y :: l, h => by
    rw [List.mem_cons, not_or] at h
    show (if y = x then some (0 : Int) else (ixOf (l ++ x :: r) x).map (· + 1)) = _
    rw [if_neg fun z => h.1 z.symm, ixOf_app h.2]
    rfl
theorem kind_row_ok {w : Str} {ns : List Int} (g : GoodR (.kd w ns)) : m_kind_row (wdR (.kd w ns)) = .ok (some (w, ns.map some)) := by
  obtain ⟨g1, g2, g3, g4⟩ := g
  have hp := List.length_pos_iff.mpr g2
  have x1 : atI (wdR (.kd w ns)) 1 = some w := atI_nat (("kind" : Str) :: w :: ns.map strI) 1
  have e2 : cut (wdR (.kd w ns)) (some 2) none = ns.map strI := cut_tail (("kind" : Str) :: w :: ns.map strI) 2
  have hl : ((wdR (.kd w ns)).length : Int) = (ns.length : Int) + 2 := by
    show (((("kind" : Str) :: w :: ns.map strI).length : Nat) : Int) = _
    rw [List.length_cons, List.length_cons, List.length_map]; omega
  have em : mfM (fun i17 : Str => Res.ok true) (fun i17 => (m_sign_of_word i17).bind fun r18 => Res.ok r18) (ns.map strI) = .ok (ns.map some) := by
    have := mfM_ok (c := fun _ : Str => Res.ok true) (cb := fun _ => true) (f := fun i17 : Str => (m_sign_of_word i17).bind fun r18 => Res.ok r18) (fb := fun s => PySem.intText? s) (xs := ns.map strI) (fun _ _ => rfl) fun s hs _ => by
      obtain ⟨n, hn, rfl⟩ := List.mem_map.mp hs
      rw [bind_eq (sign_of_ok (g4 n hn)), (g4 n hn).read]
    rw [List.filter_eq_self.mpr (fun _ _ => rfl), List.map_map] at this
    rw [this]
    refine congrArg Res.ok (List.map_congr_left fun n hn => ?_)
    exact (g4 n hn).read
  have nn : (none : Option Int) ∉ ns.map some := fun z => by
    obtain ⟨n, _, e⟩ := List.mem_map.mp z
    cases e
  unfold m_kind_row
  rw [if_neg (by rw [decide_eq_true_iff, hl]; omega), of_some x1, bind_eq (is_word_ok g1), ok_bind, if_neg (by decide), e2, bind_eq em, if_neg (by simpa using nn), of_some x1]
theorem side_row_ok {b : Bool} {l r : List Str} (g : GoodR (.sd b l r)) : m_side_row (wdR (.sd b l r)) = .ok (some (b, l, r)) := by
  obtain ⟨g1, g2, g3⟩ := g
  have nl : ("|" : Str) ∉ l := fun z => (g3 _ (List.mem_append_left _ z)).bar rfl
  have nr : ("|" : Str) ∉ r := fun z => (g3 _ (List.mem_append_right _ z)).bar rfl
  generalize hh : (if b then ("keep" : Str) else ("cut" : Str)) = h
  have hb : h ≠ ("|" : Str) := by
    subst hh
    cases b <;> decide
  have hw : wdR (.sd b l r) = h :: (l ++ ("|" : Str) :: r) := by
    show (if b then ("keep" : Str) else ("cut" : Str)) :: _ = _
    rw [hh]
  rw [hw]
  have c1 : (h :: (l ++ ("|" : Str) :: r)).count ("|" : Str) = 1 := by
    rw [List.count_cons_of_ne hb, List.count_append, List.count_eq_zero.mpr nl, List.count_cons_self, List.count_eq_zero.mpr nr]
  have ix : ixOf (h :: (l ++ ("|" : Str) :: r)) ("|" : Str) = some ((l.length : Int) + 1) := by
    show (if h = ("|" : Str) then some (0 : Int) else (ixOf (l ++ ("|" : Str) :: r) ("|" : Str)).map (· + 1)) = _
    rw [if_neg hb, ixOf_app nl]
    rfl
  have cl : cut (h :: (l ++ ("|" : Str) :: r)) (some 1) (some ((l.length : Int) + 1)) = l := by
    have := cut_mid (h :: (l ++ ("|" : Str) :: r)) 1 (l.length + 1) (by omega)
    rw [show (((1 : Nat) : Int)) = 1 from rfl, show ((l.length + 1 : Nat) : Int) = (l.length : Int) + 1 by omega] at this
    rw [this, List.take_succ_cons, List.drop_succ_cons, List.drop_zero, List.take_left']
    rfl
  have cr : cut (h :: (l ++ ("|" : Str) :: r)) (some ((l.length : Int) + 1 + 1)) none = r := by
    have := cut_tail (h :: (l ++ ("|" : Str) :: r)) (l.length + 2)
    rw [show ((l.length + 2 : Nat) : Int) = (l.length : Int) + 1 + 1 by omega] at this
    rw [this, List.drop_succ_cons, List.drop_append, List.drop_of_length_le (by omega), show l.length + 1 - l.length = 1 by omega]
    rfl
  have x0 : atI (h :: (l ++ ("|" : Str) :: r)) 0 = some h := atI_nat _ 0
  have em : mfM (fun i29 : Str => Res.ok true) (fun i29 => (m_is_word i29).bind fun r30 => Res.ok r30) (l ++ r) = .ok ((l ++ r).map fun _ => true) := by
    have := mfM_ok (c := fun _ : Str => Res.ok true) (cb := fun _ => true) (f := fun i29 : Str => (m_is_word i29).bind fun r30 => Res.ok r30) (fb := fun _ => true) (xs := l ++ r) (fun _ _ => rfl) fun s hs _ => by
      rw [bind_eq (is_word_ok (g3 s hs))]
    rw [List.filter_eq_self.mpr (fun _ _ => rfl)] at this
    exact this
  have al : ((l ++ r).map fun _ => true).all id = true := by
    rw [List.all_eq_true]
    intro z hz
    obtain ⟨_, _, rfl⟩ := List.mem_map.mp hz
    rfl
  have hk : decide (h = ("keep" : Str)) = b := by
    subst hh
    cases b
    · exact decide_eq_false (by decide)
    · exact decide_eq_true rfl
  unfold m_side_row
  rw [c1, if_neg (by simp), of_some ix, cl, cr, if_neg (by
    rw [decide_eq_true_iff]
    split <;> omega), need_pos (by rw [sizeLine_eq]; omega), bind_eq em, al, ok_bind, if_neg (by decide), of_some x0, hk]
theorem row_read_ok {l : Rw} (g : GoodR l) : m_row_read (txR l) = .ok (some (tokR l)) := by
  have hl := txR_len g
  unfold m_row_read
  rw [need_pos (by rw [sizeLine_eq]; omega), split_txR g]
  cases l with
  | kd w ns =>
    have x0 : atI (wdR (.kd w ns)) 0 = some ("kind" : Str) := atI_nat (("kind" : Str) :: w :: ns.map strI) 0
    rw [of_some x0, if_pos (by decide), bind_eq (kind_row_ok g)]
    rfl
  | sd b l r =>
    have x0 : atI (wdR (.sd b l r)) 0 = some (if b then ("keep" : Str) else ("cut" : Str)) := atI_nat (_ :: (l ++ ("|" : Str) :: r)) 0
    have hk : (if b then ("keep" : Str) else ("cut" : Str)) ≠ ("kind" : Str) := by cases b <;> decide
    have second : (if (decide ((if b then ("keep" : Str) else ("cut" : Str)) = ("keep" : Str))) = true then Res.ok true else (Res.of (atI (wdR (.sd b l r)) 0)).bind fun x23 => Res.ok (decide (x23 = ("cut" : Str)))) = .ok true := by
      rw [of_some x0]
      cases b
      · rfl
      · rfl
    rw [of_some x0, if_neg (by simpa using hk), of_some x0, second, ok_bind, if_pos rfl, bind_eq (side_row_ok g)]
    rfl

/-! ### texts split -/
theorem split_ne {x y : Str} (hy : 0 < y.length) : Txt.split x y ≠ [] := fun z => by
  have h := PySem.StrLaws.join_split x y
  rw [z] at h
  have hx : x.length = 0 := by rw [← h]; rfl
  unfold Txt.split at z
  rw [if_pos (by rw [Bool.or_eq_true]; exact .inl (decide_eq_true (by omega)))] at z
  cases z
theorem joinL_len (sep : List Nat) : ∀ ps : List (List Nat), ps ≠ [] → (TL.joinL sep ps).length + sep.length = (ps.map List.length).sum + sep.length * ps.length
  | [], h => absurd rfl h
  | [p], _ => by
    show p.length + sep.length = _
    simp
  | p :: q :: r, _ => by
    have ih := joinL_len sep (q :: r) (by simp)
    show (p ++ (sep ++ TL.joinL sep (q :: r))).length + sep.length = _
    rw [List.length_append, List.length_append, List.map_cons, List.sum_cons, List.length_cons (as := q :: r), Nat.mul_succ]
    omega
theorem split_sz {x y : Str} (hy : y.length = 1) : (Txt.split x y).length ≤ x.length + 1 ∧ ((Txt.split x y).map (·.length)).sum ≤ x.length := by
  have h := PySem.StrLaws.join_split x y
  rw [← TL.join_eq] at h
  have h2 := congrArg TL.tl h
  rw [tl_jn] at h2
  have h3 := joinL_len (TL.tl y) ((Txt.split x y).map TL.tl) (by simpa using split_ne (x := x) (by omega : 0 < y.length))
  have hx := TL.len_tl x
  have hy2 := TL.len_tl y
  rw [h2, List.length_map, List.map_map, ← hx, ← hy2, hy] at h3
  have e : ((Txt.split x y).map (List.length ∘ TL.tl)) = (Txt.split x y).map (·.length) := List.map_congr_left fun p _ => (TL.len_tl p).symm
  rw [e] at h3
  have h4 := List.length_pos_iff.mpr (split_ne (x := x) (y := y) (by omega))
  constructor <;> omega
theorem mem_sum {ws : List Str} {w : Str} (h : w ∈ ws) : w.length ≤ (ws.map (·.length)).sum := by
  induction ws with
  | nil => cases h
  | cons v ws ih =>
    rw [List.map_cons, List.sum_cons]
    rcases List.mem_cons.mp h with rfl | h
    · omega
    · have := ih h; omega
theorem split_mem {x y p : Str} (hy : y.length = 1) (h : p ∈ Txt.split x y) : p.length ≤ x.length := Nat.le_trans (mem_sum h) (split_sz hy).2
theorem l_sp : (" " : Str).length = 1 := by decide
theorem l_nl : ("\n" : Str).length = 1 := by decide
/-! ### words and signs, looked at twice -/
def wdB (w : Str) : Bool := decide (1 ≤ w.length ∧ w.length ≤ 8) && (TL.tl w).all fun c => decide (c ∈ TL.tl ("abcdefghijklmnopqrstuvwxyz" : Str))
theorem filt_nil {α : Type} {p : α → Bool} [DecidableEq α] (xs : List α) : (decide (((xs.filter fun i => !(p i)).map fun i => i) = ([] : List α))) = xs.all p := by
  rw [Bool.eq_iff_iff, decide_eq_true_iff, List.map_id', List.filter_eq_nil_iff, List.all_eq_true]
  exact ⟨fun h x hx => by simpa using h x hx, fun h x hx => by simpa using h x hx⟩
theorem all_map {α : Type} {p : α → Bool} (xs : List α) : (xs.map p).all id = xs.all p := by
  rw [List.all_map]
  rfl
theorem is_word_eq {w : Str} (h : w.length ≤ sizeLine) : m_is_word w = .ok (wdB w) := by
  have hl : w.cps.toList.length = w.length := (TL.len_tl w).symm
  unfold m_is_word wdB
  rw [need_pos h]
  by_cases c : 1 ≤ w.length ∧ w.length ≤ 8
  · rw [if_pos (by rw [Bool.and_eq_true]; exact ⟨decide_eq_true (by omega), decide_eq_true (by omega)⟩), need_pos (by rw [hl]; exact h), decide_eq_true c, Bool.true_and, ok_bind, all_map]
    try rfl
  · rw [if_neg (by rw [Bool.and_eq_true, decide_eq_true_iff, decide_eq_true_iff]; omega), decide_eq_false c]
    rfl
theorem l_is_word_eq {w : Str} (h : w.length ≤ sizeLine) : m_l_is_word w = .ok (wdB w) := by
  have hl : w.cps.toList.length = w.length := (TL.len_tl w).symm
  unfold m_l_is_word wdB
  rw [need_pos h]
  by_cases c : 1 ≤ w.length ∧ w.length ≤ 8
  · rw [if_pos (by rw [Bool.and_eq_true]; exact ⟨decide_eq_true (by omega), decide_eq_true (by omega)⟩), need_pos (by rw [hl]; exact h), decide_eq_true c, Bool.true_and, ok_bind, filt_nil]
    try rfl
  · rw [if_neg (by rw [Bool.and_eq_true, decide_eq_true_iff, decide_eq_true_iff]; omega), decide_eq_false c]
    rfl
def digB (w : Str) : Bool := (TL.tl w).all fun c => decide (c ∈ TL.tl ("0123456789" : Str))
def zroB (w : Str) : Bool := decide ((TL.tl w).head? = some 48) && !decide (w = ("0" : Str))
def sgB (w : Str) : Bool := !decide (w = ("" : Str)) && decide (w.length ≤ 60) && digB w && !zroB w
theorem zro_at {w : Str} (h : w ≠ ("" : Str)) : ∃ c, atI w.cps.toList 0 = some c ∧ decide (chS c = ("0" : Str)) = decide ((TL.tl w).head? = some 48) := by
  cases e : TL.tl w with
  | nil => exact absurd (TL.ext_tl (by rw [e]; rfl)) h
  | cons d r =>
    refine ⟨d, ?_, ?_⟩
    · show atI (TL.tl w) 0 = _
      rw [e]
      exact atI_nat (d :: r) 0
    · rw [zero_s, List.head?_cons, Bool.eq_iff_iff, decide_eq_true_iff, decide_eq_true_iff]
      exact ⟨fun z => congrArg some (chS_eq z), fun z => by rw [Option.some.inj z]⟩
theorem digs_num : ∀ (k : Nat) (ds : List Nat), ds.length = k → ds ≠ [] → (∀ c ∈ ds, 48 ≤ c ∧ c ≤ 57) → ds.head? ≠ some 48 → ∃ n, 1 ≤ n ∧ n < 10 ^ ds.length ∧ ds = TL.numL n
  | 0, ds, hk, hne, _, _ => absurd (List.length_eq_zero_iff.mp hk) hne
  | k + 1, ds, hk, hne, hd, hh => by
    rcases List.eq_nil_or_concat ds with rfl | ⟨a, d, rfl⟩
    · exact absurd rfl hne
    · rw [List.concat_eq_append] at *
      have hd1 := hd d (by simp)
      by_cases ha : a = []
      · subst ha
        have h48 : d ≠ 48 := fun z => hh (by rw [z]; rfl)
        refine ⟨d - 48, by omega, by show d - 48 < 10 ^ 1; omega, ?_⟩
        rw [TL.numL_lt (by omega)]
        show [d] = [48 + (d - 48)]
        rw [show 48 + (d - 48) = d by omega]
      · have hl : a.length = k := by rw [List.length_append, List.length_singleton] at hk; omega
        obtain ⟨n, n1, n2, n3⟩ := digs_num k a hl ha (fun c hc => hd c (List.mem_append_left _ hc)) (fun z => hh (by
          cases a with
          | nil => exact absurd rfl ha
          | cons x r => exact z))
        refine ⟨10 * n + (d - 48), by omega, ?_, ?_⟩
        · rw [List.length_append, List.length_singleton, Nat.pow_succ]
          omega
        · rw [TL.numL_step (by omega), show (10 * n + (d - 48)) / 10 = n by omega, show (10 * n + (d - 48)) % 10 = d - 48 by omega, ← n3, show 48 + (d - 48) = d by omega]
theorem canon {w : Str} (h : sgB w = true) : ∃ n, Nm n ∧ w = strI n := by
  unfold sgB at h
  rw [Bool.and_eq_true, Bool.and_eq_true, Bool.and_eq_true, Bool.not_eq_true', Bool.not_eq_true', decide_eq_false_iff_not, decide_eq_true_iff] at h
  obtain ⟨⟨⟨h1, h2⟩, h3⟩, h4⟩ := h
  by_cases z : w = ("0" : Str)
  · exact ⟨0, ⟨by decide, by rw [m60]; decide⟩, by rw [z]; decide +kernel⟩
  · have hd : ∀ c ∈ TL.tl w, 48 ≤ c ∧ c ≤ 57 := fun c hc => by
      have := List.all_eq_true.mp h3 c hc
      rw [decide_eq_true_iff, figs] at this
      simp only [List.mem_cons, List.not_mem_nil, or_false] at this
      omega
    have hh : (TL.tl w).head? ≠ some 48 := fun q => by
      unfold zroB at h4
      rw [decide_eq_true q, decide_eq_false z] at h4
      cases h4
    obtain ⟨n, n1, n2, n3⟩ := digs_num _ _ rfl (fun q => h1 (TL.ext_tl (by rw [q]; rfl))) hd hh
    refine ⟨(n : Int), ⟨by omega, ?_⟩, TL.ext_tl ?_⟩
    · rw [pow60]
      have : n < 10 ^ 60 := Nat.lt_of_lt_of_le n2 (Nat.pow_le_pow_right (by decide) (by rw [← TL.len_tl]; exact h2))
      omega
    · rw [n3, str_tl (by omega), Int.toNat_natCast]
theorem sg_read {w : Str} (h : sgB w = true) : ∃ n, PySem.intText? w = some n := by
  obtain ⟨n, hn, rfl⟩ := canon h
  exact ⟨n, hn.read⟩
def sgO (w : Str) : Option Int := if sgB w = true then PySem.intText? w else none
theorem sgO_none {w : Str} : sgO w = none ↔ sgB w = false := by
  unfold sgO
  cases e : sgB w with
  | true =>
    obtain ⟨n, hn⟩ := sg_read e
    rw [if_pos rfl, hn]
    exact ⟨fun z => (by cases z), fun z => (by cases z)⟩
  | false => exact ⟨fun _ => rfl, fun _ => rfl⟩
theorem dig_map (w : Str) : ((w.cps.toList.map fun i3 => (decide (i3 ∈ ("0123456789" : Str).cps.toList)))).all id = digB w := all_map _
theorem sign_of_eq {w : Str} (h : w.length ≤ sizeLine) : m_sign_of_word w = .ok (sgO w) := by
  have hl : w.cps.toList.length = w.length := (TL.len_tl w).symm
  cases e : sgB w with
  | true =>
    obtain ⟨n, hn, rfl⟩ := canon e
    unfold sgO
    rw [if_pos e, hn.read]
    exact sign_of_ok hn
  | false =>
    rw [sgO_none.mpr e]
    unfold m_sign_of_word
    by_cases h1 : w = ("" : Str)
    · rw [if_pos (decide_eq_true h1)]
      rfl
    · rw [if_neg (by simpa using h1), need_pos h]
      by_cases h2 : w.length ≤ 60
      · rw [if_neg (by rw [decide_eq_true_iff]; omega), need_pos (by rw [hl]; exact h), dig_map]
        cases h3 : digB w with
        | false => rfl
        | true =>
          rw [show (!true) = false from rfl, ok_bind, ok_bind, if_neg (by decide), need_pos h]
          obtain ⟨c, c1, c2⟩ := zro_at h1
          have h4 : zroB w = true := by
            unfold sgB at e
            rw [decide_eq_false h1, decide_eq_true h2, h3] at e
            simpa using e
          rw [of_some c1, c2]
          exact if_pos h4
      · rw [if_pos (decide_eq_true (by omega))]
        rfl
theorem l_is_sign_eq {w : Str} (h : w.length ≤ sizeLine) : m_l_is_sign w = .ok (sgB w) := by
  have hl : w.cps.toList.length = w.length := (TL.len_tl w).symm
  unfold m_l_is_sign sgB
  by_cases h1 : w = ("" : Str)
  · rw [if_pos (decide_eq_true h1), decide_eq_true h1]
    rfl
  · rw [if_neg (by simpa using h1), need_pos h, decide_eq_false h1]
    by_cases h2 : w.length ≤ 60
    · rw [if_neg (by rw [decide_eq_true_iff]; omega), decide_eq_true h2]
      have key : (if (!decide (w = ("0" : Str))) = true then Res.need (w.length ≤ sizeLine) ((Res.of (atI w.cps.toList 0)).bind fun ch3 => Res.ok (decide ((chS ch3) = ("0" : Str)))) else Res.ok false) = .ok (zroB w) := by
        unfold zroB
        by_cases h0 : w = ("0" : Str)
        · rw [decide_eq_true h0]
          simp
        · obtain ⟨c, c1, c2⟩ := zro_at h1
          rw [decide_eq_false h0, if_pos (by decide), need_pos h, of_some c1, c2]
          simp
      rw [key, ok_bind, ok_bind, ok_bind, need_pos (by rw [hl]; exact h)]
      have e : decide (((w.cps.toList.filter fun i24 => (!(decide (i24 ∈ ("0123456789" : Str).cps.toList)))).map fun i24 => i24) = ([] : List Nat)) = digB w := filt_nil _
      rw [e]
      cases zroB w with
      | true => simp
      | false => simp
    · rw [if_pos (decide_eq_true (by omega)), decide_eq_false h2]
      rfl

/-! ### what a row is -/
abbrev Kn2 : Type := Str × List (Option Int)
abbrev Sd2 : Type := Bool × List Str × List Str
def kindP (ws : List Str) : Option Kn2 := if 3 ≤ ws.length ∧ wdB (ws.getD 1 "") = true ∧ (ws.drop 2).all sgB = true then some (ws.getD 1 "", (ws.drop 2).map sgO) else none
def barL (ws : List Str) (j : Int) : List Str := cut ws (some 1) (some j)
def barR (ws : List Str) (j : Int) : List Str := cut ws (some (j + 1)) none
def sideP (ws : List Str) : Option Sd2 := if ws.count ("|" : Str) = 1 then match ixOf ws ("|" : Str) with
  | some j => if (barL ws j).length ≤ 3 ∧ (barR ws j).length ≤ 3 ∧ (barL ws j ++ barR ws j).all wdB = true then some (decide (ws.getD 0 "" = ("keep" : Str)), barL ws j, barR ws j) else none
  | none => none
  else none
def rowK (ws : List Str) : Option RowT := if ws.getD 0 "" = ("kind" : Str) then (kindP ws).map Sum.inl else if ws.getD 0 "" = ("keep" : Str) ∨ ws.getD 0 "" = ("cut" : Str) then (sideP ws).map Sum.inr else none
def Sm (ws : List Str) : Prop := ws ≠ [] ∧ ws.length ≤ 5000000 ∧ ∀ w ∈ ws, w.length ≤ sizeLine
theorem getD_at {ws : List Str} {i : Nat} (h : i < ws.length) : atI ws (i : Int) = some (ws.getD i "") := by
  rw [atI_nat, List.getD_eq_getElem?_getD, List.getElem?_eq_getElem h]
  rfl
theorem getD_mem {ws : List Str} {i : Nat} (h : i < ws.length) : ws.getD i "" ∈ ws := by
  rw [List.getD_eq_getElem?_getD, List.getElem?_eq_getElem h]
  exact List.getElem_mem h
theorem kind_row_eq {ws : List Str} (h : Sm ws) : m_kind_row ws = .ok (kindP ws) := by
  obtain ⟨_, h2, h3⟩ := h
  unfold m_kind_row kindP
  by_cases c : 3 ≤ ws.length
  · have x1 : atI ws 1 = some (ws.getD 1 "") := getD_at (i := 1) (by omega)
    rw [if_neg (by rw [decide_eq_true_iff]; omega), of_some x1, bind_eq (is_word_eq (h3 _ (getD_mem (by omega)))), ok_bind]
    cases e : wdB (ws.getD 1 "") with
    | false => rw [if_pos (by rfl), if_neg (fun z => by cases z.2.1)]
    | true =>
      rw [if_neg (by decide), show cut ws (some 2) none = ws.drop 2 from cut_tail ws 2]
      have em : mfM (fun i17 : Str => Res.ok true) (fun i17 => (m_sign_of_word i17).bind fun r18 => Res.ok r18) (ws.drop 2) = .ok ((ws.drop 2).map sgO) := by
        have := mfM_ok (c := fun _ : Str => Res.ok true) (cb := fun _ => true) (f := fun i17 : Str => (m_sign_of_word i17).bind fun r18 => Res.ok r18) (fb := sgO) (xs := ws.drop 2) (fun _ _ => rfl) fun s hs _ => by
          rw [bind_eq (sign_of_eq (h3 s (List.mem_of_mem_drop hs)))]
        rw [List.filter_eq_self.mpr (fun _ _ => rfl)] at this
        exact this
      rw [bind_eq em]
      have en : (none : Option Int) ∈ (ws.drop 2).map sgO ↔ ¬ (ws.drop 2).all sgB = true := by
        rw [List.all_eq_true, List.mem_map]
        refine ⟨fun ⟨s, hs, e⟩ q => ?_, fun q => ?_⟩
        · have := sgO_none.mp e
          rw [q s hs] at this
          cases this
        · obtain ⟨s, q⟩ := Classical.not_forall.mp q
          obtain ⟨hs, e⟩ := Classical.not_imp.mp q
          exact ⟨s, hs, sgO_none.mpr (by simpa using e)⟩
      by_cases a : (ws.drop 2).all sgB = true
      · rw [if_neg (by rw [decide_eq_true_iff, en]; exact fun z => z a), of_some x1, if_pos ⟨c, rfl, a⟩]
      · rw [if_pos (by rw [decide_eq_true_iff, en]; exact a), if_neg (fun z => a z.2.2)]
  · rw [if_pos (by rw [decide_eq_true_iff]; omega), if_neg (fun z => c z.1)]
    rfl
theorem cut_sm {ws : List Str} {a b : Option Int} (h : Sm ws) : (cut ws a b).length ≤ 5000000 ∧ ∀ w ∈ cut ws a b, w.length ≤ sizeLine := ⟨Nat.le_trans cut_len h.2.1, fun w hw => h.2.2 w (cut_mem hw)⟩
theorem words_all {xs : List Str} (h : ∀ w ∈ xs, w.length ≤ sizeLine) : mfM (fun i29 : Str => Res.ok true) (fun i29 => (m_is_word i29).bind fun r30 => Res.ok r30) xs = .ok (xs.map wdB) := by
  have := mfM_ok (c := fun _ : Str => Res.ok true) (cb := fun _ => true) (f := fun i29 : Str => (m_is_word i29).bind fun r30 => Res.ok r30) (fb := wdB) (xs := xs) (fun _ _ => rfl) fun s hs _ => by
    rw [bind_eq (is_word_eq (h s hs))]
  rw [List.filter_eq_self.mpr (fun _ _ => rfl)] at this
  exact this
theorem l_words_all {xs : List Str} (h : ∀ w ∈ xs, w.length ≤ sizeLine) : ∃ l, mfM (fun i53 : Str => (m_l_is_word i53).bind fun r54 => Res.ok (!r54)) (fun i53 => Res.ok i53) xs = .ok l ∧ decide (l = ([] : List Str)) = xs.all wdB := by
  have := mfM_ok (c := fun i53 : Str => (m_l_is_word i53).bind fun r54 => Res.ok (!r54)) (cb := fun s => !wdB s) (f := fun i : Str => Res.ok i) (fb := fun i => i) (xs := xs) (fun s hs => by rw [bind_eq (l_is_word_eq (h s hs))]) fun s hs _ => rfl
  exact ⟨_, this, filt_nil _⟩
theorem l_signs_all {xs : List Str} (h : ∀ w ∈ xs, w.length ≤ sizeLine) : ∃ l, mfM (fun i18 : Str => (m_l_is_sign i18).bind fun r19 => Res.ok (!r19)) (fun i18 => Res.ok i18) xs = .ok l ∧ decide (l = ([] : List Str)) = xs.all sgB := by
  have := mfM_ok (c := fun i18 : Str => (m_l_is_sign i18).bind fun r19 => Res.ok (!r19)) (cb := fun s => !sgB s) (f := fun i : Str => Res.ok i) (fb := fun i => i) (xs := xs) (fun s hs => by rw [bind_eq (l_is_sign_eq (h s hs))]) fun s hs _ => rfl
  exact ⟨_, this, filt_nil _⟩
theorem ixOf_some {ws : List Str} {x : Str} (h : x ∈ ws) : ∃ j : Nat, ixOf ws x = some (j : Int) ∧ j < ws.length := by
  induction ws with
  | nil => cases h
  | cons y ws ih =>
    unfold ixOf
    by_cases c : y = x
    · rw [if_pos c]
      exact ⟨0, rfl, by rw [List.length_cons]; omega⟩
    · rw [if_neg c]
      obtain ⟨j, h1, h2⟩ := ih (by
        rcases List.mem_cons.mp h with q | q
        · exact absurd q.symm c
        · exact q)
      exact ⟨j + 1, by rw [h1]; rfl, by rw [List.length_cons]; omega⟩
theorem side_row_eq {ws : List Str} (h : Sm ws) : m_side_row ws = .ok (sideP ws) := by
  unfold m_side_row sideP
  by_cases c : ws.count ("|" : Str) = 1
  · obtain ⟨j, hj, hl⟩ := ixOf_some (List.count_pos_iff.mp (by omega) : ("|" : Str) ∈ ws)
    obtain ⟨l1, l2⟩ := cut_sm (a := some 1) (b := some (j : Int)) h
    obtain ⟨r1, r2⟩ := cut_sm (a := some ((j : Int) + 1)) (b := none) h
    rw [c, if_neg (by simp), of_some hj, if_pos rfl, hj]
    show _ = Res.ok (if (barL ws j).length ≤ 3 ∧ (barR ws j).length ≤ 3 ∧ (barL ws j ++ barR ws j).all wdB = true then _ else none)
    show (if (decide (3 < (if ((barR ws j).length : Int) > ((barL ws j).length : Int) then ((barR ws j).length : Int) else ((barL ws j).length : Int)))) = true then _ else Res.need ((barL ws j).length + (barR ws j).length ≤ sizeLine) ((mfM _ _ (barL ws j ++ barR ws j)).bind _)).bind _ = _
    by_cases m : (barL ws j).length ≤ 3 ∧ (barR ws j).length ≤ 3
    · rw [if_neg (by rw [decide_eq_true_iff]; split <;> omega), need_pos (by rw [sizeLine_eq]; omega), bind_eq (words_all fun w hw => by
        rcases List.mem_append.mp hw with hw | hw
        · exact l2 w hw
        · exact r2 w hw), all_map, ok_bind]
      have x0 : atI ws 0 = some (ws.getD 0 "") := getD_at (i := 0) (List.length_pos_iff.mpr h.1)
      cases e : (barL ws j ++ barR ws j).all wdB with
      | false => rw [if_pos (by rfl), if_neg (fun z => by cases z.2.2)]
      | true =>
        rw [if_neg (by decide), of_some x0, if_pos ⟨m.1, m.2, rfl⟩]
        rfl
    · rw [if_pos (by rw [decide_eq_true_iff]; split <;> omega), if_neg (fun z => m ⟨z.1, z.2.1⟩)]
      rfl
  · rw [if_pos (by rw [Bool.not_eq_true', decide_eq_false_iff_not]; omega), if_neg c]
theorem row_sm {r : Str} (h : r.length ≤ 4000000) : Sm (Txt.split r (" " : Str)) := by
  obtain ⟨h1, h2⟩ := split_sz (x := r) l_sp
  exact ⟨split_ne (by rw [l_sp]; decide), by omega, fun w hw => by
    have := split_mem l_sp hw
    rw [sizeLine_eq]
    omega⟩
theorem row_read_eq {r : Str} (h : r.length ≤ 4000000) : m_row_read r = .ok (rowK (Txt.split r (" " : Str))) := by
  have S := row_sm h
  unfold m_row_read rowK
  rw [need_pos (by rw [sizeLine_eq]; omega)]
  generalize Txt.split r (" " : Str) = ws at S ⊢
  have x0 : atI ws 0 = some (ws.getD 0 "") := getD_at (i := 0) (List.length_pos_iff.mpr S.1)
  rw [of_some x0]
  by_cases k : ws.getD 0 "" = ("kind" : Str)
  · rw [if_pos (decide_eq_true k), if_pos k, bind_eq (kind_row_eq S)]
  · rw [if_neg (by simpa using k), if_neg k, of_some x0]
    by_cases p : ws.getD 0 "" = ("keep" : Str)
    · rw [if_pos (decide_eq_true p), ok_bind, if_pos rfl, if_pos (.inl p), bind_eq (side_row_eq S)]
    · rw [if_neg (by simpa using p), of_some x0, ok_bind]
      by_cases q : ws.getD 0 "" = ("cut" : Str)
      · rw [if_pos (decide_eq_true q), if_pos (.inr q), bind_eq (side_row_eq S)]
      · rw [if_neg (by simpa using q), if_neg (fun z => z.elim p q)]
def sortS : Option RowT → Str
  | none => "none"
  | some (.inl _) => "kind"
  | some (.inr _) => "side"
theorem side_part {ws : List Str} (S : Sm ws) : (if ((decide (ws.getD 0 "" ∈ [("keep" : Str), ("cut" : Str)])) && (decide (((((ws.filter fun i34 => (decide (i34 = ("|" : Str)))).map fun i34 => i34)).length : Int) = 1))) = true then (Res.of (ixOf ws ("|" : Str))).bind fun x40 => Res.need (((cut ws (some 1) (some x40))).length + ((cut ws (some (x40 + 1)) none)).length ≤ sizeLine) ((if (decide (x40 ≤ 4)) = true then (if (decide (((ws.length : Int) - x40) ≤ 4)) = true then (mfM (fun i53 : Str => (m_l_is_word i53).bind fun r54 => Res.ok (!r54)) (fun i53 => Res.ok i53) ((cut ws (some 1) (some x40)) ++ (cut ws (some (x40 + 1)) none))).bind fun l56 => Res.ok (decide (l56 = ([] : List Str))) else Res.ok false).bind fun b58 => Res.ok b58 else Res.ok false).bind fun b61 => if b61 = true then Res.ok ("side" : Str) else Res.ok ("none" : Str)) else Res.ok ("none" : Str)) = .ok (sortS (if ws.getD 0 "" = ("keep" : Str) ∨ ws.getD 0 "" = ("cut" : Str) then (sideP ws).map Sum.inr else none)) := by
  have ec : ((ws.filter fun i34 => (decide (i34 = ("|" : Str)))).map fun i34 => i34).length = ws.count ("|" : Str) := by
    rw [List.length_map, List.count_eq_countP, List.countP_eq_length_filter]
    congr 1
  rw [ec]
  by_cases k : ws.getD 0 "" = ("keep" : Str) ∨ ws.getD 0 "" = ("cut" : Str)
  · have km : ws.getD 0 "" ∈ [("keep" : Str), ("cut" : Str)] := by
      rcases k with k | k
      · rw [k]; simp
      · rw [k]; simp
    rw [decide_eq_true km, Bool.true_and, if_pos k]
    unfold sideP
    by_cases c : ws.count ("|" : Str) = 1
    · obtain ⟨j, hj, hl⟩ := ixOf_some (List.count_pos_iff.mp (by omega) : ("|" : Str) ∈ ws)
      obtain ⟨l1, l2⟩ := cut_sm (a := some 1) (b := some (j : Int)) S
      obtain ⟨r1, r2⟩ := cut_sm (a := some ((j : Int) + 1)) (b := none) S
      have j0 : 1 ≤ j := by
        rcases Nat.eq_zero_or_pos j with z | z
        · subst z
          obtain ⟨q, e1, e2, _⟩ := ixOf_at hj
          have : q = 0 := by omega
          subst this
          have e3 : ws.getD 0 "" = ("|" : Str) := by rw [List.getD_eq_getElem?_getD, e2]; rfl
          rw [e3] at k
          exact absurd k (by decide)
        · exact z
      have ll : (barL ws j).length = j - 1 := by
        have := cut_mid ws 1 j j0
        unfold barL
        rw [show (1 : Int) = ((1 : Nat) : Int) from rfl, this, List.length_drop, List.length_take]
        omega
      have lr : (barR ws j).length = ws.length - (j + 1) := by
        have := cut_tail ws (j + 1)
        unfold barR
        rw [show (j : Int) + 1 = ((j + 1 : Nat) : Int) by omega, this, List.length_drop]
      rw [c, if_pos (by decide), of_some hj, if_pos rfl, hj]
      show Res.need ((barL ws j).length + (barR ws j).length ≤ sizeLine) ((if (decide ((j : Int) ≤ 4)) = true then (if (decide (((ws.length : Int) - (j : Int)) ≤ 4)) = true then (mfM _ _ (barL ws j ++ barR ws j)).bind _ else Res.ok false).bind _ else Res.ok false).bind _) = Res.ok (sortS (Option.map Sum.inr (if (barL ws j).length ≤ 3 ∧ (barR ws j).length ≤ 3 ∧ (barL ws j ++ barR ws j).all wdB = true then _ else none)))
      obtain ⟨l, e1, e2⟩ := l_words_all (xs := barL ws j ++ barR ws j) fun w hw => by
        rcases List.mem_append.mp hw with hw | hw
        · exact l2 w hw
        · exact r2 w hw
      rw [need_pos (by rw [sizeLine_eq]; have := S.2.1; omega)]
      by_cases m1 : (barL ws j).length ≤ 3
      · by_cases m2 : (barR ws j).length ≤ 3
        · rw [if_pos (decide_eq_true (by omega)), if_pos (decide_eq_true (by omega)), bind_eq e1, e2, ok_bind, ok_bind]
          cases e : (barL ws j ++ barR ws j).all wdB with
          | false => rw [if_neg (by decide), if_neg (fun z => by cases z.2.2)]; rfl
          | true => rw [if_pos rfl, if_pos ⟨m1, m2, rfl⟩]; rfl
        · rw [if_pos (decide_eq_true (by omega)), if_neg (by rw [decide_eq_true_iff]; omega), if_neg (fun z => m2 z.2.1)]
          rfl
      · rw [if_neg (by rw [decide_eq_true_iff]; omega), if_neg (fun z => m1 z.1)]
        rfl
    · rw [if_neg (by rw [decide_eq_true_iff]; omega), if_neg c]
      rfl
  · have km : ws.getD 0 "" ∉ [("keep" : Str), ("cut" : Str)] := fun z => by
      simp only [List.mem_cons, List.not_mem_nil, or_false] at z
      exact k z
    rw [decide_eq_false km, Bool.false_and, if_neg (by decide), if_neg k]
    rfl
theorem sort_eq {ws : List Str} (S : Sm ws) : m_l_sort ws = .ok (sortS (rowK ws)) := by
  have x0 : atI ws 0 = some (ws.getD 0 "") := getD_at (i := 0) (List.length_pos_iff.mpr S.1)
  have sp := side_part S
  have other : ws.getD 0 "" = ("kind" : Str) → (if ws.getD 0 "" = ("keep" : Str) ∨ ws.getD 0 "" = ("cut" : Str) then (sideP ws).map Sum.inr else none) = (none : Option RowT) := fun k => if_neg (by rw [k]; decide)
  unfold m_l_sort
  rw [of_some x0]
  by_cases k : ws.getD 0 "" = ("kind" : Str)
  · have ek : rowK ws = (kindP ws).map Sum.inl := by unfold rowK; rw [if_pos k]
    rw [other k] at sp
    rw [ek, if_pos (decide_eq_true k)]
    unfold kindP
    by_cases c : 3 ≤ ws.length
    · have x1 : atI ws 1 = some (ws.getD 1 "") := getD_at (i := 1) (by omega)
      rw [if_pos (decide_eq_true (by omega)), of_some x1, bind_eq (l_is_word_eq (S.2.2 _ (getD_mem (by omega)))), ok_bind, ok_bind]
      cases e : wdB (ws.getD 1 "") with
      | false =>
        rw [if_neg (by decide), if_neg (fun z => by cases z.2.1), of_some x0]
        exact sp
      | true =>
        obtain ⟨l, e1, e2⟩ := l_signs_all (xs := ws.drop 2) fun w hw => S.2.2 w (List.mem_of_mem_drop hw)
        rw [if_pos rfl, show cut ws (some 2) none = ws.drop 2 from cut_tail ws 2, bind_eq e1, e2]
        cases a : (ws.drop 2).all sgB with
        | true => rw [if_pos rfl, if_pos ⟨c, rfl, rfl⟩]; rfl
        | false =>
          rw [if_neg (by decide), if_neg (fun z => by cases z.2.2), of_some x0]
          exact sp
    · rw [if_neg (by rw [decide_eq_true_iff]; omega), ok_bind, ok_bind, if_neg (by decide), if_neg (fun z => c z.1), of_some x0]
      exact sp
  · have ek : rowK ws = (if ws.getD 0 "" = ("keep" : Str) ∨ ws.getD 0 "" = ("cut" : Str) then (sideP ws).map Sum.inr else none) := by unfold rowK; rw [if_neg k]
    rw [ek, if_neg (by simpa using k), ok_bind, if_neg (by decide), of_some x0]
    exact sp

/-! ### what is due -/
abbrev IS2 : Type := Int ⊕ Str
theorem forR_pw {α β τ ρ : Type} {step : τ → α → Res (ρ ⊕ τ)} {step' : τ → β → Res (ρ ⊕ τ)} : ∀ {xs : List α} {ys : List β} (a : τ), xs.length = ys.length → (∀ (i : Nat) x y, xs[i]? = some x → ys[i]? = some y → ∀ a, step a x = step' a y) → forR step xs a = forR step' ys a
  | [], [], _, _, _ => rfl
  | [], _ :: _, _, h, _ => by cases h
  | _ :: _, [], _, h, _ => by cases h
  | x :: xs, y :: ys, a, h, k => by
    unfold forR
    rw [k 0 x y rfl rfl a]
    cases step' a y with
    | ok z =>
      cases z with
      | inl r => rfl
      | inr b => exact forR_pw b (Nat.succ.inj h) fun i x y h1 h2 => k (i + 1) x y h1 h2
    | err e => rfl
    | stuck => rfl
theorem forR_range {α τ ρ : Type} {step : τ → Int → Res (ρ ⊕ τ)} {step' : τ → Int × α → Res (ρ ⊕ τ)} {xs : List α} (a : τ) (h : ∀ (i : Nat) y, xs[i]? = some y → ∀ a, step a (i : Int) = step' a ((i : Int), y)) : forR step (rangeI 0 (xs.length : Int)) a = forR step' (enumI 0 xs) a := by
  have hl : (rangeI 0 (xs.length : Int)).length = xs.length := by
    unfold rangeI
    rw [List.length_map, List.length_range]
    omega
  refine forR_pw a (by rw [hl, enumI_len]) fun i x y h1 h2 b => ?_
  have hi : i < xs.length := by
    have := (List.getElem?_eq_some_iff.mp h1).1
    omega
  have e1 := enumI_at (a := 0) (List.getElem?_eq_getElem hi)
  rw [h2] at e1
  cases e1
  unfold rangeI at h1
  rw [List.getElem?_map, List.getElem?_range (by omega)] at h1
  have h1 : (0 : Int) + (i : Int) = x := Option.some.inj h1
  rw [Int.zero_add] at h1
  subst h1
  rw [Int.zero_add]
  exact h i _ (List.getElem?_eq_getElem hi) b
theorem forM_err {α τ : Type} {F : τ → α → Res τ} {x : α} {L : List α} {a : τ} {e : Err} (h : F a x = .err e) : forM F (x :: L) a = .err e := by
  show (Res.bind _ _ : Res _) = _
  rw [h]
  rfl
theorem forM_ok1 {α τ : Type} {F : τ → α → Res τ} {x : α} {L : List α} {a b : τ} (h : F a x = .ok b) : forM F (x :: L) a = forM F L b := by
  show (Res.bind _ _ : Res _) = _
  rw [h]
  rfl
def bad1 : Int → List (List Str) → Option Int
  | _, [] => none
  | k, r :: rs => if (rowK r).isNone = true then some k else bad1 (k + 1) rs
theorem sortS_none (o : Option RowT) : decide (sortS o = ("none" : Str)) = o.isNone := by
  cases o with
  | none => exact decide_eq_true rfl
  | some t =>
    cases t with
    | inl _ => exact decide_eq_false (show ¬ ("kind" : Str) = ("none" : Str) by decide)
    | inr _ => exact decide_eq_false (show ¬ ("side" : Str) = ("none" : Str) by decide)
theorem due1 : ∀ (rows : List (List Str)) (k : Int), (∀ r ∈ rows, Sm r) → forR (fun (a : Unit) (x : Int × List Str) => ((m_l_sort x.2).bind fun r50 => if (decide (r50 = ("none" : Str))) = true then Res.ok (Sum.inl [(Sum.inl 0 : Int ⊕ Str), (Sum.inl (x.1 + 1) : Int ⊕ Str)]) else Res.ok (Sum.inr ()) : Res ((List (Int ⊕ Str)) ⊕ Unit))) (enumI k rows) () = .ok (match bad1 (k + 1) rows with
    | some i => .inl [.inl 0, .inl i]
    | none => .inr ())
  | [], k, _ => by
    have e : enumI k ([] : List (List Str)) = [] := by unfold enumI; simp
    rw [e]
    rfl
  | r :: rs, k, h => by
    rw [enumI_cons]
    unfold forR bad1
    dsimp only
    rw [bind_eq (sort_eq (h r (List.mem_cons_self ..))), sortS_none]
    cases (rowK r).isNone with
    | true => rfl
    | false => exact due1 rs (k + 1) fun z hz => h z (List.mem_cons_of_mem _ hz)
theorem told_eq : ∀ (ls : List Str) (k : Int) (a : List RowT), (∀ l ∈ ls, l.length ≤ 4000000) → a.length + ls.length ≤ 8000000 →
    forM (fun (a39 : (List RowT)) (x40 : (Int × Str)) => ((m_row_read x40.2).sure.bind fun r58 => if (r58).isNone = true then Res.err ⟨"NoRow", [("at", .int x40.1)]⟩ else (Res.of (r58)).bind fun x75 => Res.need (a39.length < sizeLine) (Res.ok (a39 ++ [x75])) : Res (List RowT))) (enumI k ls) a = (match bad1 k (ls.map fun l => Txt.split l (" " : Str)) with
      | some i => Res.err ⟨"NoRow", [("at", .int i)]⟩
      | none => .ok (a ++ (ls.map fun l => Txt.split l (" " : Str)).filterMap rowK))
  | [], k, a, _, _ => by
    have e : enumI k ([] : List Str) = [] := by unfold enumI; simp
    rw [e]
    show Res.ok a = .ok (a ++ [])
    rw [List.append_nil]
  | l :: ls, k, a, h, hl => by
    rw [List.length_cons] at hl
    rw [enumI_cons]
    unfold forM
    dsimp only
    rw [row_read_eq (h l (List.mem_cons_self ..)), List.map_cons]
    unfold bad1
    show ((Res.ok (rowK (Txt.split l (" " : Str)))).bind _).bind _ = _
    rw [ok_bind]
    cases e : rowK (Txt.split l (" " : Str)) with
    | none => rfl
    | some t =>
      rw [if_neg (by simp), of_some (a := t) rfl, need_pos (by rw [sizeLine_eq]; omega), ok_bind, told_eq ls (k + 1) _ (fun z hz => h z (List.mem_cons_of_mem _ hz)) (by rw [List.length_append, List.length_singleton]; omega), if_neg (by simp), List.filterMap_cons_some e, List.append_assoc]
      rfl
def tw (hs sg : List Str) : Bool := !decide (((sg.filter fun i167 => ((decide (i167 ∈ hs)) || (decide (1 < ((sg.count i167 : Nat) : Int))))).map fun i167 => i167) = ([] : List Str))
def p2 : Int → List (List Str) → List Str × List Str → Int ⊕ (List Str × List Str)
  | _, [], st => .inr st
  | k, r :: rs, st => if r.getD 0 "" = ("kind" : Str) then (if (decide (r.getD 1 "" ∈ st.1) || tw st.2 (r.drop 2)) = true then .inl k else p2 (k + 1) rs (st.1 ++ [r.getD 1 ""], st.2 ++ r.drop 2)) else p2 (k + 1) rs st
theorem kind_of {r : List Str} (hk : r.getD 0 "" = ("kind" : Str)) (hs : (rowK r).isSome = true) : 3 ≤ r.length ∧ (r.drop 2).all sgB = true ∧ rowK r = some (.inl (r.getD 1 "", (r.drop 2).map sgO)) := by
  unfold rowK at hs ⊢
  rw [if_pos hk] at hs ⊢
  unfold kindP at hs ⊢
  by_cases c : 3 ≤ r.length ∧ wdB (r.getD 1 "") = true ∧ (r.drop 2).all sgB = true
  · rw [if_pos c]
    exact ⟨c.1, c.2.2, rfl⟩
  · rw [if_neg c] at hs
    cases hs
theorem due2 : ∀ (rows : List (List Str)) (k : Int) (st : List Str × List Str), (∀ r ∈ rows, Sm r ∧ (rowK r).isSome = true) → st.1.length + rows.length ≤ 8000000 → st.2.length + (rows.map List.length).sum ≤ 8000000 →
    forR (fun (a129 : ((List Str) × (List Str))) (x : Int × List Str) => ((Res.of (atI x.2 0)).bind fun x152 => if (decide (x152 = ("kind" : Str))) = true then (Res.of (atI x.2 1)).bind fun x181 => if ((decide (x181 ∈ a129.1)) || (!decide ((((cut x.2 (some 2) none).filter fun i167 => ((decide (i167 ∈ a129.2)) || (decide (1 < (((cut x.2 (some 2) none).count i167 : Nat) : Int))))).map fun i167 => i167) = ([] : List Str)))) = true then Res.ok (Sum.inl [(Sum.inl 1 : Int ⊕ Str), (Sum.inl (x.1 + 1) : Int ⊕ Str)]) else (Res.of (atI x.2 1)).bind fun x194 => Res.need (a129.1.length < sizeLine) (Res.need ((a129.2).length + ((cut x.2 (some 2) none)).length ≤ sizeLine) (Res.ok (Sum.inr ((a129.1 ++ [x194]), (a129.2 ++ (cut x.2 (some 2) none)))))) else Res.ok (Sum.inr (a129.1, a129.2)) : Res ((List (Int ⊕ Str)) ⊕ ((List Str) × (List Str))))) (enumI k rows) st = .ok (match p2 (k + 1) rows st with
      | .inl i => .inl [.inl 1, .inl i]
      | .inr s => .inr s)
  | [], k, st, _, _, _ => by
    have e : enumI k ([] : List (List Str)) = [] := by unfold enumI; simp
    rw [e]
    rfl
  | r :: rs, k, st, h, h1, h2 => by
    obtain ⟨S, hs⟩ := h r (List.mem_cons_self ..)
    have ht : ∀ z ∈ rs, Sm z ∧ (rowK z).isSome = true := fun z hz => h z (List.mem_cons_of_mem _ hz)
    rw [List.length_cons] at h1
    rw [List.map_cons, List.sum_cons] at h2
    rw [enumI_cons]
    unfold forR p2
    dsimp only
    have x0 : atI r 0 = some (r.getD 0 "") := getD_at (i := 0) (List.length_pos_iff.mpr S.1)
    rw [of_some x0]
    by_cases k0 : r.getD 0 "" = ("kind" : Str)
    · obtain ⟨l3, _, _⟩ := kind_of k0 hs
      have x1 : atI r 1 = some (r.getD 1 "") := getD_at (i := 1) (by omega)
      rw [if_pos (decide_eq_true k0), if_pos k0, of_some x1, show cut r (some 2) none = r.drop 2 from cut_tail r 2]
      show ((if (decide (r.getD 1 "" ∈ st.1) || tw st.2 (r.drop 2)) = true then _ else _) : Res _).bind _ = _
      cases e : (decide (r.getD 1 "" ∈ st.1) || tw st.2 (r.drop 2)) with
      | true => rfl
      | false =>
        have hd : (r.drop 2).length ≤ r.length := by rw [List.length_drop]; omega
        rw [if_neg (by decide), of_some x1, need_pos (by rw [sizeLine_eq]; omega), need_pos (by rw [sizeLine_eq]; omega), if_neg (by decide)]
        exact due2 rs (k + 1) _ ht (by rw [List.length_append, List.length_singleton]; omega) (by rw [List.length_append]; omega)
    · rw [if_neg (by simpa using k0), if_neg k0]
      exact due2 rs (k + 1) st ht (by omega) (by omega)
/-! ### the program's heads -/
def vl (s : Str) : Int := (PySem.intText? s).getD 0
theorem vl_inj {s t : Str} (hs : sgB s = true) (ht : sgB t = true) (h : vl s = vl t) : s = t := by
  obtain ⟨n, hn, rfl⟩ := canon hs
  obtain ⟨m, hm, rfl⟩ := canon ht
  unfold vl at h
  rw [hn.read, hm.read] at h
  rw [show n = m from h]
theorem sgO_some {s : Str} (h : sgB s = true) : sgO s = some (vl s) := by
  obtain ⟨n, e⟩ := sg_read h
  unfold sgO vl
  rw [if_pos h, e]
  rfl
def fresh : List Str → List Str → Bool
  | _, [] => true
  | hs, s :: r => !decide (s ∈ hs) && fresh (hs ++ [s]) r
theorem fresh_iff : ∀ (sg hs : List Str), fresh hs sg = true ↔ sg.Nodup ∧ ∀ s ∈ sg, s ∉ hs
  | [], hs => ⟨fun _ => ⟨List.nodup_nil, fun s h => by cases h⟩, fun _ => rfl⟩
  | s :: r, hs => by
    unfold fresh
    rw [Bool.and_eq_true, Bool.not_eq_true', decide_eq_false_iff_not, fresh_iff r (hs ++ [s]), List.nodup_cons]
    refine ⟨fun ⟨h1, h2, h3⟩ => ⟨⟨fun z => h3 s z (by simp), h2⟩, fun t ht => ?_⟩, fun ⟨⟨h1, h2⟩, h3⟩ => ⟨h3 s (List.mem_cons_self ..), h2, fun t ht z => ?_⟩⟩
    · rcases List.mem_cons.mp ht with rfl | ht
      · exact h1
      · exact fun z => h3 t ht (List.mem_append_left _ z)
    · rcases List.mem_append.mp z with z | z
      · exact h3 t (List.mem_cons_of_mem _ ht) z
      · exact h1 (List.mem_singleton.mp z ▸ ht)
theorem tw_fresh (hs sg : List Str) : tw hs sg = !fresh hs sg := by
  unfold tw
  refine congrArg not ?_
  rw [Bool.eq_iff_iff, decide_eq_true_iff, List.map_id', List.filter_eq_nil_iff, fresh_iff, List.nodup_iff_count]
  refine ⟨fun h => ⟨fun s => ?_, fun s hs2 z => ?_⟩, fun ⟨h1, h2⟩ s hs2 => ?_⟩
  · by_cases m : s ∈ sg
    · have := h s m
      rw [Bool.or_eq_true, decide_eq_true_iff, decide_eq_true_iff] at this
      omega
    · rw [List.count_eq_zero.mpr m]
      omega
  · have := h s hs2
    rw [Bool.or_eq_true, decide_eq_true_iff] at this
    exact this (.inl z)
  · rw [Bool.or_eq_true, decide_eq_true_iff, decide_eq_true_iff]
    have := h1 s
    exact fun z => z.elim (h2 s hs2) fun z => by omega
theorem inner_eq {t : RowT} {w : Str} {L : List (Option Int)} {k : Int} (ht : rowL t = some (w, L)) : ∀ (sg hs : List Str) (hd : List (Int × Str)), hd.map (·.1) = hs.map vl → (∀ s ∈ hs, sgB s = true) → (∀ s ∈ sg, sgB s = true) → hd.length + sg.length ≤ 9000000 →
    forM (fun (a190 : (List (Int × Str))) (x191 : (Option Int)) => ((Res.of (x191)).bind fun x209 => if (dget a190 x209).isSome = true then Res.err ⟨"Double", [("at", .int k)]⟩ else (Res.of (rowL t)).bind fun x220 => (Res.of (x191)).bind fun x222 => Res.need (a190.length < sizeLine) (Res.ok (dput a190 x222 x220.1)) : Res (List (Int × Str)))) (sg.map sgO) hd = (if fresh hs sg = true then .ok (hd ++ sg.map fun s => (vl s, w)) else Res.err ⟨"Double", [("at", .int k)]⟩)
  | [], hs, hd, _, _, _, _ => by
    show Res.ok hd = .ok (hd ++ [])
    rw [List.append_nil]
  | s :: r, hs, hd, h1, h2, h3, h4 => by
    rw [List.length_cons] at h4
    have hsg := h3 s (List.mem_cons_self ..)
    rw [List.map_cons]
    unfold forM fresh
    rw [sgO_some hsg, of_some (a := vl s) rfl]
    have key : (dget hd (vl s)).isSome = decide (s ∈ hs) := by
      rw [Bool.eq_iff_iff, dget_isSome, h1, decide_eq_true_iff, List.mem_map]
      exact ⟨fun ⟨t, ht, e⟩ => vl_inj (h2 t ht) hsg e ▸ ht, fun h => ⟨s, h, rfl⟩⟩
    rw [key]
    by_cases m : s ∈ hs
    · rw [if_pos (decide_eq_true m), decide_eq_true m]
      rfl
    · have nk : vl s ∉ hd.map (·.1) := fun z => by
        have := dget_isSome.mpr z
        rw [key] at this
        exact m (of_decide_eq_true this)
      rw [if_neg (by simpa using m), of_some ht, of_some (a := vl s) rfl, need_pos (by rw [sizeLine_eq]; omega), ok_bind, dput_new nk, inner_eq ht r (hs ++ [s]) _ (by rw [List.map_append, List.map_append, h1]; rfl) (fun t ht2 => by
        rcases List.mem_append.mp ht2 with q | q
        · exact h2 t q
        · rw [List.mem_singleton.mp q]; exact hsg) (fun t ht2 => h3 t (List.mem_cons_of_mem _ ht2)) (by rw [List.length_append, List.length_singleton]; omega), decide_eq_false m, Bool.not_false, Bool.true_and, List.map_cons, List.append_assoc]
      rfl
structure HR (hd : List (Int × Str)) (hs kn : List Str) : Prop where
  k : hd.map (·.1) = hs.map vl
  s : ∀ s ∈ hs, sgB s = true
  w : ∀ w, w ∈ OWNW ++ hd.map (·.2) ↔ w ∈ kn
theorem heads_eq : ∀ (rows : List (List Str)) (k : Int) (kn hs : List Str) (hd : List (Int × Str)), (∀ r ∈ rows, (rowK r).isSome = true) → HR hd hs kn → kn.length + rows.length ≤ 8000000 → hs.length + (rows.map List.length).sum ≤ 8000000 →
    match p2 k rows (kn, hs) with
    | .inl i => forM (fun (a116 : ((List Str) × (List (Int × Str)))) (x117 : (Int × RowT)) => (if (decide ((lenRow x117.2) = 2)) = true then (Res.of (rowL x117.2)).bind fun x143 => if (decide (x143.1 ∈ a116.1)) = true then Res.err ⟨"Double", [("at", .int x117.1)]⟩ else (Res.of (rowL x117.2)).bind fun x154 => Res.need (a116.1.length < sizeLine) ((Res.of (rowL x117.2)).bind fun x163 => (forM (fun (a190 : (List (Int × Str))) (x191 : (Option Int)) => ((Res.of (x191)).bind fun x209 => if (dget a190 x209).isSome = true then Res.err ⟨"Double", [("at", .int x117.1)]⟩ else (Res.of (rowL x117.2)).bind fun x220 => (Res.of (x191)).bind fun x222 => Res.need (a190.length < sizeLine) (Res.ok (dput a190 x222 x220.1)) : Res (List (Int × Str)))) x163.2 a116.2).bind fun (a203 : (List (Int × Str))) => Res.ok ((a116.1 ++ [x154.1]), a203)) else Res.ok (a116.1, a116.2) : Res ((List Str) × (List (Int × Str))))) (enumI k (rows.filterMap rowK)) (kn, hd) = .err ⟨"Double", [("at", .int i)]⟩
    | .inr st => ∃ hd', forM (fun (a116 : ((List Str) × (List (Int × Str)))) (x117 : (Int × RowT)) => (if (decide ((lenRow x117.2) = 2)) = true then (Res.of (rowL x117.2)).bind fun x143 => if (decide (x143.1 ∈ a116.1)) = true then Res.err ⟨"Double", [("at", .int x117.1)]⟩ else (Res.of (rowL x117.2)).bind fun x154 => Res.need (a116.1.length < sizeLine) ((Res.of (rowL x117.2)).bind fun x163 => (forM (fun (a190 : (List (Int × Str))) (x191 : (Option Int)) => ((Res.of (x191)).bind fun x209 => if (dget a190 x209).isSome = true then Res.err ⟨"Double", [("at", .int x117.1)]⟩ else (Res.of (rowL x117.2)).bind fun x220 => (Res.of (x191)).bind fun x222 => Res.need (a190.length < sizeLine) (Res.ok (dput a190 x222 x220.1)) : Res (List (Int × Str)))) x163.2 a116.2).bind fun (a203 : (List (Int × Str))) => Res.ok ((a116.1 ++ [x154.1]), a203)) else Res.ok (a116.1, a116.2) : Res ((List Str) × (List (Int × Str))))) (enumI k (rows.filterMap rowK)) (kn, hd) = .ok (st.1, hd') ∧ HR hd' st.2 st.1 ∧ hd'.length ≤ 8000000
  | [], k, kn, hs, hd, _, I, _, h2 => by
    refine ⟨hd, ?_, I, ?_⟩
    · have e : enumI k (([] : List (List Str)).filterMap rowK) = [] := by unfold enumI; simp
      rw [e]
      rfl
    · have := congrArg List.length I.k
      rw [List.length_map, List.length_map] at this
      omega
  | r :: rs, k, kn, hs, hd, h, I, h1, h2 => by
    have hr := h r (List.mem_cons_self ..)
    have ht : ∀ z ∈ rs, (rowK z).isSome = true := fun z hz => h z (List.mem_cons_of_mem _ hz)
    rw [List.length_cons] at h1
    rw [List.map_cons, List.sum_cons] at h2
    have hl := congrArg List.length I.k
    rw [List.length_map, List.length_map] at hl
    unfold p2
    by_cases k0 : r.getD 0 "" = ("kind" : Str)
    · obtain ⟨l3, hg, hk⟩ := kind_of k0 hr
      rw [if_pos k0]
      have hg2 : ∀ s ∈ r.drop 2, sgB s = true := List.all_eq_true.mp hg
      have hdl : (r.drop 2).length ≤ r.length := by rw [List.length_drop]; omega
      have rl : rowL (Sum.inl (r.getD 1 "", (r.drop 2).map sgO)) = some (r.getD 1 "", (r.drop 2).map sgO) := rfl
      rw [List.filterMap_cons_some hk, enumI_cons]
      dsimp only
      by_cases m : r.getD 1 "" ∈ kn
      · rw [decide_eq_true m, Bool.true_or, if_pos rfl]
        exact forM_err (by
          dsimp only
          rw [if_pos (by show decide ((2 : Int) = 2) = true; decide), of_some rl, if_pos (decide_eq_true m)])
      · rw [decide_eq_false m, Bool.false_or, tw_fresh]
        have inn := inner_eq (k := k) rl (r.drop 2) hs hd I.k I.s hg2 (by omega)
        cases e : fresh hs (r.drop 2) with
        | false =>
          rw [e, if_neg (by decide)] at inn
          rw [if_pos (by rfl)]
          exact forM_err (by
            dsimp only
            rw [if_pos (by show decide ((2 : Int) = 2) = true; decide), of_some rl, if_neg (by simpa using m), of_some rl, need_pos (by rw [sizeLine_eq]; omega), of_some rl, inn]
            rfl)
        | true =>
          rw [e, if_pos rfl] at inn
          rw [if_neg (by decide)]
          have I' : HR (hd ++ (r.drop 2).map fun s => (vl s, r.getD 1 "")) (hs ++ r.drop 2) (kn ++ [r.getD 1 ""]) := by
            refine ⟨?_, fun s hs2 => ?_, fun w => ?_⟩
            · rw [List.map_append, List.map_append, I.k, List.map_map]
              rfl
            · rcases List.mem_append.mp hs2 with q | q
              · exact I.s s q
              · exact hg2 s q
            · rw [List.map_append, List.map_map, ← List.append_assoc, List.mem_append, I.w w, List.mem_append]
              refine ⟨fun q => q.imp id fun q => ?_, fun q => q.imp id fun q => ?_⟩
              · obtain ⟨s, _, e⟩ := List.mem_map.mp q
                exact List.mem_singleton.mpr e.symm
              · rw [List.mem_singleton.mp q]
                have : (r.drop 2) ≠ [] := fun z => by
                  have := congrArg List.length z
                  rw [List.length_drop, List.length_nil] at this
                  omega
                obtain ⟨s, q2, e2⟩ := List.exists_cons_of_ne_nil this
                exact List.mem_map.mpr ⟨s, by rw [e2]; exact List.mem_cons_self .., rfl⟩
          have ih := heads_eq rs (k + 1) (kn ++ [r.getD 1 ""]) (hs ++ r.drop 2) _ ht I' (by rw [List.length_append, List.length_singleton]; omega) (by rw [List.length_append]; omega)
          rw [forM_ok1 (b := (kn ++ [r.getD 1 ""], hd ++ (r.drop 2).map fun s => (vl s, r.getD 1 ""))) (by
            dsimp only
            rw [if_pos (by show decide ((2 : Int) = 2) = true; decide), of_some rl, if_neg (by simpa using m), of_some rl, need_pos (by rw [sizeLine_eq]; omega), of_some rl, inn]
            rfl)]
          exact ih
    · rw [if_neg k0]
      have ih := heads_eq rs (k + 1) kn hs hd ht I (by omega) (by omega)
      obtain ⟨t, et⟩ := Option.isSome_iff_exists.mp hr
      have ts : ∃ s, t = .inr s := by
        unfold rowK at et
        rw [if_neg k0] at et
        split at et
        · obtain ⟨s, _, e⟩ := Option.map_eq_some_iff.mp et
          exact ⟨s, e.symm⟩
        · cases et
      obtain ⟨s, rfl⟩ := ts
      rw [List.filterMap_cons_some et, enumI_cons]
      rw [forM_ok1 (b := (kn, hd)) (by
        dsimp only
        rw [if_neg (by show ¬ decide ((3 : Int) = 2) = true; decide)])]
      exact ih

/-! ### the third look -/
def st3 (kn r : List Str) : Bool := (!decide (r.getD 0 "" = ("kind" : Str))) && (!decide ((((r.drop 1).filter fun i264 => ((!decide (i264 = ("|" : Str))) && (!(decide (i264 ∈ kn))))).map fun i264 => i264) = ([] : List Str)))
def bad3 (kn : List Str) : Int → List (List Str) → Option Int
  | _, [] => none
  | k, r :: rs => if st3 kn r = true then some k else bad3 kn (k + 1) rs
theorem due3 (kn : List Str) : ∀ (rows : List (List Str)) (k : Int), (∀ r ∈ rows, Sm r) → forR (fun (a : Unit) (x : Int × List Str) => ((Res.of (atI x.2 0)).bind fun x278 => if ((!decide (x278 = ("kind" : Str))) && (!decide ((((cut x.2 (some 1) none).filter fun i264 => ((!decide (i264 = ("|" : Str))) && (!(decide (i264 ∈ kn))))).map fun i264 => i264) = ([] : List Str)))) = true then Res.ok (Sum.inl [(Sum.inl 2 : Int ⊕ Str), (Sum.inl (x.1 + 1) : Int ⊕ Str)]) else Res.ok (Sum.inr ()) : Res ((List (Int ⊕ Str)) ⊕ Unit))) (enumI k rows) () = .ok (match bad3 kn (k + 1) rows with
    | some i => .inl [.inl 2, .inl i]
    | none => .inr ())
  | [], k, _ => by
    have e : enumI k ([] : List (List Str)) = [] := by unfold enumI; simp
    rw [e]
    rfl
  | r :: rs, k, h => by
    have S := h r (List.mem_cons_self ..)
    have x0 : atI r 0 = some (r.getD 0 "") := getD_at (i := 0) (List.length_pos_iff.mpr S.1)
    rw [enumI_cons]
    unfold forR bad3
    dsimp only
    rw [of_some x0, show cut r (some 1) none = r.drop 1 from cut_tail r 1]
    show ((if st3 kn r = true then _ else _ : Res _).bind _) = _
    cases st3 kn r with
    | true => rfl
    | false => exact due3 kn rs (k + 1) fun z hz => h z (List.mem_cons_of_mem _ hz)
theorem wdB_bar : wdB ("|" : Str) = false := by decide +kernel
theorem side_of {r : List Str} (hk : r.getD 0 "" ≠ ("kind" : Str)) (hs : (rowK r).isSome = true) : ∃ (b : Bool) (l rr : List Str), rowK r = some (.inr (b, l, rr)) ∧ r.drop 1 = l ++ ("|" : Str) :: rr ∧ (∀ w ∈ l ++ rr, wdB w = true) ∧ l.length ≤ 3 ∧ rr.length ≤ 3 := by
  unfold rowK at hs ⊢
  rw [if_neg hk] at hs ⊢
  by_cases k : r.getD 0 "" = ("keep" : Str) ∨ r.getD 0 "" = ("cut" : Str)
  · rw [if_pos k] at hs ⊢
    unfold sideP at hs ⊢
    by_cases c : r.count ("|" : Str) = 1
    · obtain ⟨j, hj, hl⟩ := ixOf_some (List.count_pos_iff.mp (by omega) : ("|" : Str) ∈ r)
      obtain ⟨q, e1, e2, _⟩ := ixOf_at hj
      have eq : q = j := by omega
      subst eq
      have j0 : 1 ≤ q := by
        rcases Nat.eq_zero_or_pos q with z | z
        · subst z
          have e3 : r.getD 0 "" = ("|" : Str) := by rw [List.getD_eq_getElem?_getD, e2]; rfl
          rw [e3] at k
          exact absurd k (by decide)
        · exact z
      rw [if_pos c, hj] at hs ⊢
      dsimp only at hs ⊢
      by_cases m : (barL r q).length ≤ 3 ∧ (barR r q).length ≤ 3 ∧ (barL r q ++ barR r q).all wdB = true
      · rw [if_pos m]
        refine ⟨_, barL r q, barR r q, rfl, ?_, List.all_eq_true.mp m.2.2, m.1, m.2.1⟩
        have h1 := cut_mid r 1 q j0
        have h2 := cut_tail r (q + 1)
        unfold barL barR
        rw [show (1 : Int) = ((1 : Nat) : Int) from rfl, h1, show (q : Int) + ((1 : Nat) : Int) = ((q + 1 : Nat) : Int) by omega, h2]
        have h3 : r.drop q = ("|" : Str) :: r.drop (q + 1) := by
          rw [List.drop_eq_getElem_cons hl]
          rw [List.getElem?_eq_getElem hl] at e2
          rw [Option.some.inj e2]
        rw [← h3]
        have h4 : r = r.take q ++ r.drop q := (List.take_append_drop q r).symm
        conv => lhs; rw [h4]
        rw [List.drop_append_of_le_length (by rw [List.length_take]; omega)]
      · rw [if_neg m] at hs
        cases hs
    · rw [if_neg c] at hs
      cases hs
  · rw [if_neg k] at hs
    cases hs
theorem kinds_eq {hd : List (Int × Str)} {hs kn : List Str} (I : HR hd hs kn) : ∀ (rows : List (List Str)) (k : Int), (∀ r ∈ rows, (rowK r).isSome = true) →
    forM (fun (a126 : Unit) (x127 : (Int × RowT)) => ((if (decide ((lenRow x127.2) = 3)) = true then (Res.of (rowR x127.2)).bind fun x144 => (Res.of (rowR x127.2)).bind fun x146 => Res.need ((x144.2.1).length + (x146.2.2).length ≤ sizeLine) (Res.ok (!((((x144.2.1 ++ x146.2.2).map fun i149 => (decide (i149 ∈ ((["any", "edge", "other"] : List Str) ++ (hd.map (·.2))))))).all id))) else Res.ok false).sure.bind fun b150 => if b150 = true then Res.err ⟨"NoKind", [("at", .int x127.1)]⟩ else Res.ok () : Res Unit)) (enumI k (rows.filterMap rowK)) () = (match bad3 kn k rows with
      | some i => Res.err ⟨"NoKind", [("at", .int i)]⟩
      | none => .ok ())
  | [], k, _ => by
    have e : enumI k (([] : List (List Str)).filterMap rowK) = [] := by unfold enumI; simp
    rw [e]
    rfl
  | r :: rs, k, h => by
    have hr := h r (List.mem_cons_self ..)
    have ih := kinds_eq I rs (k + 1) fun z hz => h z (List.mem_cons_of_mem _ hz)
    unfold bad3
    by_cases k0 : r.getD 0 "" = ("kind" : Str)
    · obtain ⟨_, _, hk⟩ := kind_of k0 hr
      have e3 : st3 kn r = false := by unfold st3; rw [decide_eq_true k0]; rfl
      rw [List.filterMap_cons_some hk, enumI_cons, e3, if_neg (by decide), forM_ok1 (b := ()) (by
        dsimp only
        rw [if_neg (by show ¬ decide ((2 : Int) = 3) = true; decide)]
        rfl)]
      exact ih
    · obtain ⟨b, l, rr, e1, e2, e3, e4, e5⟩ := side_of k0 hr
      have ht : rowR (Sum.inr (b, l, rr)) = some (b, l, rr) := rfl
      have key : st3 kn r = !(((l ++ rr).map fun i149 => (decide (i149 ∈ ((["any", "edge", "other"] : List Str) ++ (hd.map (·.2)))))).all id) := by
        unfold st3
        rw [decide_eq_false k0, Bool.not_false, Bool.true_and]
        refine congrArg not ?_
        rw [Bool.eq_iff_iff, decide_eq_true_iff, List.map_id', List.filter_eq_nil_iff, all_map, List.all_eq_true, e2]
        refine ⟨fun h w hw => ?_, fun h w hw => ?_⟩
        · have hb : w ≠ ("|" : Str) := fun z => by
            have := e3 w hw
            rw [z, wdB_bar] at this
            cases this
          have := h w (by
            rcases List.mem_append.mp hw with q | q
            · exact List.mem_append_left _ q
            · exact List.mem_append_right _ (List.mem_cons_of_mem _ q))
          rw [decide_eq_false hb] at this
          refine decide_eq_true ((I.w w).mpr ?_)
          simpa using this
        · rcases List.mem_append.mp hw with q | q
          · have := h w (List.mem_append_left _ q)
            rw [decide_eq_true_iff] at this
            have := (I.w w).mp this
            simp [this]
          · rcases List.mem_cons.mp q with q | q
            · rw [q]; simp
            · have := h w (List.mem_append_right _ q)
              rw [decide_eq_true_iff] at this
              have := (I.w w).mp this
              simp [this]
      rw [List.filterMap_cons_some e1, enumI_cons]
      cases e : st3 kn r with
      | true =>
        rw [e] at key
        rw [if_pos rfl]
        exact forM_err (by
          dsimp only
          rw [if_pos (by show decide ((3 : Int) = 3) = true; decide), of_some ht, of_some ht, need_pos (by rw [sizeLine_eq]; dsimp only; omega)]
          dsimp only
          rw [← key]
          rfl)
      | false =>
        rw [e] at key
        rw [if_neg (by decide), forM_ok1 (b := ()) (by
          dsimp only
          rw [if_pos (by show decide ((3 : Int) = 3) = true; decide), of_some ht, of_some ht, need_pos (by rw [sizeLine_eq]; dsimp only; omega)]
          dsimp only
          rw [← key]
          rfl)]
        exact ih
/-! ### the rows of a writing -/
def rowsT (w : Str) : List Str := if (Txt.split w ("\n" : Str)).getLast? = some ("" : Str) then (Txt.split w ("\n" : Str)).dropLast else Txt.split w ("\n" : Str)
theorem rowsT_sz {w : Str} : (rowsT w).length ≤ w.length + 1 ∧ ((rowsT w).map (·.length)).sum ≤ w.length := by
  obtain ⟨h1, h2⟩ := split_sz (x := w) l_nl
  unfold rowsT
  split
  · rename_i h
    have hd : (Txt.split w ("\n" : Str)).dropLast ++ [("" : Str)] = Txt.split w ("\n" : Str) := by
      have hne := split_ne (x := w) (y := ("\n" : Str)) (by decide)
      have := List.dropLast_concat_getLast hne
      rw [List.getLast?_eq_some_getLast hne] at h
      rw [← Option.some.inj h]
      exact this
    have h3 := congrArg (fun l : List Str => (l.map (·.length)).sum) hd
    simp only [List.map_append, List.sum_append] at h3
    refine ⟨by rw [List.length_dropLast]; omega, ?_⟩
    omega
  · exact ⟨h1, h2⟩
theorem last_at {α : Type} {xs : List α} {x : α} (h : xs.getLast? = some x) : atI xs (-1) = some x := by
  rcases List.eq_nil_or_concat xs with rfl | ⟨a, d, rfl⟩
  · cases h
  · rw [List.concat_eq_append] at h ⊢
    rw [List.getLast?_concat] at h
    cases h
    exact atI_last a _
theorem rows_of_eq {w : Str} (h : w.length ≤ 4000000) : m_rows_of w = .ok (rowsT w) := by
  have hne := split_ne (x := w) (y := ("\n" : Str)) (by decide)
  have hl := List.getLast?_eq_some_getLast hne
  unfold m_rows_of rowsT
  rw [need_pos (by rw [sizeLine_eq]; omega)]
  generalize (Txt.split w ("\n" : Str)).getLast hne = d at hl
  rw [of_some (last_at hl), hl]
  by_cases c : d = ("" : Str)
  · rw [if_pos (decide_eq_true c), of_some (a := d) rfl, if_pos (by rw [c])]
    rfl
  · rw [if_neg (by simpa using c), if_neg (fun z => c (Option.some.inj z))]
    rfl
theorem l_rows_eq {w : Str} (h : w.length ≤ 4000000) : m_l_rows w = .ok ((rowsT w).map fun l => Txt.split l (" " : Str)) := by
  have hne := split_ne (x := w) (y := ("\n" : Str)) (by decide)
  have hl := List.getLast?_eq_some_getLast hne
  obtain ⟨z1, z2⟩ := rowsT_sz (w := w)
  have em : mfM (fun i41 : Str => Res.ok true) (fun i41 => Res.need (i41.length + 2 ≤ sizeLine) (Res.ok (Txt.split i41 (" " : Str)))) (rowsT w) = .ok ((rowsT w).map fun l => Txt.split l (" " : Str)) := by
    have := mfM_ok (c := fun _ : Str => Res.ok true) (cb := fun _ => true) (f := fun i41 : Str => Res.need (i41.length + 2 ≤ sizeLine) (Res.ok (Txt.split i41 (" " : Str)))) (fb := fun l => Txt.split l (" " : Str)) (xs := rowsT w) (fun _ _ => rfl) fun s hs _ => by
      have := mem_sum hs
      rw [need_pos (by rw [sizeLine_eq]; omega)]
    rw [List.filter_eq_self.mpr (fun _ _ => rfl)] at this
    exact this
  unfold m_l_rows
  rw [need_pos (by rw [sizeLine_eq]; omega)]
  unfold rowsT at em ⊢
  generalize (Txt.split w ("\n" : Str)).getLast hne = d at hl
  rw [of_some (last_at hl)]
  rw [hl] at em ⊢
  by_cases c : d = ("" : Str)
  · rw [if_pos (by rw [c])] at em
    rw [if_pos (decide_eq_true c), cut_init, ok_bind, bind_eq em, if_pos (by rw [c])]
  · rw [if_neg (fun z => c (Option.some.inj z))] at em
    rw [if_neg (by simpa using c), ok_bind, bind_eq em, if_neg (fun z => c (Option.some.inj z))]
def outL (rows : List (List Str)) : List (Int ⊕ Str) := match bad1 1 rows with
  | some i => [.inl 0, .inl i]
  | none => match p2 1 rows (OWNW, []) with
    | .inl i => [.inl 1, .inl i]
    | .inr st => match bad3 st.1 1 rows with
      | some i => [.inl 2, .inl i]
      | none => []
theorem bad1_none : ∀ (rows : List (List Str)) (k : Int), bad1 k rows = none → ∀ r ∈ rows, (rowK r).isSome = true
  | [], _, _ => fun r hr => by cases hr
  | r :: rs, k, h => fun z hz => by
    unfold bad1 at h
    cases e : rowK r with
    | none => rw [e] at h; cases h
    | some t =>
      rw [e, if_neg (by simp)] at h
      rcases List.mem_cons.mp hz with rfl | hz
      · rw [e]; rfl
      · exact bad1_none rs (k + 1) h z hz
theorem due_eq {rows : List (List Str)} (S : ∀ r ∈ rows, Sm r) (h1 : rows.length ≤ 4000000) (h2 : (rows.map List.length).sum ≤ 7000000) : m_l_due rows = .ok (outL rows) := by
  unfold m_l_due outL
  rw [need_pos (by omega)]
  rw [forR_range (step' := fun (a : Unit) (x : Int × List Str) => ((m_l_sort x.2).bind fun r50 => if (decide (r50 = ("none" : Str))) = true then Res.ok (Sum.inl [(Sum.inl 0 : Int ⊕ Str), (Sum.inl (x.1 + 1) : Int ⊕ Str)]) else Res.ok (Sum.inr ()) : Res ((List (Int ⊕ Str)) ⊕ Unit))) () fun i y hy a => by
    have e : atI rows (i : Int) = some y := by rw [atI_nat]; exact hy
    rw [of_some e]]
  rw [bind_eq (due1 rows 0 S), show (0 : Int) + 1 = 1 from rfl]
  cases e1 : bad1 1 rows with
  | some i => rfl
  | none =>
    have hs := bad1_none rows 1 e1
    show Res.need _ _ = _
    rw [need_pos (by omega)]
    rw [forR_range (step' := fun (a129 : ((List Str) × (List Str))) (x : Int × List Str) => ((Res.of (atI x.2 0)).bind fun x152 => if (decide (x152 = ("kind" : Str))) = true then (Res.of (atI x.2 1)).bind fun x181 => if ((decide (x181 ∈ a129.1)) || (!decide ((((cut x.2 (some 2) none).filter fun i167 => ((decide (i167 ∈ a129.2)) || (decide (1 < (((cut x.2 (some 2) none).count i167 : Nat) : Int))))).map fun i167 => i167) = ([] : List Str)))) = true then Res.ok (Sum.inl [(Sum.inl 1 : Int ⊕ Str), (Sum.inl (x.1 + 1) : Int ⊕ Str)]) else (Res.of (atI x.2 1)).bind fun x194 => Res.need (a129.1.length < sizeLine) (Res.need ((a129.2).length + ((cut x.2 (some 2) none)).length ≤ sizeLine) (Res.ok (Sum.inr ((a129.1 ++ [x194]), (a129.2 ++ (cut x.2 (some 2) none)))))) else Res.ok (Sum.inr (a129.1, a129.2)) : Res ((List (Int ⊕ Str)) ⊕ ((List Str) × (List Str))))) (OWNW, []) fun i y hy a => by
      have e : atI rows (i : Int) = some y := by rw [atI_nat]; exact hy
      simp only [of_some e]]
    rw [bind_eq (due2 rows 0 (OWNW, []) (fun r hr => ⟨S r hr, hs r hr⟩) (by show 3 + _ ≤ _; omega) (by show 0 + _ ≤ _; omega)), show (0 : Int) + 1 = 1 from rfl]
    cases e2 : p2 1 rows (OWNW, []) with
    | inl i => rfl
    | inr st =>
      show Res.need _ _ = _
      rw [need_pos (by omega)]
      rw [forR_range (step' := fun (a : Unit) (x : Int × List Str) => ((Res.of (atI x.2 0)).bind fun x278 => if ((!decide (x278 = ("kind" : Str))) && (!decide ((((cut x.2 (some 1) none).filter fun i264 => ((!decide (i264 = ("|" : Str))) && (!(decide (i264 ∈ st.1))))).map fun i264 => i264) = ([] : List Str)))) = true then Res.ok (Sum.inl [(Sum.inl 2 : Int ⊕ Str), (Sum.inl (x.1 + 1) : Int ⊕ Str)]) else Res.ok (Sum.inr ()) : Res ((List (Int ⊕ Str)) ⊕ Unit))) () fun i y hy a => by
        have e : atI rows (i : Int) = some y := by rw [atI_nat]; exact hy
        rw [of_some e, of_some e]]
      rw [bind_eq (due3 st.1 rows 0 S), show (0 : Int) + 1 = 1 from rfl]
      dsimp only
      cases bad3 st.1 1 rows with
      | some i => rfl
      | none => rfl
def errOf (l : List (Int ⊕ Str)) : Option Err := match l with
  | [.inl 0, .inl i] => some ⟨"NoRow", [("at", .int i)]⟩
  | [.inl 1, .inl i] => some ⟨"Double", [("at", .int i)]⟩
  | [.inl 2, .inl i] => some ⟨"NoKind", [("at", .int i)]⟩
  | _ => none
theorem read_eq {w : Str} (h : w.length ≤ 1000000) : (∃ R, m_read_rules w = .ok R ∧ outL ((rowsT w).map fun l => Txt.split l (" " : Str)) = []) ∨ ∃ (c : Int) (n : Str) (i : Int), m_read_rules w = .err ⟨n, [("at", .int i)]⟩ ∧ outL ((rowsT w).map fun l => Txt.split l (" " : Str)) = [.inl c, .inl i] ∧ ((c = 0 ∧ n = "NoRow") ∨ (c = 1 ∧ n = "Double") ∨ (c = 2 ∧ n = "NoKind")) := by
  obtain ⟨z1, z2⟩ := rowsT_sz (w := w)
  have hz : ∀ l ∈ rowsT w, l.length ≤ 4000000 := fun l hl => by have := mem_sum hl; omega
  have hsum : (((rowsT w).map fun l => Txt.split l (" " : Str)).map List.length).sum ≤ 3000000 := by
    have : ∀ ls : List Str, ((ls.map fun l => Txt.split l (" " : Str)).map List.length).sum ≤ (ls.map (·.length)).sum + ls.length := fun ls => by
      induction ls with
      | nil => exact Nat.le_refl _
      | cons l ls ih =>
        have := (split_sz (x := l) l_sp).1
        simp only [List.map_cons, List.sum_cons, List.length_cons]
        omega
    have := this (rowsT w)
    omega
  have hlen : ((rowsT w).map fun l => Txt.split l (" " : Str)).length ≤ 1000001 := by rw [List.length_map]; omega
  have told := told_eq (rowsT w) 1 [] hz (by rw [List.length_nil]; omega)
  rw [List.nil_append] at told
  unfold m_read_rules outL
  rw [rows_of_eq (by omega)]
  show (∃ R, (Res.bind (Res.ok (rowsT w)) _ : Res Rul) = .ok R ∧ _) ∨ ∃ (c : Int) (n : Str) (i : Int), (Res.bind (Res.ok (rowsT w)) _ : Res Rul) = _ ∧ _
  rw [ok_bind, told]
  generalize (rowsT w).map (fun l => Txt.split l (" " : Str)) = rows at *
  cases e1 : bad1 1 rows with
  | some i => exact .inr ⟨0, "NoRow", i, rfl, rfl, .inl ⟨rfl, rfl⟩⟩
  | none =>
    have hs := bad1_none rows 1 e1
    have I0 : HR [] [] OWNW := ⟨rfl, (fun s h => by cases h), fun w => by rw [List.map_nil, List.append_nil]⟩
    have hh := heads_eq rows 1 OWNW [] [] hs I0 (by show 3 + _ ≤ _; omega) (by show 0 + _ ≤ _; omega)
    dsimp only
    rw [ok_bind]
    cases e2 : p2 1 rows (OWNW, []) with
    | inl i =>
      rw [e2] at hh
      dsimp only at hh
      have em : m_heads_of (rows.filterMap rowK) = .err ⟨"Double", [("at", .int i)]⟩ := by
        unfold m_heads_of
        rw [hh]
        rfl
      rw [em]
      exact .inr ⟨1, "Double", i, rfl, rfl, .inr (.inl ⟨rfl, rfl⟩)⟩
    | inr st =>
      rw [e2] at hh
      dsimp only at hh
      obtain ⟨hd, h3, I, h4⟩ := hh
      have em : m_heads_of (rows.filterMap rowK) = .ok hd := by
        unfold m_heads_of
        rw [h3]
        rfl
      rw [em, ok_bind, need_pos (by rw [List.length_map, sizeLine_eq]; show 3 + _ ≤ _; omega), kinds_eq I rows 1 hs]
      dsimp only
      cases e3 : bad3 st.1 1 rows with
      | some i => exact .inr ⟨2, "NoKind", i, rfl, rfl, .inr (.inr ⟨rfl, rfl⟩)⟩
      | none =>
        have mm := mfM_ok (c := fun i162 : RowT => Res.ok (decide ((lenRow i162) = 3))) (cb := fun i162 => decide ((lenRow i162) = 3)) (f := fun i162 : RowT => (Res.of (rowR i162)).bind fun x163 => Res.ok x163) (fb := fun t => (rowR t).getD (false, [], [])) (xs := rows.filterMap rowK) (fun _ _ => rfl) fun t _ ht => by
          cases t with
          | inl y => exact absurd (of_decide_eq_true ht) (by show ¬ (2 : Int) = 3; decide)
          | inr y => rfl
        rw [ok_bind, mm]
        exact .inl ⟨_, rfl, rfl⟩
theorem l_told_eq {w : Str} (h : w.length ≤ 1000000) : m_l_told w = .ok (outL ((rowsT w).map fun l => Txt.split l (" " : Str))) := by
  unfold m_l_told
  rcases read_eq h with ⟨R, e1, e2⟩ | ⟨c, n, i, e1, e2, e3⟩
  · rw [e1, e2]
    rfl
  · rw [e1, e2]
    rcases e3 with ⟨rfl, rfl⟩ | ⟨rfl, rfl⟩ | ⟨rfl, rfl⟩
    · rfl
    · rfl
    · rfl

/-! ### the drawn writing -/
theorem mfM_ex {α β : Type} {f : α → Res β} {P : β → Prop} : ∀ {xs : List α}, (∀ x ∈ xs, ∃ y, f x = .ok y ∧ P y) → ∃ ys, mfM (fun _ => Res.ok true) f xs = .ok ys ∧ ys.length = xs.length ∧ ∀ y ∈ ys, P y
  | [], _ => ⟨[], rfl, rfl, fun y hy => by cases hy⟩
  | x :: xs, h => by
    obtain ⟨y, e, p⟩ := h x (List.mem_cons_self ..)
    obtain ⟨ys, e2, l2, p2⟩ := mfM_ex fun z hz => h z (List.mem_cons_of_mem _ hz)
    refine ⟨y :: ys, ?_, by rw [List.length_cons, List.length_cons, l2], fun z hz => ?_⟩
    · unfold mfM
      rw [ok_bind, if_pos rfl, e, ok_bind, e2]
      rfl
    · rcases List.mem_cons.mp hz with rfl | hz
      · exact p
      · exact p2 z hz
theorem modx (a n : Int) (h : 0 < n) : 0 ≤ a % n ∧ a % n < n := ⟨Int.emod_nonneg a (by omega), Int.emod_lt_of_pos a h⟩
theorem b2i_01 (b : Bool) : b2i b = 0 ∨ b2i b = 1 := by cases b; exact .inl rfl; exact .inr rfl
theorem rangeI_len73 (n : Nat) : (rangeI 0 (n : Int)).length = n := by
  unfold rangeI
  rw [List.length_map, List.length_range]
  omega
theorem rangeI_mem73 {n : Nat} {i : Int} (h : i ∈ rangeI 0 (n : Int)) : 0 ≤ i ∧ i < n := by
  unfold rangeI at h
  obtain ⟨k, hk, rfl⟩ := List.mem_map.mp h
  have := List.mem_range.mp hk
  omega
theorem at_in {α : Type} {xs : List α} {k : Int} (h : 0 ≤ k ∧ k < xs.length) : ∃ x, atI xs k = some x ∧ x ∈ xs := atI_in h.1 h.2
theorem crep1 : CRep ("0" : Str) 59 := by decide +kernel
theorem crep2 : CRep ("0" : Str) 60 := by decide +kernel
theorem rep1 : (repS ("0" : Str) 59).length = 59 := by rw [rep_len]; decide
theorem rep2 : (repS ("0" : Str) 60).length = 60 := by rw [rep_len]; decide
theorem lcat (u v : Str) : (u ++ v).length = u.length + v.length := by rw [TL.len_tl, TL.tl_append, List.length_append, ← TL.len_tl, ← TL.len_tl]
theorem cmul_t {a b : Int} (h : b = 0 ∨ b = 1) : CMul a b := .inr (by rcases h with h | h <;> rw [h] <;> decide)
theorem row_ok (way one two : Int) : Ok (fun s => s.length ≤ 2000) (m_l_row way one two) := by
  have l1 : ("1" : Str).length = 1 := by decide
  have lsp : (" " : Str).length = 1 := by decide
  unfold m_l_row
  obtain ⟨m1, m2⟩ := modx (two / 7) 16 (by decide)
  obtain ⟨m3, m4⟩ := modx ((two / 7) % 16) 3 (by decide)
  have hb := b2i_01 (decide (((two / 7) % 16) < 6))
  have hp : 0 ≤ (((two / 7) % 16) % 3) * (b2i (decide (((two / 7) % 16) < 6))) ∧ (((two / 7) % 16) % 3) * (b2i (decide (((two / 7) % 16) < 6))) < 3 := by
    rcases hb with h | h
    · rw [h]; omega
    · rw [h]; omega
  obtain ⟨x2, e2, h2⟩ := at_in (xs := [("a" : Str), ("cut" : Str), ("cutoffabc" : Str)]) hp
  have w2 : x2.length ≤ 9 := by
    simp only [List.mem_cons, List.not_mem_nil, or_false] at h2
    rcases h2 with rfl | rfl | rfl <;> decide
  have W : ∀ w ∈ ([x2, ("bb" : Str), ("kind" : Str), ("keep" : Str)] ++ [("any" : Str), ("edge" : Str), ("other" : Str), ("zzz" : Str)]), w.length ≤ 61 := fun w hw => by
    simp only [List.cons_append, List.nil_append, List.mem_cons, List.not_mem_nil, or_false] at hw
    rcases hw with rfl | rfl | rfl | rfl | rfl | rfl | rfl | rfl
    · omega
    all_goals decide
  have WL : ([x2, ("bb" : Str), ("kind" : Str), ("keep" : Str)] ++ [("any" : Str), ("edge" : Str), ("other" : Str), ("zzz" : Str)]).length = 8 := rfl
  generalize hW : ([x2, ("bb" : Str), ("kind" : Str), ("keep" : Str)] ++ [("any" : Str), ("edge" : Str), ("other" : Str), ("zzz" : Str)]) = Ws at W WL
  refine Ok.need (cmul_t hb) (Ok.of e2 (Ok.need (by rw [sizeLine_eq]; show 4 + 4 ≤ _; omega) ?_))
  rw [hW]
  have join_ok : ∀ ws : List Str, ws.length ≤ 16 → (∀ w ∈ ws, w.length ≤ 61) → (ws.map (·.length)).sum + ws.length * (" " : Str).length ≤ 16777216 ∧ (Txt.join (" " : Str) ws).length ≤ 2000 := fun ws hl hw => by
    have s1 := sum_len hw
    have s2 := jn_len (" " : Str) hw
    rw [lsp] at s2 ⊢
    omega
  refine Ok.ite (fun _ => ?_) fun _ => ?_
  · refine Ok.need crep1 (Ok.need (by rw [rep1, l1, sizeLine_eq]; omega) (Ok.need crep2 (Ok.need (by rw [rep2, l1, sizeLine_eq]; omega) ?_)))
    obtain ⟨x32, e32, h32⟩ : ∃ x, atI [(4 : Int), 6] (b2i (decide (((way / 5) % 4) = 0))) = some x ∧ (x = 4 ∨ x = 6) := by
      rcases b2i_01 (decide (((way / 5) % 4) = 0)) with h | h
      · rw [h]; exact ⟨4, rfl, .inl rfl⟩
      · rw [h]; exact ⟨6, rfl, .inr rfl⟩
    obtain ⟨x38, e38, h38⟩ : ∃ x : Nat, atI [(1 + (two % 3)), 0] (b2i (decide (((way / 20) % 16) = 7))) = some (x : Int) ∧ x ≤ 3 := by
      obtain ⟨q1, q2⟩ := modx two 3 (by decide)
      rcases b2i_01 (decide (((way / 20) % 16) = 7)) with h | h
      · rw [h]
        exact ⟨(1 + two % 3).toNat, by rw [Int.toNat_of_nonneg (by omega)]; rfl, by omega⟩
      · rw [h]; exact ⟨0, rfl, by omega⟩
    refine Ok.of e32 (Ok.of e38 (Ok.need (by omega) ?_))
    obtain ⟨l46, e46, ll, lw⟩ := mfM_ex (f := fun i41 : Int => Res.need (CDiv one ((5 * i41) + 1)) (Res.need (0 < x32) ((Res.of (atI [("0" : Str), ("7" : Str), ("12" : Str), (("1" : Str) ++ (repS ("0" : Str) 59)), (("1" : Str) ++ (repS ("0" : Str) 60)), ("5" : Str)] ((one / ((5 * i41) + 1)) % x32))).bind fun x44 => Res.ok x44))) (P := fun w : Str => w.length ≤ 61) (xs := rangeI 0 (x38 : Int)) fun i hi => by
      obtain ⟨i0, i1⟩ := rangeI_mem73 hi
      obtain ⟨q1, q2⟩ := modx (one / ((5 * i) + 1)) x32 (by omega)
      obtain ⟨s, es, hs⟩ := at_in (xs := [("0" : Str), ("7" : Str), ("12" : Str), (("1" : Str) ++ (repS ("0" : Str) 59)), (("1" : Str) ++ (repS ("0" : Str) 60)), ("5" : Str)]) (k := (one / ((5 * i) + 1)) % x32) ⟨q1, by show _ < (6 : Int); omega⟩
      refine ⟨s, by rw [need_pos ⟨by omega, by omega⟩, need_pos (by omega), of_some es], ?_⟩
      simp only [List.mem_cons, List.not_mem_nil, or_false] at hs
      rcases hs with rfl | rfl | rfl | rfl | rfl | rfl
      · decide
      · decide
      · decide
      · rw [lcat, l1, rep1]; omega
      · rw [lcat, l1, rep2]; omega
      · decide
    rw [rangeI_len73] at ll
    refine Ok.bindE e46 ?_
    obtain ⟨x59, e59, h59⟩ : ∃ x, atI [(3 : Int), 7] (b2i (decide (((two / 21) % 4) = 0))) = some x ∧ (x = 3 ∨ x = 7) := by
      rcases b2i_01 (decide (((two / 21) % 4) = 0)) with h | h
      · rw [h]; exact ⟨3, rfl, .inl rfl⟩
      · rw [h]; exact ⟨7, rfl, .inr rfl⟩
    obtain ⟨q1, q2⟩ := modx (two / 3) x59 (by omega)
    obtain ⟨x62, e62, h62⟩ := at_in (xs := Ws) (k := (two / 3) % x59) ⟨q1, by rw [WL]; omega⟩
    obtain ⟨j1, j2⟩ := join_ok ([("kind" : Str), x62] ++ l46) (by rw [List.length_append, ll]; show 2 + _ ≤ _; omega) fun w hw => by
      rcases List.mem_append.mp hw with hw | hw
      · simp only [List.mem_cons, List.not_mem_nil, or_false] at hw
        rcases hw with rfl | rfl
        · decide
        · exact W _ h62
      · exact lw w hw
    exact Ok.of e59 (Ok.need (by omega) (Ok.of e62 (Ok.need (by rw [ll, sizeLine_eq]; show 2 + _ ≤ _; omega) (Ok.need j1 (Ok.ret j2)))))
  · obtain ⟨x70, e70, h70⟩ : ∃ x, atI [(3 : Int), 8] ((way / 5) % 2) = some x ∧ (x = 3 ∨ x = 8) := by
      rcases (show (way / 5) % 2 = 0 ∨ (way / 5) % 2 = 1 by omega) with h | h
      · rw [h]; exact ⟨3, rfl, .inl rfl⟩
      · rw [h]; exact ⟨8, rfl, .inr rfl⟩
    obtain ⟨n1, hn1, ln1⟩ : ∃ n : Nat, (one / 11) % 4 = (n : Int) ∧ n ≤ 3 := by
      obtain ⟨q1, q2⟩ := modx (one / 11) 4 (by decide)
      exact ⟨((one / 11) % 4).toNat, by omega, by omega⟩
    obtain ⟨n2, hn2, ln2⟩ : ∃ n : Nat, (two / 11) % 4 = (n : Int) ∧ n ≤ 3 := by
      obtain ⟨q1, q2⟩ := modx (two / 11) 4 (by decide)
      exact ⟨((two / 11) % 4).toNat, by omega, by omega⟩
    rw [hn1, hn2]
    have side : ∀ (D : List Int) (c : Int) (n : Nat), D.length = 8 → (∀ d ∈ D, 0 ≤ d ∧ d < 8) → n ≤ 3 → ∃ l, mfM (fun _ : Int => Res.ok true) (fun i77 => Res.need (CDiv c ((3 * i77) + 1)) (Res.need (0 < x70) ((Res.of (atI D ((c / ((3 * i77) + 1)) % x70))).bind fun x80 => (Res.of (atI Ws x80)).bind fun x82 => Res.ok x82))) (rangeI 0 (n : Int)) = .ok l ∧ l.length = n ∧ ∀ w ∈ l, w.length ≤ 61 := fun D c n hD hd hn => by
      obtain ⟨l, e, ll, lw⟩ := mfM_ex (f := fun i77 : Int => Res.need (CDiv c ((3 * i77) + 1)) (Res.need (0 < x70) ((Res.of (atI D ((c / ((3 * i77) + 1)) % x70))).bind fun x80 => (Res.of (atI Ws x80)).bind fun x82 => Res.ok x82))) (P := fun w : Str => w.length ≤ 61) (xs := rangeI 0 (n : Int)) fun i hi => by
        obtain ⟨i0, i1⟩ := rangeI_mem73 hi
        obtain ⟨q1, q2⟩ := modx (c / ((3 * i) + 1)) x70 (by omega)
        obtain ⟨s, es, hs⟩ := at_in (xs := D) (k := (c / ((3 * i) + 1)) % x70) ⟨q1, by rw [hD]; omega⟩
        obtain ⟨u, eu, hu⟩ := at_in (xs := Ws) (k := s) ⟨(hd s hs).1, by rw [WL]; exact (hd s hs).2⟩
        exact ⟨u, by rw [need_pos ⟨by omega, by omega⟩, need_pos (by omega), of_some es, of_some eu], W u hu⟩
      rw [rangeI_len73] at ll
      exact ⟨l, e, ll, lw⟩
    obtain ⟨l84, e84, ll1, lw1⟩ := side [0, 1, 2, 4, 5, 6, 7, 3] one n1 rfl (by decide) ln1
    obtain ⟨l105, e105, ll2, lw2⟩ := side [4, 6, 0, 1, 2, 5, 3, 7] two n2 rfl (by decide) ln2
    refine Ok.of e70 (Ok.need (by omega) (Ok.bindE e84 (Ok.need (by omega) (Ok.bindE e105 ?_))))
    refine Ok.bind (Q := fun a : List Str => a.length ≤ 6 ∧ ∀ w ∈ a, w.length ≤ 61) (Ok.ite (fun _ => Ok.need (by rw [sizeLine_eq, ll1]; show _ + 3 ≤ _; omega) (Ok.ret ⟨by rw [List.length_append, ll1]; show _ + 3 ≤ _; omega, fun w hw => ?_⟩)) fun _ => Ok.ret ⟨by omega, lw1⟩) fun a _ ⟨a1, a2⟩ => ?_
    · rcases List.mem_append.mp hw with hw | hw
      · exact lw1 w hw
      · simp only [List.mem_cons, List.not_mem_nil, or_false] at hw
        rcases hw with rfl | rfl | rfl <;> decide
    · obtain ⟨x151, e151, h151⟩ : ∃ x, atI [("keep" : Str), ("cut" : Str)] (way % 2) = some x ∧ x.length ≤ 61 := by
        rcases (show way % 2 = 0 ∨ way % 2 = 1 by omega) with h | h
        · rw [h]; exact ⟨_, rfl, by decide⟩
        · rw [h]; exact ⟨_, rfl, by decide⟩
      have len : ((([x151] ++ a) ++ [("|" : Str)]) ++ l105).length ≤ 16 := by
        rw [List.length_append, List.length_append, List.length_append, ll2]
        show 1 + _ + 1 + _ ≤ _
        omega
      obtain ⟨j1, j2⟩ := join_ok ((([x151] ++ a) ++ [("|" : Str)]) ++ l105) len fun w hw => by
        simp only [List.mem_append, List.mem_cons, List.not_mem_nil, or_false] at hw
        rcases hw with ((rfl | hw) | rfl) | hw
        · exact h151
        · exact a2 w hw
        · decide
        · exact lw2 w hw
      refine Ok.of e151 (Ok.need (by rw [sizeLine_eq]; show 1 + _ ≤ _; omega) (Ok.need (by rw [List.length_append, sizeLine_eq]; show 1 + _ + 1 ≤ _; omega) (Ok.need ?_ (Ok.need j1 (Ok.ret j2)))))
      rw [List.length_append, List.length_append, ll2, sizeLine_eq]
      show 1 + _ + 1 + _ ≤ _
      omega
theorem cutS_len (z : Str) (l u : Option Int) : (cutS z l u).length ≤ z.length := cutS_length z l u
theorem spoilt_ok (w : Str) (cell : Int) (h : w.length ≤ 100000) : Ok (fun s => s.length ≤ 300000) (m_l_spoilt w cell) := by
  have lz : ("0123456789abkz|AZ \t\n_-" : Str).length = 22 := by decide
  have lz2 : ("0123456789abkz|AZ \t\n_-" : Str).cps.toList.length = 22 := by decide
  have hs : w.length ≤ sizeLine := by rw [sizeLine_eq]; omega
  have lc : ∀ c, (chS c).length = 1 := fun c => rfl
  unfold m_l_spoilt
  rw [lz]
  obtain ⟨q1, q2⟩ := modx (cell / 4) ((22 : Nat) : Int) (by decide)
  obtain ⟨c, ec, _⟩ := at_in (xs := ("0123456789abkz|AZ \t\n_-" : Str).cps.toList) (k := (cell / 4) % ((22 : Nat) : Int)) ⟨q1, by rw [lz2]; exact q2⟩
  have k1 := cutS_len w none (some ((cell / 100) % (((w).length : Int) + 1)))
  have k2 := cutS_len w (some ((cell / 100) % (((w).length : Int) + 1))) none
  have k3 := cutS_len w (some (((cell / 100) % (((w).length : Int) + 1)) + 1)) none
  refine Ok.need (by rw [sizeLine_eq]; omega) (Ok.need (by decide) (Ok.need (by rw [sizeLine_eq]; omega) (Ok.of ec (Ok.need hs (Ok.need (by omega) ?_)))))
  refine Ok.ite (fun _ => Ok.need hs (Ok.need (by rw [lc, sizeLine_eq]; omega) (Ok.need hs (Ok.need (by rw [lcat, lc, sizeLine_eq]; omega) (Ok.ret (by rw [lcat, lcat, lc]; omega)))))) fun _ => ?_
  refine Ok.ite (fun _ => Ok.need hs (Ok.need (by rw [lc, sizeLine_eq]; omega) (Ok.need hs (Ok.need (by rw [lcat, lc, sizeLine_eq]; omega) (Ok.ret (by rw [lcat, lcat, lc]; omega)))))) fun _ => ?_
  exact Ok.ite (fun _ => Ok.need hs (Ok.need hs (Ok.need (by rw [sizeLine_eq]; omega) (Ok.ret (by rw [lcat]; omega))))) fun _ => Ok.ret (by omega)
theorem at_ok73 (xs : List Int) (k : Int) (h : 0 ≤ k) : ∃ r, m_l_at xs k = .ok r := by
  unfold m_l_at
  by_cases hk : k < (xs.length : Int)
  · rw [if_pos (decide_eq_true hk)]
    obtain ⟨x, e, _⟩ := atI_in h hk
    exact ⟨x, by rw [of_some e, ok_bind]⟩
  · rw [if_neg (by simpa using hk)]
    exact ⟨0, rfl⟩
theorem rangeS_mem {b : Int} {pr po : List Int} {x : Int} (h : rangeS 1 b 3 = pr ++ x :: po) : x = 1 + 3 * (pr.length : Int) ∧ x < b := by
  have hl : (rangeS 1 b 3).length = (Builtin.Range.rangeSize 1 b 3).toNat := rangeS_len 1 b 3
  have h1 : pr.length < (Builtin.Range.rangeSize 1 b 3).toNat := by
    rw [← hl, h, List.length_append, List.length_cons]
    omega
  have h2 := rangeS_at h1
  rw [h, List.getElem?_append_right (Nat.le_refl _), Nat.sub_self] at h2
  have h2 : x = 1 + (pr.length : Int) * 3 := Option.some.inj h2
  unfold Builtin.Range.rangeSize at h1
  rw [if_pos (by decide)] at h1
  split at h1
  · refine ⟨by omega, ?_⟩
    omega
  · omega
theorem law_true : ∀ ns : List Int, ns.length ≤ 63 → m_law ns = .ok true := by
  intro ns hns
  have lnl : ("\n" : Str).length = 1 := by decide
  have key : Ok (fun b => b = true) (m_law ns) := by
    unfold m_law
    obtain ⟨b, hb, hb25, hbl⟩ : ∃ b : Int, (if 25 < (((ns).length : Int) - 2) then 25 else (((ns).length : Int) - 2)) = b ∧ b ≤ 25 ∧ b ≤ (ns.length : Int) - 2 ∧ -2 ≤ b := by
      by_cases c : 25 < ((ns.length : Int) - 2)
      · rw [if_pos c]; exact ⟨25, rfl, by omega, by omega, by omega⟩
      · rw [if_neg c]; exact ⟨_, rfl, by omega, by omega, by omega⟩
    rw [hb]
    refine Ok.need (by omega) (Ok.bind (Ok.forM (fun pr (a : List Str) => a.length = pr.length ∧ ∀ s ∈ a, s.length ≤ 2000) ⟨rfl, fun s hs => by cases hs⟩ fun pr x po a hx ⟨h1, h2⟩ => ?_) fun a _ ⟨h1, h2⟩ => ?_)
    · obtain ⟨e1, e2⟩ := rangeS_mem hx
      obtain ⟨y0, a0, _⟩ := at_in (xs := ns) (k := x) ⟨by omega, by omega⟩
      obtain ⟨y1, a1, _⟩ := at_in (xs := ns) (k := x + 1) ⟨by omega, by omega⟩
      obtain ⟨y2, a2, _⟩ := at_in (xs := ns) (k := x + 2) ⟨by omega, by omega⟩
      refine Ok.of a0 (Ok.of a1 (Ok.of a2 (Ok.bind (row_ok y0 y1 y2) fun s _ hs => Ok.need (by rw [sizeLine_eq]; omega) (Ok.ret ⟨by rw [List.length_append, List.length_append, h1]; rfl, fun t ht => ?_⟩))))
      rcases List.mem_append.mp ht with ht | ht
      · exact h2 t ht
      · rw [List.mem_singleton.mp ht]
        exact hs
    · have hn : (rangeS 1 b 3).length ≤ 9 := by
        rw [rangeS_len]
        unfold Builtin.Range.rangeSize
        rw [if_pos (by decide)]
        split <;> omega
      have al : a.length ≤ 9 := by omega
      have s1 := sum_len h2
      have s2 := jn_len ("\n" : Str) h2
      rw [lnl] at s2
      obtain ⟨c0, e0⟩ := at_ok73 ns 0 (by decide)
      refine Ok.need (by rw [lnl]; omega) (Ok.bindE e0 (Ok.bind (spoilt_ok _ c0 (by omega)) fun w _ hw => ?_))
      obtain ⟨z1, z2⟩ := rowsT_sz (w := w)
      have S : ∀ r ∈ ((rowsT w).map fun l => Txt.split l (" " : Str)), Sm r := fun r hr => by
        obtain ⟨l, hl, rfl⟩ := List.mem_map.mp hr
        have := mem_sum hl
        exact row_sm (by omega)
      have hsum : (((rowsT w).map fun l => Txt.split l (" " : Str)).map List.length).sum ≤ 7000000 := by
        have : ∀ ls : List Str, ((ls.map fun l => Txt.split l (" " : Str)).map List.length).sum ≤ (ls.map (·.length)).sum + ls.length := fun ls => by
          induction ls with
          | nil => exact Nat.le_refl _
          | cons l ls ih =>
            have := (split_sz (x := l) l_sp).1
            simp only [List.map_cons, List.sum_cons, List.length_cons]
            omega
        have := this (rowsT w)
        omega
      have ed := due_eq S (by rw [List.length_map]; omega) hsum
      have et := l_told_eq (w := w) (by omega)
      refine Ok.bindE (l_rows_eq (by omega)) (Ok.bindE ed (Ok.bindE et ?_))
      rw [if_pos (decide_eq_true rfl), bind_eq et, ok_bind]
      exact Ok.ret (decide_eq_true rfl)
  obtain ⟨b, e, rfl⟩ := key
  exact e

theorem ok_l_row {P : Program} {w : World} {K : PySem.W.Frag} {mg : Str → Option Value} {base : Heap} {CT CR f : Addr} {fd : FuncData} (F : Fun K "_law_row" "_law_row" st_l_row f fd) (T : Blt mg) (TR : RulTxt K CR)  : FnOk P w K mg base CX0 1 f fd ["_law_way", "_law_one", "_law_two"] (sp_l_row CT CR) :=
  fun_ok F sc_l_row (fun d vs B H h => by
    obtain ⟨_, _, _⟩ := d
    obtain ⟨_, _, rfl, rfl, ⟨_, _, rfl, rfl, ⟨_, _, rfl, rfl, rfl⟩⟩⟩ := h
    rfl) fun X e1 e2 e3 e4 e5 C VS fn => by
    subst e1 e2 e3 e4 e5
    exact body_l_row (CT := CT) (CR := CR) C VS fn T TR 
theorem ok_l_at {P : Program} {w : World} {K : PySem.W.Frag} {mg : Str → Option Value} {base : Heap} {CT CR f : Addr} {fd : FuncData} (F : Fun K "_law_at" "_law_at" st_l_at f fd) (T : Blt mg) (TR : RulTxt K CR)  : FnOk P w K mg base CX0 1 f fd ["_law_script", "_law_k"] (sp_l_at CT CR) :=
  fun_ok F sc_l_at (fun d vs B H h => by
    obtain ⟨_, _⟩ := d
    obtain ⟨v1, _, rfl, _, ⟨_, _, rfl, rfl, rfl⟩⟩ := h
    rfl) fun X e1 e2 e3 e4 e5 C VS fn => by
    subst e1 e2 e3 e4 e5
    exact body_l_at (CT := CT) (CR := CR) C VS fn T TR 
theorem ok_l_spoilt {P : Program} {w : World} {K : PySem.W.Frag} {mg : Str → Option Value} {base : Heap} {CT CR f : Addr} {fd : FuncData} (F : Fun K "_law_spoilt" "_law_spoilt" st_l_spoilt f fd) (T : Blt mg) (TR : RulTxt K CR)  : FnOk P w K mg base CX0 1 f fd ["_law_writing", "_law_cell"] (sp_l_spoilt CT CR) :=
  fun_ok F sc_l_spoilt (fun d vs B H h => by
    obtain ⟨_, _⟩ := d
    obtain ⟨_, _, rfl, rfl, ⟨_, _, rfl, rfl, rfl⟩⟩ := h
    rfl) fun X e1 e2 e3 e4 e5 C VS fn => by
    subst e1 e2 e3 e4 e5
    exact body_l_spoilt (CT := CT) (CR := CR) C VS fn T TR 
theorem ok_l_rows {P : Program} {w : World} {K : PySem.W.Frag} {mg : Str → Option Value} {base : Heap} {CT CR f : Addr} {fd : FuncData} (F : Fun K "_law_rows" "_law_rows" st_l_rows f fd) (T : Blt mg) (TR : RulTxt K CR)  : FnOk P w K mg base CX0 1 f fd ["_law_writing"] (sp_l_rows CT CR) :=
  fun_ok F sc_l_rows (fun d vs B H h => by
    obtain ⟨_, _, rfl, rfl, rfl⟩ := h
    rfl) fun X e1 e2 e3 e4 e5 C VS fn => by
    subst e1 e2 e3 e4 e5
    exact body_l_rows (CT := CT) (CR := CR) C VS fn T TR 
theorem ok_l_is_word {P : Program} {w : World} {K : PySem.W.Frag} {mg : Str → Option Value} {base : Heap} {CT CR f : Addr} {fd : FuncData} (F : Fun K "_law_is_word" "_law_is_word" st_l_is_word f fd) (T : Blt mg) (TR : RulTxt K CR)  : FnOk P w K mg base CX0 1 f fd ["_law_word"] (sp_l_is_word CT CR) :=
  fun_ok F sc_l_is_word (fun d vs B H h => by
    obtain ⟨_, _, rfl, rfl, rfl⟩ := h
    rfl) fun X e1 e2 e3 e4 e5 C VS fn => by
    subst e1 e2 e3 e4 e5
    exact body_l_is_word (CT := CT) (CR := CR) C VS fn T TR 
theorem ok_l_is_sign {P : Program} {w : World} {K : PySem.W.Frag} {mg : Str → Option Value} {base : Heap} {CT CR f : Addr} {fd : FuncData} (F : Fun K "_law_is_sign" "_law_is_sign" st_l_is_sign f fd) (T : Blt mg) (TR : RulTxt K CR)  : FnOk P w K mg base CX0 1 f fd ["_law_word"] (sp_l_is_sign CT CR) :=
  fun_ok F sc_l_is_sign (fun d vs B H h => by
    obtain ⟨_, _, rfl, rfl, rfl⟩ := h
    rfl) fun X e1 e2 e3 e4 e5 C VS fn => by
    subst e1 e2 e3 e4 e5
    exact body_l_is_sign (CT := CT) (CR := CR) C VS fn T TR 
theorem ok_l_sort {P : Program} {w : World} {K : PySem.W.Frag} {mg : Str → Option Value} {base : Heap} {CT CR f : Addr} {fd : FuncData} (F : Fun K "_law_sort" "_law_sort" st_l_sort f fd) (T : Blt mg) (TR : RulTxt K CR) (G_l_is_word : CalM P w K mg base 1 "_law_is_word" ["_law_word"] (sp_l_is_word CT CR)) (G_l_is_sign : CalM P w K mg base 1 "_law_is_sign" ["_law_word"] (sp_l_is_sign CT CR)) : FnOk P w K mg base CX0 2 f fd ["_law_words"] (sp_l_sort CT CR) :=
  fun_ok F sc_l_sort (fun d vs B H h => by
    obtain ⟨v1, _, rfl, _, rfl⟩ := h
    rfl) fun X e1 e2 e3 e4 e5 C VS fn => by
    subst e1 e2 e3 e4 e5
    exact body_l_sort (CT := CT) (CR := CR) C VS fn T TR G_l_is_word G_l_is_sign
theorem ok_l_due {P : Program} {w : World} {K : PySem.W.Frag} {mg : Str → Option Value} {base : Heap} {CT CR f : Addr} {fd : FuncData} (F : Fun K "_law_due" "_law_due" st_l_due f fd) (T : Blt mg) (TR : RulTxt K CR) (G_l_sort : CalM P w K mg base 2 "_law_sort" ["_law_words"] (sp_l_sort CT CR)) : FnOk P w K mg base CX0 3 f fd ["_law_rows_here"] (sp_l_due CT CR) :=
  fun_ok F sc_l_due (fun d vs B H h => by
    obtain ⟨v1, _, rfl, _, rfl⟩ := h
    rfl) fun X e1 e2 e3 e4 e5 C VS fn => by
    subst e1 e2 e3 e4 e5
    exact body_l_due (CT := CT) (CR := CR) C VS fn T TR G_l_sort
theorem ok_rows_of {P : Program} {w : World} {K : PySem.W.Frag} {mg : Str → Option Value} {base : Heap} {CT CR f : Addr} {fd : FuncData} (F : Fun K "rows_of" "rows_of" st_rows_of f fd) (T : Blt mg) (TR : RulTxt K CR)  : FnOk P w K mg base CX0 1 f fd ["writing"] (sp_rows_of CT CR) :=
  fun_ok F sc_rows_of (fun d vs B H h => by
    obtain ⟨_, _, rfl, rfl, rfl⟩ := h
    rfl) fun X e1 e2 e3 e4 e5 C VS fn => by
    subst e1 e2 e3 e4 e5
    exact body_rows_of (CT := CT) (CR := CR) C VS fn T TR 
theorem ok_is_word {P : Program} {w : World} {K : PySem.W.Frag} {mg : Str → Option Value} {base : Heap} {CT CR f : Addr} {fd : FuncData} (F : Fun K "is_word" "is_word" st_is_word f fd) (T : Blt mg) (TR : RulTxt K CR) (V_LETTERS : ∃ t, mg "LETTERS" = some (.str ("abcdefghijklmnopqrstuvwxyz" : Str) t)) : FnOk P w K mg base CX0 1 f fd ["word"] (sp_is_word CT CR) :=
  fun_ok F sc_is_word (fun d vs B H h => by
    obtain ⟨_, _, rfl, rfl, rfl⟩ := h
    rfl) fun X e1 e2 e3 e4 e5 C VS fn => by
    subst e1 e2 e3 e4 e5
    exact body_is_word (CT := CT) (CR := CR) C VS fn T TR V_LETTERS
theorem ok_sign_of_word {P : Program} {w : World} {K : PySem.W.Frag} {mg : Str → Option Value} {base : Heap} {CT CR f : Addr} {fd : FuncData} (F : Fun K "sign_of_word" "sign_of_word" st_sign_of_word f fd) (T : Blt mg) (TR : RulTxt K CR) (V_FIGURES : ∃ t, mg "FIGURES" = some (.str ("0123456789" : Str) t)) : FnOk P w K mg base CX0 1 f fd ["word"] (sp_sign_of_word CT CR) :=
  fun_ok F sc_sign_of_word (fun d vs B H h => by
    obtain ⟨_, _, rfl, rfl, rfl⟩ := h
    rfl) fun X e1 e2 e3 e4 e5 C VS fn => by
    subst e1 e2 e3 e4 e5
    exact body_sign_of_word (CT := CT) (CR := CR) C VS fn T TR V_FIGURES
theorem ok_kind_row {P : Program} {w : World} {K : PySem.W.Frag} {mg : Str → Option Value} {base : Heap} {CT CR f : Addr} {fd : FuncData} (F : Fun K "kind_row" "kind_row" st_kind_row f fd) (T : Blt mg) (TR : RulTxt K CR) (G_is_word : CalM P w K mg base 1 "is_word" ["word"] (sp_is_word CT CR)) (G_sign_of_word : CalM P w K mg base 1 "sign_of_word" ["word"] (sp_sign_of_word CT CR)) : FnOk P w K mg base CX0 2 f fd ["words"] (sp_kind_row CT CR) :=
  fun_ok F sc_kind_row (fun d vs B H h => by
    obtain ⟨v1, _, rfl, _, rfl⟩ := h
    rfl) fun X e1 e2 e3 e4 e5 C VS fn => by
    subst e1 e2 e3 e4 e5
    exact body_kind_row (CT := CT) (CR := CR) C VS fn T TR G_is_word G_sign_of_word
theorem ok_side_row {P : Program} {w : World} {K : PySem.W.Frag} {mg : Str → Option Value} {base : Heap} {CT CR f : Addr} {fd : FuncData} (F : Fun K "side_row" "side_row" st_side_row f fd) (T : Blt mg) (TR : RulTxt K CR) (G_is_word : CalM P w K mg base 1 "is_word" ["word"] (sp_is_word CT CR)) (V_MOST_WORDS : ∃ t, mg "MOST_WORDS" = some (.int 3 t)) : FnOk P w K mg base CX0 2 f fd ["words"] (sp_side_row CT CR) :=
  fun_ok F sc_side_row (fun d vs B H h => by
    obtain ⟨v1, _, rfl, _, rfl⟩ := h
    rfl) fun X e1 e2 e3 e4 e5 C VS fn => by
    subst e1 e2 e3 e4 e5
    exact body_side_row (CT := CT) (CR := CR) C VS fn T TR G_is_word V_MOST_WORDS
theorem ok_row_read {P : Program} {w : World} {K : PySem.W.Frag} {mg : Str → Option Value} {base : Heap} {CT CR f : Addr} {fd : FuncData} (F : Fun K "row_read" "row_read" st_row_read f fd) (T : Blt mg) (TR : RulTxt K CR) (G_kind_row : CalM P w K mg base 2 "kind_row" ["words"] (sp_kind_row CT CR)) (G_side_row : CalM P w K mg base 2 "side_row" ["words"] (sp_side_row CT CR)) : FnOk P w K mg base CX0 3 f fd ["row"] (sp_row_read CT CR) :=
  fun_ok F sc_row_read (fun d vs B H h => by
    obtain ⟨_, _, rfl, rfl, rfl⟩ := h
    rfl) fun X e1 e2 e3 e4 e5 C VS fn => by
    subst e1 e2 e3 e4 e5
    exact body_row_read (CT := CT) (CR := CR) C VS fn T TR G_kind_row G_side_row
theorem ok_heads_of {P : Program} {w : World} {K : PySem.W.Frag} {mg : Str → Option Value} {base : Heap} {CT CR f : Addr} {fd : FuncData} (F : Fun K "heads_of" "heads_of" st_heads_of f fd) (T : Blt mg) (TR : RulTxt K CR) (ZI_Double : RzI P w K mg base "Double" "at" ["self", "at"]) (GT_OWN_WORDS : GTup K mg "OWN_WORDS" (["any", "edge", "other"] : List Str)) : FnOk P w K mg base (L2N.CX P w) 3 f fd ["told"] (sp_heads_of CT CR mg) :=
  fun_okX F sc_heads_of (fun d vs B H h => by
    obtain ⟨v1, _, rfl, _, rfl⟩ := h
    rfl) fun X e1 e2 e3 e4 e5 C VS fn => by
    subst e1 e2 e3 e4 e5
    exact body_heads_of (CT := CT) (CR := CR) C VS fn T TR ZI_Double GT_OWN_WORDS
theorem ok_Rules___init__ {P : Program} {w : World} {K : PySem.W.Frag} {mg : Str → Option Value} {base : Heap} {CT CR f : Addr} {fd : FuncData} (F : Fun K "__init__" "Rules.__init__" st_Rules___init__ f fd) (T : Blt mg) (TR : RulTxt K CR)  : FnOk P w K mg base CX0 1 f fd ["self", "heads", "sides"] (sp_Rules___init__ CT CR) :=
  initR_ok F sc_Rules___init__ (fun d vs B H h => by
    obtain ⟨_, _⟩ := d
    obtain ⟨v2, _, rfl, _, ⟨v3, _, rfl, _, rfl⟩⟩ := h
    rfl) fun X e1 e2 e3 e4 e5 C VS fn => by
    subst e1 e2 e3 e4 e5
    exact body_Rules___init__ (CT := CT) (CR := CR) C VS fn T TR 
theorem ok_read_rules {P : Program} {w : World} {K : PySem.W.Frag} {mg : Str → Option Value} {base : Heap} {CT CR f : Addr} {fd : FuncData} (F : Fun K "read_rules" "read_rules" st_read_rules f fd) (T : Blt mg) (TR : RulTxt K CR) (G_rows_of : CalM P w K mg base 1 "rows_of" ["writing"] (sp_rows_of CT CR)) (G_row_read : CalM P w K mg base 3 "row_read" ["row"] (sp_row_read CT CR)) (G_heads_of : CalXM P w K mg base 3 "heads_of" ["told"] (sp_heads_of CT CR mg)) (G_Rules___init__ : MkTM P w K mg base 1 "Rules" CR ["self", "heads", "sides"] (sp_Rules___init__ CT CR)) (ZI_NoRow : RzI P w K mg base "NoRow" "at" ["self", "at"]) (ZI_NoKind : RzI P w K mg base "NoKind" "at" ["self", "at"]) (GT_OWN_WORDS : GTup K mg "OWN_WORDS" (["any", "edge", "other"] : List Str)) : FnOk P w K mg base (L2N.CX P w) 4 f fd ["writing"] (sp_read_rules CT CR mg) :=
  fun_okX F sc_read_rules (fun d vs B H h => by
    obtain ⟨_, _, rfl, rfl, rfl⟩ := h
    rfl) fun X e1 e2 e3 e4 e5 C VS fn => by
    subst e1 e2 e3 e4 e5
    exact body_read_rules (CT := CT) (CR := CR) C VS fn T TR G_rows_of G_row_read G_heads_of G_Rules___init__ ZI_NoRow ZI_NoKind GT_OWN_WORDS
theorem ok_l_told {P : Program} {w : World} {K : PySem.W.Frag} {mg : Str → Option Value} {base : Heap} {CT CR f : Addr} {fd : FuncData} (F : Fun K "_law_told" "_law_told" st_l_told f fd) (T : Blt mg) (TR : RulTxt K CR) (G_read_rules : CalXM P w K mg base 4 "read_rules" ["writing"] (sp_read_rules CT CR mg)) (IB : IsB K) (I_NoRow : IsAll K mg (["Double", "NoKind", "NoRow"] : List Str) "NoRow" (["NoRow"] : List Str)) (I_Double : IsAll K mg (["Double", "NoKind", "NoRow"] : List Str) "Double" (["Double"] : List Str)) (I_NoKind : IsAll K mg (["Double", "NoKind", "NoRow"] : List Str) "NoKind" (["NoKind"] : List Str)) (J_ValueError : IsAllB K mg (["Double", "NoKind", "NoRow"] : List Str) "ValueError" "ValueError" (["Double", "NoKind", "NoRow"] : List Str)) (IT_NoStep_Nothing_TooMany_Twice : IsAllT K mg (["Double", "NoKind", "NoRow"] : List Str) (["NoStep", "Nothing", "TooMany", "Twice"] : List Str) ([] : List Str)) (KC_Twice : ∃ C, mg "Twice" = some (.ref C)) (KC_TooMany : ∃ C, mg "TooMany" = some (.ref C)) (KC_Nothing : ∃ C, mg "Nothing" = some (.ref C)) (KC_NoStep : ∃ C, mg "NoStep" = some (.ref C)) (NF_at : NoFld K mg (["Double", "NoKind", "NoRow"] : List Str) "at") (IC_Rules : InsC K mg "Rules" CR) (IN_Rules : InsN K CR) (EA_FormError : ExAll K mg (["Double", "NoKind", "NoRow"] : List Str) "FormError") : FnOk P w K mg base CX0 5 f fd ["_law_writing"] (sp_l_told CT CR) :=
  fun_okT F sc_l_told (fun d vs B H h => by
    obtain ⟨_, _, rfl, rfl, rfl⟩ := h
    rfl) fun X e1 e2 e3 e4 e5 C VS fn TX => by
    subst e1 e2 e3 e4 e5
    exact body_l_told (CT := CT) (CR := CR) C VS fn T TR G_read_rules IB I_NoRow I_Double I_NoKind J_ValueError IT_NoStep_Nothing_TooMany_Twice KC_Twice KC_TooMany KC_Nothing KC_NoStep NF_at IC_Rules IN_Rules EA_FormError TX
theorem ok_law {P : Program} {w : World} {K : PySem.W.Frag} {mg : Str → Option Value} {base : Heap} {CT CR f : Addr} {fd : FuncData} (F : Fun K "law" "law" st_law f fd) (T : Blt mg) (TR : RulTxt K CR) (G_l_row : CalM P w K mg base 1 "_law_row" ["_law_way", "_law_one", "_law_two"] (sp_l_row CT CR)) (G_l_at : CalM P w K mg base 1 "_law_at" ["_law_script", "_law_k"] (sp_l_at CT CR)) (G_l_spoilt : CalM P w K mg base 1 "_law_spoilt" ["_law_writing", "_law_cell"] (sp_l_spoilt CT CR)) (G_l_rows : CalM P w K mg base 1 "_law_rows" ["_law_writing"] (sp_l_rows CT CR)) (G_l_due : CalM P w K mg base 3 "_law_due" ["_law_rows_here"] (sp_l_due CT CR)) (G_l_told : CalM P w K mg base 5 "_law_told" ["_law_writing"] (sp_l_told CT CR)) : FnOk P w K mg base CX0 6 f fd ["_law_script"] (sp_law CT CR) :=
  fun_ok F sc_law (fun d vs B H h => by
    obtain ⟨v1, _, rfl, _, rfl⟩ := h
    rfl) fun X e1 e2 e3 e4 e5 C VS fn => by
    subst e1 e2 e3 e4 e5
    exact body_law (CT := CT) (CR := CR) C VS fn T TR G_l_row G_l_at G_l_spoilt G_l_rows G_l_due G_l_told
abbrev st_ini_Double : Stmt := inClass (topS 7) 0
theorem tb_ini_Double : nmOk (defScope st_ini_Double) [("self", .local), ("at", .local), ("FormError", .globalImplicit)] = true := by decide +kernel
theorem sc_ini_Double : FnScope ["self", "at"] ["self", "at"] (defScope st_ini_Double) := ⟨rfl, rfl, rfl, by decide +kernel, rfl, by decide +kernel, by decide +kernel⟩
abbrev st_ini_NoRow : Stmt := inClass (topS 3) 0
theorem tb_ini_NoRow : nmOk (defScope st_ini_NoRow) [("self", .local), ("at", .local), ("FormError", .globalImplicit)] = true := by decide +kernel
theorem sc_ini_NoRow : FnScope ["self", "at"] ["self", "at"] (defScope st_ini_NoRow) := ⟨rfl, rfl, rfl, by decide +kernel, rfl, by decide +kernel, by decide +kernel⟩
abbrev st_ini_NoKind : Stmt := inClass (topS 8) 0
theorem tb_ini_NoKind : nmOk (defScope st_ini_NoKind) [("self", .local), ("at", .local), ("FormError", .globalImplicit)] = true := by decide +kernel
theorem sc_ini_NoKind : FnScope ["self", "at"] ["self", "at"] (defScope st_ini_NoKind) := ⟨rfl, rfl, rfl, by decide +kernel, rfl, by decide +kernel, by decide +kernel⟩
theorem all_mk {P : Program} {w : World} {K : PySem.W.Frag} {h : Heap} {mg : Str → Option Value} {fa CR f0 f1 f2 f3 f4 f5 f6 f7 f8 f9 f10 f11 f12 f13 f14 f15 f16 f17 f18 K_Double K_NoRow K_NoKind K_Twice K_TooMany K_Nothing K_NoStep K_FormError fi_Double fi_NoRow fi_NoKind g_OWN_WORDS : Addr} (X : K.In h) (G : h.Ns mainGlobals mg) (hfa : mg "law" = some (.ref fa))
    {od0 an0 od1 an1 od2 an2 od3 an3 od4 an4 od5 an5 od6 an6 od7 an7 od8 an8 od9 an9 od10 an10 od11 an11 od12 an12 od13 an13 od14 an14 od15 an15 od16 an16 od17 an17 od18 an18 : Option Addr} {sl0 sl1 sl2 sl3 sl4 sl5 sl6 sl7 sl8 sl9 sl10 sl11 sl12 sl13 sl14 sl15 sl16 sl17 sl18 : Array (Option Value)} {oc0 kV0 dc0 pm0 cd0 ct0 oc1 kV1 dc1 pm1 cd1 ct1 oc2 kV2 dc2 pm2 cd2 ct2 oc3 kV3 dc3 pm3 cd3 ct3 oc4 kV4 dc4 pm4 cd4 ct4 oc5 kV5 dc5 pm5 cd5 ct5 oc6 kV6 dc6 pm6 cd6 ct6 oc7 kV7 dc7 pm7 cd7 ct7 oc8 kV8 dc8 pm8 cd8 ct8 oc9 kV9 dc9 pm9 cd9 ct9 oc10 kV10 dc10 pm10 cd10 ct10 oc11 kV11 dc11 pm11 cd11 ct11 oc12 kV12 dc12 pm12 cd12 ct12 oc13 kV13 dc13 pm13 cd13 ct13 oc14 kV14 dc14 pm14 cd14 ct14 oc15 kV15 dc15 pm15 cd15 ct15 oc16 kV16 dc16 pm16 cd16 ct16 oc17 kV17 dc17 pm17 cd17 ct17 oc18 kV18 dc18 pm18 cd18 ct18 : Value} {t_LETTERS t_FIGURES t_MOST_WORDS : Tok} {gd_OWN_WORDS : Option Addr} {gn_OWN_WORDS : Nat} {gs_OWN_WORDS : Array (Option Value)} {gt_OWN_WORDS0 gt_OWN_WORDS1 gt_OWN_WORDS2 : Tok} {xa_Double : Str} {xb_Double : Str} {xc_Double : Addr} {xd_Double xe_Double : List Value} {xf_Double : List Str} {xg_Double : List Value} {xh_Double : Bool} {xi_Double : Option Bool} {xj_Double : Option Addr} {xk_Double xl_Double xm_Double xn_Double xp_Double : Option Value} {iod_Double ian_Double : Option Addr} {isl_Double : Array (Option Value)} {ioc_Double ikV_Double idc_Double ipm_Double icd_Double ict_Double : Value} {xa_NoRow : Str} {xb_NoRow : Str} {xc_NoRow : Addr} {xd_NoRow xe_NoRow : List Value} {xf_NoRow : List Str} {xg_NoRow : List Value} {xh_NoRow : Bool} {xi_NoRow : Option Bool} {xj_NoRow : Option Addr} {xk_NoRow xl_NoRow xm_NoRow xn_NoRow xp_NoRow : Option Value} {iod_NoRow ian_NoRow : Option Addr} {isl_NoRow : Array (Option Value)} {ioc_NoRow ikV_NoRow idc_NoRow ipm_NoRow icd_NoRow ict_NoRow : Value} {xa_NoKind : Str} {xb_NoKind : Str} {xc_NoKind : Addr} {xd_NoKind xe_NoKind : List Value} {xf_NoKind : List Str} {xg_NoKind : List Value} {xh_NoKind : Bool} {xi_NoKind : Option Bool} {xj_NoKind : Option Addr} {xk_NoKind xl_NoKind xm_NoKind xn_NoKind xp_NoKind : Option Value} {iod_NoKind ian_NoKind : Option Addr} {isl_NoKind : Array (Option Value)} {ioc_NoKind ikV_NoKind idc_NoKind ipm_NoKind icd_NoKind ict_NoKind : Value}
    (aCR : PySem.W.nsIn K mainGlobals "Rules" = some (some (.ref CR)))
    (a0 : PySem.W.nsIn K mainGlobals "_law_row" = some (some (.ref f0)))
    (l0 : K.lookup f0 = some ⟨oc0, od0, .func (PySem.W.fnOf "_law_row" "_law_row" (defArgs st_l_row) (defBody st_l_row) (defScope st_l_row) .none kV0 dc0 pm0 an0 cd0 ct0), sl0⟩)
    (c0 : PySem.W.codeIn K cd0 "_law_row" = true)
    (k0 : PySem.W.keepIn K (.ref f0) = true)
    (a1 : PySem.W.nsIn K mainGlobals "_law_at" = some (some (.ref f1)))
    (l1 : K.lookup f1 = some ⟨oc1, od1, .func (PySem.W.fnOf "_law_at" "_law_at" (defArgs st_l_at) (defBody st_l_at) (defScope st_l_at) .none kV1 dc1 pm1 an1 cd1 ct1), sl1⟩)
    (c1 : PySem.W.codeIn K cd1 "_law_at" = true)
    (k1 : PySem.W.keepIn K (.ref f1) = true)
    (a2 : PySem.W.nsIn K mainGlobals "_law_spoilt" = some (some (.ref f2)))
    (l2 : K.lookup f2 = some ⟨oc2, od2, .func (PySem.W.fnOf "_law_spoilt" "_law_spoilt" (defArgs st_l_spoilt) (defBody st_l_spoilt) (defScope st_l_spoilt) .none kV2 dc2 pm2 an2 cd2 ct2), sl2⟩)
    (c2 : PySem.W.codeIn K cd2 "_law_spoilt" = true)
    (k2 : PySem.W.keepIn K (.ref f2) = true)
    (a3 : PySem.W.nsIn K mainGlobals "_law_rows" = some (some (.ref f3)))
    (l3 : K.lookup f3 = some ⟨oc3, od3, .func (PySem.W.fnOf "_law_rows" "_law_rows" (defArgs st_l_rows) (defBody st_l_rows) (defScope st_l_rows) .none kV3 dc3 pm3 an3 cd3 ct3), sl3⟩)
    (c3 : PySem.W.codeIn K cd3 "_law_rows" = true)
    (k3 : PySem.W.keepIn K (.ref f3) = true)
    (a4 : PySem.W.nsIn K mainGlobals "_law_is_word" = some (some (.ref f4)))
    (l4 : K.lookup f4 = some ⟨oc4, od4, .func (PySem.W.fnOf "_law_is_word" "_law_is_word" (defArgs st_l_is_word) (defBody st_l_is_word) (defScope st_l_is_word) .none kV4 dc4 pm4 an4 cd4 ct4), sl4⟩)
    (c4 : PySem.W.codeIn K cd4 "_law_is_word" = true)
    (k4 : PySem.W.keepIn K (.ref f4) = true)
    (a5 : PySem.W.nsIn K mainGlobals "_law_is_sign" = some (some (.ref f5)))
    (l5 : K.lookup f5 = some ⟨oc5, od5, .func (PySem.W.fnOf "_law_is_sign" "_law_is_sign" (defArgs st_l_is_sign) (defBody st_l_is_sign) (defScope st_l_is_sign) .none kV5 dc5 pm5 an5 cd5 ct5), sl5⟩)
    (c5 : PySem.W.codeIn K cd5 "_law_is_sign" = true)
    (k5 : PySem.W.keepIn K (.ref f5) = true)
    (a6 : PySem.W.nsIn K mainGlobals "_law_sort" = some (some (.ref f6)))
    (l6 : K.lookup f6 = some ⟨oc6, od6, .func (PySem.W.fnOf "_law_sort" "_law_sort" (defArgs st_l_sort) (defBody st_l_sort) (defScope st_l_sort) .none kV6 dc6 pm6 an6 cd6 ct6), sl6⟩)
    (c6 : PySem.W.codeIn K cd6 "_law_sort" = true)
    (k6 : PySem.W.keepIn K (.ref f6) = true)
    (a7 : PySem.W.nsIn K mainGlobals "_law_due" = some (some (.ref f7)))
    (l7 : K.lookup f7 = some ⟨oc7, od7, .func (PySem.W.fnOf "_law_due" "_law_due" (defArgs st_l_due) (defBody st_l_due) (defScope st_l_due) .none kV7 dc7 pm7 an7 cd7 ct7), sl7⟩)
    (c7 : PySem.W.codeIn K cd7 "_law_due" = true)
    (k7 : PySem.W.keepIn K (.ref f7) = true)
    (a8 : PySem.W.nsIn K mainGlobals "rows_of" = some (some (.ref f8)))
    (l8 : K.lookup f8 = some ⟨oc8, od8, .func (PySem.W.fnOf "rows_of" "rows_of" (defArgs st_rows_of) (defBody st_rows_of) (defScope st_rows_of) .none kV8 dc8 pm8 an8 cd8 ct8), sl8⟩)
    (c8 : PySem.W.codeIn K cd8 "rows_of" = true)
    (k8 : PySem.W.keepIn K (.ref f8) = true)
    (a9 : PySem.W.nsIn K mainGlobals "is_word" = some (some (.ref f9)))
    (l9 : K.lookup f9 = some ⟨oc9, od9, .func (PySem.W.fnOf "is_word" "is_word" (defArgs st_is_word) (defBody st_is_word) (defScope st_is_word) .none kV9 dc9 pm9 an9 cd9 ct9), sl9⟩)
    (c9 : PySem.W.codeIn K cd9 "is_word" = true)
    (k9 : PySem.W.keepIn K (.ref f9) = true)
    (a10 : PySem.W.nsIn K mainGlobals "sign_of_word" = some (some (.ref f10)))
    (l10 : K.lookup f10 = some ⟨oc10, od10, .func (PySem.W.fnOf "sign_of_word" "sign_of_word" (defArgs st_sign_of_word) (defBody st_sign_of_word) (defScope st_sign_of_word) .none kV10 dc10 pm10 an10 cd10 ct10), sl10⟩)
    (c10 : PySem.W.codeIn K cd10 "sign_of_word" = true)
    (k10 : PySem.W.keepIn K (.ref f10) = true)
    (a11 : PySem.W.nsIn K mainGlobals "kind_row" = some (some (.ref f11)))
    (l11 : K.lookup f11 = some ⟨oc11, od11, .func (PySem.W.fnOf "kind_row" "kind_row" (defArgs st_kind_row) (defBody st_kind_row) (defScope st_kind_row) .none kV11 dc11 pm11 an11 cd11 ct11), sl11⟩)
    (c11 : PySem.W.codeIn K cd11 "kind_row" = true)
    (k11 : PySem.W.keepIn K (.ref f11) = true)
    (a12 : PySem.W.nsIn K mainGlobals "side_row" = some (some (.ref f12)))
    (l12 : K.lookup f12 = some ⟨oc12, od12, .func (PySem.W.fnOf "side_row" "side_row" (defArgs st_side_row) (defBody st_side_row) (defScope st_side_row) .none kV12 dc12 pm12 an12 cd12 ct12), sl12⟩)
    (c12 : PySem.W.codeIn K cd12 "side_row" = true)
    (k12 : PySem.W.keepIn K (.ref f12) = true)
    (a13 : PySem.W.nsIn K mainGlobals "row_read" = some (some (.ref f13)))
    (l13 : K.lookup f13 = some ⟨oc13, od13, .func (PySem.W.fnOf "row_read" "row_read" (defArgs st_row_read) (defBody st_row_read) (defScope st_row_read) .none kV13 dc13 pm13 an13 cd13 ct13), sl13⟩)
    (c13 : PySem.W.codeIn K cd13 "row_read" = true)
    (k13 : PySem.W.keepIn K (.ref f13) = true)
    (a14 : PySem.W.nsIn K mainGlobals "heads_of" = some (some (.ref f14)))
    (l14 : K.lookup f14 = some ⟨oc14, od14, .func (PySem.W.fnOf "heads_of" "heads_of" (defArgs st_heads_of) (defBody st_heads_of) (defScope st_heads_of) .none kV14 dc14 pm14 an14 cd14 ct14), sl14⟩)
    (c14 : PySem.W.codeIn K cd14 "heads_of" = true)
    (k14 : PySem.W.keepIn K (.ref f14) = true)
    (a15 : PySem.W.findIn K (.ref CR) "__init__" = some (some (.ref f15)))
    (i15 : PySem.W.isFn K (.ref f15) = true)
    (l15 : K.lookup f15 = some ⟨oc15, od15, .func (PySem.W.fnOf "__init__" "Rules.__init__" (defArgs st_Rules___init__) (defBody st_Rules___init__) (defScope st_Rules___init__) .none kV15 dc15 pm15 an15 cd15 ct15), sl15⟩)
    (c15 : PySem.W.codeIn K cd15 "Rules.__init__" = true)
    (k15 : PySem.W.keepIn K (.ref f15) = true)
    (a16 : PySem.W.nsIn K mainGlobals "read_rules" = some (some (.ref f16)))
    (l16 : K.lookup f16 = some ⟨oc16, od16, .func (PySem.W.fnOf "read_rules" "read_rules" (defArgs st_read_rules) (defBody st_read_rules) (defScope st_read_rules) .none kV16 dc16 pm16 an16 cd16 ct16), sl16⟩)
    (c16 : PySem.W.codeIn K cd16 "read_rules" = true)
    (k16 : PySem.W.keepIn K (.ref f16) = true)
    (a17 : PySem.W.nsIn K mainGlobals "_law_told" = some (some (.ref f17)))
    (l17 : K.lookup f17 = some ⟨oc17, od17, .func (PySem.W.fnOf "_law_told" "_law_told" (defArgs st_l_told) (defBody st_l_told) (defScope st_l_told) .none kV17 dc17 pm17 an17 cd17 ct17), sl17⟩)
    (c17 : PySem.W.codeIn K cd17 "_law_told" = true)
    (k17 : PySem.W.keepIn K (.ref f17) = true)
    (a18 : PySem.W.nsIn K mainGlobals "law" = some (some (.ref f18)))
    (l18 : K.lookup f18 = some ⟨oc18, od18, .func (PySem.W.fnOf "law" "law" (defArgs st_law) (defBody st_law) (defScope st_law) .none kV18 dc18 pm18 an18 cd18 ct18), sl18⟩)
    (c18 : PySem.W.codeIn K cd18 "law" = true)
    (k18 : PySem.W.keepIn K (.ref f18) = true)
    (pgR : PySem.W.plainGet K CR Str.empty = true)
    (hdR : PySem.W.hasDictIn K CR = true)
    (poR : PySem.W.plainOver K CR = true)
    (saR : PySem.W.findIn K (.ref CR) "__setattr__" = some (some (.builtin "object.__setattr__")))
    (mkR : PySem.W.makesIn K CR = true)
    (kcR : PySem.W.keepIn K (.ref CR) = true)
    (n_heads : PySem.W.findIn K (.ref CR) "heads" = some none)
    (n_sides : PySem.W.findIn K (.ref CR) "sides" = some none)
    (gv_OWN_WORDS : PySem.W.nsIn K mainGlobals "OWN_WORDS" = some (some (.ref g_OWN_WORDS)))
    (gl_OWN_WORDS : K.lookup g_OWN_WORDS = some ⟨.type "tuple", gd_OWN_WORDS, .seq #[.str "any" gt_OWN_WORDS0, .str "edge" gt_OWN_WORDS1, .str "other" gt_OWN_WORDS2] gn_OWN_WORDS, gs_OWN_WORDS⟩)
    (ic1 : PySem.W.specialIn K (.builtin "object.__class__") "__get__" = some (some (.builtin "getset_descriptor.__get__")))
    (ic2 : PySem.W.takesIn K (.builtin "object.__class__") = some true)
    (ih_Rules : PySem.W.findIn K (.ref CR) "__class__" = some (some (.builtin "object.__class__")))
    (im_Rules : PySem.W.mroIn K CR (.type "object") = some true)
    (nc_Rules : PySem.W.isClsIn K CR = true)
    (nt_Rules : PySem.W.typeIn K (.ref CR) = some (.type "type"))
    (ns_Rules : PySem.W.subIn K (.type "NoneType") (.ref CR) = some false)
    (z_len : PySem.W.nsIn K mainGlobals "len" = some none)
    (z_list : PySem.W.nsIn K mainGlobals "list" = some none)
    (z_sorted : PySem.W.nsIn K mainGlobals "sorted" = some none)
    (z_isinstance : PySem.W.nsIn K mainGlobals "isinstance" = some none)
    (z_range : PySem.W.nsIn K mainGlobals "range" = some none)
    (z_dict : PySem.W.nsIn K mainGlobals "dict" = some none)
    (z_all : PySem.W.nsIn K mainGlobals "all" = some none)
    (z_any : PySem.W.nsIn K mainGlobals "any" = some none)
    (z_min : PySem.W.nsIn K mainGlobals "min" = some none)
    (z_max : PySem.W.nsIn K mainGlobals "max" = some none)
    (z_sum : PySem.W.nsIn K mainGlobals "sum" = some none)
    (z_reversed : PySem.W.nsIn K mainGlobals "reversed" = some none)
    (z_int : PySem.W.nsIn K mainGlobals "int" = some none)
    (z_str : PySem.W.nsIn K mainGlobals "str" = some none)
    (z_enumerate : PySem.W.nsIn K mainGlobals "enumerate" = some none)
    (z_zip : PySem.W.nsIn K mainGlobals "zip" = some none)
    (z_tuple : PySem.W.nsIn K mainGlobals "tuple" = some none)
    (z_abs : PySem.W.nsIn K mainGlobals "abs" = some none)
    (z_bool : PySem.W.nsIn K mainGlobals "bool" = some none)
    (v_LETTERS : PySem.W.nsIn K mainGlobals "LETTERS" = some (some (.str ("abcdefghijklmnopqrstuvwxyz" : Str) t_LETTERS)))
    (v_FIGURES : PySem.W.nsIn K mainGlobals "FIGURES" = some (some (.str ("0123456789" : Str) t_FIGURES)))
    (v_MOST_WORDS : PySem.W.nsIn K mainGlobals "MOST_WORDS" = some (some (.int 3 t_MOST_WORDS)))
    (aK_Double : PySem.W.nsIn K mainGlobals "Double" = some (some (.ref K_Double)))
    (aK_NoRow : PySem.W.nsIn K mainGlobals "NoRow" = some (some (.ref K_NoRow)))
    (aK_NoKind : PySem.W.nsIn K mainGlobals "NoKind" = some (some (.ref K_NoKind)))
    (aK_Twice : PySem.W.nsIn K mainGlobals "Twice" = some (some (.ref K_Twice)))
    (aK_TooMany : PySem.W.nsIn K mainGlobals "TooMany" = some (some (.ref K_TooMany)))
    (aK_Nothing : PySem.W.nsIn K mainGlobals "Nothing" = some (some (.ref K_Nothing)))
    (aK_NoStep : PySem.W.nsIn K mainGlobals "NoStep" = some (some (.ref K_NoStep)))
    (aK_FormError : PySem.W.nsIn K mainGlobals "FormError" = some (some (.ref K_FormError)))
    (ib1 : PySem.W.specialIn K (.builtin "object.__class__") "__get__" = some (some (.builtin "getset_descriptor.__get__")))
    (ib2 : PySem.W.takesIn K (.builtin "object.__class__") = some true)
    (j0_Double : PySem.W.isClsIn K K_Double = true)
    (j1_Double : PySem.W.findIn K (.ref K_Double) "__getattribute__" = some (some (.builtin "BaseException.__getattribute__")))
    (j2_Double : PySem.W.findIn K (.ref K_Double) "__getattr__" = some none)
    (j3_Double : PySem.W.subIn K (.ref K_Double) (.type "BaseException") = some true)
    (j4_Double : PySem.W.findIn K (.ref K_Double) "__class__" = some (some (.builtin "object.__class__")))
    (j5_Double : PySem.W.mroIn K K_Double (.type "object") = some true)
    (j6_Double : PySem.W.hasDictIn K K_Double = true)
    (nf_Double_at : PySem.W.findIn K (.ref K_Double) "at" = some none)
    (s_Double_NoRow : PySem.W.subIn K (.ref K_Double) (.ref K_NoRow) = some false)
    (n_Double_NoRow : (Value.ref K_Double == Value.ref K_NoRow) = false)
    (s_Double_NoKind : PySem.W.subIn K (.ref K_Double) (.ref K_NoKind) = some false)
    (n_Double_NoKind : (Value.ref K_Double == Value.ref K_NoKind) = false)
    (s_Double_NoStep : PySem.W.subIn K (.ref K_Double) (.ref K_NoStep) = some false)
    (n_Double_NoStep : (Value.ref K_Double == Value.ref K_NoStep) = false)
    (s_Double_Nothing : PySem.W.subIn K (.ref K_Double) (.ref K_Nothing) = some false)
    (n_Double_Nothing : (Value.ref K_Double == Value.ref K_Nothing) = false)
    (s_Double_TooMany : PySem.W.subIn K (.ref K_Double) (.ref K_TooMany) = some false)
    (n_Double_TooMany : (Value.ref K_Double == Value.ref K_TooMany) = false)
    (s_Double_Twice : PySem.W.subIn K (.ref K_Double) (.ref K_Twice) = some false)
    (n_Double_Twice : (Value.ref K_Double == Value.ref K_Twice) = false)
    (s_Double_ValueError : PySem.W.subIn K (.ref K_Double) (.type "ValueError") = some true)
    (j0_NoKind : PySem.W.isClsIn K K_NoKind = true)
    (j1_NoKind : PySem.W.findIn K (.ref K_NoKind) "__getattribute__" = some (some (.builtin "BaseException.__getattribute__")))
    (j2_NoKind : PySem.W.findIn K (.ref K_NoKind) "__getattr__" = some none)
    (j3_NoKind : PySem.W.subIn K (.ref K_NoKind) (.type "BaseException") = some true)
    (j4_NoKind : PySem.W.findIn K (.ref K_NoKind) "__class__" = some (some (.builtin "object.__class__")))
    (j5_NoKind : PySem.W.mroIn K K_NoKind (.type "object") = some true)
    (j6_NoKind : PySem.W.hasDictIn K K_NoKind = true)
    (nf_NoKind_at : PySem.W.findIn K (.ref K_NoKind) "at" = some none)
    (s_NoKind_NoRow : PySem.W.subIn K (.ref K_NoKind) (.ref K_NoRow) = some false)
    (n_NoKind_NoRow : (Value.ref K_NoKind == Value.ref K_NoRow) = false)
    (s_NoKind_Double : PySem.W.subIn K (.ref K_NoKind) (.ref K_Double) = some false)
    (n_NoKind_Double : (Value.ref K_NoKind == Value.ref K_Double) = false)
    (s_NoKind_NoStep : PySem.W.subIn K (.ref K_NoKind) (.ref K_NoStep) = some false)
    (n_NoKind_NoStep : (Value.ref K_NoKind == Value.ref K_NoStep) = false)
    (s_NoKind_Nothing : PySem.W.subIn K (.ref K_NoKind) (.ref K_Nothing) = some false)
    (n_NoKind_Nothing : (Value.ref K_NoKind == Value.ref K_Nothing) = false)
    (s_NoKind_TooMany : PySem.W.subIn K (.ref K_NoKind) (.ref K_TooMany) = some false)
    (n_NoKind_TooMany : (Value.ref K_NoKind == Value.ref K_TooMany) = false)
    (s_NoKind_Twice : PySem.W.subIn K (.ref K_NoKind) (.ref K_Twice) = some false)
    (n_NoKind_Twice : (Value.ref K_NoKind == Value.ref K_Twice) = false)
    (s_NoKind_ValueError : PySem.W.subIn K (.ref K_NoKind) (.type "ValueError") = some true)
    (j0_NoRow : PySem.W.isClsIn K K_NoRow = true)
    (j1_NoRow : PySem.W.findIn K (.ref K_NoRow) "__getattribute__" = some (some (.builtin "BaseException.__getattribute__")))
    (j2_NoRow : PySem.W.findIn K (.ref K_NoRow) "__getattr__" = some none)
    (j3_NoRow : PySem.W.subIn K (.ref K_NoRow) (.type "BaseException") = some true)
    (j4_NoRow : PySem.W.findIn K (.ref K_NoRow) "__class__" = some (some (.builtin "object.__class__")))
    (j5_NoRow : PySem.W.mroIn K K_NoRow (.type "object") = some true)
    (j6_NoRow : PySem.W.hasDictIn K K_NoRow = true)
    (nf_NoRow_at : PySem.W.findIn K (.ref K_NoRow) "at" = some none)
    (s_NoRow_Double : PySem.W.subIn K (.ref K_NoRow) (.ref K_Double) = some false)
    (n_NoRow_Double : (Value.ref K_NoRow == Value.ref K_Double) = false)
    (s_NoRow_NoKind : PySem.W.subIn K (.ref K_NoRow) (.ref K_NoKind) = some false)
    (n_NoRow_NoKind : (Value.ref K_NoRow == Value.ref K_NoKind) = false)
    (s_NoRow_NoStep : PySem.W.subIn K (.ref K_NoRow) (.ref K_NoStep) = some false)
    (n_NoRow_NoStep : (Value.ref K_NoRow == Value.ref K_NoStep) = false)
    (s_NoRow_Nothing : PySem.W.subIn K (.ref K_NoRow) (.ref K_Nothing) = some false)
    (n_NoRow_Nothing : (Value.ref K_NoRow == Value.ref K_Nothing) = false)
    (s_NoRow_TooMany : PySem.W.subIn K (.ref K_NoRow) (.ref K_TooMany) = some false)
    (n_NoRow_TooMany : (Value.ref K_NoRow == Value.ref K_TooMany) = false)
    (s_NoRow_Twice : PySem.W.subIn K (.ref K_NoRow) (.ref K_Twice) = some false)
    (n_NoRow_Twice : (Value.ref K_NoRow == Value.ref K_Twice) = false)
    (s_NoRow_ValueError : PySem.W.subIn K (.ref K_NoRow) (.type "ValueError") = some true)
    (ic_NoRow : PySem.W.isClsIn K K_NoRow = true)
    (it_NoRow : PySem.W.typeIn K (.ref K_NoRow) = some (.type "type"))
    (ic_Double : PySem.W.isClsIn K K_Double = true)
    (it_Double : PySem.W.typeIn K (.ref K_Double) = some (.type "type"))
    (ic_NoKind : PySem.W.isClsIn K K_NoKind = true)
    (it_NoKind : PySem.W.typeIn K (.ref K_NoKind) = some (.type "type"))
    (ic_NoStep : PySem.W.isClsIn K K_NoStep = true)
    (it_NoStep : PySem.W.typeIn K (.ref K_NoStep) = some (.type "type"))
    (ic_Nothing : PySem.W.isClsIn K K_Nothing = true)
    (it_Nothing : PySem.W.typeIn K (.ref K_Nothing) = some (.type "type"))
    (ic_TooMany : PySem.W.isClsIn K K_TooMany = true)
    (it_TooMany : PySem.W.typeIn K (.ref K_TooMany) = some (.type "type"))
    (ic_Twice : PySem.W.isClsIn K K_Twice = true)
    (it_Twice : PySem.W.typeIn K (.ref K_Twice) = some (.type "type"))
    (ic_FormError : PySem.W.isClsIn K K_FormError = true)
    (it_FormError : PySem.W.typeIn K (.ref K_FormError) = some (.type "type"))
    (ib_FormError : PySem.W.subIn K (.ref K_FormError) (.type "BaseException") = some true)
    (s_Double_FormError : PySem.W.subIn K (.ref K_Double) (.ref K_FormError) = some true)
    (s_NoKind_FormError : PySem.W.subIn K (.ref K_NoKind) (.ref K_FormError) = some true)
    (s_NoRow_FormError : PySem.W.subIn K (.ref K_NoRow) (.ref K_FormError) = some true)
    (xo_Double : K.lookup K_Double = some (excClassObj xa_Double xb_Double K_Double xc_Double xd_Double xe_Double true xf_Double xg_Double xh_Double xi_Double xj_Double xk_Double xl_Double xm_Double xn_Double xp_Double "ValueError.__new__"))
    (xr_Double : PySem.HandSPX.refsVE xe_Double = true)
    (xs_Double : PySem.W.findIn K (.ref K_Double) "__setattr__" = some (some (.builtin "object.__setattr__")))
    (xt_Double : PySem.W.subIn K (.ref K_Double) (.type "BaseException") = some true)
    (xu_Double : PySem.W.typeIn K (.ref K_Double) = some (.type "type"))
    (xv_Double : PySem.W.keepIn K (.ref K_Double) = true)
    (xw_Double : PySem.W.findIn K (.ref K_Double) "__init__" = some (some (.ref fi_Double)))
    (xx_Double : PySem.W.typeIn K (.ref fi_Double) = some (.type "function"))
    (xy_Double : PySem.W.findIn K (.ref K_Double) "at" = some none)
    (yl_Double : K.lookup fi_Double = some ⟨ioc_Double, iod_Double, .func (PySem.W.fnOf "__init__" "Double.__init__" (defArgs st_ini_Double) (defBody st_ini_Double) (defScope st_ini_Double) .none ikV_Double idc_Double ipm_Double ian_Double icd_Double ict_Double), isl_Double⟩)
    (ym_Double : PySem.W.codeIn K icd_Double "Double.__init__" = true)
    (yn_Double : PySem.W.keepIn K (.ref fi_Double) = true)
    (xo_NoRow : K.lookup K_NoRow = some (excClassObj xa_NoRow xb_NoRow K_NoRow xc_NoRow xd_NoRow xe_NoRow true xf_NoRow xg_NoRow xh_NoRow xi_NoRow xj_NoRow xk_NoRow xl_NoRow xm_NoRow xn_NoRow xp_NoRow "ValueError.__new__"))
    (xr_NoRow : PySem.HandSPX.refsVE xe_NoRow = true)
    (xs_NoRow : PySem.W.findIn K (.ref K_NoRow) "__setattr__" = some (some (.builtin "object.__setattr__")))
    (xt_NoRow : PySem.W.subIn K (.ref K_NoRow) (.type "BaseException") = some true)
    (xu_NoRow : PySem.W.typeIn K (.ref K_NoRow) = some (.type "type"))
    (xv_NoRow : PySem.W.keepIn K (.ref K_NoRow) = true)
    (xw_NoRow : PySem.W.findIn K (.ref K_NoRow) "__init__" = some (some (.ref fi_NoRow)))
    (xx_NoRow : PySem.W.typeIn K (.ref fi_NoRow) = some (.type "function"))
    (xy_NoRow : PySem.W.findIn K (.ref K_NoRow) "at" = some none)
    (yl_NoRow : K.lookup fi_NoRow = some ⟨ioc_NoRow, iod_NoRow, .func (PySem.W.fnOf "__init__" "NoRow.__init__" (defArgs st_ini_NoRow) (defBody st_ini_NoRow) (defScope st_ini_NoRow) .none ikV_NoRow idc_NoRow ipm_NoRow ian_NoRow icd_NoRow ict_NoRow), isl_NoRow⟩)
    (ym_NoRow : PySem.W.codeIn K icd_NoRow "NoRow.__init__" = true)
    (yn_NoRow : PySem.W.keepIn K (.ref fi_NoRow) = true)
    (xo_NoKind : K.lookup K_NoKind = some (excClassObj xa_NoKind xb_NoKind K_NoKind xc_NoKind xd_NoKind xe_NoKind true xf_NoKind xg_NoKind xh_NoKind xi_NoKind xj_NoKind xk_NoKind xl_NoKind xm_NoKind xn_NoKind xp_NoKind "ValueError.__new__"))
    (xr_NoKind : PySem.HandSPX.refsVE xe_NoKind = true)
    (xs_NoKind : PySem.W.findIn K (.ref K_NoKind) "__setattr__" = some (some (.builtin "object.__setattr__")))
    (xt_NoKind : PySem.W.subIn K (.ref K_NoKind) (.type "BaseException") = some true)
    (xu_NoKind : PySem.W.typeIn K (.ref K_NoKind) = some (.type "type"))
    (xv_NoKind : PySem.W.keepIn K (.ref K_NoKind) = true)
    (xw_NoKind : PySem.W.findIn K (.ref K_NoKind) "__init__" = some (some (.ref fi_NoKind)))
    (xx_NoKind : PySem.W.typeIn K (.ref fi_NoKind) = some (.type "function"))
    (xy_NoKind : PySem.W.findIn K (.ref K_NoKind) "at" = some none)
    (yl_NoKind : K.lookup fi_NoKind = some ⟨ioc_NoKind, iod_NoKind, .func (PySem.W.fnOf "__init__" "NoKind.__init__" (defArgs st_ini_NoKind) (defBody st_ini_NoKind) (defScope st_ini_NoKind) .none ikV_NoKind idc_NoKind ipm_NoKind ian_NoKind icd_NoKind ict_NoKind), isl_NoKind⟩)
    (ym_NoKind : PySem.W.codeIn K icd_NoKind "NoKind.__init__" = true)
    (yn_NoKind : PySem.W.keepIn K (.ref fi_NoKind) = true)
    (fe1 : PySem.W.specialIn K (.ref K_FormError) "__getattribute__" = some (some (.builtin "type.__getattribute__")))
    (fe2 : PySem.W.readsIn K K_FormError (.type "type") = true)
    (fe3 : PySem.W.findCls K (.ref K_FormError) (.type "type") "__init__" = some (.val (.builtin "ValueError.__init__")))
    (z_ValueError : PySem.W.nsIn K mainGlobals "ValueError" = some none) :
    ∃ fd : FuncData, (∀ (s : Shared) (v : Value), BindsTo s fd ⟨[v], []⟩ [("_law_script", v)]) ∧ ∀ base : Heap, K.In base → base.Ns mainGlobals mg → FnOk P w K mg base CX0 6 fa fd ["_law_script"] spLaw := by
  have e := hfa.symm.trans (PySem.W.mg_of X G a18)
  cases e
  have T : Blt mg := ⟨PySem.W.mg_none_of X G z_len, PySem.W.mg_none_of X G z_list, PySem.W.mg_none_of X G z_sorted, PySem.W.mg_none_of X G z_isinstance, PySem.W.mg_none_of X G z_range, PySem.W.mg_none_of X G z_dict, PySem.W.mg_none_of X G z_all, PySem.W.mg_none_of X G z_any, PySem.W.mg_none_of X G z_min, PySem.W.mg_none_of X G z_max, PySem.W.mg_none_of X G z_sum, PySem.W.mg_none_of X G z_reversed, PySem.W.mg_none_of X G z_int, PySem.W.mg_none_of X G z_str, PySem.W.mg_none_of X G z_enumerate, PySem.W.mg_none_of X G z_zip, PySem.W.mg_none_of X G z_tuple, PySem.W.mg_none_of X G z_abs, PySem.W.mg_none_of X G z_bool⟩
  have TR : RulTxt K CR := ⟨⟨pgR, hdR, poR, saR⟩, n_heads, n_sides⟩
  have GT_OWN_WORDS : GTup K mg "OWN_WORDS" (["any", "edge", "other"] : List Str) := ⟨_, _, _, _, PySem.W.mg_of X G gv_OWN_WORDS, gl_OWN_WORDS, rfl, rfl, by show 3 ≤ sizeLine; decide, (.cons ⟨_, rfl⟩ (.cons ⟨_, rfl⟩ (.cons ⟨_, rfl⟩ .nil)))⟩
  have IC_Rules : InsC K mg "Rules" CR := ⟨PySem.W.mg_of X G aCR, TR.cls, ih_Rules, ic1, ic2, im_Rules⟩
  have IN_Rules : InsN K CR := ⟨nc_Rules, nt_Rules, ns_Rules⟩
  have V_LETTERS : ∃ t, mg "LETTERS" = some (.str ("abcdefghijklmnopqrstuvwxyz" : Str) t) := ⟨_, PySem.W.mg_of X G v_LETTERS⟩
  have V_FIGURES : ∃ t, mg "FIGURES" = some (.str ("0123456789" : Str) t) := ⟨_, PySem.W.mg_of X G v_FIGURES⟩
  have V_MOST_WORDS : ∃ t, mg "MOST_WORDS" = some (.int 3 t) := ⟨_, PySem.W.mg_of X G v_MOST_WORDS⟩
  have IB : IsB K := ⟨ib1, ib2⟩
  have isk_Double : IsK K K_Double := ⟨j0_Double, j1_Double, j2_Double, j3_Double, j4_Double, j5_Double, j6_Double⟩
  have isk_NoKind : IsK K K_NoKind := ⟨j0_NoKind, j1_NoKind, j2_NoKind, j3_NoKind, j4_NoKind, j5_NoKind, j6_NoKind⟩
  have isk_NoRow : IsK K K_NoRow := ⟨j0_NoRow, j1_NoRow, j2_NoRow, j3_NoRow, j4_NoRow, j5_NoRow, j6_NoRow⟩
  have I_NoRow : IsAll K mg (["Double", "NoKind", "NoRow"] : List Str) "NoRow" (["NoRow"] : List Str) := all_cons ⟨_, _, PySem.W.mg_of X G aK_Double, PySem.W.mg_of X G aK_NoRow, isk_Double, kit_ref ic_NoRow it_NoRow s_Double_NoRow n_Double_NoRow⟩ (all_cons ⟨_, _, PySem.W.mg_of X G aK_NoKind, PySem.W.mg_of X G aK_NoRow, isk_NoKind, kit_ref ic_NoRow it_NoRow s_NoKind_NoRow n_NoKind_NoRow⟩ (all_cons ⟨_, _, PySem.W.mg_of X G aK_NoRow, PySem.W.mg_of X G aK_NoRow, isk_NoRow, kit_self⟩ (all_nil)))
  have I_Double : IsAll K mg (["Double", "NoKind", "NoRow"] : List Str) "Double" (["Double"] : List Str) := all_cons ⟨_, _, PySem.W.mg_of X G aK_Double, PySem.W.mg_of X G aK_Double, isk_Double, kit_self⟩ (all_cons ⟨_, _, PySem.W.mg_of X G aK_NoKind, PySem.W.mg_of X G aK_Double, isk_NoKind, kit_ref ic_Double it_Double s_NoKind_Double n_NoKind_Double⟩ (all_cons ⟨_, _, PySem.W.mg_of X G aK_NoRow, PySem.W.mg_of X G aK_Double, isk_NoRow, kit_ref ic_Double it_Double s_NoRow_Double n_NoRow_Double⟩ (all_nil)))
  have I_NoKind : IsAll K mg (["Double", "NoKind", "NoRow"] : List Str) "NoKind" (["NoKind"] : List Str) := all_cons ⟨_, _, PySem.W.mg_of X G aK_Double, PySem.W.mg_of X G aK_NoKind, isk_Double, kit_ref ic_NoKind it_NoKind s_Double_NoKind n_Double_NoKind⟩ (all_cons ⟨_, _, PySem.W.mg_of X G aK_NoKind, PySem.W.mg_of X G aK_NoKind, isk_NoKind, kit_self⟩ (all_cons ⟨_, _, PySem.W.mg_of X G aK_NoRow, PySem.W.mg_of X G aK_NoKind, isk_NoRow, kit_ref ic_NoKind it_NoKind s_NoRow_NoKind n_NoRow_NoKind⟩ (all_nil)))
  have J_ValueError : IsAllB K mg (["Double", "NoKind", "NoRow"] : List Str) "ValueError" "ValueError" (["Double", "NoKind", "NoRow"] : List Str) := ⟨PySem.W.mg_none_of X G z_ValueError, all_cons ⟨_, PySem.W.mg_of X G aK_Double, isk_Double, kit_typ rfl s_Double_ValueError⟩ (all_cons ⟨_, PySem.W.mg_of X G aK_NoKind, isk_NoKind, kit_typ rfl s_NoKind_ValueError⟩ (all_cons ⟨_, PySem.W.mg_of X G aK_NoRow, isk_NoRow, kit_typ rfl s_NoRow_ValueError⟩ (all_nil)))⟩
  have KC_Twice : ∃ C, mg "Twice" = some (.ref C) := ⟨_, PySem.W.mg_of X G aK_Twice⟩
  have KC_TooMany : ∃ C, mg "TooMany" = some (.ref C) := ⟨_, PySem.W.mg_of X G aK_TooMany⟩
  have KC_Nothing : ∃ C, mg "Nothing" = some (.ref C) := ⟨_, PySem.W.mg_of X G aK_Nothing⟩
  have KC_NoStep : ∃ C, mg "NoStep" = some (.ref C) := ⟨_, PySem.W.mg_of X G aK_NoStep⟩
  have IT_NoStep_Nothing_TooMany_Twice : IsAllT K mg (["Double", "NoKind", "NoRow"] : List Str) (["NoStep", "Nothing", "TooMany", "Twice"] : List Str) ([] : List Str) := ⟨[_, _, _, _], .cons (PySem.W.mg_of X G aK_NoStep) (.cons (PySem.W.mg_of X G aK_Nothing) (.cons (PySem.W.mg_of X G aK_TooMany) (.cons (PySem.W.mg_of X G aK_Twice) (.nil)))), all_cons ⟨_, PySem.W.mg_of X G aK_Double, isk_Double, kany_f (kit_ref ic_NoStep it_NoStep s_Double_NoStep n_Double_NoStep) (kany_f (kit_ref ic_Nothing it_Nothing s_Double_Nothing n_Double_Nothing) (kany_f (kit_ref ic_TooMany it_TooMany s_Double_TooMany n_Double_TooMany) (kany_f (kit_ref ic_Twice it_Twice s_Double_Twice n_Double_Twice) (rfl))))⟩ (all_cons ⟨_, PySem.W.mg_of X G aK_NoKind, isk_NoKind, kany_f (kit_ref ic_NoStep it_NoStep s_NoKind_NoStep n_NoKind_NoStep) (kany_f (kit_ref ic_Nothing it_Nothing s_NoKind_Nothing n_NoKind_Nothing) (kany_f (kit_ref ic_TooMany it_TooMany s_NoKind_TooMany n_NoKind_TooMany) (kany_f (kit_ref ic_Twice it_Twice s_NoKind_Twice n_NoKind_Twice) (rfl))))⟩ (all_cons ⟨_, PySem.W.mg_of X G aK_NoRow, isk_NoRow, kany_f (kit_ref ic_NoStep it_NoStep s_NoRow_NoStep n_NoRow_NoStep) (kany_f (kit_ref ic_Nothing it_Nothing s_NoRow_Nothing n_NoRow_Nothing) (kany_f (kit_ref ic_TooMany it_TooMany s_NoRow_TooMany n_NoRow_TooMany) (kany_f (kit_ref ic_Twice it_Twice s_NoRow_Twice n_NoRow_Twice) (rfl))))⟩ (all_nil)))⟩
  have NF_at : NoFld K mg (["Double", "NoKind", "NoRow"] : List Str) "at" := all_cons ⟨_, PySem.W.mg_of X G aK_Double, isk_Double, nf_Double_at⟩ (all_cons ⟨_, PySem.W.mg_of X G aK_NoKind, isk_NoKind, nf_NoKind_at⟩ (all_cons ⟨_, PySem.W.mg_of X G aK_NoRow, isk_NoRow, nf_NoRow_at⟩ (all_nil)))
  have FK : FeK K K_FormError := ⟨fe1, fe2, fe3⟩
  have FI_Double := fun_mk (st := st_ini_Double) yl_Double ym_Double yn_Double
  have BI_Double := FI_Double.binds (ps := ["self", "at"]) fun _ _ _ _ _ _ us hl => match us, hl with | [_, _], _ => rfl
  have OX_Double : OexC K K_Double := ⟨⟨_, _, _, _, _, _, _, _, _, _, _, _, _, _, _, xo_Double, xr_Double⟩, xs_Double, xt_Double, xu_Double, xv_Double⟩
  have FI_NoRow := fun_mk (st := st_ini_NoRow) yl_NoRow ym_NoRow yn_NoRow
  have BI_NoRow := FI_NoRow.binds (ps := ["self", "at"]) fun _ _ _ _ _ _ us hl => match us, hl with | [_, _], _ => rfl
  have OX_NoRow : OexC K K_NoRow := ⟨⟨_, _, _, _, _, _, _, _, _, _, _, _, _, _, _, xo_NoRow, xr_NoRow⟩, xs_NoRow, xt_NoRow, xu_NoRow, xv_NoRow⟩
  have FI_NoKind := fun_mk (st := st_ini_NoKind) yl_NoKind ym_NoKind yn_NoKind
  have BI_NoKind := FI_NoKind.binds (ps := ["self", "at"]) fun _ _ _ _ _ _ us hl => match us, hl with | [_, _], _ => rfl
  have OX_NoKind : OexC K K_NoKind := ⟨⟨_, _, _, _, _, _, _, _, _, _, _, _, _, _, _, xo_NoKind, xr_NoKind⟩, xs_NoKind, xt_NoKind, xu_NoKind, xv_NoKind⟩
  have EA_FormError : ExAll K mg (["Double", "NoKind", "NoRow"] : List Str) "FormError" := ⟨_, PySem.W.mg_of X G aK_FormError, all_cons ⟨_, PySem.W.mg_of X G aK_Double, exm_of ib_FormError ic_FormError it_FormError s_Double_FormError⟩ (all_cons ⟨_, PySem.W.mg_of X G aK_NoKind, exm_of ib_FormError ic_FormError it_FormError s_NoKind_FormError⟩ (all_cons ⟨_, PySem.W.mg_of X G aK_NoRow, exm_of ib_FormError ic_FormError it_FormError s_NoRow_FormError⟩ (all_nil)))⟩
  have F0 := fun_mk (st := st_l_row) l0 c0 k0
  have b0 := F0.binds (ps := ["_law_way", "_law_one", "_law_two"]) fun _ _ _ _ _ _ us hl => match us, hl with | [_, _, _], _ => rfl
  have F1 := fun_mk (st := st_l_at) l1 c1 k1
  have b1 := F1.binds (ps := ["_law_script", "_law_k"]) fun _ _ _ _ _ _ us hl => match us, hl with | [_, _], _ => rfl
  have F2 := fun_mk (st := st_l_spoilt) l2 c2 k2
  have b2 := F2.binds (ps := ["_law_writing", "_law_cell"]) fun _ _ _ _ _ _ us hl => match us, hl with | [_, _], _ => rfl
  have F3 := fun_mk (st := st_l_rows) l3 c3 k3
  have b3 := F3.binds (ps := ["_law_writing"]) fun _ _ _ _ _ _ us hl => match us, hl with | [_], _ => rfl
  have F4 := fun_mk (st := st_l_is_word) l4 c4 k4
  have b4 := F4.binds (ps := ["_law_word"]) fun _ _ _ _ _ _ us hl => match us, hl with | [_], _ => rfl
  have F5 := fun_mk (st := st_l_is_sign) l5 c5 k5
  have b5 := F5.binds (ps := ["_law_word"]) fun _ _ _ _ _ _ us hl => match us, hl with | [_], _ => rfl
  have F6 := fun_mk (st := st_l_sort) l6 c6 k6
  have b6 := F6.binds (ps := ["_law_words"]) fun _ _ _ _ _ _ us hl => match us, hl with | [_], _ => rfl
  have F7 := fun_mk (st := st_l_due) l7 c7 k7
  have b7 := F7.binds (ps := ["_law_rows_here"]) fun _ _ _ _ _ _ us hl => match us, hl with | [_], _ => rfl
  have F8 := fun_mk (st := st_rows_of) l8 c8 k8
  have b8 := F8.binds (ps := ["writing"]) fun _ _ _ _ _ _ us hl => match us, hl with | [_], _ => rfl
  have F9 := fun_mk (st := st_is_word) l9 c9 k9
  have b9 := F9.binds (ps := ["word"]) fun _ _ _ _ _ _ us hl => match us, hl with | [_], _ => rfl
  have F10 := fun_mk (st := st_sign_of_word) l10 c10 k10
  have b10 := F10.binds (ps := ["word"]) fun _ _ _ _ _ _ us hl => match us, hl with | [_], _ => rfl
  have F11 := fun_mk (st := st_kind_row) l11 c11 k11
  have b11 := F11.binds (ps := ["words"]) fun _ _ _ _ _ _ us hl => match us, hl with | [_], _ => rfl
  have F12 := fun_mk (st := st_side_row) l12 c12 k12
  have b12 := F12.binds (ps := ["words"]) fun _ _ _ _ _ _ us hl => match us, hl with | [_], _ => rfl
  have F13 := fun_mk (st := st_row_read) l13 c13 k13
  have b13 := F13.binds (ps := ["row"]) fun _ _ _ _ _ _ us hl => match us, hl with | [_], _ => rfl
  have F14 := fun_mk (st := st_heads_of) l14 c14 k14
  have b14 := F14.binds (ps := ["told"]) fun _ _ _ _ _ _ us hl => match us, hl with | [_], _ => rfl
  have F15 := fun_mk (st := st_Rules___init__) l15 c15 k15
  have b15 := F15.binds (ps := ["self", "heads", "sides"]) fun _ _ _ _ _ _ us hl => match us, hl with | [_, _, _], _ => rfl
  have F16 := fun_mk (st := st_read_rules) l16 c16 k16
  have b16 := F16.binds (ps := ["writing"]) fun _ _ _ _ _ _ us hl => match us, hl with | [_], _ => rfl
  have F17 := fun_mk (st := st_l_told) l17 c17 k17
  have b17 := F17.binds (ps := ["_law_writing"]) fun _ _ _ _ _ _ us hl => match us, hl with | [_], _ => rfl
  have F18 := fun_mk (st := st_law) l18 c18 k18
  refine ⟨PySem.W.fnOf "law" "law" (defArgs st_law) (defBody st_law) (defScope st_law) .none kV18 dc18 pm18 an18 cd18 ct18, fun s v => .of_eq rfl, fun base _ _ => ?_⟩
  have ZI_Double : RzI P w K mg base "Double" "at" ["self", "at"] := ⟨_, _, _, PySem.W.mg_of X G aK_Double, OX_Double, xw_Double, xx_Double, xy_Double, ini_ok FI_Double sc_ini_Double tb_ini_Double rfl FK (PySem.W.mg_of X G aK_FormError) (fun env => ⟨_, rfl⟩), BI_Double⟩
  have ZI_NoRow : RzI P w K mg base "NoRow" "at" ["self", "at"] := ⟨_, _, _, PySem.W.mg_of X G aK_NoRow, OX_NoRow, xw_NoRow, xx_NoRow, xy_NoRow, ini_ok FI_NoRow sc_ini_NoRow tb_ini_NoRow rfl FK (PySem.W.mg_of X G aK_FormError) (fun env => ⟨_, rfl⟩), BI_NoRow⟩
  have ZI_NoKind : RzI P w K mg base "NoKind" "at" ["self", "at"] := ⟨_, _, _, PySem.W.mg_of X G aK_NoKind, OX_NoKind, xw_NoKind, xx_NoKind, xy_NoKind, ini_ok FI_NoKind sc_ini_NoKind tb_ini_NoKind rfl FK (PySem.W.mg_of X G aK_FormError) (fun env => ⟨_, rfl⟩), BI_NoKind⟩
  have G_l_row : CalM P w K mg base 1 "_law_row" ["_law_way", "_law_one", "_law_two"] (sp_l_row 0 CR) := ⟨f0, _, ok_l_row F0 T TR , PySem.W.mg_of X G a0, k0, b0⟩
  have G_l_at : CalM P w K mg base 1 "_law_at" ["_law_script", "_law_k"] (sp_l_at 0 CR) := ⟨f1, _, ok_l_at F1 T TR , PySem.W.mg_of X G a1, k1, b1⟩
  have G_l_spoilt : CalM P w K mg base 1 "_law_spoilt" ["_law_writing", "_law_cell"] (sp_l_spoilt 0 CR) := ⟨f2, _, ok_l_spoilt F2 T TR , PySem.W.mg_of X G a2, k2, b2⟩
  have G_l_rows : CalM P w K mg base 1 "_law_rows" ["_law_writing"] (sp_l_rows 0 CR) := ⟨f3, _, ok_l_rows F3 T TR , PySem.W.mg_of X G a3, k3, b3⟩
  have G_l_is_word : CalM P w K mg base 1 "_law_is_word" ["_law_word"] (sp_l_is_word 0 CR) := ⟨f4, _, ok_l_is_word F4 T TR , PySem.W.mg_of X G a4, k4, b4⟩
  have G_l_is_sign : CalM P w K mg base 1 "_law_is_sign" ["_law_word"] (sp_l_is_sign 0 CR) := ⟨f5, _, ok_l_is_sign F5 T TR , PySem.W.mg_of X G a5, k5, b5⟩
  have G_rows_of : CalM P w K mg base 1 "rows_of" ["writing"] (sp_rows_of 0 CR) := ⟨f8, _, ok_rows_of F8 T TR , PySem.W.mg_of X G a8, k8, b8⟩
  have G_is_word : CalM P w K mg base 1 "is_word" ["word"] (sp_is_word 0 CR) := ⟨f9, _, ok_is_word F9 T TR V_LETTERS, PySem.W.mg_of X G a9, k9, b9⟩
  have G_sign_of_word : CalM P w K mg base 1 "sign_of_word" ["word"] (sp_sign_of_word 0 CR) := ⟨f10, _, ok_sign_of_word F10 T TR V_FIGURES, PySem.W.mg_of X G a10, k10, b10⟩
  have G_Rules___init__ : MkTM P w K mg base 1 "Rules" CR ["self", "heads", "sides"] (sp_Rules___init__ 0 CR) := ⟨f15, _, ⟨mkR, a15, i15, kcR⟩, ok_Rules___init__ F15 T TR , PySem.W.mg_of X G aCR, b15⟩
  have G_l_sort : CalM P w K mg base 2 "_law_sort" ["_law_words"] (sp_l_sort 0 CR) := ⟨f6, _, ok_l_sort F6 T TR G_l_is_word G_l_is_sign, PySem.W.mg_of X G a6, k6, b6⟩
  have G_kind_row : CalM P w K mg base 2 "kind_row" ["words"] (sp_kind_row 0 CR) := ⟨f11, _, ok_kind_row F11 T TR G_is_word G_sign_of_word, PySem.W.mg_of X G a11, k11, b11⟩
  have G_side_row : CalM P w K mg base 2 "side_row" ["words"] (sp_side_row 0 CR) := ⟨f12, _, ok_side_row F12 T TR G_is_word V_MOST_WORDS, PySem.W.mg_of X G a12, k12, b12⟩
  have G_l_due : CalM P w K mg base 3 "_law_due" ["_law_rows_here"] (sp_l_due 0 CR) := ⟨f7, _, ok_l_due F7 T TR G_l_sort, PySem.W.mg_of X G a7, k7, b7⟩
  have G_row_read : CalM P w K mg base 3 "row_read" ["row"] (sp_row_read 0 CR) := ⟨f13, _, ok_row_read F13 T TR G_kind_row G_side_row, PySem.W.mg_of X G a13, k13, b13⟩
  have G_heads_of : CalXM P w K mg base 3 "heads_of" ["told"] (sp_heads_of 0 CR mg) := ⟨f14, _, ok_heads_of F14 T TR ZI_Double GT_OWN_WORDS, PySem.W.mg_of X G a14, k14, b14⟩
  have G_read_rules : CalXM P w K mg base 4 "read_rules" ["writing"] (sp_read_rules 0 CR mg) := ⟨f16, _, ok_read_rules F16 T TR G_rows_of G_row_read G_heads_of G_Rules___init__ ZI_NoRow ZI_NoKind GT_OWN_WORDS, PySem.W.mg_of X G a16, k16, b16⟩
  have G_l_told : CalM P w K mg base 5 "_law_told" ["_law_writing"] (sp_l_told 0 CR) := ⟨f17, _, ok_l_told F17 T TR G_read_rules IB I_NoRow I_Double I_NoKind J_ValueError IT_NoStep_Nothing_TooMany_Twice KC_Twice KC_TooMany KC_Nothing KC_NoStep NF_at IC_Rules IN_Rules EA_FormError, PySem.W.mg_of X G a17, k17, b17⟩
  exact fn_law (ok_law (CT := 0) (CR := CR) F18 T TR G_l_row G_l_at G_l_spoilt G_l_rows G_l_due G_l_told) law_true
end Sg.W
open PySem PySem.W PyProof.Rows in
set_option maxRecDepth 100000 in
set_option maxHeartbeats 0 in
theorem PySem.Challenge.cw_signforms_k73_refused_rules_holds : PySem.Challenge.rw_signforms_k73_refused_rules.Holds := by
  w_on; o_law; k_head; (case hw => w_witness2)
  k_fill
  refine Sg.walk_law (l := PySem.Challenge.rw_signforms_k73_refused_rules) (k := 6) (p := "_law_script") rfl rfl ⟨rfl, by decide, by decide⟩ (fun w h Y => PySem.W.kIn_of Y) ?hN ?F
  case hN => (intro w; kernel_rfl)
  case F =>
    intro w mg fa h KX G hmg
    refine' Sg.W.all_mk KX G hmg ?aCR ?a0 ?l0 ?c0 ?k0 ?a1 ?l1 ?c1 ?k1 ?a2 ?l2 ?c2 ?k2 ?a3 ?l3 ?c3 ?k3 ?a4 ?l4 ?c4 ?k4 ?a5 ?l5 ?c5 ?k5 ?a6 ?l6 ?c6 ?k6 ?a7 ?l7 ?c7 ?k7 ?a8 ?l8 ?c8 ?k8 ?a9 ?l9 ?c9 ?k9 ?a10 ?l10 ?c10 ?k10 ?a11 ?l11 ?c11 ?k11 ?a12 ?l12 ?c12 ?k12 ?a13 ?l13 ?c13 ?k13 ?a14 ?l14 ?c14 ?k14 ?a15 ?i15 ?l15 ?c15 ?k15 ?a16 ?l16 ?c16 ?k16 ?a17 ?l17 ?c17 ?k17 ?a18 ?l18 ?c18 ?k18 ?pgR ?hdR ?poR ?saR ?mkR ?kcR ?n_heads ?n_sides ?gv_OWN_WORDS ?gl_OWN_WORDS ?ic1 ?ic2 ?ih_Rules ?im_Rules ?nc_Rules ?nt_Rules ?ns_Rules ?z_len ?z_list ?z_sorted ?z_isinstance ?z_range ?z_dict ?z_all ?z_any ?z_min ?z_max ?z_sum ?z_reversed ?z_int ?z_str ?z_enumerate ?z_zip ?z_tuple ?z_abs ?z_bool ?v_LETTERS ?v_FIGURES ?v_MOST_WORDS ?aK_Double ?aK_NoRow ?aK_NoKind ?aK_Twice ?aK_TooMany ?aK_Nothing ?aK_NoStep ?aK_FormError ?ib1 ?ib2 ?j0_Double ?j1_Double ?j2_Double ?j3_Double ?j4_Double ?j5_Double ?j6_Double ?nf_Double_at ?s_Double_NoRow ?n_Double_NoRow ?s_Double_NoKind ?n_Double_NoKind ?s_Double_NoStep ?n_Double_NoStep ?s_Double_Nothing ?n_Double_Nothing ?s_Double_TooMany ?n_Double_TooMany ?s_Double_Twice ?n_Double_Twice ?s_Double_ValueError ?j0_NoKind ?j1_NoKind ?j2_NoKind ?j3_NoKind ?j4_NoKind ?j5_NoKind ?j6_NoKind ?nf_NoKind_at ?s_NoKind_NoRow ?n_NoKind_NoRow ?s_NoKind_Double ?n_NoKind_Double ?s_NoKind_NoStep ?n_NoKind_NoStep ?s_NoKind_Nothing ?n_NoKind_Nothing ?s_NoKind_TooMany ?n_NoKind_TooMany ?s_NoKind_Twice ?n_NoKind_Twice ?s_NoKind_ValueError ?j0_NoRow ?j1_NoRow ?j2_NoRow ?j3_NoRow ?j4_NoRow ?j5_NoRow ?j6_NoRow ?nf_NoRow_at ?s_NoRow_Double ?n_NoRow_Double ?s_NoRow_NoKind ?n_NoRow_NoKind ?s_NoRow_NoStep ?n_NoRow_NoStep ?s_NoRow_Nothing ?n_NoRow_Nothing ?s_NoRow_TooMany ?n_NoRow_TooMany ?s_NoRow_Twice ?n_NoRow_Twice ?s_NoRow_ValueError ?ic_NoRow ?it_NoRow ?ic_Double ?it_Double ?ic_NoKind ?it_NoKind ?ic_NoStep ?it_NoStep ?ic_Nothing ?it_Nothing ?ic_TooMany ?it_TooMany ?ic_Twice ?it_Twice ?ic_FormError ?it_FormError ?ib_FormError ?s_Double_FormError ?s_NoKind_FormError ?s_NoRow_FormError ?xo_Double ?xr_Double ?xs_Double ?xt_Double ?xu_Double ?xv_Double ?xw_Double ?xx_Double ?xy_Double ?yl_Double ?ym_Double ?yn_Double ?xo_NoRow ?xr_NoRow ?xs_NoRow ?xt_NoRow ?xu_NoRow ?xv_NoRow ?xw_NoRow ?xx_NoRow ?xy_NoRow ?yl_NoRow ?ym_NoRow ?yn_NoRow ?xo_NoKind ?xr_NoKind ?xs_NoKind ?xt_NoKind ?xu_NoKind ?xv_NoKind ?xw_NoKind ?xx_NoKind ?xy_NoKind ?yl_NoKind ?ym_NoKind ?yn_NoKind ?fe1 ?fe2 ?fe3 ?z_ValueError
    (case aCR => k_is)
    (case a0 => k_is)
    (case l0 => k_is)
    (case c0 => k_is)
    (case k0 => k_is)
    (case a1 => k_is)
    (case l1 => k_is)
    (case c1 => k_is)
    (case k1 => k_is)
    (case a2 => k_is)
    (case l2 => k_is)
    (case c2 => k_is)
    (case k2 => k_is)
    (case a3 => k_is)
    (case l3 => k_is)
    (case c3 => k_is)
    (case k3 => k_is)
    (case a4 => k_is)
    (case l4 => k_is)
    (case c4 => k_is)
    (case k4 => k_is)
    (case a5 => k_is)
    (case l5 => k_is)
    (case c5 => k_is)
    (case k5 => k_is)
    (case a6 => k_is)
    (case l6 => k_is)
    (case c6 => k_is)
    (case k6 => k_is)
    (case a7 => k_is)
    (case l7 => k_is)
    (case c7 => k_is)
    (case k7 => k_is)
    (case a8 => k_is)
    (case l8 => k_is)
    (case c8 => k_is)
    (case k8 => k_is)
    (case a9 => k_is)
    (case l9 => k_is)
    (case c9 => k_is)
    (case k9 => k_is)
    (case a10 => k_is)
    (case l10 => k_is)
    (case c10 => k_is)
    (case k10 => k_is)
    (case a11 => k_is)
    (case l11 => k_is)
    (case c11 => k_is)
    (case k11 => k_is)
    (case a12 => k_is)
    (case l12 => k_is)
    (case c12 => k_is)
    (case k12 => k_is)
    (case a13 => k_is)
    (case l13 => k_is)
    (case c13 => k_is)
    (case k13 => k_is)
    (case a14 => k_is)
    (case l14 => k_is)
    (case c14 => k_is)
    (case k14 => k_is)
    (case a15 => k_is)
    (case i15 => k_is)
    (case l15 => k_is)
    (case c15 => k_is)
    (case k15 => k_is)
    (case a16 => k_is)
    (case l16 => k_is)
    (case c16 => k_is)
    (case k16 => k_is)
    (case a17 => k_is)
    (case l17 => k_is)
    (case c17 => k_is)
    (case k17 => k_is)
    (case a18 => k_is)
    (case l18 => k_is)
    (case c18 => k_is)
    (case k18 => k_is)
    (case pgR => k_is)
    (case hdR => k_is)
    (case poR => k_is)
    (case saR => k_is)
    (case mkR => k_is)
    (case kcR => k_is)
    (case n_heads => k_is)
    (case n_sides => k_is)
    (case gv_OWN_WORDS => k_is)
    (case gl_OWN_WORDS => k_is)
    (case ic1 => k_is)
    (case ic2 => k_is)
    (case ih_Rules => k_is)
    (case im_Rules => k_is)
    (case nc_Rules => k_is)
    (case nt_Rules => k_is)
    (case ns_Rules => k_is)
    (case z_len => k_is)
    (case z_list => k_is)
    (case z_sorted => k_is)
    (case z_isinstance => k_is)
    (case z_range => k_is)
    (case z_dict => k_is)
    (case z_all => k_is)
    (case z_any => k_is)
    (case z_min => k_is)
    (case z_max => k_is)
    (case z_sum => k_is)
    (case z_reversed => k_is)
    (case z_int => k_is)
    (case z_str => k_is)
    (case z_enumerate => k_is)
    (case z_zip => k_is)
    (case z_tuple => k_is)
    (case z_abs => k_is)
    (case z_bool => k_is)
    (case v_LETTERS => k_is)
    (case v_FIGURES => k_is)
    (case v_MOST_WORDS => k_is)
    (case aK_Double => k_is)
    (case aK_NoRow => k_is)
    (case aK_NoKind => k_is)
    (case aK_Twice => k_is)
    (case aK_TooMany => k_is)
    (case aK_Nothing => k_is)
    (case aK_NoStep => k_is)
    (case aK_FormError => k_is)
    (case ib1 => k_is)
    (case ib2 => k_is)
    (case j0_Double => k_is)
    (case j1_Double => k_is)
    (case j2_Double => k_is)
    (case j3_Double => k_is)
    (case j4_Double => k_is)
    (case j5_Double => k_is)
    (case j6_Double => k_is)
    (case nf_Double_at => k_is)
    (case s_Double_NoRow => k_is)
    (case n_Double_NoRow => first | rfl | decide)
    (case s_Double_NoKind => k_is)
    (case n_Double_NoKind => first | rfl | decide)
    (case s_Double_NoStep => k_is)
    (case n_Double_NoStep => first | rfl | decide)
    (case s_Double_Nothing => k_is)
    (case n_Double_Nothing => first | rfl | decide)
    (case s_Double_TooMany => k_is)
    (case n_Double_TooMany => first | rfl | decide)
    (case s_Double_Twice => k_is)
    (case n_Double_Twice => first | rfl | decide)
    (case s_Double_ValueError => k_is)
    (case j0_NoKind => k_is)
    (case j1_NoKind => k_is)
    (case j2_NoKind => k_is)
    (case j3_NoKind => k_is)
    (case j4_NoKind => k_is)
    (case j5_NoKind => k_is)
    (case j6_NoKind => k_is)
    (case nf_NoKind_at => k_is)
    (case s_NoKind_NoRow => k_is)
    (case n_NoKind_NoRow => first | rfl | decide)
    (case s_NoKind_Double => k_is)
    (case n_NoKind_Double => first | rfl | decide)
    (case s_NoKind_NoStep => k_is)
    (case n_NoKind_NoStep => first | rfl | decide)
    (case s_NoKind_Nothing => k_is)
    (case n_NoKind_Nothing => first | rfl | decide)
    (case s_NoKind_TooMany => k_is)
    (case n_NoKind_TooMany => first | rfl | decide)
    (case s_NoKind_Twice => k_is)
    (case n_NoKind_Twice => first | rfl | decide)
    (case s_NoKind_ValueError => k_is)
    (case j0_NoRow => k_is)
    (case j1_NoRow => k_is)
    (case j2_NoRow => k_is)
    (case j3_NoRow => k_is)
    (case j4_NoRow => k_is)
    (case j5_NoRow => k_is)
    (case j6_NoRow => k_is)
    (case nf_NoRow_at => k_is)
    (case s_NoRow_Double => k_is)
    (case n_NoRow_Double => first | rfl | decide)
    (case s_NoRow_NoKind => k_is)
    (case n_NoRow_NoKind => first | rfl | decide)
    (case s_NoRow_NoStep => k_is)
    (case n_NoRow_NoStep => first | rfl | decide)
    (case s_NoRow_Nothing => k_is)
    (case n_NoRow_Nothing => first | rfl | decide)
    (case s_NoRow_TooMany => k_is)
    (case n_NoRow_TooMany => first | rfl | decide)
    (case s_NoRow_Twice => k_is)
    (case n_NoRow_Twice => first | rfl | decide)
    (case s_NoRow_ValueError => k_is)
    (case ic_NoRow => k_is)
    (case it_NoRow => k_is)
    (case ic_Double => k_is)
    (case it_Double => k_is)
    (case ic_NoKind => k_is)
    (case it_NoKind => k_is)
    (case ic_NoStep => k_is)
    (case it_NoStep => k_is)
    (case ic_Nothing => k_is)
    (case it_Nothing => k_is)
    (case ic_TooMany => k_is)
    (case it_TooMany => k_is)
    (case ic_Twice => k_is)
    (case it_Twice => k_is)
    (case ic_FormError => k_is)
    (case it_FormError => k_is)
    (case ib_FormError => k_is)
    (case s_Double_FormError => k_is)
    (case s_NoKind_FormError => k_is)
    (case s_NoRow_FormError => k_is)
    (case xo_Double => k_is)
    (case xr_Double => first | rfl | decide)
    (case xs_Double => k_is)
    (case xt_Double => k_is)
    (case xu_Double => k_is)
    (case xv_Double => k_is)
    (case xw_Double => k_is)
    (case xx_Double => k_is)
    (case xy_Double => k_is)
    (case yl_Double => k_is)
    (case ym_Double => k_is)
    (case yn_Double => k_is)
    (case xo_NoRow => k_is)
    (case xr_NoRow => first | rfl | decide)
    (case xs_NoRow => k_is)
    (case xt_NoRow => k_is)
    (case xu_NoRow => k_is)
    (case xv_NoRow => k_is)
    (case xw_NoRow => k_is)
    (case xx_NoRow => k_is)
    (case xy_NoRow => k_is)
    (case yl_NoRow => k_is)
    (case ym_NoRow => k_is)
    (case yn_NoRow => k_is)
    (case xo_NoKind => k_is)
    (case xr_NoKind => first | rfl | decide)
    (case xs_NoKind => k_is)
    (case xt_NoKind => k_is)
    (case xu_NoKind => k_is)
    (case xv_NoKind => k_is)
    (case xw_NoKind => k_is)
    (case xx_NoKind => k_is)
    (case xy_NoKind => k_is)
    (case yl_NoKind => k_is)
    (case ym_NoKind => k_is)
    (case yn_NoKind => k_is)
    (case fe1 => k_is)
    (case fe2 => k_is)
    (case fe3 => k_is)
    (case z_ValueError => k_is)
