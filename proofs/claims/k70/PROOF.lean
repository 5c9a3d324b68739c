import PyProof.Rows.All
import Wide.All
import OpenK.AllK
import Wide.FinOn
import HandS.ForMost
import HandS.Exc
import HandS.TryOnly
import HandS.ExcOwn
import HandS.WordsExc
import HandS.Wide
import HandS.Walk
import HandS.IsInst
import HandS.Style
import HandS.Conv
import HandS.NoneIn
import HandS.SortInts
import PyProof.ReprRoads
import PyProof.ReprLen
import HandS.Star
import KE.DataMinMax
import KE.SortData
import HandS.Defaults
import PySem.Challenge.RW_lowcolumns_k70_tops_by_sorted_columns
set_option Elab.async false
set_option linter.unusedVariables false
set_option maxRecDepth 100000
/-! Lc: a layer over the readings: mirrors in a small monad, assertions with footprints, judgements -/
namespace Lc
open PySem L2

/-! ### results of mirrors -/
inductive Res (α : Type) where
  | ok (a : α) | err (k : Nat) | bad
namespace Res
variable {α β γ : Type}
def bind (m : Res α) (f : α → Res β) : Res β := match m with
  | .ok a => f a
  | .err k => .err k
  | .bad => .bad
def wp (m : Res α) (Q : α → Prop) (E : Nat → Prop) : Prop := match m with
  | .ok a => Q a
  | .err k => E k
  | .bad => False
@[simp] theorem bind_ok (a : α) (f : α → Res β) : (Res.ok a).bind f = f a := rfl
@[simp] theorem bind_err (k : Nat) (f : α → Res β) : (Res.err k : Res α).bind f = .err k := rfl
@[simp] theorem bind_bad (f : α → Res β) : (Res.bad : Res α).bind f = .bad := rfl
theorem bind_assoc (m : Res α) (f : α → Res β) (g : β → Res γ) : (m.bind f).bind g = m.bind fun a => (f a).bind g := by cases m <;> rfl
theorem wp_bind {m : Res α} {f : α → Res β} {Q : β → Prop} {E : Nat → Prop} : (m.bind f).wp Q E ↔ m.wp (fun a => (f a).wp Q E) E := by cases m <;> exact Iff.rfl
theorem wp_mono {m : Res α} {Q Q' : α → Prop} {E E' : Nat → Prop} (h : m.wp Q E) (hq : ∀ a, m = .ok a → Q a → Q' a) (he : ∀ k, E k → E' k) : m.wp Q' E' := by
  cases m with
  | ok a => exact hq a rfl h
  | err k => exact he k h
  | bad => exact h
/-- a side condition -/
def need (c : Prop) [Decidable c] (m : Res α) : Res α := if c then m else .bad
theorem need_of {c : Prop} [Decidable c] {m : Res α} (h : c) : need c m = m := if_pos h
theorem wp_need {c : Prop} [Decidable c] {m : Res α} {Q : α → Prop} {E : Nat → Prop} (h : (need c m).wp Q E) : c ∧ m.wp Q E := by
  unfold need at h
  by_cases hc : c
  · rw [if_pos hc] at h
    exact ⟨hc, h⟩
  · rw [if_neg hc] at h
    exact h.elim
end Res

/-! ### frozen data -/
mutual
inductive Rp (F : Hp) : V → PyData → Prop
  | non : Rp F .non .none
  | bl (b : Bool) : Rp F (.bl b) (.bool b)
  | int (i : Int) : Rp F (.int i) (.int i)
  | str (x : Str) : Rp F (.str x) (.str x)
  | lst {a : Addr} {xs : List V} {ds : List PyData} : F a = some (.lst xs) → RpAll F xs ds → Rp F (.ref a) (.list ds)
  | tup {a : Addr} {xs : List V} {ds : List PyData} : F a = some (.tup xs) → RpAll F xs ds → Rp F (.ref a) (.tuple ds)
inductive RpAll (F : Hp) : List V → List PyData → Prop
  | nil : RpAll F [] []
  | cons {v : V} {vs : List V} {d : PyData} {ds : List PyData} : Rp F v d → RpAll F vs ds → RpAll F (v :: vs) (d :: ds)
end
section
variable {F G H : Hp} {v : V} {vs : List V} {d : PyData} {ds : List PyData}
mutual
theorem Rp.mono {F G : Hp} (s : Same F G) : ∀ {v : V} {d : PyData}, Rp F v d → Rp G v d
  | _, _, .non => .non
  | _, _, .bl b => .bl b
  | _, _, .int i => .int i
  | _, _, .str x => .str x
  | _, _, .lst h r => .lst (s _ _ h) (RpAll.mono s r)
  | _, _, .tup h r => .tup (s _ _ h) (RpAll.mono s r)
theorem RpAll.mono {F G : Hp} (s : Same F G) : ∀ {vs : List V} {ds : List PyData}, RpAll F vs ds → RpAll G vs ds
  | _, _, .nil => .nil
  | _, _, .cons h r => .cons (Rp.mono s h) (RpAll.mono s r)
end
mutual
theorem Rp.dp {F H : Hp} {K : PySem.W.Frag} (s : Same F H) : ∀ {v : V} {d : PyData}, Rp F v d → Dp K H v d
  | _, _, .non => .non
  | _, _, .bl b => .bl b
  | _, _, .int i => .int i
  | _, _, .str x => .str x
  | _, _, .lst h r => .lst (SqL.of (s _ _ h)) (RpAll.dp s r)
  | _, _, .tup h r => .tup (SqT.of (s _ _ h)) (RpAll.dp s r)
theorem RpAll.dp {F H : Hp} {K : PySem.W.Frag} (s : Same F H) : ∀ {vs : List V} {ds : List PyData}, RpAll F vs ds → DpAll K H vs ds
  | _, _, .nil => .nil
  | _, _, .cons h r => .cons (Rp.dp s h) (RpAll.dp s r)
end
theorem RpAll.len : ∀ {vs : List V} {ds : List PyData}, RpAll F vs ds → vs.length = ds.length
  | _, _, .nil => rfl
  | _, _, .cons _ r => by rw [List.length_cons, List.length_cons, RpAll.len r]
theorem RpAll.get : ∀ {vs : List V} {ds : List PyData} {i : Nat} {d : PyData}, RpAll F vs ds → ds[i]? = some d → ∃ v, vs[i]? = some v ∧ Rp F v d
  | _, _, i, d, .nil, e => by simp at e
  | _, _, 0, d, .cons h _, e => by
    simp at e
    exact ⟨_, rfl, e ▸ h⟩
  | _, _, i + 1, d, .cons _ r, e => by
    obtain ⟨v, h1, h2⟩ := RpAll.get (i := i) (d := d) r (by simpa using e)
    exact ⟨v, by simpa using h1, h2⟩
theorem RpAll.getV : ∀ {vs : List V} {ds : List PyData} {i : Nat} {v : V}, RpAll F vs ds → vs[i]? = some v → ∃ d, ds[i]? = some d ∧ Rp F v d
  | _, _, i, d, .nil, e => by simp at e
  | _, _, 0, d, .cons h _, e => by
    simp at e
    exact ⟨_, rfl, e ▸ h⟩
  | _, _, i + 1, v, .cons _ r, e => by
    obtain ⟨d, h1, h2⟩ := RpAll.getV (i := i) (v := v) r (by simpa using e)
    exact ⟨d, by simpa using h1, h2⟩
theorem RpAll.append : ∀ {vs ws : List V} {ds es : List PyData}, RpAll F vs ds → RpAll F ws es → RpAll F (vs ++ ws) (ds ++ es)
  | _, _, _, _, .nil, s => s
  | _, _, _, _, .cons r t, s => .cons r (RpAll.append t s)
theorem RpAll.set {v : V} {d : PyData} (h : Rp F v d) : ∀ {vs : List V} {ds : List PyData} (i : Nat), RpAll F vs ds → RpAll F (vs.set i v) (ds.set i d)
  | _, _, _, .nil => .nil
  | _, _, 0, .cons _ t => .cons h t
  | _, _, i + 1, .cons q t => .cons q (RpAll.set h i t)
theorem RpAll.take : ∀ {vs : List V} {ds : List PyData} (n : Nat), RpAll F vs ds → RpAll F (vs.take n) (ds.take n)
  | _, _, 0, _ => .nil
  | _, _, _ + 1, .nil => .nil
  | _, _, n + 1, .cons r t => .cons r (RpAll.take n t)
theorem RpAll.drop : ∀ {vs : List V} {ds : List PyData} (n : Nat), RpAll F vs ds → RpAll F (vs.drop n) (ds.drop n)
  | _, _, 0, r => r
  | _, _, _ + 1, .nil => .nil
  | _, _, n + 1, .cons _ t => RpAll.drop n t
theorem RpAll.one {v : V} {d : PyData} (h : Rp F v d) : RpAll F [v] [d] := .cons h .nil
theorem RpAll.reverse : ∀ {vs : List V} {ds : List PyData}, RpAll F vs ds → RpAll F vs.reverse ds.reverse
  | _, _, .nil => .nil
  | _, _, .cons h r => by
    rw [List.reverse_cons, List.reverse_cons]
    exact (RpAll.reverse r).append (.one h)
theorem RpAll.ints : ∀ {vs : List V} {ns : List Int}, RpAll F vs (ns.map PyData.int) → vs = ns.map V.int
  | [], [], _ => rfl
  | _ :: _, n :: ns, .cons h r => by
    cases h
    rw [List.map_cons, RpAll.ints r]
theorem RpAll.of_ints : ∀ (ns : List Int), RpAll F (ns.map V.int) (ns.map PyData.int)
  | [] => .nil
  | n :: ns => .cons (.int n) (RpAll.of_ints ns)
theorem RpAll.bools : ∀ {vs : List V} {ns : List Bool}, RpAll F vs (ns.map PyData.bool) → vs = ns.map V.bl
  | [], [], _ => rfl
  | _ :: _, n :: ns, .cons h r => by
    cases h
    rw [List.map_cons, RpAll.bools r]
end

/-! ### typed data -/
class Dat (α : Type) where
  dat : α → PyData
abbrev dat {α : Type} [Dat α] (a : α) : PyData := Dat.dat a
instance : Dat Int := ⟨.int⟩
instance : Dat Bool := ⟨.bool⟩
instance : Dat Str := ⟨.str⟩
instance : Dat Unit := ⟨fun _ => .none⟩
instance : Dat PyData := ⟨id⟩
instance {α β : Type} [Dat α] [Dat β] : Dat (α × β) := ⟨fun p => .tuple [dat p.1, dat p.2]⟩
/-- a triple as a tuple of three -/
structure T3 (α β γ : Type) where
  a : α
  b : β
  c : γ
instance {α β γ : Type} [Dat α] [Dat β] [Dat γ] : Dat (T3 α β γ) := ⟨fun p => .tuple [dat p.a, dat p.b, dat p.c]⟩
instance {α : Type} [Dat α] : Dat (List α) := ⟨fun l => .list (l.map dat)⟩
instance {α : Type} [Dat α] : Dat (Option α) := ⟨fun o => match o with | some a => dat a | none => .none⟩
/-- a tuple of any length, items of one kind -/
structure Tu (α : Type) where
  l : List α
instance {α : Type} [Dat α] : Dat (Tu α) := ⟨fun t => .tuple (t.l.map dat)⟩

/-! ### assertions -/
structure Asr where
  P : Hp → Hp → (Addr → Prop) → Prop
  st : ∀ {F F' H H' : Hp} {o : Addr → Prop}, Same F F' → (∀ p, o p → H' p = H p) → P F H o → P F' H' o
  up : ∀ {F H : Hp} {o o' : Addr → Prop}, (∀ p, o p → o' p) → P F H o → P F H o'
def emp : Asr := ⟨fun _ _ _ => True, fun _ _ h => h, fun _ h => h⟩
def bot : Asr := ⟨fun _ _ _ => False, fun _ _ h => h, fun _ h => h⟩
def pur (φ : Prop) : Asr := ⟨fun _ _ _ => φ, fun _ _ h => h, fun _ h => h⟩
def sep (A B : Asr) : Asr where
  P := fun F H o => ∃ o1 o2 : Addr → Prop, (∀ p, o1 p → o p) ∧ (∀ p, o2 p → o p) ∧ (∀ p, o1 p → ¬ o2 p) ∧ A.P F H o1 ∧ B.P F H o2
  st := fun s k ⟨o1, o2, h1, h2, d, a, b⟩ => ⟨o1, o2, h1, h2, d, A.st s (fun p q => k p (h1 p q)) a, B.st s (fun p q => k p (h2 p q)) b⟩
  up := fun u ⟨o1, o2, h1, h2, d, a, b⟩ => ⟨o1, o2, fun p q => u p (h1 p q), fun p q => u p (h2 p q), d, a, b⟩
/-- a value that stands for frozen data -/
def vA (d : PyData) (v : V) : Asr := ⟨fun F _ _ => Rp F v d, fun s _ h => h.mono s, fun _ h => h⟩
/-- an owned list, its address -/
def oA (p : Addr) (ds : List PyData) : Asr where
  P := fun F H o => o p ∧ ∃ vs, H p = some (.lst vs) ∧ RpAll F vs ds
  st := fun s k ⟨h, vs, e, r⟩ => ⟨h, vs, (k p h).trans e, r.mono s⟩
  up := fun u ⟨h, r⟩ => ⟨u p h, r⟩
def oV (ds : List PyData) (v : V) : Asr where
  P := fun F H o => ∃ p, v = .ref p ∧ (oA p ds).P F H o
  st := fun s k ⟨p, e, h⟩ => ⟨p, e, (oA p ds).st s k h⟩
  up := fun u ⟨p, e, h⟩ => ⟨p, e, (oA p ds).up u h⟩
def Ent (A B : Asr) : Prop := ∀ F H o, Same F H → A.P F H o → B.P F H o
def Top (A : Asr) (H : Hp) : Prop := ∃ F o, Same F H ∧ (∀ p, o p → F p = none ∧ H p ≠ none) ∧ A.P F H o

section
variable {A A' B B' C R : Asr} {H : Hp}
theorem Ent.refl (A : Asr) : Ent A A := fun _ _ _ _ h => h
theorem Ent.trans (h : Ent A B) (k : Ent B C) : Ent A C := fun F H o s a => k F H o s (h F H o s a)
theorem Ent.emp : Ent A emp := fun _ _ _ _ _ => trivial
theorem Ent.sep (h : Ent A A') (k : Ent B B') : Ent (sep A B) (sep A' B') := fun F H o s ⟨o1, o2, h1, h2, d, a, b⟩ => ⟨o1, o2, h1, h2, d, h F H o1 s a, k F H o2 s b⟩
theorem Ent.sepL (h : Ent A A') : Ent (Lc.sep A B) (Lc.sep A' B) := Ent.sep h (Ent.refl B)
theorem Ent.sepR (h : Ent B B') : Ent (Lc.sep A B) (Lc.sep A B') := Ent.sep (Ent.refl A) h
theorem Ent.comm : Ent (Lc.sep A B) (Lc.sep B A) := fun _ _ _ _ ⟨o1, o2, h1, h2, d, a, b⟩ => ⟨o2, o1, h2, h1, fun p q r => d p r q, b, a⟩
theorem Ent.left : Ent (Lc.sep A B) A := fun _ _ _ _ ⟨_, _, h1, _, _, a, _⟩ => A.up h1 a
theorem Ent.right : Ent (Lc.sep A B) B := fun _ _ _ _ ⟨_, _, _, h2, _, _, b⟩ => B.up h2 b
theorem Ent.assoc : Ent (Lc.sep (Lc.sep A B) C) (Lc.sep A (Lc.sep B C)) := fun _ _ _ _ ⟨o12, o3, h12, h3, d, ⟨o1, o2, h1, h2, e, a, b⟩, c⟩ =>
  ⟨o1, fun p => o2 p ∨ o3 p, fun p q => h12 p (h1 p q), fun p q => q.elim (fun q => h12 p (h2 p q)) (h3 p), fun p q r => r.elim (e p q) (d p (h1 p q)), a,
    o2, o3, fun _ q => .inl q, fun _ q => .inr q, fun p q => d p (h2 p q), b, c⟩
theorem Ent.assoc' : Ent (Lc.sep A (Lc.sep B C)) (Lc.sep (Lc.sep A B) C) := (Ent.comm.trans (Ent.sepL Ent.comm)).trans (Ent.assoc.trans (Ent.comm.trans (Ent.sepL Ent.comm)))
theorem Top.ent (t : Top A H) (h : Ent A B) : Top B H := by
  obtain ⟨F, o, s, k, a⟩ := t
  exact ⟨F, o, s, k, h F H o s a⟩
/-- a fact is read off -/
theorem Top.fact {φ : Prop} (t : Top A H) (h : ∀ F o, Same F H → A.P F H o → φ) : φ := by
  obtain ⟨F, o, s, _, a⟩ := t
  exact h F o s a
/-- a persistent fact is kept beside -/
theorem Top.addV {d : PyData} {v : V} (t : Top A H) (h : ∀ F o, Same F H → A.P F H o → Rp F v d) : Top (sep (vA d v) A) H := by
  obtain ⟨F, o, s, k, a⟩ := t
  exact ⟨F, o, s, k, fun _ => False, o, fun _ z => z.elim, fun _ z => z, fun _ z => z.elim, h F o s a, a⟩
theorem Top.addP {φ : Prop} (t : Top A H) (h : φ) : Top (sep (pur φ) A) H := by
  obtain ⟨F, o, s, k, a⟩ := t
  exact ⟨F, o, s, k, fun _ => False, o, fun _ z => z.elim, fun _ z => z, fun _ z => z.elim, h, a⟩
theorem sep_pers {F H : Hp} {o : Addr → Prop} (h : ∀ o, A.P F H o) (b : B.P F H o) : (sep A B).P F H o := ⟨fun _ => False, o, fun _ z => z.elim, fun _ z => z, fun _ z => z.elim, h _, b⟩
/-- a new owned list -/
theorem Top.alloc {p : Addr} {vs : List V} {ds : List PyData} (t : Top A H) (hp : H p = none) (r : ∀ F o, Same F H → A.P F H o → RpAll F vs ds) : Top (sep (oA p ds) A) (upd H p (.lst vs)) := by
  obtain ⟨F, o, s, k, a⟩ := t
  have ne : ∀ q, o q → q ≠ p := fun q hq e => (k q hq).2 (e ▸ hp)
  have fp : F p = none := by
    cases e : F p with
    | none => rfl
    | some u => rw [s p u e] at hp; cases hp
  refine ⟨F, fun q => q = p ∨ o q, fun b u e => ?_, fun q hq => ?_, (fun q => q = p), o, fun _ z => .inl z, fun _ z => .inr z, fun q e hq => ne q hq e, ⟨rfl, vs, upd_same, r F o s a⟩, A.st (Same.refl F) (fun q hq => upd_ne (ne q hq)) a⟩
  · rw [upd_ne (fun z => by rw [z, fp] at e; cases e)]
    exact s b u e
  · rcases hq with hq | hq
    · rw [hq]
      exact ⟨fp, by rw [upd_same]; exact fun z => by cases z⟩
    · exact ⟨(k q hq).1, by rw [upd_ne (ne q hq)]; exact (k q hq).2⟩
/-- a new tuple (or list), frozen at once -/
theorem Top.allocF {p : Addr} {ob : HO} {d : PyData} (t : Top A H) (hp : H p = none) (r : ∀ F o, Same F H → F p = none → A.P F H o → Rp (upd F p ob) (.ref p) d) : Top (sep (vA d (.ref p)) A) (upd H p ob) := by
  obtain ⟨F, o, s, k, a⟩ := t
  have ne : ∀ q, o q → q ≠ p := fun q hq e => (k q hq).2 (e ▸ hp)
  have fp : F p = none := by
    cases e : F p with
    | none => rfl
    | some u => rw [s p u e] at hp; cases hp
  have sF : Same F (upd F p ob) := fun b u e => by
    rw [upd_ne (fun z => by rw [z, fp] at e; cases e)]
    exact e
  refine ⟨upd F p ob, o, fun b u e => ?_, fun q hq => ?_, sep_pers (fun _ => r F o s fp a) (A.st sF (fun q hq => upd_ne (ne q hq)) a)⟩
  · by_cases hb : b = p
    · subst hb
      rw [upd_same] at e ⊢
      exact e
    · rw [upd_ne hb] at e ⊢
      exact s b u e
  · rw [upd_ne (ne q hq), upd_ne (ne q hq)]
    exact k q hq
theorem Top.allocT {p : Addr} {vs : List V} {ds : List PyData} (t : Top A H) (hp : H p = none) (r : ∀ F o, Same F H → A.P F H o → RpAll F vs ds) : Top (sep (vA (.tuple ds) (.ref p)) A) (upd H p (.tup vs)) :=
  t.allocF hp fun F o s fp a => .tup upd_same ((r F o s a).mono fun b u e => by
    rw [upd_ne (fun z => by rw [z, fp] at e; cases e)]
    exact e)
/-- an owned list is frozen -/
theorem Top.freeze {p : Addr} {ds : List PyData} (t : Top (sep (oA p ds) A) H) : Top (sep (vA (.list ds) (.ref p)) A) H := by
  obtain ⟨F, o, s, k, o1, o2, h1, h2, d, ⟨hp, vs, e, r⟩, a⟩ := t
  have fp : F p = none := (k p (h1 p hp)).1
  have sF : Same F (upd F p (.lst vs)) := fun b u e' => by
    rw [upd_ne (fun z => by rw [z, fp] at e'; cases e')]
    exact e'
  refine ⟨upd F p (.lst vs), o2, fun b u e' => ?_, fun q hq => ?_, sep_pers (fun _ => .lst upd_same (r.mono sF)) (A.st sF (fun _ _ => rfl) a)⟩
  · by_cases hb : b = p
    · subst hb
      rw [upd_same] at e'
      rw [← e']
      exact e
    · rw [upd_ne hb] at e'
      exact s b u e'
  · have ne : q ≠ p := fun z => d p hp (z ▸ hq)
    rw [upd_ne ne]
    exact k q (h2 q hq)
/-- an owned list is written -/
theorem Top.write {p : Addr} {ds es : List PyData} {ws : List V} (t : Top (sep (oA p ds) A) H) (r : ∀ F o vs, Same F H → A.P F H o → H p = some (.lst vs) → RpAll F vs ds → RpAll F ws es) : Top (sep (oA p es) A) (upd H p (.lst ws)) := by
  obtain ⟨F, o, s, k, o1, o2, h1, h2, d, ⟨hp, vs, e, rv⟩, a⟩ := t
  have fp : F p = none := (k p (h1 p hp)).1
  refine ⟨F, o, fun b u e' => ?_, fun q hq => ?_, o1, o2, h1, h2, d, ⟨hp, ws, upd_same, r F o2 vs s a e rv⟩, A.st (Same.refl F) (fun q hq => upd_ne fun z => d p hp (z ▸ hq)) a⟩
  · rw [upd_ne (fun z => by rw [z, fp] at e'; cases e')]
    exact s b u e'
  · by_cases hb : q = p
    · rw [hb]
      exact ⟨fp, by rw [upd_same]; exact fun z => by cases z⟩
    · rw [upd_ne hb]
      exact k q hq
end
end Lc
/-! Lc: slots, judgements, structural rules -/
namespace Lc
open PySem L2

/-! ### slots -/
abbrev Cell := Option V → Asr
def cAny : Cell := fun _ => emp
def cV (d : PyData) : Cell := fun o => match o with | some v => vA d v | none => bot
def cO (ds : List PyData) : Cell := fun o => match o with | some v => oV ds v | none => bot
def cAt (p : Addr) (ds : List PyData) : Cell := fun o => sep (pur (o = some (.ref p))) (oA p ds)
def cIs (v : V) : Cell := fun o => pur (o = some v)
def sl : St → List Cell → Asr
  | [], [] => emp
  | o :: σ, c :: Γ => sep (c o) (sl σ Γ)
  | _, _ => bot
section
variable {F H : Hp} {o : Addr → Prop}
theorem sl_len : ∀ {σ : St} {Γ : List Cell}, (∃ F H o, (sl σ Γ).P F H o) → σ.length = Γ.length
  | [], [], _ => rfl
  | _ :: σ, _ :: Γ, ⟨F, H, o, _, _, _, _, _, _, h⟩ => by rw [List.length_cons, List.length_cons, sl_len (σ := σ) (Γ := Γ) ⟨_, _, _, h⟩]
  | [], _ :: _, ⟨_, _, _, h⟩ => (show False from h).elim
  | _ :: _, [], ⟨_, _, _, h⟩ => (show False from h).elim
theorem sl_take : ∀ {σ : St} {Γ : List Cell} {i : Nat} {c : Cell} {o : Addr → Prop}, Γ[i]? = some c → (sl σ Γ).P F H o → ∃ x, σ[i]? = some x ∧ (sep (c x) (sl σ (Γ.set i cAny))).P F H o
  | [], [], i, c, o, e, _ => by simp at e
  | [], _ :: _, _, _, _, _, h => (show False from h).elim
  | _ :: _, [], _, _, _, _, h => (show False from h).elim
  | x :: σ, c0 :: Γ, 0, c, o, e, ⟨o1, o2, h1, h2, d, a, b⟩ => by
    have e' : c0 = c := by simpa using e
    subst e'
    exact ⟨x, rfl, o1, o2, h1, h2, d, a, ⟨fun _ => False, o2, fun _ z => z.elim, fun _ z => z, fun _ z => z.elim, trivial, b⟩⟩
  | x :: σ, c0 :: Γ, i + 1, c, o, e, ⟨o1, o2, h1, h2, d, a, b⟩ => by
    obtain ⟨y, ey, o3, o4, h3, h4, d', a', b'⟩ := sl_take (σ := σ) (Γ := Γ) (i := i) (c := c) (by simpa using e) b
    exact ⟨y, by simpa using ey, o3, fun p => o1 p ∨ o4 p, fun p q => h2 p (h3 p q), fun p q => q.elim (h1 p) fun z => h2 p (h4 p z), fun p q r => r.elim (fun z => d p z (h3 p q)) (d' p q), a',
      o1, o4, fun _ z => .inl z, fun _ z => .inr z, fun p q r => d p q (h4 p r), a, b'⟩
theorem sl_put : ∀ {σ : St} {Γ : List Cell} {i : Nat} {c : Cell} {x : Option V} {o : Addr → Prop}, i < Γ.length → σ[i]? = some x → (sep (c x) (sl σ (Γ.set i cAny))).P F H o → (sl σ (Γ.set i c)).P F H o
  | [], [], _, _, _, _, hi, _, _ => by simp at hi
  | [], _ :: _, 0, _, _, _, _, e, _ => by simp at e
  | [], _ :: _, _ + 1, _, _, _, _, e, _ => by simp at e
  | _ :: _, [], _, _, _, _, hi, _, _ => by simp at hi
  | y :: σ, c0 :: Γ, 0, c, x, o, _, e, ⟨o1, o2, h1, h2, d, a, ⟨o3, o4, h3, h4, d', a', b⟩⟩ => by
    have e' : y = x := by simpa using e
    subst e'
    exact ⟨o1, o4, h1, fun p q => h2 p (h4 p q), fun p q r => d p q (h4 p r), a, b⟩
  | y :: σ, c0 :: Γ, i + 1, c, x, o, hi, e, ⟨o1, o2, h1, h2, d, a, ⟨o3, o4, h3, h4, d', a', b⟩⟩ => by
    refine ⟨o3, fun p => o1 p ∨ o4 p, fun p q => h2 p (h3 p q), fun p q => q.elim (h1 p) fun z => h2 p (h4 p z), fun p q r => r.elim (fun z => d p z (h3 p q)) (d' p q), a', ?_⟩
    exact sl_put (σ := σ) (Γ := Γ) (i := i) (c := c) (x := x) (by simpa using hi) (by simpa using e) ⟨o1, o4, fun _ z => .inl z, fun _ z => .inr z, fun p q r => d p q (h4 p r), a, b⟩
theorem sl_set : ∀ {σ : St} {Γ : List Cell} {i : Nat} {c : Cell} {x : Option V} {o : Addr → Prop}, i < Γ.length → (sep (c x) (sl σ Γ)).P F H o → (sl (σ.set i x) (Γ.set i c)).P F H o
  | [], [], _, _, _, _, hi, _ => by simp at hi
  | [], _ :: _, _, _, _, _, _, ⟨_, _, _, _, _, _, h⟩ => (show False from h).elim
  | _ :: _, [], _, _, _, _, hi, _ => by simp at hi
  | y :: σ, c0 :: Γ, 0, c, x, o, _, ⟨o1, o2, h1, h2, d, a, ⟨o3, o4, h3, h4, d', a', b⟩⟩ => ⟨o1, o4, h1, fun p q => h2 p (h4 p q), fun p q r => d p q (h4 p r), a, b⟩
  | y :: σ, c0 :: Γ, i + 1, c, x, o, hi, ⟨o1, o2, h1, h2, d, a, ⟨o3, o4, h3, h4, d', a', b⟩⟩ => by
    refine ⟨o3, fun p => o1 p ∨ o4 p, fun p q => h2 p (h3 p q), fun p q => q.elim (h1 p) fun z => h2 p (h4 p z), fun p q r => r.elim (fun z => d p z (h3 p q)) (d' p q), a', ?_⟩
    exact sl_set (σ := σ) (Γ := Γ) (i := i) (c := c) (x := x) (by simpa using hi) ⟨o1, o4, fun _ z => .inl z, fun _ z => .inr z, fun p q r => d p q (h4 p r), a, b⟩
/-- the cell of slot i, read -/
theorem sl_get {σ : St} {Γ : List Cell} {i : Nat} {c : Cell} (e : Γ[i]? = some c) (h : (sl σ Γ).P F H o) : ∃ x, σ[i]? = some x ∧ (c x).P F H o := by
  obtain ⟨x, ex, o1, o2, h1, _, _, a, _⟩ := sl_take e h
  exact ⟨x, ex, (c x).up h1 a⟩
/-- weaker cells -/
inductive Le : List Cell → List Cell → Prop
  | nil : Le [] []
  | same {c : Cell} {Γ Δ : List Cell} : Le Γ Δ → Le (c :: Γ) (c :: Δ)
  | any {c : Cell} {Γ Δ : List Cell} : Le Γ Δ → Le (c :: Γ) (cAny :: Δ)
  | of {c c' : Cell} {Γ Δ : List Cell} : (∀ x, Ent (c x) (c' x)) → Le Γ Δ → Le (c :: Γ) (c' :: Δ)
theorem Le.refl : ∀ Γ : List Cell, Le Γ Γ
  | [] => .nil
  | _ :: Γ => .same (Le.refl Γ)
theorem Le.ent : ∀ {Γ Δ : List Cell} {σ : St}, Le Γ Δ → Ent (sl σ Γ) (sl σ Δ)
  | _, _, [], .nil => Ent.refl _
  | _, _, _ :: _, .nil => Ent.refl _
  | _, _, [], .same _ => fun _ _ _ _ h => (show False from h).elim
  | _, _, _ :: σ, .same l => Ent.sepR (Le.ent (σ := σ) l)
  | _, _, [], .any _ => fun _ _ _ _ h => (show False from h).elim
  | _, _, _ :: σ, .any l => Ent.sep Ent.emp (Le.ent (σ := σ) l)
  | _, _, [], .of _ _ => fun _ _ _ _ h => (show False from h).elim
  | _, _, _ :: σ, .of k l => Ent.sep (k _) (Le.ent (σ := σ) l)
theorem at_own (p : Addr) (ds : List PyData) (x : Option V) : Ent (cAt p ds x) (cO ds x) := fun F H o s ⟨o1, o2, h1, h2, d, a, b⟩ => by
  have a' : x = some (.ref p) := a
  subst a'
  exact ⟨p, rfl, (oA p ds).up h2 b⟩
end

/-! ### judgements -/
structure Ec where
  K : PySem.W.Frag
  W : WX
  ec : Nat → Value
  X : St → Asr
  C : Asr
abbrev RC := St → V → Asr
def rV (d : PyData) : RC := fun _ v => vA d v
def rO (ds : List PyData) : RC := fun _ v => oV ds v
def rS (i : Nat) : RC := fun σ v => pur (σ[i]? = some (some v))
def base (E : Ec) (σ : St) (Γ : List Cell) : Asr := sep (sl σ Γ) E.C
def Exn (E : Ec) (R : Asr) (σ : St) (k : Nat) : Prop := ∀ H, Top (sep (sep (E.X σ) E.C) R) H → E.W (E.ec k) none σ H
def ExnS (E : Ec) (R : Asr) (k : Nat) : Prop := ∀ σ, Exn E R σ k
section
variable {E : Ec} {R R' : Asr} {σ : St} {k : Nat}
theorem Exn.imp (h : Exn E R σ k) (r : Ent R' R) : Exn E R' σ k := fun H t => h H (t.ent (Ent.sepR r))
theorem Exn.drop {A : Asr} (h : Exn E R σ k) : Exn E (sep A R) σ k := h.imp Ent.right
end
section
variable (E : Ec)
def EvJ (t : TE) (Γ : List Cell) {α : Type} (m : Res α) (Γ' : α → List Cell) (c : α → RC) : Prop :=
  ∀ (σ : St) (H : Hp) (R : Asr) (Q : VK), Top (sep (base E σ Γ) R) H → m.wp (fun a => ∀ v H', Top (sep (base E σ (Γ' a)) (sep (c a σ v) R)) H' → Q v H') (Exn E R σ) → t σ H Q
/-- an expression that changes nothing, and cannot fail -/
abbrev EvP (t : TE) (Γ : List Cell) (c : RC) : Prop := EvJ E t Γ (.ok ()) (fun _ => Γ) (fun _ => c)
def EvT (t : TT) (Γ : List Cell) {α : Type} (m : Res α) (Γ' : α → List Cell) (b : α → Bool) : Prop :=
  ∀ (σ : St) (H : Hp) (R : Asr) (Q : Bool → Hp → Prop), Top (sep (base E σ Γ) R) H → m.wp (fun a => ∀ H', Top (sep (base E σ (Γ' a)) R) H' → Q (b a) H') (Exn E R σ) → t σ H Q
abbrev EvTP (t : TT) (Γ : List Cell) (b : Bool) : Prop := EvT E t Γ (.ok ()) (fun _ => Γ) (fun _ => b)
/-- the cells of several values -/
def csA : List RC → St → List V → Asr
  | [], _, [] => emp
  | c :: cs, σ, v :: vs => sep (c σ v) (csA cs σ vs)
  | _, _, _ => bot
def EvA (t : TA) (Γ : List Cell) {α : Type} (m : Res α) (Γ' : α → List Cell) (cs : α → List RC) : Prop :=
  ∀ (σ : St) (H : Hp) (R : Asr) (Q : List V → Hp → Prop), Top (sep (base E σ Γ) R) H → m.wp (fun a => ∀ vs H', Top (sep (base E σ (Γ' a)) (sep (csA (cs a) σ vs) R)) H' → Q vs H') (Exn E R σ) → t σ H Q
abbrev EvAP (t : TA) (Γ : List Cell) (cs : List RC) : Prop := EvA E t Γ (.ok ()) (fun _ => Γ) (fun _ => cs)
def R2J (r : R2) (cx cy : RC) (Γ : List Cell) {α : Type} (m : Res α) (Γ' : α → List Cell) (c : α → RC) : Prop :=
  ∀ (σ : St) (H : Hp) (R : Asr) (Q : VK) (x y : V), Top (sep (base E σ Γ) (sep (cx σ x) (sep (cy σ y) R))) H → m.wp (fun a => ∀ v H', Top (sep (base E σ (Γ' a)) (sep (c a σ v) R)) H' → Q v H') (Exn E R σ) → r x y H Q
abbrev R2P (r : R2) (cx cy : RC) (Γ : List Cell) (c : RC) : Prop := R2J E r cx cy Γ (.ok ()) (fun _ => Γ) (fun _ => c)
def R1J (r : V → Hp → VK → Prop) (cx : RC) (Γ : List Cell) {α : Type} (m : Res α) (Γ' : α → List Cell) (c : α → RC) : Prop :=
  ∀ (σ : St) (H : Hp) (R : Asr) (Q : VK) (x : V), Top (sep (base E σ Γ) (sep (cx σ x) R)) H → m.wp (fun a => ∀ v H', Top (sep (base E σ (Γ' a)) (sep (c a σ v) R)) H' → Q v H') (Exn E R σ) → r x H Q
abbrev R1P (r : V → Hp → VK → Prop) (cx : RC) (Γ : List Cell) (c : RC) : Prop := R1J E r cx Γ (.ok ()) (fun _ => Γ) (fun _ => c)
/-- an operation on several values -/
def RnJ (r : List V → Hp → VK → Prop) (cs : List RC) (Γ : List Cell) {α : Type} (m : Res α) (Γ' : α → List Cell) (c : α → RC) : Prop :=
  ∀ (σ : St) (H : Hp) (R : Asr) (Q : VK) (vs : List V), Top (sep (base E σ Γ) (sep (csA cs σ vs) R)) H → m.wp (fun a => ∀ v H', Top (sep (base E σ (Γ' a)) (sep (c a σ v) R)) H' → Q v H') (Exn E R σ) → r vs H Q
abbrev RnP (r : List V → Hp → VK → Prop) (cs : List RC) (Γ : List Cell) (c : RC) : Prop := RnJ E r cs Γ (.ok ()) (fun _ => Γ) (fun _ => c)
end

/-! ### structural rules -/
section
variable {E : Ec} {ta tb te : TE} {tt tu : TT} {tr : TA} {Γ : List Cell} {α β γ δ : Type} {ma : Res α} {mb : α → Res β} {Γ1 : α → List Cell} {Γ2 : α → β → List Cell} {ca : α → RC} {cb : α → β → RC}
  {m : Res γ} {k : α → β → Res γ} {Γ' : γ → List Cell} {c : γ → RC} {r : R2} {cx cy : RC}
open Res
/-- a pure expression as a computing one -/
theorem ev_pure {a : α} {cc : α → RC} (h : EvP E te Γ (cc a)) : EvJ E te Γ (.ok a) (fun _ => Γ) cc := fun σ H R Q t q => h σ H R Q t q
theorem ev_c {v : V} {d : PyData} (h : ∀ F, Rp F v d) : EvP E (tC v) Γ (rV d) := fun σ H R Q t q => by
  refine q v H (t.addV (v := v) (fun F _ _ _ => h F) |>.ent (fun F H o s ⟨o1, o2, h1, h2, e, a, b⟩ => ?_))
  obtain ⟨o3, o4, h3, h4, e', b1, b2⟩ := b
  exact ⟨o3, o4, fun p z => h2 p (h3 p z), fun p z => h2 p (h4 p z), e', b1, sep_pers (fun _ => a) b2⟩
theorem ev_int {i : Int} : EvP E (tC (.int i)) Γ (rV (.int i)) := ev_c fun _ => .int i
theorem ev_bl {b : Bool} : EvP E (tC (.bl b)) Γ (rV (.bool b)) := ev_c fun _ => .bl b
theorem ev_non : EvP E (tC .non) Γ (rV .none) := ev_c fun _ => .non
theorem ev_str {x : Str} : EvP E (tC (.str x)) Γ (rV (.str x)) := ev_c fun _ => .str x
/-- the name of a frozen value -/
theorem ev_var {i : Nat} {d : PyData} (h : Γ[i]? = some (cV d)) : EvP E (tVar i) Γ (rV d) := fun σ H R Q t q => by
  obtain ⟨F, o, s, kk, o1, o2, h1, h2, e, ⟨o3, o4, h3, h4, e', a, b⟩, b2⟩ := t
  obtain ⟨x, ex, hx⟩ := sl_get h a
  cases x with
  | none => exact (show False from hx).elim
  | some v =>
    refine ⟨v, ex, q v H ⟨F, o, s, kk, o1, o2, h1, h2, e, ⟨o3, o4, h3, h4, e', a, b⟩, sep_pers (fun _ => hx) b2⟩⟩
/-- the name of a slot: it is that slot's value -/
theorem ev_slot {i : Nat} {cl : Cell} (h : Γ[i]? = some cl) (hc : ∀ F H o, ¬ (cl none).P F H o) : EvP E (tVar i) Γ (rS i) := fun σ H R Q t q => by
  obtain ⟨F, o, s, kk, o1, o2, h1, h2, e, ⟨o3, o4, h3, h4, e', a, b⟩, b2⟩ := t
  obtain ⟨x, ex, hx⟩ := sl_get h a
  cases x with
  | none => exact (hc _ _ _ hx).elim
  | some v => exact ⟨v, ex, q v H ⟨F, o, s, kk, o1, o2, h1, h2, e, ⟨o3, o4, h3, h4, e', a, b⟩, sep_pers (fun _ => ex) b2⟩⟩
theorem no_O {ds : List PyData} : ∀ F H o, ¬ (cO ds none).P F H o := fun _ _ _ h => h
theorem no_At {p : Addr} {ds : List PyData} : ∀ F H o, ¬ (cAt p ds none).P F H o := fun _ _ _ ⟨_, _, _, _, _, a, _⟩ => by cases (show (none : Option V) = some (.ref p) from a)
theorem no_Is {v : V} : ∀ F H o, ¬ (cIs v none).P F H o := fun _ _ _ h => by cases (show (none : Option V) = some v from h)
theorem no_V {d : PyData} : ∀ F H o, ¬ (cV d none).P F H o := fun _ _ _ h => h

/-- base ∗ (c ∗ R) with something more kept beside -/
theorem top_rot {A B C' R : Asr} {H : Hp} (t : Top (sep A (sep B (sep C' R))) H) : Top (sep A (sep C' (sep B R))) H :=
  t.ent (Ent.sepR ((Ent.assoc'.trans (Ent.sepL Ent.comm)).trans Ent.assoc))
theorem ev_op (ha : EvJ E ta Γ ma Γ1 ca) (hb : ∀ a, EvJ E tb (Γ1 a) (mb a) (Γ2 a) (cb a)) (hr : ∀ a b, R2J E r (ca a) (cb a b) (Γ2 a b) (k a b) Γ' c) :
    EvJ E (tOp r ta tb) Γ (ma.bind fun a => (mb a).bind fun b => k a b) Γ' c := fun σ H R Q t hm =>
  ha σ H R _ t (wp_mono (wp_bind.mp hm) (fun a _ h v H1 t1 => hb a σ H1 (sep (ca a σ v) R) _ t1 (wp_mono (wp_bind.mp h) (fun b _ h2 w H2 t2 =>
    hr a b σ H2 R Q v w (top_rot t2) h2) fun _ x => x.drop)) fun _ x => x)
theorem evp_op (ha : EvP E ta Γ cx) (hb : EvP E tb Γ cy) (hr : R2J E r cx cy Γ m Γ' c) : EvJ E (tOp r ta tb) Γ m Γ' c := fun σ H R Q t hm =>
  ha σ H R _ t fun v H1 t1 => hb σ H1 (sep (cx σ v) R) _ t1 fun w H2 t2 => hr σ H2 R Q v w (top_rot t2) hm
theorem evp_un {r : V → Hp → VK → Prop} (ha : EvP E ta Γ cx) (hr : R1J E r cx Γ m Γ' c) : EvJ E (tUn r ta) Γ m Γ' c := fun σ H R Q t hm =>
  ha σ H R _ t fun v H1 t1 => hr σ H1 R Q v t1 hm
theorem ev_un {r : V → Hp → VK → Prop} {k : α → Res γ} (ha : EvJ E ta Γ ma Γ1 ca) (hr : ∀ a, R1J E r (ca a) (Γ1 a) (k a) Γ' c) : EvJ E (tUn r ta) Γ (ma.bind k) Γ' c := fun σ H R Q t hm =>
  ha σ H R _ t (wp_mono (wp_bind.mp hm) (fun a _ h v H1 t1 => hr a σ H1 R Q v t1 h) fun _ x => x)
/-- the result is told otherwise -/
theorem EvJ.imp {c' : γ → RC} (h : EvJ E te Γ m Γ' c) (i : ∀ a σ v A H, Top (sep (c a σ v) A) H → Top (sep (c' a σ v) A) H) : EvJ E te Γ m Γ' c' := fun σ H R Q t hm =>
  h σ H R Q t (wp_mono hm (fun a _ q v H' t' => q v H' (by
    have t1 : Top (sep (c a σ v) (sep (base E σ (Γ' a)) R)) H' := t'.ent ((Ent.assoc'.trans (Ent.sepL Ent.comm)).trans Ent.assoc)
    exact (i a σ v _ H' t1).ent ((Ent.assoc'.trans (Ent.sepL Ent.comm)).trans Ent.assoc))) fun _ x => x)
theorem oV_freeze {ds : List PyData} {v : V} {A : Asr} {H : Hp} (t : Top (sep (oV ds v) A) H) : Top (sep (vA (.list ds) v) A) H := by
  obtain ⟨F, o, s, kk, o1, o2, h1, h2, e, ⟨p, rfl, a⟩, b⟩ := t
  exact Top.freeze ⟨F, o, s, kk, o1, o2, h1, h2, e, a, b⟩
theorem EvJ.freeze {ds : γ → List PyData} (h : EvJ E te Γ m Γ' fun a => rO (ds a)) : EvJ E te Γ m Γ' fun a => rV (.list (ds a)) := h.imp fun _ _ _ _ _ t => oV_freeze t
theorem EvJ.wk {Δ : γ → List Cell} (h : EvJ E te Γ m Γ' c) (l : ∀ a, Le (Γ' a) (Δ a)) : EvJ E te Γ m Δ c := fun σ H R Q t hm =>
  h σ H R Q t (wp_mono hm (fun a _ q v H' t' => q v H' (t'.ent (Ent.sepL (Ent.sepL (l a).ent)))) fun _ x => x)
/-- the mirror is told otherwise -/
theorem EvJ.eq {m' : Res γ} (h : EvJ E te Γ m Γ' c) (e : m = m') : EvJ E te Γ m' Γ' c := e ▸ h

/-! tests -/
theorem et_val {b : γ → Bool} (h : EvJ E te Γ m Γ' fun a => rV (.bool (b a))) : EvT E (tB te) Γ m Γ' b := fun σ H R Q t hm =>
  h σ H R _ t (wp_mono hm (fun a _ q v H' t' => by
    have e : v = .bl (b a) := t'.fact fun F o s ⟨_, _, _, _, _, _, ⟨_, _, _, _, _, x, _⟩⟩ => by cases (show Rp F v (.bool (b a)) from x); rfl
    exact ⟨b a, e, q H' (t'.ent (Ent.sepR Ent.right))⟩) fun _ x => x)
theorem et_test {b : γ → Bool} (h : EvJ E te Γ m Γ' fun a => rV (.bool (b a))) : EvT E (tTest te) Γ m Γ' b := et_val h
theorem et_pure {a : α} {b : α → Bool} (h : EvTP E tt Γ (b a)) : EvT E tt Γ (.ok a) (fun _ => Γ) b := fun σ H R Q t q => h σ H R Q t q
theorem etp_not {b : Bool} (h : EvTP E tt Γ b) : EvTP E (tNot tt) Γ (!b) := fun σ H R Q t q => h σ H R _ t q
theorem et_not {b : γ → Bool} (h : EvT E tt Γ m Γ' b) : EvT E (tNot tt) Γ m Γ' fun a => !b a := fun σ H R Q t q => h σ H R _ t q
theorem etp_and {a b : Bool} (h : EvTP E tt Γ a) (h2 : EvTP E tu Γ b) : EvTP E (tAnd tt tu) Γ (a && b) := fun σ H R Q t q => h σ H R _ t fun H1 t1 => by
  cases a with
  | true => exact h2 σ H1 R Q t1 q
  | false => exact q H1 t1
theorem etp_or {a b : Bool} (h : EvTP E tt Γ a) (h2 : EvTP E tu Γ b) : EvTP E (tOr tt tu) Γ (a || b) := fun σ H R Q t q => h σ H R _ t fun H1 t1 => by
  cases a with
  | true => exact q H1 t1
  | false => exact h2 σ H1 R Q t1 q
/-- the second one may fail: it is looked at only where the first leaves it open; no state changes -/
theorem et_and {ma mb : Res Bool} (h : EvT E tt Γ ma (fun _ => Γ) id) (h2 : EvT E tu Γ mb (fun _ => Γ) id) : EvT E (tAnd tt tu) Γ (ma.bind fun a => if a then mb else .ok false) (fun _ => Γ) id := fun σ H R Q t q =>
  h σ H R _ t (wp_mono (wp_bind.mp q) (fun a _ q1 H1 t1 => by
    cases a with
    | true => exact h2 σ H1 R Q t1 q1
    | false => exact q1 H1 t1) fun _ x => x)
theorem et_or {ma mb : Res Bool} (h : EvT E tt Γ ma (fun _ => Γ) id) (h2 : EvT E tu Γ mb (fun _ => Γ) id) : EvT E (tOr tt tu) Γ (ma.bind fun a => if a then .ok true else mb) (fun _ => Γ) id := fun σ H R Q t q =>
  h σ H R _ t (wp_mono (wp_bind.mp q) (fun a _ q1 H1 t1 => by
    cases a with
    | true => exact q1 H1 t1
    | false => exact h2 σ H1 R Q t1 q1) fun _ x => x)
/-! .. as values -/
theorem bl_of {b : Bool} {A R : Asr} {v : V} {H : Hp} (t : Top (sep A (sep (vA (.bool b) v) R)) H) : v = .bl b :=
  t.fact fun F o s ⟨_, _, _, _, _, _, ⟨_, _, _, _, _, x, _⟩⟩ => by cases (show Rp F v (.bool b) from x); rfl
theorem evp_and {a b : Bool} (h : EvP E ta Γ (rV (.bool a))) (h2 : EvP E tb Γ (rV (.bool b))) : EvP E (tAndV ta tb) Γ (rV (.bool (a && b))) := fun σ H R Q t q => h σ H R _ t fun v H1 t1 => ⟨a, bl_of t1, by
  cases a with
  | true => exact h2 σ H1 R Q (t1.ent (Ent.sepR Ent.right)) q
  | false => exact q (.bl false) H1 (bl_of t1 ▸ t1)⟩
theorem evp_or {a b : Bool} (h : EvP E ta Γ (rV (.bool a))) (h2 : EvP E tb Γ (rV (.bool b))) : EvP E (tOrV ta tb) Γ (rV (.bool (a || b))) := fun σ H R Q t q => h σ H R _ t fun v H1 t1 => ⟨a, bl_of t1, by
  cases a with
  | true => exact q (.bl true) H1 (bl_of t1 ▸ t1)
  | false => exact h2 σ H1 R Q (t1.ent (Ent.sepR Ent.right)) q⟩
theorem ev_and {ma mb : Res Bool} (h : EvJ E ta Γ ma (fun _ => Γ) fun a => rV (.bool a)) (h2 : EvJ E tb Γ mb (fun _ => Γ) fun a => rV (.bool a)) :
    EvJ E (tAndV ta tb) Γ (ma.bind fun a => if a then mb else .ok false) (fun _ => Γ) fun a => rV (.bool a) := fun σ H R Q t q =>
  h σ H R _ t (wp_mono (wp_bind.mp q) (fun a _ q1 v H1 t1 => ⟨a, bl_of t1, by
    cases a with
    | true => exact h2 σ H1 R Q (t1.ent (Ent.sepR Ent.right)) q1
    | false => exact q1 (.bl false) H1 (bl_of t1 ▸ t1)⟩) fun _ x => x)
theorem ev_or {ma mb : Res Bool} (h : EvJ E ta Γ ma (fun _ => Γ) fun a => rV (.bool a)) (h2 : EvJ E tb Γ mb (fun _ => Γ) fun a => rV (.bool a)) :
    EvJ E (tOrV ta tb) Γ (ma.bind fun a => if a then .ok true else mb) (fun _ => Γ) fun a => rV (.bool a) := fun σ H R Q t q =>
  h σ H R _ t (wp_mono (wp_bind.mp q) (fun a _ q1 v H1 t1 => ⟨a, bl_of t1, by
    cases a with
    | true => exact q1 (.bl true) H1 (bl_of t1 ▸ t1)
    | false => exact h2 σ H1 R Q (t1.ent (Ent.sepR Ent.right)) q1⟩) fun _ x => x)
theorem evp_not {a : Bool} (h : EvP E ta Γ (rV (.bool a))) : EvP E (tNotV ta) Γ (rV (.bool (!a))) := fun σ H R Q t q => h σ H R _ t fun v H1 t1 => ⟨a, bl_of t1, by
  have t2 := t1.ent (Ent.sepR (B' := R) Ent.right)
  have t3 := t2.addV (v := .bl (!a)) (d := .bool (!a)) fun F _ _ _ => .bl _
  exact q _ H1 (t3.ent ((Ent.assoc'.trans (Ent.sepL Ent.comm)).trans Ent.assoc))⟩
theorem ev_not {b : γ → Bool} (h : EvJ E ta Γ m Γ' fun a => rV (.bool (b a))) : EvJ E (tNotV ta) Γ m Γ' fun a => rV (.bool (!b a)) := fun σ H R Q t hm => h σ H R _ t (wp_mono hm (fun a _ q v H1 t1 => ⟨b a, bl_of t1, by
  have t2 := t1.ent (Ent.sepR (B' := R) Ent.right)
  have t3 := t2.addV (v := .bl (!b a)) (d := .bool (!b a)) fun F _ _ _ => .bl _
  exact q _ H1 (t3.ent ((Ent.assoc'.trans (Ent.sepL Ent.comm)).trans Ent.assoc))⟩) fun _ x => x)
/-- a if t else b -/
theorem evp_if {b : Bool} {mA mB : Res γ} (h : EvTP E tt Γ b) (h1 : EvJ E ta Γ mA Γ' c) (h2 : EvJ E tb Γ mB Γ' c) : EvJ E (tIf tt ta tb) Γ (if b then mA else mB) Γ' c := fun σ H R Q t q => h σ H R _ t fun H1 t1 => by
  cases b with
  | true => exact h1 σ H1 R Q t1 q
  | false => exact h2 σ H1 R Q t1 q
theorem evpp_if {b : Bool} {T : Type} {x y : T} {cc : T → RC} (h : EvTP E tt Γ b) (h1 : EvP E ta Γ (cc x)) (h2 : EvP E tb Γ (cc y)) : EvP E (tIf tt ta tb) Γ (cc (if b then x else y)) := fun σ H R Q t q => h σ H R _ t fun H1 t1 => by
  cases b with
  | true => exact h1 σ H1 R Q t1 q
  | false => exact h2 σ H1 R Q t1 q
theorem ev_if {bt : α → Bool} {mA mB : α → Res γ} (h : EvT E tt Γ ma Γ1 bt) (h1 : ∀ a, bt a = true → EvJ E ta (Γ1 a) (mA a) Γ' c) (h2 : ∀ a, bt a = false → EvJ E tb (Γ1 a) (mB a) Γ' c) :
    EvJ E (tIf tt ta tb) Γ (ma.bind fun a => if bt a then mA a else mB a) Γ' c := fun σ H R Q t q => h σ H R _ t (wp_mono (wp_bind.mp q) (fun a _ q1 H1 t1 => by
  cases e : bt a with
  | true =>
    rw [if_pos e] at q1
    exact h1 a e σ H1 R Q t1 q1
  | false =>
    rw [if_neg (by rw [e]; decide)] at q1
    exact h2 a e σ H1 R Q t1 q1) fun _ x => x)

/-! arguments -/
theorem eap_nil : EvAP E tNil Γ [] := fun σ H R Q t q => q [] H (t.ent (Ent.sepR fun F H o s h => sep_pers (fun _ => trivial) h))
theorem eap_cons {cs : List RC} (h : EvP E te Γ cx) (h2 : EvAP E tr Γ cs) : EvAP E (tCons te tr) Γ (cx :: cs) := fun σ H R Q t q =>
  h σ H R _ t fun v H1 t1 => h2 σ H1 (sep (cx σ v) R) _ t1 fun vs H2 t2 => q (v :: vs) H2 ((top_rot t2).ent (Ent.sepR Ent.assoc'))
theorem ea_pure {a : α} {cs : α → List RC} (h : EvAP E tr Γ (cs a)) : EvA E tr Γ (.ok a) (fun _ => Γ) cs := fun σ H R Q t q => h σ H R Q t q
theorem ea_nil : EvA E tNil Γ (.ok ()) (fun _ => Γ) fun _ => [] := eap_nil
theorem ea_cons {mr : α → Res β} {cs : α → β → List RC} (h : EvJ E te Γ ma Γ1 ca) (h2 : ∀ a, EvA E tr (Γ1 a) (mr a) (Γ2 a) (cs a)) :
    EvA E (tCons te tr) Γ (ma.bind fun a => (mr a).bind fun b => .ok (a, b)) (fun p => Γ2 p.1 p.2) (fun p => ca p.1 :: cs p.1 p.2) := fun σ H R Q t q =>
  h σ H R _ t (wp_mono (wp_bind.mp q) (fun a _ q1 v H1 t1 => h2 a σ H1 (sep (ca a σ v) R) _ t1 (wp_mono (wp_bind.mp q1) (fun b _ q2 vs H2 t2 => q2 (v :: vs) H2 ((top_rot t2).ent (Ent.sepR Ent.assoc'))) fun _ x => x.drop)) fun _ x => x)
theorem evp_cb {rn : List V → Hp → VK → Prop} {cs : List RC} (h : EvAP E tr Γ cs) (hr : RnJ E rn cs Γ m Γ' c) : EvJ E (tCB rn tr) Γ m Γ' c := fun σ H R Q t q =>
  h σ H R _ t fun vs H1 t1 => hr σ H1 R Q vs t1 q
theorem ev_cb {rn : List V → Hp → VK → Prop} {cs : α → List RC} {k : α → Res γ} (h : EvA E tr Γ ma Γ1 cs) (hr : ∀ a, RnJ E rn (cs a) (Γ1 a) (k a) Γ' c) : EvJ E (tCB rn tr) Γ (ma.bind k) Γ' c := fun σ H R Q t q =>
  h σ H R _ t (wp_mono (wp_bind.mp q) (fun a _ q1 vs H1 t1 => hr a σ H1 R Q vs t1 q1) fun _ x => x)
def vAs (ds : List PyData) (vs : List V) : Asr := ⟨fun F _ _ => RpAll F vs ds, fun s _ h => h.mono s, fun _ h => h⟩
/-- cells that can be frozen as data -/
def Fz (c : RC) (d : PyData) : Prop := ∀ σ v A H, Top (sep (c σ v) A) H → Top (sep (vA d v) A) H
theorem fz_v {d : PyData} : Fz (rV d) d := fun _ _ _ _ t => t
theorem fz_o {ds : List PyData} : Fz (rO ds) (.list ds) := fun _ _ _ _ t => oV_freeze t
inductive FzAll : List RC → List PyData → Prop
  | nil : FzAll [] []
  | cons {c : RC} {cs : List RC} {d : PyData} {ds : List PyData} : Fz c d → FzAll cs ds → FzAll (c :: cs) (d :: ds)
theorem FzAll.top {σ : St} : ∀ {cs : List RC} {ds : List PyData} {vs : List V} {A : Asr} {H : Hp}, FzAll cs ds → Top (sep (csA cs σ vs) A) H → Top (sep (vAs ds vs) A) H
  | _, _, [], A, H, .nil, t => t.ent (Ent.sepL fun _ _ _ _ _ => .nil)
  | _, _, _ :: _, A, H, .nil, t => (t.fact (φ := False) fun _ _ _ ⟨_, _, _, _, _, a, _⟩ => a).elim
  | _, _, [], A, H, .cons _ _, t => (t.fact (φ := False) fun _ _ _ ⟨_, _, _, _, _, a, _⟩ => a).elim
  | _, _, v :: vs, A, H, .cons (d := d) (ds := ds) h hr, t => by
    have t1 := h σ v _ H (t.ent Ent.assoc)
    have t2 := t1.ent ((Ent.assoc'.trans (Ent.sepL Ent.comm)).trans Ent.assoc)
    refine (FzAll.top hr t2).ent fun F H o s ⟨o1, o2, h1, h2, dd, b, ⟨o3, o4, h3, h4, d', x, a⟩⟩ => ?_
    exact A.up (o := o4) (fun p z => h2 p (h4 p z)) a |> fun a => sep_pers (fun _ => RpAll.cons x b) a
end
end Lc
/-! Lc: calls, statements, loops, comprehensions -/
namespace Lc
open PySem L2

/-! ### what a def promises -/
abbrev PP := V → Hp → Hp → Prop
def ppV (d : PyData) : PP := fun v F _ => Rp F v d
/-- a list that is only read: frozen, or owned by the caller -/
def ppL (ds : List PyData) : PP := fun v F H => ∃ p vs, v = .ref p ∧ H p = some (.lst vs) ∧ RpAll F vs ds
/-- .. that may be locked or written (the script) -/
def ppS (K : PySem.W.Frag) (ds : List PyData) : PP := fun v F H => ∃ p vs, v = .ref p ∧ SqL K H p vs ∧ RpAll F vs ds
def ppAt (p : Addr) : PP := fun v _ _ => v = .ref p
def parOk : List PP → List V → Hp → Hp → Prop
  | [], [], _, _ => True
  | p :: ps, v :: vs, F, H => p v F H ∧ parOk ps vs F H
  | _, _, _, _ => False
theorem parOk_len : ∀ {ps : List PP} {vs : List V} {F H : Hp}, parOk ps vs F H → vs.length = ps.length
  | [], [], _, _, _ => rfl
  | _ :: _, _ :: _, _, _, h => by rw [List.length_cons, List.length_cons, parOk_len h.2]
  | [], _ :: _, _, _, h => (show False from h).elim
  | _ :: _, [], _, _, h => (show False from h).elim
/-- no list is changed -/
def Sp0 (ec : Nat → Value) {α β : Type} (ps : α → List PP) (m : α → Res β) (c : β → V → Asr) : Sp := fun vs H Q E => ∃ (x : α) (C : Asr), Top C H ∧ (∀ F H o, Same F H → C.P F H o → parOk (ps x) vs F H) ∧
  (m x).wp (fun b => ∀ v H', Top (sep C (c b v)) H' → Q v H') fun k => ∀ H', Top C H' → E (ec k) none H'
/-- one list is changed in place; on an error it is as it was -/
def Sp1 (ec : Nat → Value) {α β : Type} (ps : Addr → α → List PP) (i0 : α → List PyData) (m : α → Res β) (i1 : β → List PyData) (c : β → V → Asr) : Sp := fun vs H Q E => ∃ (p : Addr) (x : α) (C : Asr), Top (sep C (oA p (i0 x))) H ∧
  (∀ F H o, Same F H → C.P F H o → parOk (ps p x) vs F H) ∧
  (m x).wp (fun b => ∀ v H', Top (sep C (sep (oA p (i1 b)) (c b v))) H' → Q v H') fun k => ∀ H', Top (sep C (oA p (i0 x))) H' → E (ec k) none H'

section
variable {E : Ec} {te : TE} {tr : TA} {Γ : List Cell} {α β γ δ : Type} {c : γ → RC}
open Res
/-- what the cells of the arguments tell -/
def Pars (E : Ec) (Γ : List Cell) (Kn : St → Prop) (cs : List RC) (ps : List PP) : Prop := ∀ σ vs F H o, Kn σ → Same F H → (sep (base E σ Γ) (csA cs σ vs)).P F H o → parOk ps vs F H
abbrev K0 : St → Prop := fun _ => True
abbrev K1 (i : Nat) (p : Addr) : St → Prop := fun σ => σ[i]? = some (some (.ref p))
def PArg (E : Ec) (Γ : List Cell) (Kn : St → Prop) (c : RC) (p : PP) : Prop := ∀ σ v F H o, Kn σ → Same F H → (sep (base E σ Γ) (c σ v)).P F H o → p v F H
theorem pars_nil {Kn : St → Prop} : Pars E Γ Kn [] [] := fun σ vs F H o _ s ⟨_, _, _, _, _, _, h⟩ => by
  cases vs with
  | nil => trivial
  | cons v vs => exact (show False from h).elim
theorem pars_cons {Kn : St → Prop} {c : RC} {p : PP} {cs : List RC} {ps : List PP} (h : PArg E Γ Kn c p) (hr : Pars E Γ Kn cs ps) : Pars E Γ Kn (c :: cs) (p :: ps) := fun σ vs F H o kn s ⟨o1, o2, h1, h2, d, b, q⟩ => by
  cases vs with
  | nil => exact (show False from q).elim
  | cons v vs =>
    obtain ⟨o3, o4, h3, h4, e, x, y⟩ := q
    exact ⟨h σ v F H o kn s ⟨o1, o3, h1, fun p z => h2 p (h3 p z), fun p z w => d p z (h3 p w), b, x⟩, hr σ vs F H o kn s ⟨o1, o4, h1, fun p z => h2 p (h4 p z), fun p z w => d p z (h4 p w), b, y⟩⟩
theorem pa_v {Kn : St → Prop} {d : PyData} : PArg E Γ Kn (rV d) (ppV d) := fun _ _ _ _ _ _ _ ⟨_, _, _, _, _, _, x⟩ => x
theorem ppL_of {d : List PyData} {v : V} {F H : Hp} (s : Same F H) (h : Rp F v (.list d)) : ppL d v F H := by
  cases h with
  | lst e r => exact ⟨_, _, rfl, s _ _ e, r⟩
theorem pa_lv {Kn : St → Prop} {ds : List PyData} : PArg E Γ Kn (rV (.list ds)) (ppL ds) := fun _ _ _ _ _ _ s ⟨_, _, _, _, _, _, x⟩ => ppL_of s x
theorem pa_lo {Kn : St → Prop} {ds : List PyData} : PArg E Γ Kn (rO ds) (ppL ds) := fun _ _ _ _ _ _ s ⟨_, _, _, _, _, _, x⟩ => by
  obtain ⟨p, rfl, _, vs, e, r⟩ := x
  exact ⟨p, vs, rfl, e, r⟩
theorem ppS_of {K : PySem.W.Frag} {ds : List PyData} {v : V} {F H : Hp} (h : ppL ds v F H) : ppS K ds v F H := by
  obtain ⟨p, vs, e, e2, r⟩ := h
  exact ⟨p, vs, e, SqL.of e2, r⟩
/-- a parameter that is only read: its value is v0, what is known of it lies in E.C -/
def Bw (E : Ec) (v : V) (p : PP) : Prop := ∀ F H o, Same F H → E.C.P F H o → p v F H
theorem pa_bw {Kn : St → Prop} {i : Nat} {v : V} {p : PP} (hi : Γ[i]? = some (cIs v)) (h : Bw E v p) : PArg E Γ Kn (rS i) p := fun σ w F H o _ s ⟨_, _, _, _, _, ⟨_, _, _, _, _, a, c⟩, x⟩ => by
  obtain ⟨y, ey, hy⟩ := sl_get hi a
  have e1 : y = some v := hy
  have e2 : σ[i]? = some (some w) := x
  rw [ey, e1] at e2
  cases e2
  exact h F H _ s c
def XOk (E : Ec) (Γ : List Cell) : Prop := ∀ σ, Ent (sl σ Γ) (E.X σ)
/-- where no exception may leave (a comprehension's block): the wish is empty -/
def Calm (E : Ec) : Prop := ∀ cls d σ H, ¬ E.W cls d σ H

theorem call_core {cs : List RC} {ps : α → List PP} {m : α → Res β} {cb : β → V → Asr} {x : α} {Ex : XK} {σ : St} (hp : Pars E Γ K0 cs (ps x)) (hx : XOk E Γ) (hE : ∀ k H, E.W (E.ec k) none σ H → Ex (E.ec k) none H) {H : Hp} {R : Asr} {Q : VK} {vs : List V}
    (t : Top (sep (base E σ Γ) (sep (csA cs σ vs) R)) H) (q : (m x).wp (fun b => ∀ v H', Top (sep (base E σ Γ) (sep (cb b v) R)) H' → Q v H') (Exn E R σ)) : Sp0 E.ec ps m cb vs H Q Ex := by
  refine ⟨x, _, t, fun F H o s h => hp σ vs F H o trivial s (Ent.sepR Ent.left F H o s h), wp_mono q (fun b _ q1 v H' t' => q1 v H' (t'.ent ?_)) fun k q1 H' t' => hE k H' (q1 H' (t'.ent ?_))⟩
  · exact Ent.assoc.trans (Ent.sepR ((Ent.sepL Ent.right).trans Ent.comm))
  · exact Ent.sep (Ent.sepL (hx σ)) Ent.right
theorem evp_callS {cs : List RC} {ps : α → List PP} {m : α → Res β} {cb : β → V → Asr} (x : α) (h : EvAP E tr Γ cs) (hp : Pars E Γ K0 cs (ps x)) (hx : XOk E Γ) : EvJ E (tCallS (Sp0 E.ec ps m cb) (WE E.W) tr) Γ (m x) (fun _ => Γ) (fun b _ => cb b) := fun σ H R Q t q =>
  h σ H R _ t fun vs H1 t1 => call_core hp hx (fun k H z => z) t1 q
theorem ev_callS {ma : Res δ} {Γ1 : δ → List Cell} {cs : δ → List RC} {ps : α → List PP} {m : α → Res β} {cb : β → V → Asr} (x : δ → α) (h : EvA E tr Γ ma Γ1 cs) (hp : ∀ a, Pars E (Γ1 a) K0 (cs a) (ps (x a))) (hx : ∀ a, XOk E (Γ1 a)) :
    EvJ E (tCallS (Sp0 E.ec ps m cb) (WE E.W) tr) Γ (ma.bind fun a => (m (x a)).bind fun b => .ok (a, b)) (fun p => Γ1 p.1) (fun p _ => cb p.2) := fun σ H R Q t q =>
  h σ H R _ t (wp_mono (wp_bind.mp q) (fun a _ q1 vs H1 t1 => call_core (hp a) (hx a) (fun k H z => z) t1 (wp_mono (wp_bind.mp q1) (fun b _ q2 => q2) fun _ z => z)) fun _ z => z)
/-- .. inside a comprehension -/
theorem evp_call0 {cs : List RC} {ps : α → List PP} {m : α → Res β} {cb : β → V → Asr} (x : α) (h : EvAP E tr Γ cs) (hp : Pars E Γ K0 cs (ps x)) (hx : XOk E Γ) (hc : Calm E) : EvJ E (tCall (Sp0 E.ec ps m cb) [] E0 tr) Γ (m x) (fun _ => Γ) (fun b _ => cb b) := fun σ H R Q t q =>
  h σ H R _ t fun vs H1 t1 => by
    rw [List.append_nil]
    exact call_core hp hx (fun k H z => (hc _ _ _ _ z).elim) t1 q
/-- the cell of a slot that holds a list of one's own -/
def OwnC (mk : List PyData → Cell) : Prop := ∀ (x : Option V) (ds : List PyData) F H o, (mk ds x).P F H o → ∃ p, x = some (.ref p) ∧ (oA p ds).P F H o ∧ ∀ ds', Ent (oA p ds') (mk ds' x)
theorem own_O : OwnC cO := fun x ds F H o h => by
  cases x with
  | none => exact (show False from h).elim
  | some v =>
    obtain ⟨p, rfl, a⟩ := h
    exact ⟨p, rfl, a, fun ds' F H o s b => ⟨p, rfl, b⟩⟩
theorem own_At {q : Addr} : OwnC (cAt q) := fun x ds F H o ⟨o1, o2, h1, h2, d, a, b⟩ => by
  have a' : x = some (.ref q) := a
  subst a'
  exact ⟨q, rfl, (oA q ds).up h2 b, fun ds' F H o s z => sep_pers (fun _ => rfl) z⟩
/-- slot i's list, taken out of the state -/
theorem take_own {mk : List PyData → Cell} {i : Nat} {ds : List PyData} {σ : St} {A : Asr} {H : Hp} (hk : OwnC mk) (hi : Γ[i]? = some (mk ds)) (t : Top (sep (base E σ Γ) A) H) :
    ∃ p, σ[i]? = some (some (.ref p)) ∧ Top (sep (sep (base E σ (Γ.set i cAny)) A) (oA p ds)) H ∧ ∀ ds', Ent (sep (sep (base E σ (Γ.set i cAny)) A) (oA p ds')) (sep (base E σ (Γ.set i (mk ds'))) A) := by
  obtain ⟨F, o, s, kk, o1, o2, h1, h2, e, ⟨o3, o4, h3, h4, e', a, b⟩, r⟩ := t
  obtain ⟨x, ex, o5, o6, h5, h6, e2, cx, rest⟩ := sl_take hi a
  obtain ⟨p, rfl, op, back⟩ := hk x ds F H o5 cx
  have hlt : i < Γ.length := (List.getElem?_eq_some_iff.mp hi).1
  refine ⟨p, ex, ⟨F, o, s, kk, fun q => o6 q ∨ o4 q ∨ o2 q, o5, fun q z => ?_, fun q z => h1 q (h3 q (h5 q z)), fun q z w => ?_, ⟨fun q => o6 q ∨ o4 q, o2, fun q z => z.elim .inl fun z => .inr (.inl z), fun q z => .inr (.inr z), fun q z w => ?_, ⟨o6, o4, fun _ z => .inl z, fun _ z => .inr z, fun q z w => e' q (h6 q z) w, rest, b⟩, r⟩, op⟩, ?_⟩
  · rcases z with z | z | z
    · exact h1 q (h3 q (h6 q z))
    · exact h1 q (h4 q z)
    · exact h2 q z
  · rcases z with z | z | z
    · exact e2 q w z
    · exact e' q (h5 q w) z
    · exact e q (h3 q (h5 q w)) z
  · rcases z with z | z
    · exact e q (h3 q (h6 q z)) w
    · exact e q (h4 q z) w
  · intro ds' F H o s ⟨o1, o2, h1, h2, d, ⟨o3, o4, h3, h4, d', ⟨o5, o6, h5, h6, d2, a, cc⟩, r⟩, b⟩
    refine ⟨fun q => o2 q ∨ o5 q ∨ o6 q, o4, fun q z => ?_, fun q z => h1 q (h4 q z), fun q z w => ?_, ⟨fun q => o2 q ∨ o5 q, o6, fun q z => z.elim .inl fun z => .inr (.inl z), fun q z => .inr (.inr z), fun q z w => ?_,
      sl_put hlt ex ⟨o2, o5, fun _ z => .inl z, fun _ z => .inr z, fun q z w => d q (h3 q (h5 q w)) z, back ds' F H o2 s b, a⟩, cc⟩, r⟩
    · rcases z with z | z | z
      · exact h2 q z
      · exact h1 q (h3 q (h5 q z))
      · exact h1 q (h3 q (h6 q z))
    · rcases z with z | z | z
      · exact d q (h4 q w) z
      · exact d' q (h5 q z) w
      · exact d' q (h6 q z) w
    · rcases z with z | z
      · exact d q (h3 q (h6 q w)) z
      · exact d2 q z w
theorem pa_own {Kn : St → Prop} {mk : List PyData → Cell} {i : Nat} {ds : List PyData} (hk : OwnC mk) (hi : Γ[i]? = some (mk ds)) : PArg E Γ Kn (rS i) (ppL ds) := fun σ w F H o _ s ⟨_, _, _, _, _, ⟨_, _, _, _, _, a, _⟩, x⟩ => by
  obtain ⟨y, ey, hy⟩ := sl_get hi a
  obtain ⟨p, rfl, ⟨_, vs, e, r⟩, _⟩ := hk y ds F H _ hy
  have e2 : σ[i]? = some (some w) := x
  rw [ey] at e2
  cases e2
  exact ⟨p, vs, rfl, e, r⟩
theorem pa_at {i : Nat} {p : Addr} : PArg E Γ (K1 i p) (rS i) (ppAt p) := fun σ w F H o kn s ⟨_, _, _, _, _, _, x⟩ => by
  have e2 : σ[i]? = some (some w) := x
  rw [kn] at e2
  cases e2
  exact rfl
theorem call1_core {mk : List PyData → Cell} {i : Nat} {cs : List RC} {ps : Addr → α → List PP} {i0 : α → List PyData} {m : α → Res β} {i1 : β → List PyData} {cb : β → V → Asr} {x : α} {Ex : XK} {σ : St} (hk : OwnC mk) (hi : Γ[i]? = some (mk (i0 x)))
    (hp : ∀ p, Pars E (Γ.set i cAny) (K1 i p) cs (ps p x)) (hx : XOk E Γ) (hE : ∀ k H, E.W (E.ec k) none σ H → Ex (E.ec k) none H) {H : Hp} {R : Asr} {Q : VK} {vs : List V}
    (t : Top (sep (base E σ Γ) (sep (csA cs σ vs) R)) H) (q : (m x).wp (fun b => ∀ v H', Top (sep (base E σ (Γ.set i (mk (i1 b)))) (sep (cb b v) R)) H' → Q v H') (Exn E R σ)) : Sp1 E.ec ps i0 m i1 cb vs H Q Ex := by
  obtain ⟨p, hs, t2, back⟩ := take_own hk hi t
  refine ⟨p, x, _, t2, fun F H o s h => hp p σ vs F H o hs s (Ent.sepR Ent.left F H o s h), wp_mono q (fun b _ q1 v H' t' => q1 v H' ?_) fun k q1 H' t' => hE k H' (q1 H' ?_)⟩
  · have t3 := t'.ent Ent.assoc'
    have t4 := t3.ent (Ent.sepL (back (i1 b)))
    exact t4.ent (Ent.assoc.trans (Ent.sepR ((Ent.sepL Ent.right).trans Ent.comm)))
  · have t4 := t'.ent (back (i0 x))
    have e : Γ.set i (mk (i0 x)) = Γ := by
      obtain ⟨hl, e⟩ := List.getElem?_eq_some_iff.mp hi
      rw [← e, List.set_getElem_self]
    rw [e] at t4
    exact t4.ent (Ent.sep (Ent.sepL (hx σ)) Ent.right)
theorem evp_callS1 {mk : List PyData → Cell} {i : Nat} {cs : List RC} {ps : Addr → α → List PP} {i0 : α → List PyData} {m : α → Res β} {i1 : β → List PyData} {cb : β → V → Asr} (x : α) (hk : OwnC mk) (h : EvAP E tr Γ cs) (hi : Γ[i]? = some (mk (i0 x)))
    (hp : ∀ p, Pars E (Γ.set i cAny) (K1 i p) cs (ps p x)) (hx : XOk E Γ) : EvJ E (tCallS (Sp1 E.ec ps i0 m i1 cb) (WE E.W) tr) Γ (m x) (fun b => Γ.set i (mk (i1 b))) (fun b _ => cb b) := fun σ H R Q t q =>
  h σ H R _ t fun vs H1 t1 => call1_core hk hi hp hx (fun k H z => z) t1 q
theorem evp_call01 {mk : List PyData → Cell} {i : Nat} {cs : List RC} {ps : Addr → α → List PP} {i0 : α → List PyData} {m : α → Res β} {i1 : β → List PyData} {cb : β → V → Asr} (x : α) (hk : OwnC mk) (h : EvAP E tr Γ cs) (hi : Γ[i]? = some (mk (i0 x)))
    (hp : ∀ p, Pars E (Γ.set i cAny) (K1 i p) cs (ps p x)) (hx : XOk E Γ) (hc : Calm E) : EvJ E (tCall (Sp1 E.ec ps i0 m i1 cb) [] E0 tr) Γ (m x) (fun b => Γ.set i (mk (i1 b))) (fun b _ => cb b) := fun σ H R Q t q =>
  h σ H R _ t fun vs H1 t1 => by
    rw [List.append_nil]
    exact call1_core hk hi hp hx (fun k H z => (hc _ _ _ _ z).elim) t1 q
/-- arguments that compute, but change no state -/
theorem ev_callS' {ma : Res δ} {cs : δ → List RC} {ps : α → List PP} {m : α → Res β} {cb : β → V → Asr} (x : δ → α) (h : EvA E tr Γ ma (fun _ => Γ) cs) (hp : ∀ a, Pars E Γ K0 (cs a) (ps (x a))) (hx : XOk E Γ) :
    EvJ E (tCallS (Sp0 E.ec ps m cb) (WE E.W) tr) Γ (ma.bind fun a => m (x a)) (fun _ => Γ) (fun b _ => cb b) := fun σ H R Q t q =>
  h σ H R _ t (wp_mono (wp_bind.mp q) (fun a _ q1 vs H1 t1 => call_core (hp a) hx (fun k H z => z) t1 q1) fun _ z => z)
theorem ev_call0' {ma : Res δ} {cs : δ → List RC} {ps : α → List PP} {m : α → Res β} {cb : β → V → Asr} (x : δ → α) (h : EvA E tr Γ ma (fun _ => Γ) cs) (hp : ∀ a, Pars E Γ K0 (cs a) (ps (x a))) (hx : XOk E Γ) (hc : Calm E) :
    EvJ E (tCall (Sp0 E.ec ps m cb) [] E0 tr) Γ (ma.bind fun a => m (x a)) (fun _ => Γ) (fun b _ => cb b) := fun σ H R Q t q =>
  h σ H R _ t (wp_mono (wp_bind.mp q) (fun a _ q1 vs H1 t1 => by
    rw [List.append_nil]
    exact call_core (hp a) hx (fun k H z => (hc _ _ _ _ z).elim) t1 q1) fun _ z => z)
end

/-! ### statements -/
inductive Fin where
  | nx (Γ : List Cell) | lp (Γ : List Cell) | bk (Γ : List Cell) | ct (Γ : List Cell) | rt (Γ : List Cell) (c : RC) | no
def Fin.ok (E : Ec) (R : Asr) (D : Ends) : Fin → Prop
  | .nx Γ => ∀ σ H, Top (sep (base E σ Γ) R) H → D.nx σ H
  | .lp Γ => ∀ σ H, Top (sep (base E σ Γ) R) H → D.nx σ H ∧ D.ct σ H
  | .bk Γ => ∀ σ H, Top (sep (base E σ Γ) R) H → D.bk σ H
  | .ct Γ => ∀ σ H, Top (sep (base E σ Γ) R) H → D.ct σ H
  | .rt Γ c => ∀ σ v H, Top (sep (base E σ Γ) (sep (c σ v) R)) H → D.rt v H
  | .no => True
/-- .. of a part that does not go on behind its end -/
def Fin.out : Fin → Fin
  | .nx _ => .no
  | .lp Γ => .ct Γ
  | f => f
def EvS (E : Ec) (t : TS) (Γ : List Cell) {β : Type} (m : Res β) (post : β → Fin) : Prop :=
  ∀ (σ : St) (H : Hp) (R : Asr) (D : Ends), Top (sep (base E σ Γ) R) H → m.wp (fun b => (post b).ok E R D) (ExnS E R) → t D σ H
abbrev EvS1 (E : Ec) (t : TS) (Γ : List Cell) {β : Type} (m : Res β) (Γ' : β → List Cell) : Prop := EvS E t Γ m fun b => .nx (Γ' b)
/-- what ends a part: goes on, or is out -/
inductive Jn (β ρ : Type) where
  | go (b : β) | out (r : ρ)
def Jn.post {β ρ : Type} (Γ' : β → List Cell) (post : ρ → Fin) : Jn β ρ → Fin
  | .go b => .nx (Γ' b)
  | .out r => (post r).out
section
variable {E : Ec} {te : TE} {tt : TT} {t u : TS} {Γ Δ : List Cell} {α β γ ρ : Type} {m : Res β} {post : β → Fin}
open Res
theorem Fin.out_ok {R : Asr} {D : Ends} {nx : St → Hp → Prop} : ∀ {f : Fin}, f.ok E R D → f.out.ok E R { D with nx := nx }
  | .nx _, _ => trivial
  | .lp _, h => fun σ H t => (h σ H t).2
  | .bk _, h => h
  | .ct _, h => h
  | .rt _ _, h => h
  | .no, _ => trivial
theorem es_seq {m1 : Res α} {Γ1 : α → List Cell} {k : α → Res β} (h1 : EvS1 E t Γ m1 Γ1) (h2 : ∀ a, EvS E u (Γ1 a) (k a) post) : EvS E (tSeq t u) Γ (m1.bind k) post := fun σ H R D tt q =>
  h1 σ H R { D with nx := u D } tt (wp_mono (wp_bind.mp q) (fun a _ q1 σ' H' t' => h2 a σ' H' R D t' q1) fun _ x => x)
theorem es_seqP {a : α} {Γ1 : α → List Cell} (h1 : EvS1 E t Γ (.ok a) Γ1) (h2 : EvS E u (Γ1 a) m post) : EvS E (tSeq t u) Γ m post := fun σ H R D tt q =>
  h1 σ H R { D with nx := u D } tt fun σ' H' t' => h2 σ' H' R D t' q
/-- the part may also leave -/
theorem es_seqC {m1 : Res (Jn α β)} {Γ1 : α → List Cell} {k : α → Res β} (h1 : EvS E t Γ m1 (Jn.post Γ1 post)) (h2 : ∀ a, EvS E u (Γ1 a) (k a) post) :
    EvS E (tSeq t u) Γ (m1.bind fun j => match j with | .go a => k a | .out b => .ok b) post := fun σ H R D tt q =>
  h1 σ H R { D with nx := u D } tt (wp_mono (wp_bind.mp q) (fun j _ q1 => by
    cases j with
    | go a => exact fun σ' H' t' => h2 a σ' H' R D t' q1
    | out b => exact Fin.out_ok q1) fun _ x => x)
/-- what follows is never reached -/
theorem es_last (h1 : EvS E t Γ m fun b => (post b).out) : EvS E (tSeq t u) Γ m post := fun σ H R D tt q =>
  h1 σ H R { D with nx := u D } tt (wp_mono q (fun b _ q1 => Fin.out_ok q1) fun _ x => x)
theorem es_end {b : β} (hp : post b = .nx Δ) (l : Le Γ Δ) : EvS E tNext Γ (.ok b) post := fun σ H R D tt q => by
  have q' : (post b).ok E R D := q
  rw [hp] at q'
  exact q' σ H (tt.ent (Ent.sepL (Ent.sepL l.ent)))
theorem es_endL {b : β} (hp : post b = .lp Δ) (l : Le Γ Δ) : EvS E tNext Γ (.ok b) post := fun σ H R D tt q => by
  have q' : (post b).ok E R D := q
  rw [hp] at q'
  exact (q' σ H (tt.ent (Ent.sepL (Ent.sepL l.ent)))).1
theorem es_cont {b : β} (hp : post b = .lp Δ) (l : Le Γ Δ) : EvS E (tSeq tCont u) Γ (.ok b) post := fun σ H R D tt q => by
  have q' : (post b).ok E R D := q
  rw [hp] at q'
  exact (q' σ H (tt.ent (Ent.sepL (Ent.sepL l.ent)))).2
theorem es_contO {b : β} (hp : post b = .ct Δ) (l : Le Γ Δ) : EvS E (tSeq tCont u) Γ (.ok b) post := fun σ H R D tt q => by
  have q' : (post b).ok E R D := q
  rw [hp] at q'
  exact q' σ H (tt.ent (Ent.sepL (Ent.sepL l.ent)))
theorem es_break {b : β} (hp : post b = .bk Δ) (l : Le Γ Δ) : EvS E (tSeq tBreak u) Γ (.ok b) post := fun σ H R D tt q => by
  have q' : (post b).ok E R D := q
  rw [hp] at q'
  exact q' σ H (tt.ent (Ent.sepL (Ent.sepL l.ent)))
/-- what a return hands back, told as the end wants it -/
def RetJ (E : Ec) (Γ : List Cell) (c : RC) (Δ : List Cell) (c' : RC) : Prop := ∀ σ v R H, Top (sep (base E σ Γ) (sep (c σ v) R)) H → Top (sep (base E σ Δ) (sep (c' σ v) R)) H
theorem ret_le {c : RC} (l : Le Γ Δ) : RetJ E Γ c Δ c := fun σ v R H t => t.ent (Ent.sepL (Ent.sepL l.ent))
theorem ret_fz {ds : List PyData} (l : Le Γ Δ) : RetJ E Γ (rO ds) Δ (rV (.list ds)) := fun σ v R H t => by
  have t1 : Top (sep (oV ds v) (sep (base E σ Γ) R)) H := t.ent ((Ent.assoc'.trans (Ent.sepL Ent.comm)).trans Ent.assoc)
  exact ((oV_freeze t1).ent ((Ent.assoc'.trans (Ent.sepL Ent.comm)).trans Ent.assoc)).ent (Ent.sepL (Ent.sepL l.ent))
/-- a list of a slot is handed back -/
theorem ret_own {mk : List PyData → Cell} {i : Nat} {ds : List PyData} (hk : OwnC mk) (hi : Γ[i]? = some (mk ds)) (l : Le (Γ.set i cAny) Δ) : RetJ E Γ (rS i) Δ (rO ds) := fun σ v R H t => by
  obtain ⟨p, hs, t2, _⟩ := take_own hk hi t
  have e : v = .ref p := t.fact fun F o s ⟨_, _, _, _, _, _, ⟨_, _, _, _, _, x, _⟩⟩ => by
    have x' : σ[i]? = some (some v) := x
    rw [hs] at x'
    cases x'
    rfl
  subst e
  refine t2.ent ?_
  refine (Ent.sepL (Ent.sep (Ent.sepL l.ent) Ent.right)).trans (Ent.assoc.trans (Ent.sepR (Ent.comm.trans (Ent.sepL ?_))))
  exact fun F H o s a => ⟨p, rfl, a⟩
theorem RetJ.fz {Γ' : List Cell} {c : RC} {ds : List PyData} (h : RetJ E Γ c Γ' (rO ds)) : RetJ E Γ c Γ' (rV (.list ds)) := fun σ v R H t => ret_fz (Le.refl _) σ v R H (h σ v R H t)
theorem es_ret {m1 : Res α} {Γ1 : α → List Cell} {c : α → RC} {g : α → β} {Δ : α → List Cell} {c' : α → RC} (h : EvJ E te Γ m1 Γ1 c) (hp : ∀ a, post (g a) = .rt (Δ a) (c' a)) (hr : ∀ a, RetJ E (Γ1 a) (c a) (Δ a) (c' a)) :
    EvS E (tSeq (tRet te) u) Γ (m1.bind fun a => .ok (g a)) post := fun σ H R D tt q =>
  h σ H R _ tt (wp_mono (wp_bind.mp q) (fun a _ q1 v H' t' => by
    have q' : (post (g a)).ok E R D := q1
    rw [hp a] at q'
    exact q' σ v H' (hr a σ v R H' t')) fun _ x => x σ)
theorem es_retP {b : β} {c c' : RC} (h : EvP E te Γ c) (hp : post b = .rt Δ c') (hr : RetJ E Γ c Δ c') : EvS E (tSeq (tRet te) u) Γ (.ok b) post := fun σ H R D tt q =>
  h σ H R _ tt fun v H' t' => by
    have q' : (post b).ok E R D := q
    rw [hp] at q'
    exact q' σ v H' (hr σ v R H' t')
theorem es_retN {b : β} {c' : RC} (hp : post b = .rt Δ (rV .none)) (l : Le Γ Δ) : EvS E (tSeq tRetN u) Γ (.ok b) post := fun σ H R D tt q => by
  have q' : (post b).ok E R D := q
  rw [hp] at q'
  refine q' σ .non H ?_
  have t1 := tt.ent (Ent.sepL (B := R) (Ent.sepL (B := E.C) (l.ent (σ := σ))))
  exact (t1.addV (v := .non) (d := .none) fun F _ _ _ => .non).ent ((Ent.assoc'.trans (Ent.sepL Ent.comm)).trans Ent.assoc)
/-- raise C("..") -/
theorem es_raise {k : Nat} {C : Value} (hk : E.ec k = C) (hx : XOk E Γ) : EvS E (tSeq (fun _ σ H => E.W C none σ H) u) Γ (.err k) post := fun σ H R D tt q => by
  have q' := q σ H (tt.ent (Ent.sepL (Ent.sepL (hx σ))))
  rw [hk] at q'
  exact q'
/-! ifs -/
theorem es_if {a : Bool} {mA mB : Res β} (h : EvTP E tt Γ a) (h1 : EvS E t Γ mA post) (h2 : EvS E u Γ mB post) : EvS E (tIfS tt t u) Γ (if a then mA else mB) post := fun σ H R D t0 q =>
  h σ H R _ t0 fun H1 t1 => by
    cases a with
    | true => exact h1 σ H1 R D t1 q
    | false => exact h2 σ H1 R D t1 q
theorem es_ifM {m1 : Res α} {Γ1 : α → List Cell} {b : α → Bool} {mA mB : α → Res β} (h : EvT E tt Γ m1 Γ1 b) (h1 : ∀ a, EvS E t (Γ1 a) (mA a) post) (h2 : ∀ a, EvS E u (Γ1 a) (mB a) post) :
    EvS E (tIfS tt t u) Γ (m1.bind fun a => if b a then mA a else mB a) post := fun σ H R D t0 q =>
  h σ H R _ t0 (wp_mono (wp_bind.mp q) (fun a _ q1 H1 t1 => by
    cases e : b a with
    | true =>
      rw [if_pos e] at q1
      exact h1 a σ H1 R D t1 q1
    | false =>
      rw [if_neg (by rw [e]; decide)] at q1
      exact h2 a σ H1 R D t1 q1) fun _ x => x σ)
/-- the first branch ends the part; no else -/
theorem es_ifT {a : Bool} {mA mB : Res β} (h : EvTP E tt Γ a) (h1 : EvS E t Γ mA fun b => (post b).out) (h2 : EvS E u Γ mB post) : EvS E (tSeq (tIfS tt t tNext) u) Γ (if a then mA else mB) post := fun σ H R D t0 q =>
  h σ H R _ t0 fun H1 t1 => by
    cases a with
    | true => exact h1 σ H1 R { D with nx := u D } t1 (wp_mono q (fun b _ q1 => Fin.out_ok q1) fun _ x => x)
    | false => exact h2 σ H1 R D t1 q
theorem es_ifTM {m1 : Res α} {Γ1 : α → List Cell} {b : α → Bool} {mA mB : α → Res β} (h : EvT E tt Γ m1 Γ1 b) (h1 : ∀ a, EvS E t (Γ1 a) (mA a) fun b => (post b).out) (h2 : ∀ a, EvS E u (Γ1 a) (mB a) post) :
    EvS E (tSeq (tIfS tt t tNext) u) Γ (m1.bind fun a => if b a then mA a else mB a) post := fun σ H R D t0 q =>
  h σ H R _ t0 (wp_mono (wp_bind.mp q) (fun a _ q1 H1 t1 => by
    cases e : b a with
    | true =>
      rw [if_pos e] at q1
      exact h1 a σ H1 R { D with nx := u D } t1 (wp_mono q1 (fun b _ q1 => Fin.out_ok q1) fun _ x => x)
    | false =>
      rw [if_neg (by rw [e]; decide)] at q1
      exact h2 a σ H1 R D t1 q1) fun _ x => x σ)
/-! assignments -/
/-- a result is put into a slot -/
def Sto (c : RC) (cl : Cell) : Prop := ∀ σ v A H, Top (sep (c σ v) A) H → Top (sep (cl (some v)) A) H
theorem sto_v {d : PyData} : Sto (rV d) (cV d) := fun _ _ _ _ t => t
theorem sto_o {ds : List PyData} : Sto (rO ds) (cO ds) := fun _ _ _ _ t => t
theorem sto_f {ds : List PyData} : Sto (rO ds) (cV (.list ds)) := fun _ _ _ _ t => oV_freeze t
theorem sto_any {c : RC} : Sto c cAny := fun _ _ _ _ t => t.ent (Ent.sepL Ent.emp)
theorem put_slot {c : RC} {cl : Cell} {i : Nat} {σ : St} {v : V} {R : Asr} {H : Hp} (hs : Sto c cl) (hi : i < Γ.length) (t0 : Top (sep (base E σ Γ) (sep (c σ v) R)) H) : Top (sep (base E (σ.set i (some v)) (Γ.set i cl)) R) H := by
  have t1 : Top (sep (c σ v) (sep (base E σ Γ) R)) H := t0.ent ((Ent.assoc'.trans (Ent.sepL Ent.comm)).trans Ent.assoc)
  have t2 := hs σ v _ H t1
  have t3 : Top (sep (sep (cl (some v)) (sl σ Γ)) (sep E.C R)) H := t2.ent ((Ent.sepR Ent.assoc).trans Ent.assoc')
  exact (t3.ent (Ent.sepL fun F H o s h => sl_set hi h)).ent Ent.assoc'
theorem es_asg {m1 : Res α} {Γ1 : α → List Cell} {c : α → RC} {cl : α → Cell} {i : Nat} (h : EvJ E te Γ m1 Γ1 c) (hs : ∀ a, Sto (c a) (cl a)) (hi : ∀ a, i < (Γ1 a).length) : EvS1 E (tAsg te (gName i)) Γ m1 fun a => (Γ1 a).set i (cl a) := fun σ H R D t0 q =>
  h σ H R _ t0 (wp_mono q (fun a _ q1 v H' t' => q1 _ H' (put_slot (hs a) (hi a) t')) fun _ x => x σ)
theorem es_asgP {c : RC} {cl : Cell} {i : Nat} (h : EvP E te Γ c) (hs : Sto c cl) (hi : i < Γ.length) : EvS1 E (tAsg te (gName i)) Γ (.ok ()) fun _ => Γ.set i cl := es_asg h (fun _ => hs) fun _ => hi
theorem es_drop {m1 : Res α} {Γ1 : α → List Cell} {c : α → RC} (h : EvJ E te Γ m1 Γ1 c) : EvS1 E (tDrop te) Γ m1 Γ1 := fun σ H R D t0 q =>
  h σ H R _ t0 (wp_mono q (fun a _ q1 v H' t' => q1 σ H' (t'.ent (Ent.sepR Ent.right))) fun _ x => x σ)
/-- x += e, ints -/
theorem es_aug {i : Nat} {f : Int → Int → Int} {x : Int} {m1 : Res Int} {Γ1 : Int → List Cell} (h : EvJ E te Γ m1 Γ1 fun a => rV (.int a)) (h0 : Γ[i]? = some (cV (.int x))) (hi : ∀ a, i < (Γ1 a).length) :
    EvS1 E (tAug i te (ipI f)) Γ m1 fun a => (Γ1 a).set i (cV (.int (f x a))) := fun σ H R D t0 q => by
  have e : σ[i]? = some (some (.int x)) := t0.fact fun F o s ⟨_, _, _, _, _, ⟨_, _, _, _, _, a, _⟩, _⟩ => by
    obtain ⟨y, ey, hy⟩ := sl_get h0 a
    cases y with
    | none => exact (show False from hy).elim
    | some v =>
      cases (show Rp F v (.int x) from hy)
      exact ey
  refine ⟨.int x, e, h σ H R _ t0 (wp_mono q (fun a _ q1 v H' t' => ?_) fun _ x => x σ)⟩
  have ev : v = .int a := t'.fact fun F o s ⟨_, _, _, _, _, _, ⟨_, _, _, _, _, z, _⟩⟩ => by
    cases (show Rp F v (.int a) from z)
    rfl
  refine ⟨x, a, rfl, ev, q1 _ H' ?_⟩
  have t2 := t'.ent (Ent.sepR (B' := R) Ent.right)
  have t3 := (t2.addV (v := .int (f x a)) (d := .int (f x a)) fun F _ _ _ => .int _).ent ((Ent.assoc'.trans (Ent.sepL Ent.comm)).trans Ent.assoc)
  exact put_slot (c := rV (.int (f x a))) sto_v (hi a) t3
end
end Lc
/-! Lc: operations on values -/
namespace Lc
open PySem L2

/-! ### what data look like for == -/
class Shp (α : Type) [Dat α] where
  dep : Nat
  lay : ∀ a : α, (dat a).canLay0 = true
  low : ∀ a : α, (dat a).depth ≤ dep
theorem layAll {α : Type} [Dat α] [Shp α] : ∀ l : List α, PyData.canLayAll0 (l.map dat) = true
  | [] => rfl
  | a :: l => by
    show ((dat a).canLay0 && PyData.canLayAll0 (l.map dat)) = true
    rw [Shp.lay a, layAll l]; rfl
theorem lowAll {α : Type} [Dat α] [S : Shp α] : ∀ l : List α, PyData.depthAll (l.map dat) ≤ S.dep
  | [] => Nat.zero_le _
  | a :: l => by
    show max (dat a).depth (PyData.depthAll (l.map dat)) ≤ S.dep
    exact Nat.max_le.mpr ⟨Shp.low a, lowAll l⟩
instance : Shp Int := ⟨0, fun _ => rfl, fun _ => Nat.le_refl _⟩
instance : Shp Bool := ⟨0, fun _ => rfl, fun _ => Nat.le_refl _⟩
instance : Shp Unit := ⟨0, fun _ => rfl, fun _ => Nat.le_refl _⟩
instance {α : Type} [Dat α] [S : Shp α] : Shp (List α) := ⟨S.dep + 1, fun l => layAll l, fun l => Nat.succ_le_succ (lowAll l)⟩
instance {α : Type} [Dat α] [S : Shp α] : Shp (Tu α) := ⟨S.dep + 1, fun l => layAll l.l, fun l => Nat.succ_le_succ (lowAll l.l)⟩
instance {α : Type} [Dat α] [S : Shp α] : Shp (Option α) := ⟨S.dep, fun o => by cases o with | none => rfl | some a => exact Shp.lay a, fun o => by cases o with | none => exact Nat.zero_le _ | some a => exact Shp.low a⟩
instance {α β : Type} [Dat α] [Dat β] [S : Shp α] [T : Shp β] : Shp (α × β) := ⟨max S.dep T.dep + 1, fun p => by
    show (((dat p.1).canLay0 && ((dat p.2).canLay0 && true))) = true
    rw [Shp.lay, Shp.lay]; rfl, fun p => by
    show max (dat p.1).depth (max (dat p.2).depth 0) + 1 ≤ _
    have h1 := Shp.low p.1
    have h2 := Shp.low p.2
    omega⟩
instance {α β γ : Type} [Dat α] [Dat β] [Dat γ] [S : Shp α] [T : Shp β] [U : Shp γ] : Shp (T3 α β γ) := ⟨max S.dep (max T.dep U.dep) + 1, fun p => by
    show (((dat p.a).canLay0 && ((dat p.b).canLay0 && ((dat p.c).canLay0 && true)))) = true
    rw [Shp.lay, Shp.lay, Shp.lay]; rfl, fun p => by
    show max (dat p.a).depth (max (dat p.b).depth (max (dat p.c).depth 0)) + 1 ≤ _
    have h1 := Shp.low p.a
    have h2 := Shp.low p.b
    have h3 := Shp.low p.c
    omega⟩
theorem shp {α : Type} [Dat α] [S : Shp α] (h : S.dep ≤ 64 := by decide) (a : α) : SeqAt.shaped (dat a) = true := by
  unfold SeqAt.shaped
  rw [Shp.lay a, decide_eq_true (Nat.le_trans (Shp.low a) h)]
  rfl
/-- == of two data -/
def eqD {α β : Type} [Dat α] [Dat β] (a : α) (b : β) : Bool := PyData.eqv (dat a) (dat b)

/-! ### helpers -/
section
variable {E : Ec} {Γ : List Cell} {A B C' R : Asr} {H : Hp} {x y v : V} {d : PyData} {cx cy : RC} {α β γ : Type}
open Res
theorem top1 {d : PyData} (t : Top (sep A (sep (vA d x) R)) H) : ∃ F, Same F H ∧ Rp F x d := by
  obtain ⟨F, o, s, _, _, _, _, _, _, _, ⟨_, _, _, _, _, z, _⟩⟩ := t
  exact ⟨F, s, z⟩
theorem int1 {i : Int} (t : Top (sep A (sep (vA (.int i) x) R)) H) : x = .int i := by
  obtain ⟨F, _, z⟩ := top1 t
  cases z; rfl
theorem int2 {j : Int} (t : Top (sep A (sep B (sep (vA (.int j) y) R))) H) : y = .int j := int1 (t.ent Ent.assoc')
theorem res2 (t : Top (sep A (sep B (sep C' R))) H) (h : ∀ F, Rp F v d) : Top (sep A (sep (vA d v) R)) H :=
  ((t.ent (Ent.sepR (Ent.right.trans Ent.right))).addV (v := v) (d := d) fun F _ _ _ => h F).ent ((Ent.assoc'.trans (Ent.sepL Ent.comm)).trans Ent.assoc)
theorem res1 (t : Top (sep A (sep B R)) H) (h : ∀ F, Rp F v d) : Top (sep A (sep (vA d v) R)) H :=
  ((t.ent (Ent.sepR Ent.right)).addV (v := v) (d := d) fun F _ _ _ => h F).ent ((Ent.assoc'.trans (Ent.sepL Ent.comm)).trans Ent.assoc)
/-- a datum read off the state is a result -/
theorem res1' (t : Top (sep A (sep B R)) H) (h : ∀ F o, Same F H → (sep A (sep B R)).P F H o → Rp F v d) : Top (sep A (sep (vA d v) R)) H :=
  (t.addV h).ent ((Ent.sepR (Ent.sepR Ent.right)).trans ((Ent.assoc'.trans (Ent.sepL Ent.comm)).trans Ent.assoc))
end
section
variable {E : Ec} {Γ : List Cell} {A B C' R : Asr} {H : Hp} {x y v : V} {d : PyData} {cx cy : RC} {α β γ : Type}
open Res

/-! ### numbers -/
theorem r2_I0 {g : Int → Int → Int} {i j : Int} : R2P E (rI0 fun i j => .int (g i j)) (rV (.int i)) (rV (.int j)) Γ (rV (.int (g i j))) := fun σ H R Q x y t q =>
  ⟨i, j, int1 t, int2 t, q _ H (res2 t fun F => .int _)⟩
theorem r2_B0 {g : Int → Int → Bool} {i j : Int} : R2P E (rI0 fun i j => .bl (g i j)) (rV (.int i)) (rV (.int j)) Γ (rV (.bool (g i j))) := fun σ H R Q x y t q =>
  ⟨i, j, int1 t, int2 t, q _ H (res2 t fun F => .bl _)⟩
theorem r2_IP {C : Int → Int → Prop} {g : Int → Int → Int} {i j : Int} (h : C i j) : R2P E (rI C fun i j => .int (g i j)) (rV (.int i)) (rV (.int j)) Γ (rV (.int (g i j))) := fun σ H R Q x y t q =>
  ⟨i, j, int1 t, int2 t, h, q _ H (res2 t fun F => .int _)⟩
theorem r2_IN {C : Int → Int → Prop} {g : Int → Int → Int} {i j : Int} {D : Prop} [Decidable D] (h : D → C i j) : R2J E (rI C fun i j => .int (g i j)) (rV (.int i)) (rV (.int j)) Γ (need D (.ok (g i j))) (fun _ => Γ) fun a => rV (.int a) := fun σ H R Q x y t q => by
  obtain ⟨hd, q⟩ := wp_need q
  exact ⟨i, j, int1 t, int2 t, h hd, q _ H (res2 t fun F => .int _)⟩
/-- a constant power -/
theorem r2_pow {i j k : Int} (h : CPow i j) (e : i ^ j.toNat = k) : R2P E (rI CPow fun i j => .int (i ^ j.toNat)) (rV (.int i)) (rV (.int j)) Γ (rV (.int k)) := fun σ H R Q x y t q =>
  ⟨i, j, int1 t, int2 t, h, q _ H (res2 t fun F => by
    show Rp F (.int (i ^ j.toNat)) (.int k)
    rw [e]
    exact .int _)⟩
theorem r1_neg {i : Int} : R1P E (rU fun i => .int (-i)) (rV (.int i)) Γ (rV (.int (-i))) := fun σ H R Q x t q => ⟨i, int1 t, q _ H (res1 t fun F => .int _)⟩
def mulR (i j : Int) : Res Int := need (i.natAbs.log2 + j.natAbs.log2 < 1000000) (.ok (i * j))
def divR (i j : Int) : Res Int := need (0 < j ∧ j.natAbs.log2 < 9000) (.ok (i / j))
def modR (i j : Int) : Res Int := need (0 < j) (.ok (i % j))
theorem r2_mul {i j : Int} : R2J E (rI CMulW fun i j => .int (i * j)) (rV (.int i)) (rV (.int j)) Γ (mulR i j) (fun _ => Γ) fun a => rV (.int a) := r2_IN fun h => h
theorem r2_div {i j : Int} : R2J E (rI CDivW fun i j => .int (i / j)) (rV (.int i)) (rV (.int j)) Γ (divR i j) (fun _ => Γ) fun a => rV (.int a) := r2_IN fun h => h
theorem r2_mod {i j : Int} : R2J E (rI (fun _ j => 0 < j) fun i j => .int (i % j)) (rV (.int i)) (rV (.int j)) Γ (modR i j) (fun _ => Γ) fun a => rV (.int a) := r2_IN fun h => h

/-! ### reading: data, lists -/
def ppD (K : PySem.W.Frag) (d : PyData) : PP := fun v _ H => Dp K H v d
theorem pa_dv {Kn : St → Prop} {d : PyData} : PArg E Γ Kn (rV d) (ppD E.K d) := fun _ _ _ _ _ _ s ⟨_, _, _, _, _, _, x⟩ => Rp.dp s x
theorem pa_S {Kn : St → Prop} {c : RC} {ds : List PyData} (h : PArg E Γ Kn c (ppL ds)) : PArg E Γ Kn c (ppS E.K ds) := fun σ v F H o kn s q => ppS_of (h σ v F H o kn s q)
theorem pa_D {Kn : St → Prop} {c : RC} {ds : List PyData} (h : PArg E Γ Kn c (ppS E.K ds)) : PArg E Γ Kn c (ppD E.K (.list ds)) := fun σ v F H o kn s q => by
  obtain ⟨p, vs, rfl, e, r⟩ := h σ v F H o kn s q
  exact .lst e (r.dp s)
theorem par1 {σ : St} {c : RC} {p : PP} (h : PArg E Γ K0 c p) (t : Top (sep (base E σ Γ) (sep (c σ x) R)) H) : ∃ F, Same F H ∧ p x F H := by
  obtain ⟨F, o, s, _, a⟩ := t
  exact ⟨F, s, h σ x F H o trivial s (Ent.left F H o s (Ent.assoc' F H o s a))⟩
theorem par2 {σ : St} {c : RC} {p : PP} (h : PArg E Γ K0 c p) (t : Top (sep (base E σ Γ) (sep B (sep (c σ y) R))) H) : ∃ F, Same F H ∧ p y F H := par1 h (top_rot t)
theorem r2_eq {d e : PyData} (h1 : PArg E Γ K0 cx (ppD E.K d)) (h2 : PArg E Γ K0 cy (ppD E.K e)) (s1 : SeqAt.shaped d = true) (s2 : SeqAt.shaped e = true) : R2P E (rEqD E.K) cx cy Γ (rV (.bool (PyData.eqv d e))) := fun σ H R Q x y t q => by
  obtain ⟨_, _, z1⟩ := par1 h1 t
  obtain ⟨_, _, z2⟩ := par2 h2 t
  exact ⟨d, e, z1, z2, s1, s2, q _ H (res2 t fun F => .bl _)⟩
theorem r2_ne {d e : PyData} (h1 : PArg E Γ K0 cx (ppD E.K d)) (h2 : PArg E Γ K0 cy (ppD E.K e)) (s1 : SeqAt.shaped d = true) (s2 : SeqAt.shaped e = true) : R2P E (rNeD E.K) cx cy Γ (rV (.bool (!PyData.eqv d e))) := fun σ H R Q x y t q => by
  obtain ⟨_, _, z1⟩ := par1 h1 t
  obtain ⟨_, _, z2⟩ := par2 h2 t
  exact ⟨d, e, z1, z2, s1, s2, q _ H (res2 t fun F => .bl _)⟩
def eqR (d e : PyData) : Res Bool := need (SeqAt.shaped d = true ∧ SeqAt.shaped e = true) (.ok (PyData.eqv d e))
theorem r2_eqN {d e : PyData} (h1 : PArg E Γ K0 cx (ppD E.K d)) (h2 : PArg E Γ K0 cy (ppD E.K e)) : R2J E (rEqD E.K) cx cy Γ (eqR d e) (fun _ => Γ) fun a => rV (.bool a) := fun σ H R Q x y t q => by
  obtain ⟨⟨s1, s2⟩, q⟩ := wp_need q
  exact r2_eq h1 h2 s1 s2 σ H R Q x y t q
theorem r2_neN {d e : PyData} (h1 : PArg E Γ K0 cx (ppD E.K d)) (h2 : PArg E Γ K0 cy (ppD E.K e)) : R2J E (rNeD E.K) cx cy Γ ((eqR d e).bind fun a => .ok (!a)) (fun _ => Γ) fun a => rV (.bool a) := fun σ H R Q x y t q => by
  unfold eqR at q
  obtain ⟨⟨s1, s2⟩, q⟩ := wp_need (Res.wp_bind.mp q)
  exact r2_ne h1 h2 s1 s2 σ H R Q x y t q
def getI {α : Type} (xs : List α) (i : Int) : Res α := match atI xs i with
  | some a => .ok a
  | none => .bad
theorem atI_map {α β : Type} (f : α → β) (xs : List α) (i : Int) : atI (xs.map f) i = (atI xs i).map f := by
  unfold atI
  rw [List.length_map]
  cases ixN xs.length i with
  | none => rfl
  | some j => simp
theorem atI_rp {F : Hp} {vs : List V} {ds : List PyData} {i : Int} {d : PyData} (r : RpAll F vs ds) (h : atI ds i = some d) : ∃ v, atI vs i = some v ∧ Rp F v d := by
  unfold atI at h ⊢
  rw [r.len]
  cases e : ixN ds.length i with
  | none =>
    rw [e] at h
    cases h
  | some j =>
    rw [e] at h
    exact r.get h
theorem r2_ix [Dat α] {xs : List α} {i : Int} (h : PArg E Γ K0 cx (ppS E.K (xs.map dat))) : R2J E (rIxL E.K) cx (rV (.int i)) Γ (getI xs i) (fun _ => Γ) fun a => rV (dat a) := fun σ H R Q x y t q => by
  unfold getI at q
  cases e : atI xs i with
  | none =>
    rw [e] at q
    exact (show False from q).elim
  | some a =>
    rw [e] at q
    have q : ∀ v H', Top (sep (base E σ Γ) (sep (vA (dat a) v) R)) H' → Q v H' := q
    have ey := int2 t
    have em : atI (xs.map dat) i = some (dat a) := by rw [atI_map, e]; rfl
    obtain ⟨F, o, s, k, p⟩ := t
    obtain ⟨a0, vs, rfl, hs, r⟩ := h σ x F H o trivial s (Ent.left F H o s (Ent.assoc' F H o s p))
    obtain ⟨v, ev, rv⟩ := atI_rp r em
    refine ⟨a0, vs, i, v, rfl, ey, hs, ev, q v H ⟨F, o, s, k, ?_⟩⟩
    exact ((Ent.assoc'.trans (Ent.sepL Ent.comm)).trans Ent.assoc) F H o s (sep_pers (fun _ => rv) (Ent.sepR (Ent.right.trans Ent.right) F H o s p))
/-- an item of a tuple, its place written -/
theorem r2_ixT {ds : List PyData} {i : Int} (h : atI ds i = some d) : R2P E (rIxT E.K) (rV (.tuple ds)) (rV (.int i)) Γ (rV d) := fun σ H R Q x y t q => by
  have ey := int2 t
  obtain ⟨F, o, s, k, p⟩ := t
  have z : Rp F x (.tuple ds) := by
    obtain ⟨_, _, _, _, _, _, ⟨_, _, _, _, _, z, _⟩⟩ := p
    exact z
  cases z with
  | tup e r =>
    obtain ⟨v, ev, rv⟩ := atI_rp r h
    refine ⟨_, _, i, v, rfl, ey, SqT.of (s _ _ e), ev, q v H ⟨F, o, s, k, ?_⟩⟩
    exact ((Ent.assoc'.trans (Ent.sepL Ent.comm)).trans Ent.assoc) F H o s (sep_pers (fun _ => rv) (Ent.sepR (Ent.right.trans Ent.right) F H o s p))

/-! ### new lists, tuples -/
theorem oA_oV (p : Addr) (ds : List PyData) : Ent (oA p ds) (oV ds (.ref p)) := fun F H o s a => ⟨p, rfl, a⟩
theorem rotE : Ent (sep A (sep B (sep C' R))) (sep A (sep C' (sep B R))) := Ent.sepR ((Ent.assoc'.trans (Ent.sepL Ent.comm)).trans Ent.assoc)
theorem frontE : Ent (sep A (sep B R)) (sep B (sep A R)) := (Ent.assoc'.trans (Ent.sepL Ent.comm)).trans Ent.assoc
theorem newL {σ : St} {p : Addr} {vs : List V} {ds : List PyData} (t : Top (sep (base E σ Γ) R) H) (hp : H p = none) (r : ∀ F o, Same F H → (sep (base E σ Γ) R).P F H o → RpAll F vs ds) : Top (sep (base E σ Γ) (sep (oV ds (.ref p)) R)) (upd H p (.lst vs)) :=
  ((t.alloc hp r).ent (Ent.sepL (oA_oV p ds))).ent ((Ent.assoc'.trans (Ent.sepL Ent.comm)).trans Ent.assoc)
theorem newT {σ : St} {p : Addr} {vs : List V} {ds : List PyData} (t : Top (sep (base E σ Γ) R) H) (hp : H p = none) (r : ∀ F o, Same F H → (sep (base E σ Γ) R).P F H o → RpAll F vs ds) : Top (sep (base E σ Γ) (sep (vA (.tuple ds) (.ref p)) R)) (upd H p (.tup vs)) :=
  (t.allocT hp r).ent ((Ent.assoc'.trans (Ent.sepL Ent.comm)).trans Ent.assoc)
theorem frozen_args {σ : St} {cs : List RC} {ds : List PyData} {vs : List V} (f : FzAll cs ds) (t : Top (sep (base E σ Γ) (sep (csA cs σ vs) R)) H) : Top (sep (base E σ Γ) (sep (vAs ds vs) R)) H :=
  (f.top (t.ent ((Ent.assoc'.trans (Ent.sepL Ent.comm)).trans Ent.assoc))).ent ((Ent.assoc'.trans (Ent.sepL Ent.comm)).trans Ent.assoc)
theorem evp_lst {tr : TA} {cs : List RC} {ds : List PyData} (h : EvAP E tr Γ cs) (f : FzAll cs ds) (hl : ds.length ≤ 1000 := by exact Nat.le_of_ble_eq_true rfl) : EvP E (tLst tr) Γ (rO ds) := fun σ H R Q t q =>
  h σ H R _ t fun vs H1 t1 => by
    have t2 := frozen_args f t1
    have rv : ∀ F o, Same F H1 → (sep (base E σ Γ) (sep (vAs ds vs) R)).P F H1 o → RpAll F vs ds := fun F o s ⟨_, _, _, _, _, _, ⟨_, _, _, _, _, z, _⟩⟩ => z
    have ln : vs.length = ds.length := t2.fact fun F o s a => (rv F o s a).len
    refine ⟨by rw [ln]; exact Nat.le_trans hl (by decide), fun p hp => q _ _ ((newL t2 hp rv).ent (Ent.sepR (Ent.sepR Ent.right)))⟩
theorem ev_lst {tr : TA} {ma : Res α} {Γ1 : α → List Cell} {cs : α → List RC} {ds : α → List PyData} (h : EvA E tr Γ ma Γ1 cs) (f : ∀ a, FzAll (cs a) (ds a)) (hl : ∀ a, (ds a).length ≤ 1000 := by exact fun _ => Nat.le_of_ble_eq_true rfl) : EvJ E (tLst tr) Γ ma Γ1 fun a => rO (ds a) := fun σ H R Q t q =>
  h σ H R _ t (wp_mono q (fun a _ q vs H1 t1 => by
    have t2 := frozen_args (f a) t1
    have rv : ∀ F o, Same F H1 → (sep (base E σ (Γ1 a)) (sep (vAs (ds a) vs) R)).P F H1 o → RpAll F vs (ds a) := fun F o s ⟨_, _, _, _, _, _, ⟨_, _, _, _, _, z, _⟩⟩ => z
    have ln : vs.length = (ds a).length := t2.fact fun F o s a => (rv F o s a).len
    refine ⟨by rw [ln]; exact Nat.le_trans (hl a) (by decide), fun p hp => q _ _ ((newL t2 hp rv).ent (Ent.sepR (Ent.sepR Ent.right)))⟩) fun _ x => x)
theorem evp_tup {tr : TA} {cs : List RC} {ds : List PyData} (h : EvAP E tr Γ cs) (f : FzAll cs ds) (hl : ds.length ≤ 1000 := by exact Nat.le_of_ble_eq_true rfl) : EvP E (tTup tr) Γ (rV (.tuple ds)) := fun σ H R Q t q =>
  h σ H R _ t fun vs H1 t1 => by
    have t2 := frozen_args f t1
    have rv : ∀ F o, Same F H1 → (sep (base E σ Γ) (sep (vAs ds vs) R)).P F H1 o → RpAll F vs ds := fun F o s ⟨_, _, _, _, _, _, ⟨_, _, _, _, _, z, _⟩⟩ => z
    have ln : vs.length = ds.length := t2.fact fun F o s a => (rv F o s a).len
    refine ⟨by rw [ln]; exact Nat.le_trans hl (by decide), fun p hp => q _ _ ((newT t2 hp rv).ent (Ent.sepR (Ent.sepR Ent.right)))⟩
theorem ev_tup {tr : TA} {ma : Res α} {Γ1 : α → List Cell} {cs : α → List RC} {ds : α → List PyData} (h : EvA E tr Γ ma Γ1 cs) (f : ∀ a, FzAll (cs a) (ds a)) (hl : ∀ a, (ds a).length ≤ 1000 := by exact fun _ => Nat.le_of_ble_eq_true rfl) : EvJ E (tTup tr) Γ ma Γ1 fun a => rV (.tuple (ds a)) := fun σ H R Q t q =>
  h σ H R _ t (wp_mono q (fun a _ q vs H1 t1 => by
    have t2 := frozen_args (f a) t1
    have rv : ∀ F o, Same F H1 → (sep (base E σ (Γ1 a)) (sep (vAs (ds a) vs) R)).P F H1 o → RpAll F vs (ds a) := fun F o s ⟨_, _, _, _, _, _, ⟨_, _, _, _, _, z, _⟩⟩ => z
    have ln : vs.length = (ds a).length := t2.fact fun F o s a => (rv F o s a).len
    refine ⟨by rw [ln]; exact Nat.le_trans (hl a) (by decide), fun p hp => q _ _ ((newT t2 hp rv).ent (Ent.sepR (Ent.sepR Ent.right)))⟩) fun _ x => x)

/-! ### slices -/
def EvO (E : Ec) (t : TO) (Γ : List Cell) {α : Type} (m : Res α) (Γ' : α → List Cell) (o : α → Option Int) : Prop :=
  ∀ (σ : St) (H : Hp) (R : Asr) (Q : Option Int → Hp → Prop), Top (sep (base E σ Γ) R) H → m.wp (fun a => ∀ H', Top (sep (base E σ (Γ' a)) R) H' → Q (o a) H') (Exn E R σ) → t σ H Q
abbrev EvOP (E : Ec) (t : TO) (Γ : List Cell) (o : Option Int) : Prop := EvO E t Γ (.ok ()) (fun _ => Γ) fun _ => o
theorem eo_no : EvOP E tNoPart Γ none := fun σ H R Q t q => q H t
theorem eop {te : TE} {i : Int} (h : EvP E te Γ (rV (.int i))) : EvOP E (tPart te) Γ (some i) := fun σ H R Q t q => h σ H R _ t fun v H1 t1 => ⟨i, int1 t1, q H1 (t1.ent (Ent.sepR Ent.right))⟩
theorem eo {te : TE} {m : Res Int} {Γ' : Int → List Cell} (h : EvJ E te Γ m Γ' fun a => rV (.int a)) : EvO E (tPart te) Γ m Γ' some := fun σ H R Q t q =>
  h σ H R _ t (wp_mono q (fun a _ q v H1 t1 => ⟨a, int1 t1, q H1 (t1.ent (Ent.sepR Ent.right))⟩) fun _ x => x)
theorem eo_pure {a : α} {to : TO} {o : α → Option Int} (h : EvOP E to Γ (o a)) : EvO E to Γ (.ok a) (fun _ => Γ) o := fun σ H R Q t q => h σ H R Q t q
/-- xs[lo:hi] -/
def cutL {α : Type} (xs : List α) (lo hi : Option Int) : List α := (xs.drop (HT.sIx xs.length 0 lo)).take (HT.sIx xs.length xs.length hi - HT.sIx xs.length 0 lo)
theorem cutL_map (f : α → β) (xs : List α) (lo hi : Option Int) : (cutL xs lo hi).map f = cutL (xs.map f) lo hi := by
  unfold cutL
  rw [List.length_map, List.map_take, List.map_drop]
theorem cut_rp {F : Hp} {vs : List V} {ds : List PyData} (lo hi : Option Int) (r : RpAll F vs ds) : RpAll F (cutV vs lo hi) (cutL ds lo hi) := by
  unfold cutV cutL
  rw [r.len]
  exact (r.drop _).take _
def RslJ (E : Ec) (r : V → Option Int → Option Int → Hp → VK → Prop) (cx : RC) (lo hi : Option Int) (Γ : List Cell) {α : Type} (m : Res α) (c : α → RC) : Prop :=
  ∀ (σ : St) (H : Hp) (R : Asr) (Q : VK) (x : V), Top (sep (base E σ Γ) (sep (cx σ x) R)) H → m.wp (fun a => ∀ v H', Top (sep (base E σ Γ) (sep (c a σ v) R)) H' → Q v H') (Exn E R σ) → r x lo hi H Q
theorem evp_sl {te : TE} {tl th : TO} {r : V → Option Int → Option Int → Hp → VK → Prop} {lo hi : Option Int} {m : Res γ} {c : γ → RC} (h : EvP E te Γ cx) (h1 : EvOP E tl Γ lo) (h2 : EvOP E th Γ hi) (hr : RslJ E r cx lo hi Γ m c) :
    EvJ E (tSl r te tl th) Γ m (fun _ => Γ) c := fun σ H R Q t q =>
  h σ H R _ t fun x H1 t1 => h1 σ H1 _ _ t1 fun H2 t2 => h2 σ H2 _ _ t2 fun H3 t3 => hr σ H3 R Q x t3 q
/-- the parts compute; base a slot or a datum -/
theorem ev_sl {te : TE} {tl th : TO} {r : V → Option Int → Option Int → Hp → VK → Prop} {m0 : Res δ} {ca : δ → RC} {ml : δ → Res α} {mh : δ → α → Res β} {lo : α → Option Int} {hi : β → Option Int} {Γ0 : δ → List Cell} {Γ1 : δ → α → List Cell} {Γ2 : δ → α → β → List Cell} {k : δ → α → β → Res γ} {c : γ → RC} {Γ' : γ → List Cell}
    (h : EvJ E te Γ m0 Γ0 ca) (h1 : ∀ d, EvO E tl (Γ0 d) (ml d) (Γ1 d) lo) (h2 : ∀ d a, EvO E th (Γ1 d a) (mh d a) (Γ2 d a) hi)
    (hr : ∀ d a b (σ : St) (H : Hp) (R : Asr) (Q : VK) (x : V), Top (sep (base E σ (Γ2 d a b)) (sep (ca d σ x) R)) H → (k d a b).wp (fun g => ∀ v H', Top (sep (base E σ (Γ' g)) (sep (c g σ v) R)) H' → Q v H') (Exn E R σ) → r x (lo a) (hi b) H Q) :
    EvJ E (tSl r te tl th) Γ (m0.bind fun d => (ml d).bind fun a => (mh d a).bind fun b => k d a b) Γ' c := fun σ H R Q t q =>
  h σ H R _ t (wp_mono (wp_bind.mp q) (fun d _ q x H1 t1 => h1 d σ H1 (sep (ca d σ x) R) _ t1 (wp_mono (wp_bind.mp q) (fun a _ q H2 t2 => h2 d a σ H2 (sep (ca d σ x) R) _ t2 (wp_mono (wp_bind.mp q) (fun b _ q H3 t3 => hr d a b σ H3 R Q x t3 q) fun _ z => z.drop)) fun _ z => z.drop)) fun _ z => z)
theorem addAs {σ : St} {F : Hp} {o : Addr → Prop} {vs : List V} {ds : List PyData} (s : Same F H) (k : ∀ p, o p → F p = none ∧ H p ≠ none) (p : (sep (base E σ Γ) R).P F H o) (r : RpAll F vs ds) : Top (sep (base E σ Γ) (sep (vAs ds vs) R)) H :=
  ⟨F, o, s, k, ((Ent.assoc'.trans (Ent.sepL Ent.comm)).trans Ent.assoc) F H o s (sep_pers (fun _ => r) p)⟩
theorem as_of {σ : St} {vs : List V} {ds : List PyData} : ∀ F o, Same F H → (sep (base E σ Γ) (sep (vAs ds vs) R)).P F H o → RpAll F vs ds := fun F o s ⟨_, _, _, _, _, _, ⟨_, _, _, _, _, z, _⟩⟩ => z
theorem readS {σ : St} {ds : List PyData} (h : PArg E Γ K0 cx (ppS E.K ds)) (t : Top (sep (base E σ Γ) (sep (cx σ x) R)) H) : ∃ a vs, x = .ref a ∧ SqL E.K H a vs ∧ vs.length = ds.length ∧ Top (sep (base E σ Γ) (sep (vAs ds vs) (sep (cx σ x) R))) H := by
  obtain ⟨F, o, s, k, p⟩ := t
  obtain ⟨a, vs, e, hs, r⟩ := h σ x F H o trivial s (Ent.left F H o s (Ent.assoc' F H o s p))
  exact ⟨a, vs, e, hs, r.len, addAs s k p r⟩
theorem readL {σ : St} {ds : List PyData} (h : PArg E Γ K0 cx (ppL ds)) (t : Top (sep (base E σ Γ) (sep (cx σ x) R)) H) : ∃ a vs, x = .ref a ∧ H a = some (.lst vs) ∧ vs.length = ds.length ∧ Top (sep (base E σ Γ) (sep (vAs ds vs) (sep (cx σ x) R))) H := by
  obtain ⟨F, o, s, k, p⟩ := t
  obtain ⟨a, vs, e, hs, r⟩ := h σ x F H o trivial s (Ent.left F H o s (Ent.assoc' F H o s p))
  exact ⟨a, vs, e, hs, r.len, addAs s k p r⟩
theorem rsl_list [Dat α] {xs : List α} {lo hi : Option Int} (h : PArg E Γ K0 cx (ppS E.K (xs.map dat))) : RslJ E (rSlL E.K) cx lo hi Γ (.ok ()) fun _ => rO ((cutL xs lo hi).map dat) := fun σ H R Q x t q => by
  obtain ⟨a, vs, rfl, hs, ln, t2⟩ := readS h t
  refine ⟨a, vs, rfl, hs, fun p hp => q _ _ ((newL t2 hp fun F' o s' z => ?_).ent (Ent.sepR (Ent.sepR (Ent.right.trans Ent.right))))⟩
  rw [cutL_map]
  exact cut_rp lo hi (as_of F' o s' z)

/-! ### lists: +, * -/
def lim : Nat := 16000000
theorem lim_le {n : Nat} (h : n ≤ lim) : n ≤ sizeLine := Nat.le_trans h (by decide)
theorem lim_lt {n : Nat} (h : n < lim) : n < sizeLine := Nat.lt_of_lt_of_le h (by decide)
def catR {α : Type} (xs ys : List α) : Res (List α) := need (xs.length + ys.length ≤ lim) (.ok (xs ++ ys))
theorem r2_cat [Dat α] {xs ys : List α} (h1 : PArg E Γ K0 cx (ppL (xs.map dat))) (h2 : PArg E Γ K0 cy (ppL (ys.map dat))) : R2J E rCat cx cy Γ (catR xs ys) (fun _ => Γ) fun zs => rO (zs.map dat) := fun σ H R Q x y t q => by
  obtain ⟨hn, q⟩ := wp_need q
  obtain ⟨F, o, s, k, p⟩ := t
  obtain ⟨a, vs, rfl, ea, ra⟩ := h1 σ x F H o trivial s (Ent.left F H o s (Ent.assoc' F H o s p))
  obtain ⟨b, ws, rfl, eb, rb⟩ := h2 σ y F H o trivial s (Ent.left F H o s (Ent.assoc' F H o s (rotE F H o s p)))
  have la := ra.len
  have lb := rb.len
  rw [List.length_map] at la lb
  have t2 := addAs s k p (ra.append rb)
  refine ⟨a, b, vs, ws, rfl, rfl, ea, eb, by rw [la, lb]; exact lim_le hn, fun l hl => q _ _ ((newL t2 hl fun F' o s' z => ?_).ent (Ent.sepR (Ent.sepR (Ent.right.trans (Ent.right.trans Ent.right)))))⟩
  rw [List.map_append]
  exact as_of F' o s' z
def repR {α : Type} (xs : List α) (k : Int) : Res (List α) := need (-(2 ^ 63) ≤ k ∧ k < 2 ^ 63 ∧ xs.length * k.toNat ≤ lim) (.ok (List.replicate k.toNat xs).flatten)
theorem rep_rp {F : Hp} {vs : List V} {ds : List PyData} (r : RpAll F vs ds) : ∀ n : Nat, RpAll F (List.replicate n vs).flatten (List.replicate n ds).flatten
  | 0 => .nil
  | n + 1 => by
    rw [List.replicate_succ, List.replicate_succ, List.flatten_cons, List.flatten_cons]
    exact r.append (rep_rp r n)
theorem map_rep (f : α → β) (xs : List α) : ∀ n : Nat, (List.replicate n xs).flatten.map f = (List.replicate n (xs.map f)).flatten
  | 0 => rfl
  | n + 1 => by rw [List.replicate_succ, List.replicate_succ, List.flatten_cons, List.flatten_cons, List.map_append, map_rep f xs n]
theorem r2_rep [Dat α] {xs : List α} {k : Int} (h1 : PArg E Γ K0 cx (ppL (xs.map dat))) : R2J E rRep cx (rV (.int k)) Γ (repR xs k) (fun _ => Γ) fun zs => rO (zs.map dat) := fun σ H R Q x y t q => by
  obtain ⟨⟨k1, k2, hn⟩, q⟩ := wp_need q
  have ey := int2 t
  obtain ⟨F, o, s, kk, p⟩ := t
  obtain ⟨a, vs, rfl, ea, ra⟩ := h1 σ x F H o trivial s (Ent.left F H o s (Ent.assoc' F H o s p))
  have la := ra.len
  rw [List.length_map] at la
  have t2 := addAs s kk p (rep_rp ra k.toNat)
  refine ⟨a, k, vs, rfl, ey, ea, k1, k2, by rw [la]; exact lim_le hn, fun l hl => q _ _ ((newL t2 hl fun F' o s' z => ?_).ent (Ent.sepR (Ent.sepR (Ent.right.trans (Ent.right.trans Ent.right)))))⟩
  rw [map_rep]
  exact as_of F' o s' z

/-! ### built-ins over one value -/
/-- the cells of one argument -/
theorem one_arg {σ : St} {vs : List V} (t : Top (sep A (sep (csA [cx] σ vs) R)) H) : ∃ x, vs = [x] ∧ Top (sep A (sep (cx σ x) R)) H := by
  cases vs with
  | nil => exact (t.fact (φ := False) fun _ _ _ ⟨_, _, _, _, _, _, ⟨_, _, _, _, _, a, _⟩⟩ => a).elim
  | cons x r =>
    cases r with
    | nil => exact ⟨x, rfl, t.ent (Ent.sepR (Ent.sepL Ent.left))⟩
    | cons y r => exact (t.fact (φ := False) fun _ _ _ ⟨_, _, _, _, _, _, ⟨_, _, _, _, _, ⟨_, _, _, _, _, _, a⟩, _⟩⟩ => a).elim
theorem two_args {σ : St} {vs : List V} (t : Top (sep A (sep (csA [cx, cy] σ vs) R)) H) : ∃ x y, vs = [x, y] ∧ Top (sep A (sep (cx σ x) (sep (cy σ y) R))) H := by
  cases vs with
  | nil => exact (t.fact (φ := False) fun _ _ _ ⟨_, _, _, _, _, _, ⟨_, _, _, _, _, a, _⟩⟩ => a).elim
  | cons x r =>
    have t' : Top (sep (sep A (cx σ x)) (sep (csA [cy] σ r) R)) H := t.ent ((Ent.sepR Ent.assoc).trans Ent.assoc')
    obtain ⟨y, rfl, t2⟩ := one_arg t'
    exact ⟨x, y, rfl, t2.ent Ent.assoc⟩
def rLen (K : PySem.W.Frag) : List V → Hp → VK → Prop := fun xs H Q => ∃ p ys, xs = [.ref p] ∧ (SqL K H p ys ∨ SqT K H p ys) ∧ Q (.int ys.length) H
theorem rn_len [Dat α] {xs : List α} (h : PArg E Γ K0 cx (ppS E.K (xs.map dat))) : RnP E (rLen E.K) [cx] Γ (rV (.int xs.length)) := fun σ H R Q vs t q => by
  obtain ⟨x, rfl, t1⟩ := one_arg t
  obtain ⟨a, ws, rfl, hs, ln, t2⟩ := readS h t1
  rw [List.length_map] at ln
  exact ⟨a, ws, rfl, .inl hs, q _ H (res1 t1 fun F => by rw [ln]; exact .int _)⟩
theorem rn_lenT {ds : List PyData} : RnP E (rLen E.K) [rV (.tuple ds)] Γ (rV (.int ds.length)) := fun σ H R Q vs t q => by
  obtain ⟨x, rfl, t1⟩ := one_arg t
  obtain ⟨F, s, z⟩ := top1 t1
  cases z with
  | tup e r => exact ⟨_, _, rfl, .inr (SqT.of (s _ _ e)), q _ H (res1 t1 fun F => by rw [r.len]; exact .int _)⟩
/-- list(xs) -/
def rLs (K : PySem.W.Frag) : List V → Hp → VK → Prop := fun xs H Q => ∃ p ys, xs = [.ref p] ∧ (SqL K H p ys ∨ SqT K H p ys) ∧ ∀ l, H l = none → Q (.ref l) (upd H l (.lst ys))
theorem rn_list {ds : List PyData} (h : PArg E Γ K0 cx (ppS E.K ds)) : RnP E (rLs E.K) [cx] Γ (rO ds) := fun σ H R Q vs t q => by
  obtain ⟨x, rfl, t1⟩ := one_arg t
  obtain ⟨a, ws, rfl, hs, ln, t2⟩ := readS h t1
  exact ⟨a, ws, rfl, .inl hs, fun l hl => q _ _ ((newL t2 hl as_of).ent (Ent.sepR (Ent.sepR (Ent.right.trans Ent.right))))⟩
theorem rn_listT {ds : List PyData} : RnP E (rLs E.K) [rV (.tuple ds)] Γ (rO ds) := fun σ H R Q vs t q => by
  obtain ⟨x, rfl, t1⟩ := one_arg t
  obtain ⟨F, o, s, k, p⟩ := t1
  have z : Rp F x (.tuple ds) := by
    obtain ⟨_, _, _, _, _, _, ⟨_, _, _, _, _, z, _⟩⟩ := p
    exact z
  cases z with
  | tup e r => exact ⟨_, _, rfl, .inr (SqT.of (s _ _ e)), fun l hl => q _ _ ((newL (addAs s k p r) hl as_of).ent (Ent.sepR (Ent.sepR (Ent.right.trans Ent.right))))⟩
/-- tuple(xs) -/
def rTu (K : PySem.W.Frag) : List V → Hp → VK → Prop := fun xs H Q => ∃ p ys, xs = [.ref p] ∧ ((SqL K H p ys ∧ ∀ l, H l = none → Q (.ref l) (upd H l (.tup ys))) ∨ (SqT K H p ys ∧ Q (.ref p) H))
theorem rn_tuple {ds : List PyData} (h : PArg E Γ K0 cx (ppS E.K ds)) : RnP E (rTu E.K) [cx] Γ (rV (.tuple ds)) := fun σ H R Q vs t q => by
  obtain ⟨x, rfl, t1⟩ := one_arg t
  obtain ⟨a, ws, rfl, hs, ln, t2⟩ := readS h t1
  exact ⟨a, ws, rfl, .inl ⟨hs, fun l hl => q _ _ ((newT t2 hl as_of).ent (Ent.sepR (Ent.sepR (Ent.right.trans Ent.right))))⟩⟩
theorem rn_tupleT {ds : List PyData} : RnP E (rTu E.K) [rV (.tuple ds)] Γ (rV (.tuple ds)) := fun σ H R Q vs t q => by
  obtain ⟨x, rfl, t1⟩ := one_arg t
  obtain ⟨F, s, z⟩ := top1 t1
  cases z with
  | tup e r => exact ⟨_, _, rfl, .inr ⟨SqT.of (s _ _ e), q _ H t1⟩⟩
theorem map_int (ns : List Int) : ns.map (dat : Int → PyData) = ns.map PyData.int := rfl
theorem map_bool (ns : List Bool) : ns.map (dat : Bool → PyData) = ns.map PyData.bool := rfl
theorem ints_of {σ : St} {ns : List Int} (h : PArg E Γ K0 cx (ppS E.K (ns.map dat))) (t : Top (sep (base E σ Γ) (sep (cx σ x) R)) H) : ∃ a, x = .ref a ∧ SqL E.K H a (ns.map V.int) := by
  obtain ⟨a, ws, e, hs, ln, t2⟩ := readS h t
  have e2 : ws = ns.map V.int := t2.fact fun F o s z => (as_of F o s z).ints
  exact ⟨a, e, e2 ▸ hs⟩
theorem bools_of {σ : St} {ns : List Bool} (h : PArg E Γ K0 cx (ppS E.K (ns.map dat))) (t : Top (sep (base E σ Γ) (sep (cx σ x) R)) H) : ∃ a, x = .ref a ∧ SqL E.K H a (ns.map V.bl) := by
  obtain ⟨a, ws, e, hs, ln, t2⟩ := readS h t
  have e2 : ws = ns.map V.bl := t2.fact fun F o s z => (as_of F o s z).bools
  exact ⟨a, e, e2 ▸ hs⟩
theorem rn_sum {ns : List Int} (h : PArg E Γ K0 cx (ppS E.K (ns.map dat))) : RnP E (rSum E.K) [cx] Γ (rV (.int ns.sum)) := fun σ H R Q vs t q => by
  obtain ⟨x, rfl, t1⟩ := one_arg t
  obtain ⟨a, rfl, hs⟩ := ints_of h t1
  exact ⟨a, ns, rfl, hs, q _ H (res1 t1 fun F => .int _)⟩
theorem rn_all {ns : List Bool} (h : PArg E Γ K0 cx (ppS E.K (ns.map dat))) : RnP E (rAll E.K) [cx] Γ (rV (.bool (ns.all id))) := fun σ H R Q vs t q => by
  obtain ⟨x, rfl, t1⟩ := one_arg t
  obtain ⟨a, rfl, hs⟩ := bools_of h t1
  exact ⟨a, ns, rfl, hs, q _ H (res1 t1 fun F => .bl _)⟩
theorem rn_any {ns : List Bool} (h : PArg E Γ K0 cx (ppS E.K (ns.map dat))) : RnP E (rAny E.K) [cx] Γ (rV (.bool (ns.any id))) := fun σ H R Q vs t q => by
  obtain ⟨x, rfl, t1⟩ := one_arg t
  obtain ⟨a, rfl, hs⟩ := bools_of h t1
  exact ⟨a, ns, rfl, hs, q _ H (res1 t1 fun F => .bl _)⟩
/-- the least, the greatest -/
def minL : List Int → Int
  | [] => 0
  | a :: l => l.foldl min a
def maxL : List Int → Int
  | [] => 0
  | a :: l => l.foldl max a
theorem foldl_min_le : ∀ (l : List Int) (a : Int), l.foldl min a ≤ a ∧ ∀ y ∈ l, l.foldl min a ≤ y
  | [], a => ⟨Int.le_refl _, fun y h => by cases h⟩
  | b :: l, a => by
    obtain ⟨h1, h2⟩ := foldl_min_le l (min a b)
    refine ⟨?_, fun y hy => ?_⟩
    · show l.foldl min (min a b) ≤ a
      omega
    · rcases List.mem_cons.mp hy with e | hy
      · subst e
        show l.foldl min (min a y) ≤ y
        omega
      · exact h2 y hy
theorem foldl_min_mem : ∀ (l : List Int) (a : Int), l.foldl min a = a ∨ l.foldl min a ∈ l
  | [], a => .inl rfl
  | b :: l, a => by
    show l.foldl min (min a b) = a ∨ l.foldl min (min a b) ∈ b :: l
    rcases foldl_min_mem l (min a b) with h | h
    · rw [h]
      rcases Int.le_total a b with e | e
      · exact .inl (Int.min_eq_left e)
      · exact .inr (by rw [Int.min_eq_right e]; exact List.mem_cons_self)
    · exact .inr (List.mem_cons_of_mem _ h)
theorem foldl_max_ge : ∀ (l : List Int) (a : Int), a ≤ l.foldl max a ∧ ∀ y ∈ l, y ≤ l.foldl max a
  | [], a => ⟨Int.le_refl _, fun y h => by cases h⟩
  | b :: l, a => by
    obtain ⟨h1, h2⟩ := foldl_max_ge l (max a b)
    refine ⟨?_, fun y hy => ?_⟩
    · show a ≤ l.foldl max (max a b)
      omega
    · rcases List.mem_cons.mp hy with e | hy
      · subst e
        show y ≤ l.foldl max (max a y)
        omega
      · exact h2 y hy
theorem foldl_max_mem : ∀ (l : List Int) (a : Int), l.foldl max a = a ∨ l.foldl max a ∈ l
  | [], a => .inl rfl
  | b :: l, a => by
    show l.foldl max (max a b) = a ∨ l.foldl max (max a b) ∈ b :: l
    rcases foldl_max_mem l (max a b) with h | h
    · rw [h]
      rcases Int.le_total a b with e | e
      · exact .inr (by rw [Int.max_eq_right e]; exact List.mem_cons_self)
      · exact .inl (Int.max_eq_left e)
    · exact .inr (List.mem_cons_of_mem _ h)
theorem minL_mem {l : List Int} (h : l ≠ []) : minL l ∈ l := by
  cases l with
  | nil => exact (h rfl).elim
  | cons a l =>
    rcases foldl_min_mem l a with e | e
    · show l.foldl min a ∈ a :: l
      rw [e]
      exact List.mem_cons_self
    · exact List.mem_cons_of_mem _ e
theorem minL_le {l : List Int} {y : Int} (h : y ∈ l) : minL l ≤ y := by
  cases l with
  | nil => cases h
  | cons a l =>
    obtain ⟨h1, h2⟩ := foldl_min_le l a
    rcases List.mem_cons.mp h with e | h
    · rw [e]
      exact h1
    · exact h2 y h
theorem maxL_mem {l : List Int} (h : l ≠ []) : maxL l ∈ l := by
  cases l with
  | nil => exact (h rfl).elim
  | cons a l =>
    rcases foldl_max_mem l a with e | e
    · show l.foldl max a ∈ a :: l
      rw [e]
      exact List.mem_cons_self
    · exact List.mem_cons_of_mem _ e
theorem le_maxL {l : List Int} {y : Int} (h : y ∈ l) : y ≤ maxL l := by
  cases l with
  | nil => cases h
  | cons a l =>
    obtain ⟨h1, h2⟩ := foldl_max_ge l a
    rcases List.mem_cons.mp h with e | h
    · rw [e]
      exact h1
    · exact h2 y h
def minR (l : List Int) : Res Int := need (l ≠ []) (.ok (minL l))
def maxR (l : List Int) : Res Int := need (l ≠ []) (.ok (maxL l))
theorem rn_min {ns : List Int} (h : PArg E Γ K0 cx (ppS E.K (ns.map dat))) : RnJ E (rMin E.K) [cx] Γ (minR ns) (fun _ => Γ) fun a => rV (.int a) := fun σ H R Q vs t q => by
  obtain ⟨hn, q⟩ := wp_need q
  obtain ⟨x, rfl, t1⟩ := one_arg t
  obtain ⟨a, rfl, hs⟩ := ints_of h t1
  refine ⟨a, ns, rfl, hs, List.length_pos_iff.mpr hn, fun m hm hl => ?_⟩
  have e : m = minL ns := Int.le_antisymm (hl _ (minL_mem hn)) (minL_le hm)
  rw [e]
  exact q _ H (res1 t1 fun F => .int _)
theorem rn_max {ns : List Int} (h : PArg E Γ K0 cx (ppS E.K (ns.map dat))) : RnJ E (rMax E.K) [cx] Γ (maxR ns) (fun _ => Γ) fun a => rV (.int a) := fun σ H R Q vs t q => by
  obtain ⟨hn, q⟩ := wp_need q
  obtain ⟨x, rfl, t1⟩ := one_arg t
  obtain ⟨a, rfl, hs⟩ := ints_of h t1
  refine ⟨a, ns, rfl, hs, List.length_pos_iff.mpr hn, fun m hm hl => ?_⟩
  have e : m = maxL ns := Int.le_antisymm (le_maxL hm) (hl _ (maxL_mem hn))
  rw [e]
  exact q _ H (res1 t1 fun F => .int _)
def rMin2 : List V → Hp → VK → Prop := fun xs H Q => ∃ i j, xs = [.int i, .int j] ∧ Q (.int (if j < i then j else i)) H
def rMax2 : List V → Hp → VK → Prop := fun xs H Q => ∃ i j, xs = [.int i, .int j] ∧ Q (.int (if j > i then j else i)) H
theorem rn_min2 {i j : Int} : RnP E rMin2 [rV (.int i), rV (.int j)] Γ (rV (.int (min i j))) := fun σ H R Q vs t q => by
  obtain ⟨x, y, rfl, t1⟩ := two_args t
  have e1 := int1 t1
  have e2 := int2 t1
  subst e1
  subst e2
  refine ⟨i, j, rfl, q _ H (res2 t1 fun F => ?_)⟩
  have e : (if j < i then j else i) = min i j := by split <;> omega
  rw [e]
  exact .int _
theorem rn_max2 {i j : Int} : RnP E rMax2 [rV (.int i), rV (.int j)] Γ (rV (.int (max i j))) := fun σ H R Q vs t q => by
  obtain ⟨x, y, rfl, t1⟩ := two_args t
  have e1 := int1 t1
  have e2 := int2 t1
  subst e1
  subst e2
  refine ⟨i, j, rfl, q _ H (res2 t1 fun F => ?_)⟩
  have e : (if j > i then j else i) = max i j := by split <;> omega
  rw [e]
  exact .int _
def rInt1 : List V → Hp → VK → Prop := fun xs H Q => (∃ i, xs = [.int i] ∧ Q (.int i) H) ∨ ∃ k, xs = [.bl k] ∧ Q (.int (if k then 1 else 0)) H
theorem rn_intI {i : Int} : RnP E rInt1 [rV (.int i)] Γ (rV (.int i)) := fun σ H R Q vs t q => by
  obtain ⟨x, rfl, t1⟩ := one_arg t
  have e1 := int1 t1
  subst e1
  exact .inl ⟨i, rfl, q _ H t1⟩
def b2i' (b : Bool) : Int := if b then 1 else 0
theorem rn_intB {b : Bool} : RnP E rInt1 [rV (.bool b)] Γ (rV (.int (b2i' b))) := fun σ H R Q vs t q => by
  obtain ⟨x, rfl, t1⟩ := one_arg t
  have e1 := bl_of t1
  subst e1
  exact .inr ⟨b, rfl, q _ H (res1 t1 fun F => .int _)⟩
/-- is None -/
def rIsN' : R2 := fun x y H Q => y = .non ∧ Q (.bl (decide (x = .non))) H
def rNotN' : R2 := fun x y H Q => y = .non ∧ Q (.bl (!decide (x = .non))) H
def isNone : PyData → Bool
  | .none => true
  | _ => false
theorem non_of {F : Hp} {d : PyData} (h : Rp F x d) : decide (x = .non) = isNone d := by cases h <;> rfl
theorem r2_isN {d : PyData} : R2P E rIsN' (rV d) (rV .none) Γ (rV (.bool (isNone d))) := fun σ H R Q x y t q => by
  obtain ⟨F, _, z⟩ := top1 t
  obtain ⟨_, _, z2⟩ := top1 (t.ent Ent.assoc')
  exact ⟨by cases z2; rfl, q _ H (res2 t fun F => by rw [non_of z]; exact .bl _)⟩
theorem r2_notN {d : PyData} : R2P E rNotN' (rV d) (rV .none) Γ (rV (.bool (!isNone d))) := fun σ H R Q x y t q => by
  obtain ⟨F, _, z⟩ := top1 t
  obtain ⟨_, _, z2⟩ := top1 (t.ent Ent.assoc')
  exact ⟨by cases z2; rfl, q _ H (res2 t fun F => by rw [non_of z]; exact .bl _)⟩
/-- isinstance of data -/
def tyName : PyData → String
  | .none => "NoneType"
  | .bool _ => "bool"
  | .int _ => "int"
  | .str _ => "str"
  | .list _ => "list"
  | .tuple _ => "tuple"
  | .dict _ => "dict"
theorem ty_of {F : Hp} {K : PySem.W.Frag} {d : PyData} (s : Same F H) (h : Rp F x d) : TyX K H x (.type (tyName d)) := by
  cases h with
  | non => exact .base .non
  | bl b => exact .base (.bl b)
  | int i => exact .base (.int i)
  | str x => exact .base (.str x)
  | lst e r => exact .base (.lst (s _ _ e))
  | tup e r => exact .base (.tup (s _ _ e))
/-- isinstance(x, T): the answer by the two types' names -/
theorem rn_isi {d : PyData} {n : String} {b : Bool} (hk : PySem.W.kitOne E.K (.type (tyName d)) (.type n) = some b) : RnP E (rIsi E.K) [rV d, fun _ v => pur (v = .ty n)] Γ (rV (.bool b)) := fun σ H R Q vs t q => by
  obtain ⟨x, y, rfl, t1⟩ := two_args t
  obtain ⟨F, s, z⟩ := top1 t1
  have ey : y = .ty n := t1.fact fun F o s ⟨_, _, _, _, _, _, ⟨_, _, _, _, _, _, ⟨_, _, _, _, _, e, _⟩⟩⟩ => e
  subst ey
  exact ⟨x, .ty n, .type (tyName d), .type n, b, rfl, .ty n, ty_of s z, hk, q _ H (res2 t1 fun F => .bl _)⟩
theorem rn_isiL {ds : List PyData} {n : String} {b : Bool} (h : PArg E Γ K0 cx (ppL ds)) (hk : PySem.W.kitOne E.K (.type "list") (.type n) = some b) : RnP E (rIsi E.K) [cx, fun _ v => pur (v = .ty n)] Γ (rV (.bool b)) := fun σ H R Q vs t q => by
  obtain ⟨x, y, rfl, t1⟩ := two_args t
  obtain ⟨a, ws, rfl, e, _, _⟩ := readL h t1
  have ey : y = .ty n := t1.fact fun F o s ⟨_, _, _, _, _, _, ⟨_, _, _, _, _, _, ⟨_, _, _, _, _, e, _⟩⟩⟩ => e
  subst ey
  exact ⟨_, .ty n, .type "list", .type n, b, rfl, .ty n, .base (.lst e), hk, q _ H (res2 t1 fun F => .bl _)⟩
theorem ev_ty {n : String} : EvP E (tC (.ty n)) Γ fun _ v => pur (v = .ty n) := fun σ H R Q t q => q _ H ((t.addP rfl).ent ((Ent.assoc'.trans (Ent.sepL Ent.comm)).trans Ent.assoc))
end
end Lc
/-! Lc: lists changed in place, loops, comprehensions -/
namespace Lc
open PySem L2
section
variable {E : Ec} {Γ : List Cell} {A B C' R : Asr} {H : Hp} {x y v : V} {d : PyData} {cx cy : RC} {α β γ ρ δ τ : Type} {te ti : TE} {mk : List PyData → Cell} {i : Nat}
open Res

/-! ### lists of a slot, changed -/
/-- slot i's list is written: what is to be shown of the list's new items -/
theorem own_write {ds es : List PyData} {σ : St} {p : Addr} {ws : List V} {A : Asr} (t : Top (sep A (oA p ds)) H) (r : ∀ F o vs, Same F H → A.P F H o → H p = some (.lst vs) → RpAll F vs ds → RpAll F ws es) : Top (sep A (oA p es)) (upd H p (.lst ws)) :=
  ((t.ent Ent.comm).write r).ent Ent.comm
theorem slot_val {σ : St} {p : Addr} (hs : σ[i]? = some (some (.ref p))) (t : Top (sep A (sep (rS i σ x) R)) H) : x = .ref p := t.fact fun F o s ⟨_, _, _, _, _, _, ⟨_, _, _, _, _, z, _⟩⟩ => by
  have z' : σ[i]? = some (some x) := z
  rw [hs] at z'
  cases z'
  rfl
theorem own_at {ds : List PyData} {p : Addr} (t : Top (sep A (oA p ds)) H) : ∃ vs, H p = some (.lst vs) ∧ vs.length = ds.length := by
  obtain ⟨F, o, s, _, _, _, _, _, _, _, ⟨_, vs, e, r⟩⟩ := t
  exact ⟨vs, e, r.len⟩
/-- xs.append(e), the list in slot i -/
theorem es_append {ds : List PyData} {e : PyData} {c : RC} (hk : OwnC mk) (h : EvP E te Γ c) (f : Fz c e) (hi : Γ[i]? = some (mk ds)) :
    EvS1 E (tDrop (tBM E.K "list" rAppend (tVar i) (tCons te tNil))) Γ (need (ds.length < lim) (.ok ())) fun _ => Γ.set i (mk (ds ++ [e])) := fun σ H R D t q => by
  obtain ⟨hn, q⟩ := wp_need q
  obtain ⟨p, hs, t2, _⟩ := take_own (A := R) hk hi t
  obtain ⟨vs, ep, _⟩ := own_at t2
  refine ⟨_, hs, .inl ⟨rfl, vs, SqL.of ep⟩, ?_⟩
  refine h σ H R _ t fun w H1 t1 => ?_
  have t3 : Top (sep (base E σ Γ) (sep (vA e w) R)) H1 := (f σ w _ H1 (t1.ent frontE)).ent frontE
  obtain ⟨p', hs', t4, back⟩ := take_own hk hi t3
  rw [hs] at hs'
  cases hs'
  obtain ⟨vs', ep', ln⟩ := own_at t4
  refine ⟨p, vs', w, rfl, rfl, ep', by rw [ln]; exact lim_lt hn, q σ _ ?_⟩
  have t5 := own_write (σ := σ) (es := ds ++ [e]) (ws := vs' ++ [w]) t4 fun F o vs'' s a e2 r => by
    rw [ep'] at e2
    cases e2
    obtain ⟨_, _, _, _, _, _, ⟨_, _, _, _, _, z, _⟩⟩ := a
    exact r.append (.one z)
  exact (t5.ent (back (ds ++ [e]))).ent (Ent.sepR Ent.right)
theorem es_appendM {m : Res α} {Γ1 : α → List Cell} {ds : α → List PyData} {e : α → PyData} {c : α → RC} (hk : OwnC mk) (h : EvJ E te Γ m Γ1 c) (f : ∀ a, Fz (c a) (e a)) {ds0 : List PyData} (h0 : Γ[i]? = some (mk ds0)) (hi : ∀ a, (Γ1 a)[i]? = some (mk (ds a))) :
    EvS1 E (tDrop (tBM E.K "list" rAppend (tVar i) (tCons te tNil))) Γ (m.bind fun a => need ((ds a).length < lim) (.ok a)) fun a => (Γ1 a).set i (mk (ds a ++ [e a])) := fun σ H R D t q => by
  obtain ⟨p, hs, t2, _⟩ := take_own (A := R) hk h0 t
  obtain ⟨vs, ep, _⟩ := own_at t2
  refine ⟨_, hs, .inl ⟨rfl, vs, SqL.of ep⟩, ?_⟩
  refine h σ H R _ t (wp_mono (wp_bind.mp q) (fun a _ q w H1 t1 => ?_) fun _ x => x σ)
  obtain ⟨hn, q⟩ := wp_need q
  have t3 : Top (sep (base E σ (Γ1 a)) (sep (vA (e a) w) R)) H1 := (f a σ w _ H1 (t1.ent frontE)).ent frontE
  obtain ⟨p', hs', t4, back⟩ := take_own hk (hi a) t3
  rw [hs] at hs'
  cases hs'
  obtain ⟨vs', ep', ln⟩ := own_at t4
  refine ⟨p, vs', w, rfl, rfl, ep', by rw [ln]; exact lim_lt hn, q σ _ ?_⟩
  have t5 := own_write (σ := σ) (es := ds a ++ [e a]) (ws := vs' ++ [w]) t4 fun F o vs'' s a e2 r => by
    rw [ep'] at e2
    cases e2
    obtain ⟨_, _, _, _, _, _, ⟨_, _, _, _, _, z, _⟩⟩ := a
    exact r.append (.one z)
  exact (t5.ent (back (ds a ++ [e a]))).ent (Ent.sepR Ent.right)
theorem getI_some {xs : List α} {k : Int} {a : α} (h : atI xs k = some a) : getI xs k = .ok a := by
  unfold getI
  rw [h]
/-- xs[k] = e -/
def setR {α : Type} (xs : List α) (k : Int) (a : α) : Res (List α) := match ixN xs.length k with
  | some j => .ok (xs.set j a)
  | none => .bad
theorem set_core [Dat α] {xs : List α} {a : α} {k : Int} {σ : St} {v o ik : V} {R : Asr} {Q : Hp → Prop} (hk : OwnC mk) (hi : Γ[i]? = some (mk (xs.map dat))) (ho : σ[i]? = some (some o)) (ei : ik = .int k)
    (t : Top (sep (base E σ Γ) (sep (vA (dat a) v) R)) H) (q : (setR xs k a).wp (fun ys => ∀ H', Top (sep (base E σ (Γ.set i (mk (ys.map dat)))) R) H' → Q H') fun _ => False) : rSetL o ik v H Q := by
  obtain ⟨p, hs, t4, back⟩ := take_own hk hi t
  rw [hs] at ho
  cases ho
  obtain ⟨vs, ep, ln⟩ := own_at t4
  rw [List.length_map] at ln
  unfold setR at q
  cases ej : ixN xs.length k with
  | none =>
    rw [ej] at q
    exact (show False from q).elim
  | some j =>
    rw [ej] at q
    have q : ∀ H', Top (sep (base E σ (Γ.set i (mk ((xs.set j a).map dat)))) R) H' → Q H' := q
    refine ⟨p, vs, k, j, rfl, ei, ep, by rw [ln]; exact ej, q _ ?_⟩
    have t5 := own_write (σ := σ) (es := (xs.set j a).map dat) (ws := vs.set j v) t4 fun F o vs'' s z e2 r => by
      rw [ep] at e2
      cases e2
      obtain ⟨_, _, _, _, _, _, ⟨_, _, _, _, _, z, _⟩⟩ := z
      rw [List.map_set]
      exact RpAll.set z j r
    exact (t5.ent (back _)).ent (Ent.sepR Ent.right)
/-- xs[k] = e: the right side first, then the place -/
theorem es_setitem [Dat α] {m1 : Res γ} {Γ1 : γ → List Cell} {c : γ → RC} {m2 : γ → Res δ} {Γ2 : γ → δ → List Cell} {k : γ → δ → Int} {xs : γ → δ → List α} {a : γ → α} (hk : OwnC mk) (h : EvJ E te Γ m1 Γ1 c) (f : ∀ g, Fz (c g) (dat (a g)))
    (h2 : ∀ g, EvJ E ti (Γ1 g) (m2 g) (Γ2 g) fun d => rV (.int (k g d))) (h0 : ∀ g, ∃ es, (Γ1 g)[i]? = some (mk es)) (hi : ∀ g d, (Γ2 g d)[i]? = some (mk ((xs g d).map dat))) :
    EvS1 E (tAsg te (gSub (tVar i) ti rSetL)) Γ (m1.bind fun g => (m2 g).bind fun d => (setR (xs g d) (k g d) (a g)).bind fun ys => .ok (g, d, ys)) fun r => (Γ2 r.1 r.2.1).set i (mk (r.2.2.map dat)) := fun σ H R D t q => by
  refine h σ H R _ t (wp_mono (wp_bind.mp q) (fun g _ q w H1 t1 => ?_) fun _ x => x σ)
  have t3 : Top (sep (base E σ (Γ1 g)) (sep (vA (dat (a g)) w) R)) H1 := (f g σ w _ H1 (t1.ent frontE)).ent frontE
  obtain ⟨es, e0⟩ := h0 g
  obtain ⟨p, hs, _, _⟩ := take_own hk e0 t3
  refine ⟨_, hs, h2 g σ H1 _ _ t3 (wp_mono (wp_bind.mp q) (fun d _ q ik H2 t4 => ?_) fun _ x => (x σ).drop)⟩
  refine set_core hk (hi g d) hs (int1 t4) (t4.ent (Ent.sepR Ent.right)) ?_
  cases e : setR (xs g d) (k g d) (a g) with
  | ok ys =>
    rw [e] at q
    exact fun H' t' => q σ H' t'
  | err n => unfold setR at e; split at e <;> cases e
  | bad =>
    rw [e] at q
    exact q
theorem es_setitemP [Dat α] {c : RC} {k : Int} {xs : List α} {a : α} (hk : OwnC mk) (h : EvP E te Γ c) (f : Fz c (dat a)) (h2 : EvP E ti Γ (rV (.int k))) (hi : Γ[i]? = some (mk (xs.map dat))) :
    EvS1 E (tAsg te (gSub (tVar i) ti rSetL)) Γ (setR xs k a) fun ys => Γ.set i (mk (ys.map dat)) := fun σ H R D t q => by
  refine h σ H R _ t fun w H1 t1 => ?_
  have t3 : Top (sep (base E σ Γ) (sep (vA (dat a) w) R)) H1 := (f σ w _ H1 (t1.ent frontE)).ent frontE
  obtain ⟨p, hs, _, _⟩ := take_own hk hi t3
  refine ⟨_, hs, h2 σ H1 _ _ t3 fun ik H2 t4 => ?_⟩
  refine set_core hk hi hs (int1 t4) (t4.ent (Ent.sepR Ent.right)) ?_
  cases e : setR xs k a with
  | ok ys =>
    rw [e] at q
    exact fun H' t' => q σ H' t'
  | err n => unfold setR at e; split at e <;> cases e
  | bad =>
    rw [e] at q
    exact q
/-- o[i], by values -/
theorem pget_list {X : Cx} : PGet X (rIxL X.K) := by
  intro pins s σ H o i ov iv Q I r1 r2 h
  obtain ⟨p, xs, i, z, rfl, rfl, hq, he, q⟩ := h
  cases r1
  obtain ⟨t, rfl⟩ := r2
  obtain ⟨its, r, pl, hz⟩ := I.list hq
  obtain ⟨j, h1, h2, h3, h4, h5⟩ := atI_get he
  obtain ⟨w, ew, rw'⟩ := r.get h2
  have hl := r.length
  have hn := line63
  have fin : EP X pins σ Q w s := ⟨z, H, I, rw', q⟩
  by_cases h0 : 0 ≤ i
  · have hj : i.toNat = j := by
      rw [seqIndex_of h0 h5] at h1
      exact Option.some.inj h1
    exact wpAny_getItem_list pl.isList h0 (by omega) (by rw [hj]; simpa using ew) fin
  · have hj : (i + (its.toArray.size : Int)).toNat = j := by
      rw [seqIndex_neg (by omega) h4] at h1
      rw [List.size_toArray, ← hl]
      exact Option.some.inj h1
    exact wpAny_getItem_list_neg pl.isList (by omega) (by rw [List.size_toArray] <;> omega) (by omega) (by rw [hj]; simpa using ew) fin
/-- xs[k] += e, ints -/
theorem es_augitem {f : Int → Int → Int} {k e : Int} {xs : List Int} (hk : OwnC mk) (h : EvP E te Γ (rV (.int e))) (h2 : EvP E ti Γ (rV (.int k))) (hi : Γ[i]? = some (mk (xs.map dat))) :
    EvS1 E (tAugS (tVar i) ti te (rIxL E.K) (ipI f) rSetL) Γ ((getI xs k).bind fun a => setR xs k (f a e)) fun ys => Γ.set i (mk (ys.map dat)) := fun σ H R D t q => by
  obtain ⟨p, hs, t2, _⟩ := take_own (A := R) hk hi t
  refine ⟨_, hs, h2 σ H R _ t fun ik H1 t1 => ?_⟩
  have ek := int1 t1
  subst ek
  have t1 := t1.ent (Ent.sepR (B' := R) Ent.right)
  obtain ⟨p', hs', t3, _⟩ := take_own (A := R) hk hi t1
  rw [hs] at hs'
  cases hs'
  obtain ⟨F, o, s, _, _, _, _, _, _, _, ⟨_, vs, ep, r⟩⟩ := t3
  cases ea : atI xs k with
  | none =>
    unfold getI at q
    rw [ea] at q
    exact (show False from q).elim
  | some a =>
    rw [getI_some ea, Res.bind_ok] at q
    obtain ⟨v, ev, rv⟩ := atI_rp r (show atI (xs.map dat) k = some (dat a) by rw [atI_map, ea]; rfl)
    have ev2 : v = .int a := by cases (show Rp F v (.int a) from rv); rfl
    subst ev2
    refine ⟨p, vs, k, .int a, rfl, rfl, SqL.of ep, ev, h σ H1 R _ t1 fun w H2 t4 => ?_⟩
    have ew := int1 t4
    subst ew
    refine ⟨a, e, rfl, rfl, ?_⟩
    have t5 : Top (sep (base E σ Γ) (sep (vA (dat (f a e)) (.int (f a e))) R)) H2 := res1 t4 fun F => .int _
    refine set_core hk hi hs rfl t5 ?_
    cases es : setR xs k (f a e) with
    | ok ys =>
      rw [es] at q
      exact fun H' t' => q σ H' t'
    | err n => unfold setR at es; split at es <;> cases es
    | bad =>
      rw [es] at q
      exact q
theorem es_augitemM {f : Int → Int → Int} {k : Int} {xs : List Int} {m : Res Int} (hk : OwnC mk) (h : EvJ E te Γ m (fun _ => Γ) fun e => rV (.int e)) (h2 : EvP E ti Γ (rV (.int k))) (hi : Γ[i]? = some (mk (xs.map dat))) :
    EvS1 E (tAugS (tVar i) ti te (rIxL E.K) (ipI f) rSetL) Γ ((getI xs k).bind fun a => m.bind fun e => setR xs k (f a e)) fun ys => Γ.set i (mk (ys.map dat)) := fun σ H R D t q => by
  obtain ⟨p, hs, t2, _⟩ := take_own (A := R) hk hi t
  refine ⟨_, hs, h2 σ H R _ t fun ik H1 t1 => ?_⟩
  have ek := int1 t1
  subst ek
  have t1 := t1.ent (Ent.sepR (B' := R) Ent.right)
  obtain ⟨p', hs', t3, _⟩ := take_own (A := R) hk hi t1
  rw [hs] at hs'
  cases hs'
  obtain ⟨F, o, s, _, _, _, _, _, _, _, ⟨_, vs, ep, r⟩⟩ := t3
  cases ea : atI xs k with
  | none =>
    unfold getI at q
    rw [ea] at q
    exact (show False from q).elim
  | some a =>
    rw [getI_some ea, Res.bind_ok] at q
    obtain ⟨v, ev, rv⟩ := atI_rp r (show atI (xs.map dat) k = some (dat a) by rw [atI_map, ea]; rfl)
    have ev2 : v = .int a := by cases (show Rp F v (.int a) from rv); rfl
    subst ev2
    refine ⟨p, vs, k, .int a, rfl, rfl, SqL.of ep, ev, h σ H1 R _ t1 (wp_mono (wp_bind.mp q) (fun e _ q w H2 t4 => ?_) fun _ x => x σ)⟩
    have ew := int1 t4
    subst ew
    refine ⟨a, e, rfl, rfl, ?_⟩
    have t5 : Top (sep (base E σ Γ) (sep (vA (dat (f a e)) (.int (f a e))) R)) H2 := res1 t4 fun F => .int _
    refine set_core hk hi hs rfl t5 ?_
    cases es : setR xs k (f a e) with
    | ok ys =>
      rw [es] at q
      exact fun H' t' => q σ H' t'
    | err n => unfold setR at es; split at es <;> cases es
    | bad =>
      rw [es] at q
      exact q

/-! ### what is walked -/
/-- while G stands, J goes through the data ds -/
structure ItOk (J : It) (ds : List PyData) (G : Asr) : Prop where
  goes : ∀ i H R, i < ds.length → Top (sep G R) H → J.go i H
  stops : ∀ H R, Top (sep G R) H → J.stop ds.length H
  yields : ∀ i d H x H' R, ds[i]? = some d → Top (sep G R) H → J.yld i H x H' → Top (sep (vA d x) (sep G R)) H'
def EvI (E : Ec) (wi : TI) (Γ : List Cell) {ι : Type} (m : Res ι) (Γ' : ι → List Cell) (ds : ι → List PyData) (Kp : ι → List Cell → Prop) : Prop :=
  ∀ (σ : St) (H : Hp) (R : Asr) (Qi : It → Hp → Prop), Top (sep (base E σ Γ) R) H →
    m.wp (fun a => ∀ J H' B, (∀ σ' Γ'', Kp a Γ'' → ItOk J (ds a) (sep (base E σ' Γ'') B)) → Top (sep (base E σ (Γ' a)) (sep B R)) H' → Qi J H') (Exn E R σ) → wi σ H Qi
theorem itok_list {K : PySem.W.Frag} {a : Addr} {ds : List PyData} {G : Asr} (h : ∀ F H o, Same F H → G.P F H o → ∃ vs, SqL K H a vs ∧ RpAll F vs ds) : ItOk (Itl K a) ds G where
  goes := fun i H R hi t => by
    obtain ⟨F, o, s, k, p⟩ := t
    obtain ⟨vs, hs, r⟩ := h F H o s (Ent.left F H o s p)
    have ln := r.len
    exact ⟨vs, vs[i], hs, by simp [show i < vs.length by omega]⟩
  stops := fun H R t => by
    obtain ⟨F, o, s, k, p⟩ := t
    obtain ⟨vs, hs, r⟩ := h F H o s (Ent.left F H o s p)
    exact ⟨vs, hs, Nat.le_of_eq r.len⟩
  yields := fun i d H x H' R hd t y => by
    obtain ⟨rfl, hy⟩ := y
    obtain ⟨F, o, s, k, p⟩ := t
    obtain ⟨vs, hs, r⟩ := h F _ o s (Ent.left F _ o s p)
    obtain ⟨v, ev, rv⟩ := r.get hd
    have e := hy vs hs
    rw [ev] at e
    cases e
    exact ⟨F, o, s, k, sep_pers (fun _ => rv) p⟩
theorem sqL_of {K : PySem.W.Frag} {ds : List PyData} {F : Hp} {a : Addr} (s : Same F H) (h : Rp F (.ref a) (.list ds)) : ∃ vs, SqL K H a vs ∧ RpAll F vs ds := by
  cases h with
  | lst e r => exact ⟨_, SqL.of (s _ _ e), r⟩
/-- a list that can be walked: where it lies, and what keeps it readable through the loop -/
def Src (E : Ec) (Γ : List Cell) (cx : RC) (ds : List PyData) (Kp : List Cell → Prop) : Prop := ∀ (σ : St) (H : Hp) (R : Asr) (x : V), Top (sep (base E σ Γ) (sep (cx σ x) R)) H → ∃ a B, x = .ref a ∧ (∃ vs, SqL E.K H a vs) ∧
  (∀ σ' Γ'', Kp Γ'' → ∀ F H' o, Same F H' → (sep (base E σ' Γ'') B).P F H' o → ∃ vs, SqL E.K H' a vs ∧ RpAll F vs ds) ∧ Top (sep (base E σ Γ) (sep B R)) H
theorem src_v {ds : List PyData} : Src E Γ (rV (.list ds)) ds fun _ => True := fun σ H R x t => by
  obtain ⟨F, s, z⟩ := top1 t
  have z' := z
  cases z' with
  | lst e r => exact ⟨_, vA (.list ds) (.ref _), rfl, ⟨_, SqL.of (s _ _ e)⟩, fun σ' Γ'' _ F' H' o s' ⟨_, _, _, _, _, _, b⟩ => sqL_of s' b, t⟩
theorem src_o {ds : List PyData} : Src E Γ (rO ds) ds fun _ => True := fun σ H R x t => src_v σ H R x ((oV_freeze (t.ent frontE)).ent frontE)
theorem src_b {ds : List PyData} {v : V} (hi : Γ[i]? = some (cIs v)) (hb : Bw E v (ppS E.K ds)) : Src E Γ (rS i) ds fun _ => True := fun σ H R x t => by
  have t1 := t
  obtain ⟨F, o, s, k, o1, o2, h1, h2, d, ⟨o3, o4, h3, h4, d', a, b⟩, ⟨_, _, _, _, _, ex, _⟩⟩ := t
  obtain ⟨y, ey, hy⟩ := sl_get hi a
  have e1 : y = some v := hy
  subst e1
  have e2 : σ[i]? = some (some x) := ex
  rw [ey] at e2
  cases e2
  obtain ⟨p, vs, rfl, hs, rv⟩ := hb F H _ s b
  refine ⟨p, emp, rfl, ⟨vs, hs⟩, fun σ' Γ'' _ F' H' o s' ⟨_, _, _, _, _, ⟨_, _, _, _, _, _, b⟩, _⟩ => ?_, t1.ent (Ent.sepR (Ent.sepL Ent.emp))⟩
  obtain ⟨p', vs', e', hs', r'⟩ := hb F' H' _ s' b
  cases e'
  exact ⟨vs', hs', r'⟩
theorem src_at {ds : List PyData} {p : Addr} (hi : Γ[i]? = some (cAt p ds)) : Src E Γ (rS i) ds fun Γ'' => Γ''[i]? = some (cAt p ds) := fun σ H R x t => by
  have t1 := t
  obtain ⟨F, o, s, k, o1, o2, h1, h2, d, ⟨o3, o4, h3, h4, d', a, b⟩, ⟨_, _, _, _, _, ex, _⟩⟩ := t
  obtain ⟨y, ey, _, _, _, _, _, hy, ⟨_, vs, e, rv⟩⟩ := sl_get hi a
  have e1 : y = some (.ref p) := hy
  subst e1
  have e2 : σ[i]? = some (some x) := ex
  rw [ey] at e2
  cases e2
  refine ⟨p, emp, rfl, ⟨vs, SqL.of e⟩, fun σ' Γ'' hk F' H' o s' ⟨_, _, _, _, _, ⟨_, _, _, _, _, a, _⟩, _⟩ => ?_, t1.ent (Ent.sepR (Ent.sepL Ent.emp))⟩
  obtain ⟨y, ey, _, _, _, _, _, hy, ⟨_, vs, e, rv⟩⟩ := sl_get hk a
  exact ⟨vs, SqL.of e, rv⟩
theorem ei_list {m : Res γ} {Γ' : γ → List Cell} {c : γ → RC} {ds : γ → List PyData} {Kp : γ → List Cell → Prop} (h : EvJ E te Γ m Γ' c) (hs : ∀ a, Src E (Γ' a) (c a) (ds a) (Kp a)) : EvI E (iList E.K te) Γ m Γ' ds Kp := fun σ H R Qi t q =>
  h σ H R _ t (wp_mono q (fun a _ q v H1 t1 => by
    obtain ⟨p, B, rfl, hv, hr, t2⟩ := hs a σ H1 R v t1
    exact ⟨p, rfl, hv, q _ H1 B (fun σ' Γ'' hk => itok_list (hr σ' Γ'' hk)) t2⟩) fun _ x => x)
/-- enumerate(xs) -/
def enumL {α : Type} (xs : List α) : List (Int × α) := xs.zipIdx.map fun p => ((p.2 : Int), p.1)
theorem enumL_get (xs : List α) (i : Nat) : (enumL xs)[i]? = (xs[i]?).map fun a => ((i : Int), a) := by
  unfold enumL
  rw [List.getElem?_map, List.getElem?_zipIdx, Option.map_map]
  cases xs[i]? with
  | none => rfl
  | some a => simp
theorem enumL_len (xs : List α) : (enumL xs).length = xs.length := by unfold enumL; simp
theorem itok_enum [Dat α] {K : PySem.W.Frag} {a : Addr} {xs : List α} {G : Asr} (h : ∀ F H o, Same F H → G.P F H o → ∃ vs, SqL K H a vs ∧ RpAll F vs (xs.map dat)) : ItOk (Ite K a) ((enumL xs).map dat) G where
  goes := fun i H R hi t => by
    obtain ⟨F, o, s, k, p⟩ := t
    obtain ⟨vs, hs, r⟩ := h F H o s (Ent.left F H o s p)
    have ln := r.len
    rw [List.length_map] at hi ln
    rw [enumL_len] at hi
    exact ⟨vs, vs[i], hs, by simp [show i < vs.length by omega]⟩
  stops := fun H R t => by
    obtain ⟨F, o, s, k, p⟩ := t
    obtain ⟨vs, hs, r⟩ := h F H o s (Ent.left F H o s p)
    rw [List.length_map, enumL_len]
    have ln := r.len
    rw [List.length_map] at ln
    exact ⟨vs, hs, Nat.le_of_eq ln⟩
  yields := fun i d H x H' R hd t y => by
    obtain ⟨T, w, rfl, hT, rfl, hy⟩ := y
    rw [List.getElem?_map, enumL_get] at hd
    cases e : xs[i]? with
    | none =>
      rw [e] at hd
      cases hd
    | some z =>
      rw [e] at hd
      cases hd
      have t' := t
      obtain ⟨F, o, s, k, p⟩ := t'
      refine (Top.allocT (vs := [.int i, w]) (ds := [dat (i : Int), dat z]) t hT fun F o s p => ?_)
      obtain ⟨vs, hs, r⟩ := h F H o s (Ent.left F H o s p)
      obtain ⟨v, ev, rv⟩ := r.get (i := i) (d := dat z) (by rw [List.getElem?_map, e]; rfl)
      have e2 := hy vs hs
      rw [ev] at e2
      cases e2
      exact .cons (.int _) (.one rv)
theorem ei_enum [Dat α] {tr : TA} {xs : List α} {Kp : List Cell → Prop} (h : EvAP E tr Γ [cx]) (hs : Src E Γ cx (xs.map dat) Kp) : EvI E (iEnum E.K tr) Γ (.ok ()) (fun _ => Γ) (fun _ => (enumL xs).map dat) fun _ => Kp := fun σ H R Qi t q =>
  h σ H R _ t fun vs H1 t1 => by
    obtain ⟨x, rfl, t2⟩ := one_arg t1
    obtain ⟨p, B, rfl, ⟨ws, hv⟩, hr, t3⟩ := hs σ H1 R x t2
    exact ⟨p, ws, rfl, hv, q _ H1 B (fun σ' Γ'' hk => itok_enum (hr σ' Γ'' hk)) t3⟩
theorem ei_enumM [Dat α] {tr : TA} {m : Res γ} {Γ' : γ → List Cell} {c : γ → RC} {xs : γ → List α} {Kp : γ → List Cell → Prop} (h : EvA E tr Γ m Γ' fun a => [c a]) (hs : ∀ a, Src E (Γ' a) (c a) ((xs a).map dat) (Kp a)) : EvI E (iEnum E.K tr) Γ m Γ' (fun a => (enumL (xs a)).map dat) Kp := fun σ H R Qi t q =>
  h σ H R _ t (wp_mono q (fun a _ q vs H1 t1 => by
    obtain ⟨x, rfl, t2⟩ := one_arg t1
    obtain ⟨p, B, rfl, ⟨ws, hv⟩, hr, t3⟩ := hs a σ H1 R x t2
    exact ⟨p, ws, rfl, hv, q _ H1 B (fun σ' Γ'' hk => itok_enum (hr σ' Γ'' hk)) t3⟩) fun _ x => x)
/-- zip(xs, ys) -/
theorem itok_zip [Dat α] [Dat β] {K : PySem.W.Frag} {a b : Addr} {xs : List α} {ys : List β} {G : Asr} (h : ∀ F H o, Same F H → G.P F H o → ∃ vs, SqL K H a vs ∧ RpAll F vs (xs.map dat)) (h' : ∀ F H o, Same F H → G.P F H o → ∃ vs, SqL K H b vs ∧ RpAll F vs (ys.map dat)) :
    ItOk (Itz K a b) ((xs.zip ys).map dat) G where
  goes := fun i H R hi t => by
    obtain ⟨F, o, s, k, p⟩ := t
    obtain ⟨vs, hs, r⟩ := h F H o s (Ent.left F H o s p)
    obtain ⟨ws, hs', r'⟩ := h' F H o s (Ent.left F H o s p)
    have ln := r.len
    have ln' := r'.len
    rw [List.length_map] at hi ln ln'
    rw [List.length_zip] at hi
    exact ⟨vs, ws, vs[i]'(by omega), ws[i]'(by omega), hs, hs', by simp [show i < vs.length by omega], by simp [show i < ws.length by omega]⟩
  stops := fun H R t => by
    obtain ⟨F, o, s, k, p⟩ := t
    obtain ⟨vs, hs, r⟩ := h F H o s (Ent.left F H o s p)
    obtain ⟨ws, hs', r'⟩ := h' F H o s (Ent.left F H o s p)
    have ln := r.len
    have ln' := r'.len
    rw [List.length_map] at ln ln'
    exact ⟨vs, ws, hs, hs', by rw [List.length_map, List.length_zip]; omega⟩
  yields := fun i d H x H' R hd t y => by
    obtain ⟨T, u, w, rfl, hT, rfl, hy, hy'⟩ := y
    rw [List.getElem?_map] at hd
    cases e : (xs.zip ys)[i]? with
    | none =>
      rw [e] at hd
      cases hd
    | some z =>
      rw [e] at hd
      cases hd
      obtain ⟨z1, z2⟩ := z
      obtain ⟨e1, e2⟩ := List.getElem?_zip_eq_some.mp e
      refine (Top.allocT (vs := [u, w]) (ds := [dat z1, dat z2]) t hT fun F o s p => ?_)
      obtain ⟨vs, hs, r⟩ := h F H o s (Ent.left F H o s p)
      obtain ⟨ws, hs', r'⟩ := h' F H o s (Ent.left F H o s p)
      obtain ⟨v, ev, rv⟩ := r.get (i := i) (d := dat z1) (by rw [List.getElem?_map, e1]; rfl)
      obtain ⟨v', ev', rv'⟩ := r'.get (i := i) (d := dat z2) (by rw [List.getElem?_map, e2]; rfl)
      have q1 := hy vs hs
      have q2 := hy' ws hs'
      rw [ev] at q1
      rw [ev'] at q2
      cases q1
      cases q2
      exact .cons rv (.one rv')
theorem ei_zip [Dat α] [Dat β] {tr : TA} {m : Res γ} {Γ' : γ → List Cell} {c c' : γ → RC} {xs : γ → List α} {ys : γ → List β} {Kp Kp' : γ → List Cell → Prop} (h : EvA E tr Γ m Γ' fun a => [c a, c' a]) (hs : ∀ a, Src E (Γ' a) (c a) ((xs a).map dat) (Kp a)) (hs' : ∀ a, Src E (Γ' a) (c' a) ((ys a).map dat) (Kp' a)) :
    EvI E (iZip E.K tr) Γ m Γ' (fun a => ((xs a).zip (ys a)).map dat) fun a Γ'' => Kp a Γ'' ∧ Kp' a Γ'' := fun σ H R Qi t q =>
  h σ H R _ t (wp_mono q (fun a _ q vs H1 t1 => by
    obtain ⟨x, y, rfl, t2⟩ := two_args t1
    obtain ⟨p, B, rfl, ⟨ws, hv⟩, hr, t3⟩ := hs a σ H1 _ x t2
    obtain ⟨p', B', rfl, ⟨ws', hv'⟩, hr', t4⟩ := hs' a σ H1 _ y (t3.ent rotE)
    refine ⟨p, p', ws, ws', rfl, hv, hv', q _ H1 (sep B' B) (fun σ' Γ'' hk => itok_zip (fun F H' o s z => ?_) fun F H' o s z => ?_) (t4.ent (Ent.sepR Ent.assoc'))⟩
    · exact hr σ' Γ'' hk.1 F H' o s (Ent.sepR Ent.right F H' o s z)
    · exact hr' σ' Γ'' hk.2 F H' o s (Ent.sepR Ent.left F H' o s z)) fun _ x => x)
/-- range(n), range(a, b) -/
def rangeL (a b : Int) : List Int := (List.range (b - a).toNat).map fun k : Nat => a + (k : Int)
theorem rangeL_get (a b : Int) {k : Nat} (h : k < (b - a).toNat) : (rangeL a b)[k]? = some (a + (k : Int)) := by
  unfold rangeL
  simp [h]
theorem rangeL_len (a b : Int) : (rangeL a b).length = (b - a).toNat := by unfold rangeL; simp
theorem itok_range {a b : Int} {G : Asr} : ItOk (Itr a (b - a).toNat) ((rangeL a b).map dat) G where
  goes := fun i H R hi t => by
    rw [List.length_map, rangeL_len] at hi
    exact hi
  stops := fun H R t => by
    rw [List.length_map, rangeL_len]
    exact Nat.le_refl _
  yields := fun i d H x H' R hd t y => by
    obtain ⟨rfl, rfl⟩ := y
    rw [List.getElem?_map] at hd
    cases e : (rangeL a b)[i]? with
    | none =>
      rw [e] at hd
      cases hd
    | some z =>
      have hi := (List.getElem?_eq_some_iff.mp e).1
      rw [rangeL_len] at hi
      rw [rangeL_get a b hi] at e
      rw [rangeL_get a b hi] at hd
      cases hd
      exact t.addV fun F _ _ _ => .int _
def rangeR (a b : Int) : Res (List Int) := need (-(2 ^ 62) ≤ a ∧ a < 2 ^ 62 ∧ -(2 ^ 62) ≤ b ∧ b < 2 ^ 62) (.ok (rangeL a b))
theorem ei_range1 {tr : TA} {n : Int} (h : EvAP E tr Γ [rV (.int n)]) : EvI E (iRng1 tr) Γ (rangeR 0 n) (fun _ => Γ) (fun xs => xs.map dat) fun _ _ => True := fun σ H R Qi t q =>
  h σ H R _ t fun vs H1 t1 => by
    obtain ⟨⟨_, _, h1, h2⟩, q⟩ := wp_need q
    obtain ⟨x, rfl, t2⟩ := one_arg t1
    have e := int1 t2
    subst e
    refine ⟨n, rfl, h1, h2, ?_⟩
    have e : Itr 0 n.toNat = Itr 0 (n - 0).toNat := by rw [Int.sub_zero]
    rw [e]
    exact q _ H1 emp (fun _ _ _ => itok_range) (t2.ent (Ent.sepR (Ent.sepL Ent.emp)))
theorem ei_range2 {tr : TA} {a b : Int} (h : EvAP E tr Γ [rV (.int a), rV (.int b)]) : EvI E (iRng2 tr) Γ (rangeR a b) (fun _ => Γ) (fun xs => xs.map dat) fun _ _ => True := fun σ H R Qi t q =>
  h σ H R _ t fun vs H1 t1 => by
    obtain ⟨⟨h1, h2, h3, h4⟩, q⟩ := wp_need q
    obtain ⟨x, y, rfl, t2⟩ := two_args t1
    have e := int1 t2
    subst e
    have e := int2 t2
    subst e
    exact ⟨a, b, rfl, ⟨h1, h2, h3, h4⟩, q _ H1 emp (fun _ _ _ => itok_range) (t2.ent (Ent.sepR (Ent.sep Ent.emp Ent.right)))⟩
theorem ei_range1M {tr : TA} {m : Res α} {Γ1 : α → List Cell} {n : α → Int} (h : EvA E tr Γ m Γ1 fun a => [rV (.int (n a))]) : EvI E (iRng1 tr) Γ (m.bind fun a => (rangeR 0 (n a)).bind fun xs => .ok (a, xs)) (fun p => Γ1 p.1) (fun p => p.2.map dat) fun _ _ => True := fun σ H R Qi t q =>
  h σ H R _ t (wp_mono (wp_bind.mp q) (fun a _ q vs H1 t1 => by
    obtain ⟨⟨_, _, h1, h2⟩, q⟩ := wp_need (wp_bind.mp q)
    obtain ⟨x, rfl, t2⟩ := one_arg t1
    have e := int1 t2
    subst e
    refine ⟨n a, rfl, h1, h2, ?_⟩
    have e : Itr 0 (n a).toNat = Itr 0 (n a - 0).toNat := by rw [Int.sub_zero]
    rw [e]
    exact q _ H1 emp (fun _ _ _ => itok_range) (t2.ent (Ent.sepR (Ent.sepL Ent.emp)))) fun _ x => x)
theorem ei_range2M {tr : TA} {m : Res α} {Γ1 : α → List Cell} {a b : α → Int} (h : EvA E tr Γ m Γ1 fun r => [rV (.int (a r)), rV (.int (b r))]) : EvI E (iRng2 tr) Γ (m.bind fun r => (rangeR (a r) (b r)).bind fun xs => .ok (r, xs)) (fun p => Γ1 p.1) (fun p => p.2.map dat) fun _ _ => True := fun σ H R Qi t q =>
  h σ H R _ t (wp_mono (wp_bind.mp q) (fun r _ q vs H1 t1 => by
    obtain ⟨⟨h1, h2, h3, h4⟩, q⟩ := wp_need (wp_bind.mp q)
    obtain ⟨x, y, rfl, t2⟩ := two_args t1
    have e := int1 t2
    subst e
    have e := int2 t2
    subst e
    exact ⟨a r, b r, rfl, ⟨h1, h2, h3, h4⟩, q _ H1 emp (fun _ _ _ => itok_range) (t2.ent (Ent.sepR (Ent.sep Ent.emp Ent.right)))⟩) fun _ x => x)

/-! ### targets -/
/-- the same but at some places -/
def Sm (ix : List Nat) (σ σ' : St) : Prop := σ'.length = σ.length ∧ ∀ i, i ∉ ix → σ'[i]? = σ[i]?
def EvG (E : Ec) (g : TG) (d : PyData) (Γ Γ' : List Cell) (ix : List Nat) : Prop := ∀ (σ : St) (H : Hp) (R : Asr) (Q : St → Hp → Prop) (v : V), Top (sep (base E σ Γ) (sep (vA d v) R)) H → (∀ σ' H', Sm ix σ σ' → Top (sep (base E σ' Γ') R) H' → Q σ' H') → g v σ H Q
def EvGs (E : Ec) (g : TGs) (ds : List PyData) (Γ Γ' : List Cell) (ix : List Nat) : Prop := ∀ (σ : St) (H : Hp) (R : Asr) (Q : St → Hp → Prop) (vs : List V), Top (sep (base E σ Γ) (sep (vAs ds vs) R)) H → (∀ σ' H', Sm ix σ σ' → Top (sep (base E σ' Γ') R) H' → Q σ' H') → g vs σ H Q
theorem eg_name (hi : i < Γ.length) : EvG E (gName i) d Γ (Γ.set i (cV d)) [i] := fun σ H R Q v t q => q _ H ⟨List.length_set, fun j hj => List.getElem?_set_ne fun e => hj (by simp [e])⟩ (put_slot (c := rV d) sto_v hi t)
theorem egs_nil : EvGs E gNil [] Γ Γ [] := fun σ H R Q vs t q => by
  have r : RpAll (fun _ => none) ([] : List V) [] := .nil
  have e : vs = [] := by
    obtain ⟨F, o, s, k, p⟩ := t
    have z := as_of F o s p
    cases z
    rfl
  exact ⟨e, q σ H ⟨rfl, fun _ _ => rfl⟩ (t.ent (Ent.sepR Ent.right))⟩
theorem egs_cons {g : TG} {gs : TGs} {ds : List PyData} {Γ1 Γ2 : List Cell} {ix iy : List Nat} (h : EvG E g d Γ Γ1 ix) (hr : EvGs E gs ds Γ1 Γ2 iy) : EvGs E (gCons g gs) (d :: ds) Γ Γ2 (ix ++ iy) := fun σ H R Q vs t q => by
  have t0 := t
  obtain ⟨F, o, s, k, p⟩ := t
  have z := as_of F o s p
  cases z with
  | cons hv hvs =>
    rename_i v vs
    refine ⟨v, vs, rfl, ?_⟩
    have t1 : Top (sep (base E σ Γ) (sep (vA d v) (sep (vAs ds vs) R))) H := t0.ent (Ent.sepR fun F H o s ⟨o1, o2, h1, h2, d', a, b⟩ => by
      cases a with
      | cons x y => exact sep_pers (fun _ => x) (sep_pers (fun _ => y) (R.up h2 b)))
    exact h σ H _ _ v t1 fun σ' H' e1 t2 => hr σ' H' R Q vs t2 fun σ2 H2 e2 t3 => q σ2 H2 ⟨e2.1.trans e1.1, fun j hj => (e2.2 j fun z => hj (List.mem_append_right _ z)).trans (e1.2 j fun z => hj (List.mem_append_left _ z))⟩ t3
theorem eg_tup {gs : TGs} {ds : List PyData} {n : Nat} {Γ' : List Cell} {ix : List Nat} (h : EvGs E gs ds Γ Γ' ix) (hn : ds.length = n) : EvG E (gTup E.K n gs) (.tuple ds) Γ Γ' ix := fun σ H R Q v t q => by
  obtain ⟨F, o, s, k, p⟩ := t
  have z : Rp F v (.tuple ds) := by
    obtain ⟨_, _, _, _, _, _, ⟨_, _, _, _, _, z, _⟩⟩ := p
    exact z
  cases z with
  | tup e r => exact ⟨_, _, rfl, SqT.of (s _ _ e), r.len.trans hn, h σ H R Q _ ((addAs s k p r).ent (Ent.sepR (Ent.sepR Ent.right))) q⟩
/-- a, b = e (data) -/
theorem es_asgG {m : Res γ} {Γ1 : γ → List Cell} {c : γ → RC} {g : TG} {ds : γ → PyData} {Γ' : γ → List Cell} (h : EvJ E te Γ m Γ1 c) (f : ∀ a, Fz (c a) (ds a)) {ix : List Nat} (hg : ∀ a, EvG E g (ds a) (Γ1 a) (Γ' a) ix) : EvS1 E (tAsg te g) Γ m Γ' := fun σ H R D t q =>
  h σ H R _ t (wp_mono q (fun a _ q v H1 t1 => hg a σ H1 R _ v ((f a σ v _ H1 (t1.ent frontE)).ent frontE) fun σ' H' _ t' => q σ' H' t') fun _ x => x σ)

/-! ### for -/
inductive Lp (σ ρ : Type) where
  | next (s : σ) | brk (s : σ) | ret (r : ρ)
/-- a for whose body only goes on -/
def foldR {α σ : Type} : List α → σ → (σ → α → Res σ) → Res σ
  | [], s, _ => .ok s
  | a :: l, s, f => (f s a).bind fun s' => foldR l s' f
def forR {α σ ρ : Type} : List α → σ → (σ → α → Res (Lp σ ρ)) → Res (Jn σ ρ)
  | [], s, _ => .ok (.go s)
  | a :: l, s, f => (f s a).bind fun c => match c with
    | .next s' => forR l s' f
    | .brk s' => .ok (.go s')
    | .ret r => .ok (.out r)
def Lp.post {σ ρ : Type} (Γs : σ → List Cell) (post : ρ → Fin) : Lp σ ρ → Fin
  | .next s => .lp (Γs s)
  | .brk s => .bk (Γs s)
  | .ret r => (post r).out
end
section
variable {E : Ec} {Γ : List Cell} {R : Asr} {H : Hp} {α β γ ρ τ ι : Type} {te ti : TE} {wi : TI} {g : TG} {tb : TS} {post : ρ → Fin}
open Res
theorem out_out : ∀ f : Fin, f.out.out = f.out.out := fun _ => rfl
theorem Fin.out_loop {E : Ec} {R : Asr} {D : Ends} {nx bk ct : St → Hp → Prop} : ∀ {f : Fin}, (∀ Γ, f ≠ .bk Γ) → (∀ Γ, f ≠ .ct Γ) → (∀ Γ, f ≠ .lp Γ) → f.out.ok E R D → f.out.ok E R { D with nx := nx, bk := bk, ct := ct }
  | .nx _, _, _, _, _ => trivial
  | .lp Γ, _, _, h, _ => (h Γ rfl).elim
  | .bk Γ, h, _, _, _ => (h Γ rfl).elim
  | .ct Γ, _, h, _, _ => (h Γ rfl).elim
  | .rt _ _, _, _, _, h => h
  | .no, _, _, _, _ => trivial
theorem es_for [Dat α] {mi : Res ι} {Γ0 : ι → List Cell} {xs : ι → List α} {Kp : ι → List Cell → Prop} {Γs : τ → List Cell} {Γt : τ → α → List Cell} {s0 : ι → τ} {f : τ → α → Res (Lp τ ρ)}
    (hi : EvI E wi Γ mi Γ0 (fun a => (xs a).map dat) Kp) (hk : ∀ a s, Kp a (Γs s)) (h0 : ∀ a, Le (Γ0 a) (Γs (s0 a))) {ix : List Nat} (hg : ∀ s x, EvG E g (dat x) (Γs s) (Γt s x) ix) (hb : ∀ s x, EvS E tb (Γt s x) (f s x) (Lp.post Γs post))
    (hp : ∀ r, (∀ Γ, post r ≠ .bk Γ) ∧ (∀ Γ, post r ≠ .ct Γ) ∧ ∀ Γ, post r ≠ .lp Γ) :
    EvS E (tFor wi g tb) Γ (mi.bind fun a => forR (xs a) (s0 a) f) (Jn.post Γs post) := fun σ H R D t q =>
  hi σ H R _ t (wp_mono (wp_bind.mp q) (fun a _ q J H1 B hJ t1 => by
    refine ⟨fun i mm σ' H' => mm = (xs a).length - i ∧ i ≤ (xs a).length ∧ ∃ s, Top (sep (base E σ' (Γs s)) (sep B R)) H' ∧ (forR ((xs a).drop i) s f).wp (fun b => (Jn.post Γs post b).ok E R D) (ExnS E R),
      ⟨_, rfl, Nat.zero_le _, s0 a, t1.ent (Ent.sepL (Ent.sepL (h0 a).ent)), q⟩, ?_⟩
    rintro i mm σ' H' ⟨rfl, hle, s, t2, q2⟩
    have ok := hJ σ' (Γs s) (hk a s)
    have t2' : Top (sep (sep (base E σ' (Γs s)) B) R) H' := t2.ent Ent.assoc'
    by_cases hlt : i < (xs a).length
    · refine .inr ⟨ok.goes i H' R (by rw [List.length_map]; exact hlt) t2', ?_⟩
      have ed : (xs a).drop i = (xs a)[i] :: (xs a).drop (i + 1) := List.drop_eq_getElem_cons hlt
      rw [ed] at q2
      refine ⟨fun σ2 H2 => ∃ s', Top (sep (base E σ2 (Γs s')) (sep B R)) H2 ∧ (forR ((xs a).drop (i + 1)) s' f).wp (fun b => (Jn.post Γs post b).ok E R D) (ExnS E R), fun σ2 H2 ⟨s', t3, q3⟩ => ⟨_, by omega, rfl, hlt, s', t3, q3⟩, fun x H2 hy => ?_⟩
      have t3 := ok.yields i (dat (xs a)[i]) H' x H2 R (by simp [hlt]) t2' hy
      have t4 : Top (sep (base E σ' (Γs s)) (sep (vA (dat (xs a)[i]) x) (sep B R))) H2 := (t3.ent (Ent.sepR Ent.assoc)).ent frontE
      refine hg s (xs a)[i] σ' H2 _ _ x t4 fun σ3 H3 _ t5 => ?_
      refine hb s (xs a)[i] σ3 H3 (sep B R) _ t5 (wp_mono (wp_bind.mp q2) (fun c _ q3 => ?_) fun _ x σ => (x σ).drop)
      cases c with
      | next s' => exact fun σ4 H4 t6 => ⟨⟨s', t6, q3⟩, ⟨s', t6, q3⟩⟩
      | brk s' => exact fun σ4 H4 t6 => q3 σ4 H4 (t6.ent (Ent.sepR Ent.right))
      | ret r =>
        have q4 : (post r).out.ok E R D := q3
        obtain ⟨p1, p2, p3⟩ := hp r
        have q5 := Fin.out_loop (nx := fun σ2 H2 => ∃ s', Top (sep (base E σ2 (Γs s')) (sep B R)) H2 ∧ (forR ((xs a).drop (i + 1)) s' f).wp (fun b => (Jn.post Γs post b).ok E R D) (ExnS E R)) (bk := D.nx)
          (ct := fun σ2 H2 => ∃ s', Top (sep (base E σ2 (Γs s')) (sep B R)) H2 ∧ (forR ((xs a).drop (i + 1)) s' f).wp (fun b => (Jn.post Γs post b).ok E R D) (ExnS E R)) p1 p2 p3 q4
        show (post r).out.ok E (sep B R) _
        cases e : post r with
        | nx Γ => trivial
        | lp Γ => exact (p3 Γ e).elim
        | bk Γ => exact (p1 Γ e).elim
        | ct Γ => exact (p2 Γ e).elim
        | no => trivial
        | rt Γ c =>
          rw [e] at q5
          exact fun σ4 v H4 t6 => q5 σ4 v H4 (t6.ent (Ent.sepR (Ent.sepR Ent.right)))
    · have e : i = (xs a).length := by omega
      subst e
      rw [List.drop_length] at q2
      refine .inl ⟨?_, q2 σ' H' (t2.ent (Ent.sepR Ent.right))⟩
      have z := ok.stops H' R t2'
      rw [List.length_map] at z
      exact z) fun _ x => x σ)
theorem es_for0 [Dat α] {mi : Res ι} {Γ0 : ι → List Cell} {xs : ι → List α} {Kp : ι → List Cell → Prop} {Γs : τ → List Cell} {Γt : τ → α → List Cell} {s0 : ι → τ} {f : τ → α → Res τ}
    (hi : EvI E wi Γ mi Γ0 (fun a => (xs a).map dat) Kp) (hk : ∀ a s, Kp a (Γs s)) (h0 : ∀ a, Le (Γ0 a) (Γs (s0 a))) {ix : List Nat} (hg : ∀ s x, EvG E g (dat x) (Γs s) (Γt s x) ix) (hb : ∀ s x, EvS E tb (Γt s x) (f s x) fun s' => .lp (Γs s')) :
    EvS1 E (tFor wi g tb) Γ (mi.bind fun a => foldR (xs a) (s0 a) f) Γs := fun σ H R D t q =>
  hi σ H R _ t (wp_mono (wp_bind.mp q) (fun a _ q J H1 B hJ t1 => by
    refine ⟨fun i mm σ' H' => mm = (xs a).length - i ∧ i ≤ (xs a).length ∧ ∃ s, Top (sep (base E σ' (Γs s)) (sep B R)) H' ∧ (foldR ((xs a).drop i) s f).wp (fun b => (Fin.nx (Γs b)).ok E R D) (ExnS E R),
      ⟨_, rfl, Nat.zero_le _, s0 a, t1.ent (Ent.sepL (Ent.sepL (h0 a).ent)), q⟩, ?_⟩
    rintro i mm σ' H' ⟨rfl, hle, s, t2, q2⟩
    have ok := hJ σ' (Γs s) (hk a s)
    have t2' : Top (sep (sep (base E σ' (Γs s)) B) R) H' := t2.ent Ent.assoc'
    by_cases hlt : i < (xs a).length
    · refine .inr ⟨ok.goes i H' R (by rw [List.length_map]; exact hlt) t2', ?_⟩
      have ed : (xs a).drop i = (xs a)[i] :: (xs a).drop (i + 1) := List.drop_eq_getElem_cons hlt
      rw [ed] at q2
      refine ⟨fun σ2 H2 => ∃ s', Top (sep (base E σ2 (Γs s')) (sep B R)) H2 ∧ (foldR ((xs a).drop (i + 1)) s' f).wp (fun b => (Fin.nx (Γs b)).ok E R D) (ExnS E R), fun σ2 H2 ⟨s', t3, q3⟩ => ⟨_, by omega, rfl, hlt, s', t3, q3⟩, fun x H2 hy => ?_⟩
      have t3 := ok.yields i (dat (xs a)[i]) H' x H2 R (by simp [hlt]) t2' hy
      have t4 : Top (sep (base E σ' (Γs s)) (sep (vA (dat (xs a)[i]) x) (sep B R))) H2 := (t3.ent (Ent.sepR Ent.assoc)).ent frontE
      refine hg s (xs a)[i] σ' H2 _ _ x t4 fun σ3 H3 _ t5 => ?_
      exact hb s (xs a)[i] σ3 H3 (sep B R) _ t5 (wp_mono (wp_bind.mp q2) (fun s' _ q3 σ4 H4 t6 => ⟨⟨s', t6, q3⟩, ⟨s', t6, q3⟩⟩) fun _ x σ => (x σ).drop)
    · have e : i = (xs a).length := by omega
      subst e
      rw [List.drop_length] at q2
      refine .inl ⟨?_, q2 σ' H' (t2.ent (Ent.sepR Ent.right))⟩
      have z := ok.stops H' R t2'
      rw [List.length_map] at z
      exact z) fun _ x => x σ)

/-! ### while -/
def whileR {σ ρ : Type} : Nat → σ → (σ → Res Bool) → (σ → Res (Lp σ ρ)) → Res (Jn σ ρ)
  | 0, _, _, _ => .bad
  | n + 1, s, t, f => (t s).bind fun b => if b then (f s).bind fun c => match c with
      | .next s' => whileR n s' t f
      | .brk s' => .ok (.go s')
      | .ret r => .ok (.out r)
    else .ok (.go s)
theorem es_while {tt : TT} {Γs : τ → List Cell} {s0 : τ} {n : Nat} {mt : τ → Res Bool} {f : τ → Res (Lp τ ρ)} (h0 : Le Γ (Γs s0)) (ht : ∀ s, EvT E tt (Γs s) (mt s) (fun _ => Γs s) id) (hb : ∀ s, EvS E tb (Γs s) (f s) (Lp.post Γs post))
    (hp : ∀ r, (∀ Γ, post r ≠ .bk Γ) ∧ (∀ Γ, post r ≠ .ct Γ) ∧ ∀ Γ, post r ≠ .lp Γ) : EvS E (tWhile tt tb) Γ (whileR n s0 mt f) (Jn.post Γs post) := fun σ H R D t q => by
  refine ⟨fun mm σ' H' => ∃ s, Top (sep (base E σ' (Γs s)) R) H' ∧ (whileR mm s mt f).wp (fun b => (Jn.post Γs post b).ok E R D) (ExnS E R), ⟨n, s0, t.ent (Ent.sepL (Ent.sepL h0.ent)), q⟩, ?_⟩
  rintro mm σ' H' ⟨s, t2, q2⟩
  cases mm with
  | zero => exact (show False from q2).elim
  | succ n =>
    refine ht s σ' H' R _ t2 (wp_mono (wp_bind.mp q2) (fun b _ q3 H3 t3 => ?_) fun _ x => x σ')
    cases b with
    | false => exact q3 σ' H3 t3
    | true =>
      refine ⟨fun σ2 H2 => ∃ s', Top (sep (base E σ2 (Γs s')) R) H2 ∧ (whileR n s' mt f).wp (fun b => (Jn.post Γs post b).ok E R D) (ExnS E R), fun σ2 H2 ⟨s', t4, q4⟩ => ⟨n, Nat.lt_succ_self _, s', t4, q4⟩, ?_⟩
      refine hb s σ' H3 R _ t3 (wp_mono (wp_bind.mp (show (Res.bind (f s) _).wp _ _ from q3)) (fun c _ q4 => ?_) fun _ x => x)
      cases c with
      | next s' => exact fun σ4 H4 t6 => ⟨⟨s', t6, q4⟩, ⟨s', t6, q4⟩⟩
      | brk s' => exact fun σ4 H4 t6 => q4 σ4 H4 t6
      | ret r =>
        have q5 : (post r).out.ok E R D := q4
        obtain ⟨p1, p2, p3⟩ := hp r
        exact Fin.out_loop p1 p2 p3 q5
end
end Lc
/-! Lc: comprehensions; a def's promise from its body -/
namespace Lc
open PySem L2
def Ec.calm (E : Ec) : Ec := { E with W := fun _ _ _ _ => False }
theorem calm_calm {E : Ec} : Calm E.calm := fun _ _ _ _ h => h
section
variable {E : Ec} {Γ : List Cell} {R A : Asr} {H : Hp} {α β γ ρ τ ι : Type} {te : TE} {tt : TT} {wi : TI} {g : TG}
open Res
theorem EvJ.pre {m : Res γ} {Γ' : γ → List Cell} {c : γ → RC} {Δ : List Cell} (l : Le Γ Δ) (h : EvJ E te Δ m Γ' c) : EvJ E te Γ m Γ' c := fun σ H R Q t q => h σ H R Q (t.ent (Ent.sepL (Ent.sepL l.ent))) q
theorem EvS.pre {tb : TS} {m : Res γ} {post : γ → Fin} {Δ : List Cell} (l : Le Γ Δ) (h : EvS E tb Δ m post) : EvS E tb Γ m post := fun σ H R D t q => h σ H R D (t.ent (Ent.sepL (Ent.sepL l.ent))) q
theorem set_any {i : Nat} (h : Γ[i]? = some cAny) : Γ.set i cAny = Γ := by
  obtain ⟨hl, e⟩ := List.getElem?_eq_some_iff.mp h
  rw [← e, List.set_getElem_self]
theorem wipe_in : ∀ {vs : List Nat} {σ : St}, (∀ i ∈ vs, Γ[i]? = some cAny) → Ent (sl σ Γ) (sl (wipe σ vs) Γ)
  | [], σ, _ => Ent.refl _
  | v :: vs, σ, h => by
    have hv := h v List.mem_cons_self
    have ih := wipe_in (vs := vs) (σ := σ) fun i hi => h i (List.mem_cons_of_mem _ hi)
    refine ih.trans fun F H o s a => ?_
    show (sl ((wipe σ vs).set v none) Γ).P F H o
    rw [← set_any hv]
    exact sl_set (List.getElem?_eq_some_iff.mp hv).1 (sep_pers (fun _ => trivial) a)
theorem sm_out {ix : List Nat} : ∀ {vs : List Nat} {σ σ' : St}, (∀ i ∈ vs, Γ[i]? = some cAny) → σ'.length = σ.length → (∀ i, i ∉ vs → σ'[i]? = σ[i]?) → Ent (sl σ' Γ) (sl σ Γ)
  | [], σ, σ', _, hl, h => by
    have e : σ' = σ := List.ext_getElem? fun i => h i (by simp)
    rw [e]
    exact Ent.refl _
  | v :: vs, σ, σ', hc, hl, h => by
    have hv := hc v List.mem_cons_self
    have hlt := (List.getElem?_eq_some_iff.mp hv).1
    by_cases hs : v < σ.length
    · have step : Ent (sl σ' Γ) (sl (σ'.set v σ[v]) Γ) := fun F H o s a => by
        rw [← set_any hv]
        exact sl_set hlt (sep_pers (fun _ => trivial) a)
      refine step.trans (sm_out (ix := ix) (vs := vs) (σ := σ) (σ' := σ'.set v σ[v]) (fun i hi => hc i (List.mem_cons_of_mem _ hi)) (by rw [List.length_set, hl]) fun i hi => ?_)
      by_cases e : i = v
      · subst e
        rw [List.getElem?_set_self (by omega), List.getElem?_eq_getElem hs]
      · rw [List.getElem?_set_ne (Ne.symm e)]
        exact h i fun z => (List.mem_cons.mp z).elim e hi
    · exact fun F H o s a => by
        have e := sl_len (σ := σ') (Γ := Γ) ⟨F, H, o, a⟩
        omega
theorem wipe_get : ∀ {vs : List Nat} {σ : St} {i : Nat}, i ∉ vs → (wipe σ vs)[i]? = σ[i]?
  | [], _, _, _ => rfl
  | v :: vs, σ, i, h => by
    show ((wipe σ vs).set v none)[i]? = σ[i]?
    rw [List.getElem?_set_ne fun e => h (by simp [e])]
    exact wipe_get fun z => h (List.mem_cons_of_mem _ z)
theorem wipe_at : ∀ {vs : List Nat} {σ : St} {i : Nat}, i ∈ vs → i < σ.length → (wipe σ vs)[i]? = some none
  | v :: vs, σ, i, h, hl => by
    show ((wipe σ vs).set v none)[i]? = some none
    by_cases e : i = v
    · subst e
      rw [List.getElem?_set_self (by rw [wipe_length]; exact hl)]
    · rw [List.getElem?_set_ne (Ne.symm e)]
      exact wipe_at ((List.mem_cons.mp h).resolve_left e) hl
theorem wipe_sm {ix vs : List Nat} {σ σ' : St} (h : Sm ix (wipe σ vs) σ') (hx : ∀ i ∈ ix, i ∈ vs) : wipe σ' vs = wipe σ vs := by
  have hl : σ'.length = σ.length := h.1.trans (wipe_length σ vs)
  refine List.ext_getElem? fun i => ?_
  by_cases hi : i ∈ vs
  · by_cases hlt : i < σ.length
    · rw [wipe_at hi hlt, wipe_at hi (by omega)]
    · rw [List.getElem?_eq_none (by rw [wipe_length]; omega), List.getElem?_eq_none (by rw [wipe_length]; omega)]
  · rw [wipe_get hi, h.2 i fun z => hi (hx i z)]
/-- a turn of a comprehension: the test, the element -/
def ElJ (E : Ec) (tt : TT) (te : TE) (Γ : List Cell) {β τ : Type} [Dat β] (m : Res (Option β × τ)) (Γs : τ → List Cell) : Prop :=
  ∀ (σ : St) (H : Hp) (R : Asr) (Qn : Hp → Prop) (Qy : VK), Top (sep (base E σ Γ) R) H →
    m.wp (fun r => match r.1 with
      | none => ∀ H', Top (sep (base E σ (Γs r.2)) R) H' → Qn H'
      | some b => ∀ v H', Top (sep (base E σ (Γs r.2)) (sep (vA (dat b) v) R)) H' → Qy v H') (Exn E R σ) → tt σ H fun b H3 => if b = true then te σ H3 Qy else Qn H3
theorem elj_yes [Dat β] {m : Res γ} {Γ' : γ → List Cell} {c : γ → RC} {b : γ → β} {s : γ → τ} {Γs : τ → List Cell} (h : EvJ E te Γ m Γ' c) (f : ∀ a, Fz (c a) (dat (b a))) (l : ∀ a, Le (Γ' a) (Γs (s a))) :
    ElJ E tYes te Γ (m.bind fun a => .ok (some (b a), s a)) Γs := fun σ H R Qn Qy t q =>
  h σ H R _ t (wp_mono (wp_bind.mp q) (fun a _ q v H' t' => q v H' (((f a σ v _ H' (t'.ent frontE)).ent frontE).ent (Ent.sepL (Ent.sepL (l a).ent)))) fun _ x => x)
theorem elj_if [Dat β] {p : Bool} {m : Res γ} {Γ' : γ → List Cell} {c : γ → RC} {b : γ → β} {s : γ → τ} {s0 : τ} {Γs : τ → List Cell} (ht : EvTP E tt Γ p) (h : EvJ E te Γ m Γ' c) (f : ∀ a, Fz (c a) (dat (b a))) (l : ∀ a, Le (Γ' a) (Γs (s a))) (l0 : Le Γ (Γs s0)) :
    ElJ E tt te Γ (if p then m.bind fun a => .ok (some (b a), s a) else .ok (none, s0)) Γs := fun σ H R Qn Qy t q =>
  ht σ H R _ t fun H1 t1 => by
    cases p with
    | true => exact h σ H1 R _ t1 (wp_mono (wp_bind.mp (show (Res.bind m _).wp _ _ from q)) (fun a _ q v H' t' => q v H' (((f a σ v _ H' (t'.ent frontE)).ent frontE).ent (Ent.sepL (Ent.sepL (l a).ent)))) fun _ x => x)
    | false => exact (show ∀ H', Top (sep (base E σ (Γs s0)) R) H' → Qn H' from q) H1 (t1.ent (Ent.sepL (Ent.sepL l0.ent)))
theorem elj_ifM [Dat β] {mt : Res Bool} {m : Res γ} {Γ' : γ → List Cell} {c : γ → RC} {b : γ → β} {s : γ → τ} {s0 : τ} {Γs : τ → List Cell} (ht : EvT E tt Γ mt (fun _ => Γ) id) (h : EvJ E te Γ m Γ' c) (f : ∀ a, Fz (c a) (dat (b a))) (l : ∀ a, Le (Γ' a) (Γs (s a))) (l0 : Le Γ (Γs s0)) :
    ElJ E tt te Γ (mt.bind fun p => if p then m.bind fun a => .ok (some (b a), s a) else .ok (none, s0)) Γs := fun σ H R Qn Qy t q =>
  ht σ H R _ t (wp_mono (wp_bind.mp q) (fun p _ q H1 t1 => by
    cases p with
    | true => exact h σ H1 R _ t1 (wp_mono (wp_bind.mp (show (Res.bind m _).wp _ _ from q)) (fun a _ q v H' t' => q v H' (((f a σ v _ H' (t'.ent frontE)).ent frontE).ent (Ent.sepL (Ent.sepL (l a).ent)))) fun _ x => x)
    | false => exact (show ∀ H', Top (sep (base E σ (Γs s0)) R) H' → Qn H' from q) H1 (t1.ent (Ent.sepL (Ent.sepL l0.ent)))) fun _ x => x)
def noErr {α : Type} : Res α → Res α
  | .ok a => .ok a
  | _ => .bad
@[simp] theorem noErr_ok (a : α) : noErr (.ok a) = .ok a := rfl
theorem wp_noErr {m : Res α} {Q : α → Prop} {X Y : Nat → Prop} (h : (noErr m).wp Q X) : m.wp Q Y := by
  cases m with
  | ok a => exact h
  | err k => exact (show False from h).elim
  | bad => exact (show False from h).elim
def compR {α β τ : Type} : List α → τ → List β → (τ → α → Res (Option β × τ)) → Res (List β × τ)
  | [], s, acc, _ => .ok (acc, s)
  | a :: l, s, acc, f => (noErr (f s a)).bind fun r => match r.1 with
    | some b => need (acc.length < lim) (compR l r.2 (acc ++ [b]) f)
    | none => compR l r.2 acc f
theorem el_comp [Dat α] [Dat β] {mi : Res ι} {Γ0 : ι → List Cell} {xs : ι → List α} {Kp : ι → List Cell → Prop} {Γs : τ → List Cell} {Γt : τ → α → List Cell} {s0 : ι → τ} {f : τ → α → Res (Option β × τ)} {vs ix : List Nat}
    (hi : EvI E wi Γ mi Γ0 (fun a => (xs a).map dat) Kp) (hk : ∀ a s, Kp a (Γs s)) (h0 : ∀ a, Le (Γ0 a) (Γs (s0 a))) (hv : ∀ s, ∀ i ∈ vs, (Γs s)[i]? = some cAny) (hg : ∀ s x, EvG E.calm g (dat x) (Γs s) (Γt s x) ix) (hx : ∀ i ∈ ix, i ∈ vs)
    (hb : ∀ s x, ElJ E.calm tt te (Γt s x) (f s x) Γs) : EvJ E (tLc wi g tt te vs) Γ (mi.bind fun a => compR (xs a) (s0 a) [] f) (fun r => Γs r.2) fun r => rO (r.1.map dat) := fun σ H R Q t q =>
  hi σ H R _ t (wp_mono (wp_bind.mp q) (fun a _ q J H1 B hJ t1 => by
    intro D hD
    have t1' : Top (sep (base E σ (Γs (s0 a))) (sep B R)) H1 := t1.ent (Ent.sepL (Ent.sepL (h0 a).ent))
    have tD : Top (sep (oA D []) (sep (base E σ (Γs (s0 a))) (sep B R))) (upd H1 D (.lst [])) := t1'.alloc hD fun _ _ _ _ => .nil
    refine ⟨fun i mm H' => mm = (xs a).length - i ∧ i ≤ (xs a).length ∧ ∃ s acc, Top (sep (base E σ (Γs s)) (sep (oA D (acc.map dat)) (sep B R))) H' ∧ (compR ((xs a).drop i) s acc f).wp (fun r => ∀ v H', Top (sep (base E σ (Γs r.2)) (sep (rO (r.1.map dat) σ v) R)) H' → Q v H') (Exn E R σ),
      ⟨_, rfl, Nat.zero_le _, s0 a, [], tD.ent frontE, q⟩, ?_⟩
    rintro i mm H' ⟨rfl, hle, s, acc, t2, q2⟩
    have ok := hJ σ (Γs s) (hk a s)
    have t2' : Top (sep (sep (base E σ (Γs s)) B) (sep (oA D (acc.map dat)) R)) H' := t2.ent (rotE.trans Ent.assoc')
    by_cases hlt : i < (xs a).length
    · refine .inr ⟨ok.goes i H' _ (by rw [List.length_map]; exact hlt) t2', ?_⟩
      have ed : (xs a).drop i = (xs a)[i] :: (xs a).drop (i + 1) := List.drop_eq_getElem_cons hlt
      rw [ed] at q2
      refine ⟨fun H2 => ∃ s' acc', Top (sep (base E σ (Γs s')) (sep (oA D (acc'.map dat)) (sep B R))) H2 ∧ (compR ((xs a).drop (i + 1)) s' acc' f).wp (fun r => ∀ v H', Top (sep (base E σ (Γs r.2)) (sep (rO (r.1.map dat) σ v) R)) H' → Q v H') (Exn E R σ),
        fun H2 ⟨s', acc', t3, q3⟩ => ⟨_, by omega, rfl, hlt, s', acc', t3, q3⟩, fun x H2 hy => ?_⟩
      have t3 := ok.yields i (dat (xs a)[i]) H' x H2 _ (by simp [hlt]) t2' hy
      have t4 : Top (sep (base E σ (Γs s)) (sep (vA (dat (xs a)[i]) x) (sep B (sep (oA D (acc.map dat)) R)))) H2 := (t3.ent (Ent.sepR Ent.assoc)).ent frontE
      have t5 : Top (sep (base E.calm (wipe σ vs) (Γs s)) (sep (vA (dat (xs a)[i]) x) (sep B (sep (oA D (acc.map dat)) R)))) H2 := t4.ent (Ent.sepL (Ent.sepL (wipe_in (hv s))))
      refine hg s (xs a)[i] (wipe σ vs) H2 _ _ x t5 fun σ2 H3 sm t6 => ⟨wipe_sm sm hx, ?_⟩
      have back : ∀ s', Ent (sl σ2 (Γs s')) (sl σ (Γs s')) := fun s' => sm_out (ix := ix) (hv s') (sm.1.trans (wipe_length σ vs)) fun j hj => (sm.2 j fun z => hj (hx j z)).trans (wipe_get hj)
      refine hb s (xs a)[i] σ2 H3 _ _ _ t6 (wp_noErr (wp_mono (wp_bind.mp q2) (fun r _ q3 => ?_) fun _ x => x))
      obtain ⟨ob, s'⟩ := r
      cases ob with
      | none => exact fun H4 t7 => ⟨s', acc, ((t7.ent rotE).ent (Ent.sepL (Ent.sepL (back s')))), q3⟩
      | some b =>
        intro v H4 t7
        obtain ⟨hn, q4⟩ := wp_need q3
        have t8 : Top (sep (base E σ (Γs s')) (sep (vA (dat b) v) (sep B (sep (oA D (acc.map dat)) R)))) H4 := t7.ent (Ent.sepL (Ent.sepL (back s')))
        have t9 : Top (sep (oA D (acc.map dat)) (sep (base E σ (Γs s')) (sep (vA (dat b) v) (sep B R)))) H4 := t8.ent ((Ent.sepR (Ent.sepR frontE)).trans ((Ent.sepR frontE).trans frontE))
        obtain ⟨vs', ev, ln⟩ := own_at (A := sep (base E σ (Γs s')) (sep (vA (dat b) v) (sep B R))) (t9.ent Ent.comm)
        rw [List.length_map] at ln
        refine ⟨vs', ev, by rw [ln]; exact lim_lt hn, s', acc ++ [b], ?_, q4⟩
        have t10 := t9.write (es := (acc ++ [b]).map dat) (ws := vs' ++ [v]) fun F o us s z e2 r => by
          rw [ev] at e2
          cases e2
          obtain ⟨_, _, _, _, _, _, ⟨_, _, _, _, _, z, _⟩⟩ := z
          rw [List.map_append]
          exact r.append (.one z)
        exact t10.ent (frontE.trans (Ent.sepR (Ent.sepR Ent.right)))
    · have e : i = (xs a).length := by omega
      subst e
      rw [List.drop_length] at q2
      refine .inl ⟨?_, q2 (.ref D) H' (t2.ent (Ent.sepR (Ent.sep (oA_oV D _) Ent.right)))⟩
      have z := ok.stops H' _ t2'
      rw [List.length_map] at z
      exact z) fun _ x => x)
/-- the simple ones -/
theorem compR_map {f : τ → α → Res (Option β × τ)} {g : α → β} {s : τ} : ∀ (xs : List α) (acc : List β), (∀ a ∈ xs, f s a = .ok (some (g a), s)) → acc.length + xs.length ≤ lim → compR xs s acc f = .ok (acc ++ xs.map g, s)
  | [], acc, _, _ => by simp [compR]
  | a :: l, acc, h, hl => by
    have hl' : acc.length + (l.length + 1) ≤ lim := hl
    unfold compR
    rw [h a List.mem_cons_self, noErr_ok, bind_ok]
    show need (acc.length < lim) (compR l s (acc ++ [g a]) f) = _
    rw [need_of (by omega), compR_map l (acc ++ [g a]) (fun b hb => h b (List.mem_cons_of_mem _ hb)) (by rw [List.length_append]; simp; omega)]
    simp
theorem compR_filter {f : τ → α → Res (Option β × τ)} {p : α → Bool} {g : α → β} {s : τ} : ∀ (xs : List α) (acc : List β), (∀ a ∈ xs, f s a = if p a then .ok (some (g a), s) else .ok (none, s)) → acc.length + xs.length ≤ lim → compR xs s acc f = .ok (acc ++ (xs.filter p).map g, s)
  | [], acc, _, _ => by simp [compR]
  | a :: l, acc, h, hl => by
    have hl' : acc.length + (l.length + 1) ≤ lim := hl
    unfold compR
    rw [h a List.mem_cons_self]
    cases e : p a with
    | true =>
      rw [if_pos rfl, noErr_ok, bind_ok]
      show need (acc.length < lim) (compR l s (acc ++ [g a]) f) = _
      rw [need_of (by omega), compR_filter l (acc ++ [g a]) (fun b hb => h b (List.mem_cons_of_mem _ hb)) (by rw [List.length_append]; simp; omega)]
      simp [e]
    | false =>
      rw [if_neg (by decide), noErr_ok, bind_ok]
      show compR l s acc f = _
      rw [compR_filter l acc (fun b hb => h b (List.mem_cons_of_mem _ hb)) (by omega)]
      simp [e]
end

/-! ### results told anew -/
section
variable {E : Ec} {Γ : List Cell} {α β γ δ : Type} {te : TE} {tt : TT} {tr : TA} {tb : TS}
open Res
theorem EvJ.ret {m : Res α} {Γ1 : α → List Cell} {c1 : α → RC} (g : α → γ) {Γ' : γ → List Cell} {c : γ → RC} (h : EvJ E te Γ m Γ1 c1) (h1 : ∀ a, Γ' (g a) = Γ1 a := by intro _; rfl) (h2 : ∀ a, c (g a) = c1 a := by intro _; rfl) : EvJ E te Γ (m.bind fun a => .ok (g a)) Γ' c := fun σ H R Q t q =>
  h σ H R Q t (wp_mono (wp_bind.mp q) (fun a _ q v H' t' => by
    have q' : ∀ v H', Top (sep (base E σ (Γ' (g a))) (sep (c (g a) σ v) R)) H' → Q v H' := q
    rw [h1 a, h2 a] at q'
    exact q' v H' t') fun _ x => x)
theorem EvA.ret {m : Res α} {Γ1 : α → List Cell} {c1 : α → List RC} (g : α → γ) {Γ' : γ → List Cell} {c : γ → List RC} (h : EvA E tr Γ m Γ1 c1) (h1 : ∀ a, Γ' (g a) = Γ1 a := by intro _; rfl) (h2 : ∀ a, c (g a) = c1 a := by intro _; rfl) : EvA E tr Γ (m.bind fun a => .ok (g a)) Γ' c := fun σ H R Q t q =>
  h σ H R Q t (wp_mono (wp_bind.mp q) (fun a _ q v H' t' => by
    have q' : ∀ v H', Top (sep (base E σ (Γ' (g a))) (sep (csA (c (g a)) σ v) R)) H' → Q v H' := q
    rw [h1 a, h2 a] at q'
    exact q' v H' t') fun _ x => x)
theorem r2_to (g : γ) {r : R2} {cx cy : RC} {Γ' : γ → List Cell} {c : γ → RC} (h : R2P E r cx cy Γ (c g)) (e : Γ' g = Γ := by rfl) : R2J E r cx cy Γ (.ok g) Γ' c := fun σ H R Q x y t q => by
  have q' : ∀ v H', Top (sep (base E σ (Γ' g)) (sep (c g σ v) R)) H' → Q v H' := q
  rw [e] at q'
  exact h σ H R Q x y t q'
theorem r2_map {m : Res α} (g : α → γ) {r : R2} {cx cy : RC} {c1 : α → RC} {Γ' : γ → List Cell} {c : γ → RC} (h : R2J E r cx cy Γ m (fun _ => Γ) c1) (h1 : ∀ a, Γ' (g a) = Γ := by intro _; rfl) (h2 : ∀ a, c (g a) = c1 a := by intro _; rfl) : R2J E r cx cy Γ (m.bind fun a => .ok (g a)) Γ' c := fun σ H R Q x y t q =>
  h σ H R Q x y t (wp_mono (wp_bind.mp q) (fun a _ q v H' t' => by
    have q' : ∀ v H', Top (sep (base E σ (Γ' (g a))) (sep (c (g a) σ v) R)) H' → Q v H' := q
    rw [h1 a, h2 a] at q'
    exact q' v H' t') fun _ x => x)
theorem rn_to (g : γ) {r : List V → Hp → VK → Prop} {cs : List RC} {Γ' : γ → List Cell} {c : γ → RC} (h : RnP E r cs Γ (c g)) (e : Γ' g = Γ := by rfl) : RnJ E r cs Γ (.ok g) Γ' c := fun σ H R Q vs t q => by
  have q' : ∀ v H', Top (sep (base E σ (Γ' g)) (sep (c g σ v) R)) H' → Q v H' := q
  rw [e] at q'
  exact h σ H R Q vs t q'
theorem rn_map {m : Res α} (g : α → γ) {r : List V → Hp → VK → Prop} {cs : List RC} {c1 : α → RC} {Γ' : γ → List Cell} {c : γ → RC} (h : RnJ E r cs Γ m (fun _ => Γ) c1) (h1 : ∀ a, Γ' (g a) = Γ := by intro _; rfl) (h2 : ∀ a, c (g a) = c1 a := by intro _; rfl) : RnJ E r cs Γ (m.bind fun a => .ok (g a)) Γ' c := fun σ H R Q vs t q =>
  h σ H R Q vs t (wp_mono (wp_bind.mp q) (fun a _ q v H' t' => by
    have q' : ∀ v H', Top (sep (base E σ (Γ' (g a))) (sep (c (g a) σ v) R)) H' → Q v H' := q
    rw [h1 a, h2 a] at q'
    exact q' v H' t') fun _ x => x)
theorem r1_to (g : γ) {r : V → Hp → VK → Prop} {cx : RC} {Γ' : γ → List Cell} {c : γ → RC} (h : R1P E r cx Γ (c g)) (e : Γ' g = Γ := by rfl) : R1J E r cx Γ (.ok g) Γ' c := fun σ H R Q x t q => by
  have q' : ∀ v H', Top (sep (base E σ (Γ' g)) (sep (c g σ v) R)) H' → Q v H' := q
  rw [e] at q'
  exact h σ H R Q x t q'
theorem EvS.is {m : Res γ} {post : γ → Fin} {Δ : List Cell} (e : Γ = Δ) (h : EvS E tb Δ m post) : EvS E tb Γ m post := e ▸ h
theorem EvS1.to {m : Res γ} {Γ1 : γ → List Cell} {Δ : γ → List Cell} (h : EvS1 E tb Γ m Γ1) (l : ∀ a, Le (Γ1 a) (Δ a)) : EvS1 E tb Γ m Δ := fun σ H R D t q =>
  h σ H R D t (wp_mono q (fun a _ q σ' H' t' => q σ' H' (t'.ent (Ent.sepL (Ent.sepL (l a).ent)))) fun _ x => x)
/-- a join's branch: its end's values -/
theorem EvS1.ret {m : Res α} {Γ1 : α → List Cell} (g : α → γ) {Γ' : γ → List Cell} (h : EvS1 E tb Γ m Γ1) (l : ∀ a, Le (Γ1 a) (Γ' (g a))) : EvS1 E tb Γ (m.bind fun a => .ok (g a)) Γ' := fun σ H R D t q =>
  h σ H R D t (wp_mono (wp_bind.mp q) (fun a _ q σ' H' t' => (show ∀ σ H, Top (sep (base E σ (Γ' (g a))) R) H → D.nx σ H from q) σ' H' (t'.ent (Ent.sepL (Ent.sepL (l a).ent)))) fun _ x => x)
end
/-! ### a def -/
def allP (F H : Hp) : St → List Cell → Prop
  | [], [] => True
  | o :: σ, c :: Γ => (∀ w, (c o).P F H w) ∧ allP F H σ Γ
  | _, _ => False
theorem sl_all {F H : Hp} : ∀ {σ : St} {Γ : List Cell} (w : Addr → Prop), allP F H σ Γ → (sl σ Γ).P F H w
  | [], [], _, _ => trivial
  | _ :: _, _ :: _, w, h => sep_pers h.1 (sl_all w h.2)
  | [], _ :: _, _, h => (show False from h).elim
  | _ :: _, [], _, h => (show False from h).elim
abbrev Ecf (K : PySem.W.Frag) (Ex : XK) (ec : Nat → Value) (C : Asr) : Ec := ⟨K, fun cls d _ H => Ex cls d H, ec, fun _ => emp, C⟩
theorem xok_emp {K : PySem.W.Frag} {Ex : XK} {ec : Nat → Value} {C : Asr} {Γ : List Cell} : XOk (Ecf K Ex ec C) Γ := fun _ => Ent.emp
theorem xok_calm {K : PySem.W.Frag} {Ex : XK} {ec : Nat → Value} {C : Asr} {Γ : List Cell} : XOk (Ecf K Ex ec C).calm Γ := fun _ => Ent.emp
section
variable {K : PySem.W.Frag} {ec : Nat → Value} {C : Asr} {Q : VK} {Ex : XK} {H : Hp} {σ : St} {t : TS} {Γ0 : List Cell} {β : Type} {m : Res β} {c : β → V → Asr} {Γr : β → List Cell}
open Res
theorem fin0 (hT : Top C H) (hin : ∀ F o, Same F H → C.P F H o → allP F H σ Γ0) (hw : m.wp (fun b => ∀ v H', Top (sep C (c b v)) H' → Q v H') fun k => ∀ H', Top C H' → Ex (ec k) none H')
    (hb : EvS (Ecf K Ex ec C) t Γ0 m fun b => .rt (Γr b) fun _ => c b) : t { nx := fun _ H' => Q .non H', rt := Q } σ H := by
  obtain ⟨F, o, s, k, p⟩ := hT
  refine hb σ H emp _ ⟨F, o, s, k, ?_⟩ (wp_mono hw (fun b _ q σ' v H' t' => q v H' (t'.ent (Ent.sep Ent.right Ent.left))) fun k q σ' H' t' => q H' (t'.ent (Ent.left.trans Ent.right)))
  exact Ent.comm F H o s (sep_pers (A := emp) (fun _ => trivial) (sep_pers (fun w => sl_all w (hin F o s p)) p))
/-- .. that falls off its end -/
theorem fin0N (hT : Top C H) (hin : ∀ F o, Same F H → C.P F H o → allP F H σ Γ0) (hw : m.wp (fun b => ∀ v H', Top (sep C (vA .none v)) H' → Q v H') fun k => ∀ H', Top C H' → Ex (ec k) none H')
    (hb : EvS (Ecf K Ex ec C) t Γ0 m fun b => .nx (Γr b)) : t { nx := fun _ H' => Q .non H', rt := Q } σ H := by
  obtain ⟨F, o, s, k, p⟩ := hT
  refine hb σ H emp _ ⟨F, o, s, k, ?_⟩ (wp_mono hw (fun b _ q σ' H' t' => q .non H' (((t'.ent (Ent.left.trans Ent.right)).addV (v := .non) (d := .none) fun _ _ _ _ => .non).ent Ent.comm)) fun k q σ' H' t' => q H' (t'.ent (Ent.left.trans Ent.right)))
  exact Ent.comm F H o s (sep_pers (A := emp) (fun _ => trivial) (sep_pers (fun w => sl_all w (hin F o s p)) p))
/-- the list of a parameter, put into its slot -/
theorem at_in {p : Addr} {i : Nat} {ds : List PyData} {Γ : List Cell} {o : Addr → Prop} {F : Hp} (hi : i < Γ.length) (hs : σ[i]? = some (some (.ref p))) (ha : allP F H σ (Γ.set i cAny)) (h : (oA p ds).P F H o) : (sl σ (Γ.set i (cAt p ds))).P F H o :=
  sl_put hi hs ⟨o, fun _ => False, fun _ z => z, fun _ z => z.elim, fun _ _ z => z, sep_pers (fun _ => rfl) h, sl_all _ ha⟩
theorem at_out {E : Ec} {p : Addr} {i : Nat} {ds : List PyData} {Γ : List Cell} {A : Asr} (hi : Γ[i]? = some (cAt p ds)) : Ent (sep (base E σ Γ) A) (sep E.C (sep (oA p ds) A)) := fun F H o s ⟨o1, o2, h1, h2, d, ⟨o3, o4, h3, h4, e, a, b⟩, z⟩ => by
  obtain ⟨x, ex, _, o6, _, h6, _, _, pa⟩ := sl_get hi a
  have pa' := (oA p ds).up h6 pa
  exact ⟨o4, fun q => o3 q ∨ o2 q, fun q z => h1 q (h4 q z), fun q z => z.elim (fun z => h1 q (h3 q z)) (h2 q), fun q z w => w.elim (fun w => e q w z) (d q (h4 q z)), b, o3, o2, fun _ z => .inl z, fun _ z => .inr z, fun q z w => d q (h3 q z) w, pa', z⟩
theorem fin1 {p : Addr} {i : Nat} {i0 : List PyData} {i1 : β → List PyData} {Γ : List Cell} {Er : Nat → Prop} (hT : Top (sep C (oA p i0)) H) (hi : i < Γ.length) (hs : σ[i]? = some (some (.ref p))) (hin : ∀ F o, Same F H → C.P F H o → allP F H σ (Γ.set i cAny)) (hr : ∀ b, (Γr b)[i]? = some (cAt p (i1 b)))
    (hw : (noErr m).wp (fun b => ∀ v H', Top (sep C (sep (oA p (i1 b)) (c b v))) H' → Q v H') Er)
    (hb : EvS (Ecf K Ex ec C) t (Γ.set i (cAt p i0)) m fun b => .rt (Γr b) fun _ => c b) : t { nx := fun _ H' => Q .non H', rt := Q } σ H := by
  obtain ⟨F, o, s, k, o1, o2, h1, h2, d, pc, po⟩ := hT
  refine hb σ H emp _ ⟨F, o, s, k, ?_⟩ (wp_noErr (wp_mono hw (fun b _ q σ' v H' t' => q v H' ((t'.ent (at_out (hr b))).ent (Ent.sepR (Ent.sepR Ent.left)))) fun k q => q))
  exact Ent.comm F H o s (sep_pers (A := emp) (fun _ => trivial) ⟨o2, o1, h2, h1, fun q z w => d q w z, at_in hi hs (hin F o1 s pc) po, pc⟩)
end
end Lc
/-! Lc: more operations -/
namespace Lc
open PySem L2
section
variable {E : Ec} {Γ : List Cell} {R A : Asr} {H : Hp} {x y v : V} {d : PyData} {cx cy : RC} {α β γ δ : Type} {ta tb tc te : TE} {tr : TA}
open Res
/-! comparisons -/
theorem r2_eqI {i j : Int} : R2P E rEq (rV (.int i)) (rV (.int j)) Γ (rV (.bool (decide (i = j)))) := fun σ H R Q x y t q => by
  have e1 := int1 t
  have e2 := int2 t
  subst e1
  subst e2
  refine ⟨rfl, q _ H (res2 t fun F => ?_)⟩
  have e : decide (V.int i = V.int j) = decide (i = j) := decide_eq_decide.mpr ⟨fun h => by cases h; rfl, fun h => by rw [h]⟩
  rw [e]
  exact .bl _
theorem r2_neI {i j : Int} : R2P E rNe (rV (.int i)) (rV (.int j)) Γ (rV (.bool (!decide (i = j)))) := fun σ H R Q x y t q => by
  have e1 := int1 t
  have e2 := int2 t
  subst e1
  subst e2
  refine ⟨rfl, q _ H (res2 t fun F => ?_)⟩
  have e : decide (V.int i = V.int j) = decide (i = j) := decide_eq_decide.mpr ⟨fun h => by cases h; rfl, fun h => by rw [h]⟩
  rw [e]
  exact .bl _
theorem str1 {i : Str} (t : Top (sep A (sep (vA (.str i) x) R)) H) : x = .str i := by
  obtain ⟨F, _, z⟩ := top1 t
  cases z; rfl
theorem r2_eqS {i j : Str} : R2P E rEq (rV (.str i)) (rV (.str j)) Γ (rV (.bool (decide (i = j)))) := fun σ H R Q x y t q => by
  have e1 := str1 t
  have e2 := str1 (t.ent Ent.assoc')
  subst e1
  subst e2
  refine ⟨rfl, q _ H (res2 t fun F => ?_)⟩
  have e : decide (V.str i = V.str j) = decide (i = j) := decide_eq_decide.mpr ⟨fun h => by cases h; rfl, fun h => by rw [h]⟩
  rw [e]
  exact .bl _
theorem r2_neS {i j : Str} : R2P E rNe (rV (.str i)) (rV (.str j)) Γ (rV (.bool (!decide (i = j)))) := fun σ H R Q x y t q => by
  have e1 := str1 t
  have e2 := str1 (t.ent Ent.assoc')
  subst e1
  subst e2
  refine ⟨rfl, q _ H (res2 t fun F => ?_)⟩
  have e : decide (V.str i = V.str j) = decide (i = j) := decide_eq_decide.mpr ⟨fun h => by cases h; rfl, fun h => by rw [h]⟩
  rw [e]
  exact .bl _
/-- a < b < c, nothing computes -/
theorem evp_chain {r r' : R2} {a b c : Int} {p p' : Int → Int → Bool} (ha : EvP E ta Γ (rV (.int a))) (hb : EvP E tb Γ (rV (.int b))) (hc : EvP E tc Γ (rV (.int c)))
    (h1 : ∀ H (Q : VK), Q (.bl (p a b)) H → r (.int a) (.int b) H Q) (h2 : ∀ H (Q : VK), Q (.bl (p' b c)) H → r' (.int b) (.int c) H Q) : EvP E (tChain r r' ta tb tc) Γ (rV (.bool (p a b && p' b c))) := fun σ H R Q t q =>
  ha σ H R _ t fun x H1 t1 => by
    have ex := int1 t1
    subst ex
    refine hb σ H1 R _ (t1.ent (Ent.sepR Ent.right)) fun y H2 t2 => ?_
    have ey := int1 t2
    subst ey
    refine h1 H2 _ ⟨p a b, rfl, ?_⟩
    cases e : p a b with
    | false => exact q (.bl false) H2 (res1 t2 fun F => by rw [e]; exact .bl _)
    | true =>
      refine hc σ H2 R _ (t2.ent (Ent.sepR Ent.right)) fun z H3 t3 => ?_
      have ez := int1 t3
      subst ez
      exact h2 H3 Q (q _ H3 (res1 t3 fun F => by rw [e]; exact .bl _))
theorem ch_B0 {g : Int → Int → Bool} {a b : Int} : ∀ H (Q : VK), Q (.bl (g a b)) H → (rI0 fun i j => .bl (g i j)) (.int a) (.int b) H Q := fun H Q q => ⟨a, b, rfl, rfl, q⟩

/-! several names at once -/
theorem three_args {c1 c2 c3 : RC} {σ : St} {vs : List V} (t : Top (sep A (sep (csA [c1, c2, c3] σ vs) R)) H) : ∃ x y z, vs = [x, y, z] ∧ Top (sep A (sep (c1 σ x) (sep (c2 σ y) (sep (c3 σ z) R)))) H := by
  cases vs with
  | nil => exact (t.fact (φ := False) fun _ _ _ ⟨_, _, _, _, _, _, ⟨_, _, _, _, _, a, _⟩⟩ => a).elim
  | cons x r =>
    have t' : Top (sep (sep A (c1 σ x)) (sep (csA [c2, c3] σ r) R)) H := t.ent ((Ent.sepR Ent.assoc).trans Ent.assoc')
    obtain ⟨y, z, rfl, t2⟩ := two_args t'
    exact ⟨x, y, z, rfl, t2.ent Ent.assoc⟩
/-- a result that does not hang on the slots -/
def Fl (c : RC) : Prop := ∀ σ σ', c σ = c σ'
theorem fl_v : Fl (rV d) := fun _ _ => rfl
theorem fl_o {ds : List PyData} : Fl (rO ds) := fun _ _ => rfl
theorem es_par {m : Res γ} {Γ1 : γ → List Cell} {c1 c2 : γ → RC} {k1 k2 : γ → Cell} {i j : Nat} (h : EvA E tr Γ m Γ1 fun a => [c1 a, c2 a]) (s1 : ∀ a, Sto (c1 a) (k1 a)) (s2 : ∀ a, Sto (c2 a) (k2 a)) (f2 : ∀ a, Fl (c2 a)) (hi : ∀ a, i < (Γ1 a).length) (hj : ∀ a, j < (Γ1 a).length) :
    EvS1 E (tPar i j tr) Γ m fun a => ((Γ1 a).set i (k1 a)).set j (k2 a) := fun σ H R D t q =>
  h σ H R _ t (wp_mono q (fun a _ q vs H' t' => by
    obtain ⟨x, y, rfl, t2⟩ := two_args t'
    refine ⟨x, y, rfl, q _ H' ?_⟩
    have t3 := put_slot (s1 a) (hi a) t2
    rw [f2 a σ (σ.set i (some x))] at t3
    exact put_slot (s2 a) (by rw [List.length_set]; exact hj a) t3) fun _ x => x σ)
theorem es_par3 {m : Res γ} {Γ1 : γ → List Cell} {c1 c2 c3 : γ → RC} {k1 k2 k3 : γ → Cell} {i j l : Nat} (h : EvA E tr Γ m Γ1 fun a => [c1 a, c2 a, c3 a]) (s1 : ∀ a, Sto (c1 a) (k1 a)) (s2 : ∀ a, Sto (c2 a) (k2 a)) (s3 : ∀ a, Sto (c3 a) (k3 a)) (f2 : ∀ a, Fl (c2 a)) (f3 : ∀ a, Fl (c3 a))
    (hi : ∀ a, i < (Γ1 a).length) (hj : ∀ a, j < (Γ1 a).length) (hl : ∀ a, l < (Γ1 a).length) :
    EvS1 E (tPar3 i j l tr) Γ m fun a => (((Γ1 a).set i (k1 a)).set j (k2 a)).set l (k3 a) := fun σ H R D t q =>
  h σ H R _ t (wp_mono q (fun a _ q vs H' t' => by
    obtain ⟨x, y, z, rfl, t2⟩ := three_args t'
    refine ⟨x, y, z, rfl, q _ H' ?_⟩
    have t3 := put_slot (s1 a) (hi a) t2
    rw [f2 a σ (σ.set i (some x)), f3 a σ (σ.set i (some x))] at t3
    have t4 := put_slot (s2 a) (by rw [List.length_set]; exact hj a) t3
    rw [f3 a _ ((σ.set i (some x)).set j (some y))] at t4
    exact put_slot (s3 a) (by rw [List.length_set, List.length_set]; exact hl a) t4) fun _ x => x σ)
/-- names of a tuple's targets, their values' cells -/
def GlJ (E : Ec) (g : TGs) (cs : List RC) (Γ Γ' : List Cell) : Prop := ∀ (σ0 σ : St) (H : Hp) (R : Asr) (Q : St → Hp → Prop) (vs : List V), Top (sep (base E σ Γ) (sep (csA cs σ0 vs) R)) H → (∀ σ' H', Top (sep (base E σ' Γ') R) H' → Q σ' H') → g vs σ H Q
theorem gl_nil : GlJ E gNil [] Γ Γ := fun σ0 σ H R Q vs t q => by
  cases vs with
  | nil => exact ⟨rfl, q σ H (t.ent (Ent.sepR Ent.right))⟩
  | cons v vs => exact (t.fact (φ := False) fun _ _ _ ⟨_, _, _, _, _, _, ⟨_, _, _, _, _, a, _⟩⟩ => a).elim
theorem gl_cons {g : TGs} {i : Nat} {c : RC} {cl : Cell} {cs : List RC} {Γ' : List Cell} (hs : Sto c cl) (hf : Fl c) (hi : i < Γ.length) (h : GlJ E g cs (Γ.set i cl) Γ') : GlJ E (gCons (gName i) g) (c :: cs) Γ Γ' := fun σ0 σ H R Q vs t q => by
  cases vs with
  | nil => exact (t.fact (φ := False) fun _ _ _ ⟨_, _, _, _, _, _, ⟨_, _, _, _, _, a, _⟩⟩ => a).elim
  | cons v vs =>
    refine ⟨v, vs, rfl, ?_⟩
    have t1 : Top (sep (base E σ Γ) (sep (c σ0 v) (sep (csA cs σ0 vs) R))) H := t.ent (Ent.sepR Ent.assoc)
    rw [hf σ0 σ] at t1
    exact h σ0 _ H R Q vs (put_slot hs hi t1) q
theorem Top.grow {p : Addr} {ob : HO} (t : Top A H) (hp : H p = none) : Top A (upd H p ob) := by
  obtain ⟨F, o, s, k, a⟩ := t
  have ne : ∀ q, o q → q ≠ p := fun q hq e => (k q hq).2 (e ▸ hp)
  refine ⟨F, o, fun b u e => ?_, fun q hq => ?_, A.st (Same.refl F) (fun q hq => upd_ne (ne q hq)) a⟩
  · have h := s b u e
    rw [upd_ne (fun z => by rw [z, hp] at h; cases h)]
    exact h
  · rw [upd_ne (ne q hq)]
    exact k q hq
/-- a, b, .. = (x, y, ..) by a tuple -/
theorem es_tupasg {m : Res γ} {Γ1 : γ → List Cell} {cs : γ → List RC} {g : TGs} {n : Nat} {Γ' : γ → List Cell} (h : EvA E tr Γ m Γ1 cs) (hg : ∀ a, GlJ E g (cs a) (Γ1 a) (Γ' a)) (hn : ∀ a, (cs a).length = n) (h9 : n ≤ 1000 := by decide) :
    EvS1 E (tAsg (tTup tr) (gTup E.K n g)) Γ m Γ' := fun σ H R D t q =>
  h σ H R _ t (wp_mono q (fun a _ q vs H' t' => by
    have len : ∀ (cs : List RC) (vs : List V), (∃ F H o, (csA cs σ vs).P F H o) → vs.length = cs.length := by
      intro cs
      induction cs with
      | nil => intro vs ⟨F, H, o, h⟩; cases vs with
        | nil => rfl
        | cons v vs => exact (show False from h).elim
      | cons c cs ih => intro vs ⟨F, H, o, h⟩; cases vs with
        | nil => exact (show False from h).elim
        | cons v vs =>
          obtain ⟨_, _, _, _, _, _, z⟩ := h
          rw [List.length_cons, List.length_cons, ih vs ⟨_, _, _, z⟩]
    have ln : vs.length = n := (t'.fact fun F o s ⟨_, _, _, _, _, _, ⟨_, _, _, _, _, z, _⟩⟩ => len (cs a) vs ⟨_, _, _, z⟩).trans (hn a)
    refine ⟨by rw [ln]; exact Nat.le_trans h9 (by decide), fun p hp => ⟨p, vs, rfl, SqT.of upd_same, ln, hg a σ σ _ R _ vs (t'.grow hp) q⟩⟩) fun _ x => x σ)
/-- a, b = a list of two -/
theorem es_unl {ds : List PyData} {m : Res γ} {Γ1 : γ → List Cell} {c : γ → RC} {g : TGs} {n : Nat} {ds : γ → List PyData} {Γ' : γ → List Cell} {ix : List Nat} (h : EvJ E te Γ m Γ1 c) (hr : ∀ a, PArg E (Γ1 a) K0 (c a) (ppS E.K (ds a))) (hg : ∀ a, (ds a).length = n → EvGs E g (ds a) (Γ1 a) (Γ' a) ix) :
    EvS1 E (tAsg te (gUnl E.K n g)) Γ (m.bind fun a => need ((ds a).length = n) (.ok a)) Γ' := fun σ H R D t q =>
  h σ H R _ t (wp_mono (wp_bind.mp q) (fun a _ q v H' t' => by
    obtain ⟨hn, q⟩ := wp_need q
    obtain ⟨p, vs, rfl, hs, ln, t2⟩ := readS (hr a) t'
    exact ⟨p, vs, rfl, hs, ln.trans hn, hg a hn σ H' R _ vs (t2.ent (Ent.sepR (Ent.sepR Ent.right))) fun σ' H'' _ t3 => q σ' H'' t3⟩) fun _ x => x σ)
/-! xs[::-1], list(range(a, b)) -/
theorem evp_rev [Dat α] {xs : List α} (h : EvP E te Γ cx) (hr : PArg E Γ K0 cx (ppS E.K (xs.map dat))) : EvP E (tRevL E.K te) Γ (rO (xs.reverse.map dat)) := fun σ H R Q t q =>
  h σ H R _ t fun x H1 t1 => by
    obtain ⟨a, vs, rfl, hs, ln, t2⟩ := readS hr t1
    refine ⟨a, vs, rfl, hs, fun p hp => q _ _ ((newL t2 hp fun F' o s' z => ?_).ent (Ent.sepR (Ent.sepR (Ent.right.trans Ent.right))))⟩
    rw [List.map_reverse]
    exact (as_of F' o s' z).reverse
theorem ev_rev [Dat α] {m : Res γ} {Γ1 : γ → List Cell} {c : γ → RC} {xs : γ → List α} (h : EvJ E te Γ m Γ1 c) (hr : ∀ a, PArg E (Γ1 a) K0 (c a) (ppS E.K ((xs a).map dat))) : EvJ E (tRevL E.K te) Γ m Γ1 fun a => rO ((xs a).reverse.map dat) := fun σ H R Q t q =>
  h σ H R _ t (wp_mono q (fun g _ q x H1 t1 => by
    obtain ⟨a, vs, rfl, hs, ln, t2⟩ := readS (hr g) t1
    refine ⟨a, vs, rfl, hs, fun p hp => q _ _ ((newL t2 hp fun F' o s' z => ?_).ent (Ent.sepR (Ent.sepR (Ent.right.trans Ent.right))))⟩
    rw [List.map_reverse]
    exact (as_of F' o s' z).reverse) fun _ x => x)
theorem rgV_rp {F : Hp} (a b : Int) : RpAll F (rgV a b) ((rangeL a b).map dat) := by
  have e : rgV a b = (rangeL a b).map V.int := by unfold rgV rangeL; rw [List.map_map]; rfl
  rw [e]
  exact RpAll.of_ints _
def listRg (a b : Int) : Res (List Int) := need (-(2 ^ 62) ≤ a ∧ a < 2 ^ 62 ∧ -(2 ^ 62) ≤ b ∧ b < 2 ^ 62 ∧ (b - a).toNat ≤ 2 ^ 24) (.ok (rangeL a b))
theorem ev_listRg2 {ma : Res α} {Γ1 : α → List Cell} {fa : α → Int} {mb : α → Res β} {Γ2 : α → β → List Cell} {fb : α → β → Int} (ha : EvJ E ta Γ ma Γ1 fun a => rV (.int (fa a))) (hb : ∀ a, EvJ E tb (Γ1 a) (mb a) (Γ2 a) fun b => rV (.int (fb a b))) :
    EvJ E (tLstRg (tRg2 ta tb)) Γ (ma.bind fun a => (mb a).bind fun b => (listRg (fa a) (fb a b)).bind fun l => .ok (a, b, l)) (fun r => Γ2 r.1 r.2.1) fun r => rO (r.2.2.map dat) := fun σ H R Q t q =>
  ha σ H R _ t (wp_mono (wp_bind.mp q) (fun a _ q x H1 t1 => by
    have e := int1 t1
    subst e
    refine hb a σ H1 R _ (t1.ent (Ent.sepR Ent.right)) (wp_mono (wp_bind.mp q) (fun b _ q y H2 t2 => ?_) fun _ x => x)
    have e := int1 t2
    subst e
    unfold listRg at q
    obtain ⟨ok, q⟩ := wp_need (wp_bind.mp q)
    refine ⟨fa a, fb a b, rfl, rfl, ok, fun p hp => q (.ref p) _ ?_⟩
    exact newL (t2.ent (Ent.sepR Ent.right)) hp fun F o s z => rgV_rp _ _) fun _ x => x)
theorem ev_listRg1 {ma : Res α} {Γ1 : α → List Cell} {fa : α → Int} (ha : EvJ E ta Γ ma Γ1 fun a => rV (.int (fa a))) :
    EvJ E (tLstRg (tRg1 ta)) Γ (ma.bind fun a => (listRg 0 (fa a)).bind fun l => .ok (a, l)) (fun r => Γ1 r.1) fun r => rO (r.2.map dat) := fun σ H R Q t q =>
  ha σ H R _ t (wp_mono (wp_bind.mp q) (fun a _ q x H1 t1 => by
    have e := int1 t1
    subst e
    unfold listRg at q
    obtain ⟨ok, q⟩ := wp_need (wp_bind.mp q)
    refine ⟨fa a, rfl, ok, fun p hp => q (.ref p) _ ?_⟩
    exact newL (t1.ent (Ent.sepR Ent.right)) hp fun F o s z => rgV_rp _ _) fun _ x => x)
/-! turns of a comprehension that compute nothing -/
theorem elj_yesP [Dat β] {τ : Type} {c : RC} {b : β} {s : τ} {Γs : τ → List Cell} (h : EvP E te Γ c) (f : Fz c (dat b)) (l : Le Γ (Γs s)) : ElJ E tYes te Γ (.ok (some b, s)) Γs := fun σ H R Qn Qy t q =>
  h σ H R _ t fun v H' t' => q v H' (((f σ v _ H' (t'.ent frontE)).ent frontE).ent (Ent.sepL (Ent.sepL l.ent)))
theorem elj_ifP [Dat β] {τ : Type} {tt : TT} {p : Bool} {c : RC} {b : β} {s : τ} {Γs : τ → List Cell} (ht : EvTP E tt Γ p) (h : EvP E te Γ c) (f : Fz c (dat b)) (l : Le Γ (Γs s)) : ElJ E tt te Γ (if p then .ok (some b, s) else .ok (none, s)) Γs := fun σ H R Qn Qy t q =>
  ht σ H R _ t fun H1 t1 => by
    cases p with
    | true => exact h σ H1 R _ t1 fun v H' t' => (show ∀ v H', Top (sep (base E σ (Γs s)) (sep (vA (dat b) v) R)) H' → Qy v H' from q) v H' (((f σ v _ H' (t'.ent frontE)).ent frontE).ent (Ent.sepL (Ent.sepL l.ent)))
    | false => exact (show ∀ H', Top (sep (base E σ (Γs s)) R) H' → Qn H' from q) H1 (t1.ent (Ent.sepL (Ent.sepL l.ent)))
theorem hv_nil {Γ : List Cell} : ∀ j ∈ ([] : List Nat), Γ[j]? = some cAny := fun _ h => by cases h
theorem hv_cons {Γ : List Cell} {i : Nat} {vs : List Nat} (h : Γ[i]? = some cAny) (hr : ∀ j ∈ vs, Γ[j]? = some cAny) : ∀ j ∈ i :: vs, Γ[j]? = some cAny := fun j hj => by
  rcases List.mem_cons.mp hj with e | hj
  · rw [e]
    exact h
  · exact hr j hj
theorem kp_true {ι τ : Type} : ∀ (a : ι) (s : τ), (fun (_ : ι) (_ : List Cell) => True) a Γ := fun _ _ => trivial
/-! numbers of any size -/
def CMulA (i j : Int) : Prop := ((-(2 ^ 64) < i ∧ i < 2 ^ 64) ∨ (-(2 ^ 64) < j ∧ j < 2 ^ 64)) ∨ i.natAbs.log2 + j.natAbs.log2 < 1000000
instance (i j : Int) : Decidable (CMulA i j) := by unfold CMulA; infer_instance
theorem op_mulA {X : Cx} : OpR X (binaryOp .Mult) (rI CMulA fun i j => .int (i * j)) := opI fun i j _ _ _ _ _ hc q => PyProof.Rows.mul_int q (hc.elim (fun h => CMul.ok h) fun h => CMulW.ok h)
def CPowA (i j : Int) : Prop := 0 ≤ j ∧ (Builtin.Int.intBits i : Int) * j ≤ 2 ^ 27
instance (i j : Int) : Decidable (CPowA i j) := by unfold CPowA; infer_instance
theorem op_powA {X : Cx} : OpR X (binaryOp .Pow) (rI CPowA fun i j => .int (i ^ j.toNat)) := opI fun i j _ _ _ _ _ hc q => PyProof.Rows.pow_int hc.1 hc.2 q
def mulA (i j : Int) : Res Int := need (CMulA i j) (.ok (i * j))
def powA (i j : Int) : Res Int := need (CPowA i j) (.ok (i ^ j.toNat))
theorem r2_mulA {i j : Int} : R2J E (rI CMulA fun i j => .int (i * j)) (rV (.int i)) (rV (.int j)) Γ (mulA i j) (fun _ => Γ) fun a => rV (.int a) := r2_IN fun h => h
theorem r2_powA {i j : Int} : R2J E (rI CPowA fun i j => .int (i ^ j.toNat)) (rV (.int i)) (rV (.int j)) Γ (powA i j) (fun _ => Γ) fun a => rV (.int a) := r2_IN fun h => h
/-! lists that grow, typed -/
variable {mk : List PyData → Cell} {i : Nat} {post : β → Fin} {tb : TS}
theorem es_bad {post : γ → Fin} : EvS E tb Γ .bad post := fun σ H R D t q => (show False from q).elim
theorem es_never {u : TS} {post : γ → Fin} : EvS E (tSeq tNever u) Γ .bad post := es_bad
theorem es_appendT [Dat α] {xs : List α} {a : α} {c : RC} (hk : OwnC mk) (h : EvP E te Γ c) (f : Fz c (dat a)) (hi : Γ[i]? = some (mk (xs.map dat))) :
    EvS1 E (tDrop (tBM E.K "list" rAppend (tVar i) (tCons te tNil))) Γ (need (xs.length < lim) (.ok ())) fun _ => Γ.set i (mk ((xs ++ [a]).map dat)) := by
  by_cases hn : xs.length < lim
  · have h1 := es_append hk h f hi
    rw [need_of (by rw [List.length_map]; exact hn)] at h1
    rw [need_of hn, List.map_append]
    exact h1
  · have e : need (xs.length < lim) (Res.ok ()) = .bad := if_neg hn
    rw [e]
    exact es_bad
theorem es_appendTM [Dat α] {m : Res γ} {Γ1 : γ → List Cell} {xs : γ → List α} {a : γ → α} {c : γ → RC} {ds0 : List PyData} (hk : OwnC mk) (h : EvJ E te Γ m Γ1 c) (f : ∀ g, Fz (c g) (dat (a g))) (h0 : Γ[i]? = some (mk ds0)) (hi : ∀ g, (Γ1 g)[i]? = some (mk ((xs g).map dat))) :
    EvS1 E (tDrop (tBM E.K "list" rAppend (tVar i) (tCons te tNil))) Γ (m.bind fun g => need ((xs g).length < lim) (.ok g)) fun g => (Γ1 g).set i (mk ((xs g ++ [a g]).map dat)) := by
  have h1 := es_appendM (ds := fun g => (xs g).map dat) (e := fun g => dat (a g)) hk h f h0 hi
  have e1 : (m.bind fun g => need (((xs g).map (dat : α → PyData)).length < lim) (.ok g)) = m.bind fun g => need ((xs g).length < lim) (.ok g) := by
    congr 1
    funext g
    by_cases hn : (xs g).length < lim
    · rw [need_of hn, need_of (by rw [List.length_map]; exact hn)]
    · unfold need
      rw [if_neg hn, if_neg (by rw [List.length_map]; exact hn)]
  rw [e1] at h1
  have e2 : (fun g => (Γ1 g).set i (mk ((xs g ++ [a g]).map dat))) = fun g => (Γ1 g).set i (mk ((xs g).map dat ++ [dat (a g)])) := by
    funext g
    rw [List.map_append]
    rfl
  rw [e2]
  exact h1
/-- the items of a short list -/
class Dflt (α : Type) where
  d : α
instance : Dflt Int := ⟨0⟩
instance {α β : Type} [Dflt α] [Dflt β] : Dflt (α × β) := ⟨(Dflt.d, Dflt.d)⟩
instance {α : Type} : Dflt (List α) := ⟨[]⟩
def getD0 {α : Type} [Dflt α] (xs : List α) (k : Nat) : α := xs.getD k Dflt.d
theorem es_unlT [Dat α] [Dflt α] {m : Res γ} {Γ1 : γ → List Cell} {c : γ → RC} {g : TGs} {n : Nat} {xs : γ → List α} {Γ' : γ → List Cell} {ix : List Nat} (h : EvJ E te Γ m Γ1 c) (hr : ∀ a, PArg E (Γ1 a) K0 (c a) (ppS E.K ((xs a).map dat)))
    (hg : ∀ a, EvGs E g ((List.range n).map fun k => dat (getD0 (xs a) k)) (Γ1 a) (Γ' a) ix) : EvS1 E (tAsg te (gUnl E.K n g)) Γ (m.bind fun a => need ((xs a).length = n) (.ok a)) Γ' := fun σ H R D t q =>
  h σ H R _ t (wp_mono (wp_bind.mp q) (fun a _ q v H' t' => by
    obtain ⟨hn, q⟩ := wp_need q
    obtain ⟨p, vs, rfl, hs, ln, t2⟩ := readS (hr a) t'
    rw [List.length_map] at ln
    have e : (xs a).map dat = (List.range n).map fun k => dat (getD0 (xs a) k) := by
      refine List.ext_getElem? fun k => ?_
      rw [List.getElem?_map, List.getElem?_map]
      by_cases hk : k < n
      · rw [List.getElem?_range hk, List.getElem?_eq_getElem (by omega)]
        simp [getD0, List.getD, List.getElem?_eq_getElem (show k < (xs a).length by omega)]
      · rw [List.getElem?_eq_none (by omega), List.getElem?_eq_none (by simp; omega)]
        rfl
    rw [e] at t2
    exact ⟨p, vs, rfl, hs, ln.trans hn, hg a σ H' R _ vs (t2.ent (Ent.sepR (Ent.sepR Ent.right))) fun σ' H'' _ t3 => q σ' H'' t3⟩) fun _ x => x σ)
/-! slices whose bounds compute -/
theorem rsl_stg {r : V → Option Int → Option Int → Hp → VK → Prop} {lo hi : Option Int} {c1 : RC} (g : γ) {Γ' : γ → List Cell} {c : γ → RC} (h : RslJ E r cx lo hi Γ (.ok ()) fun _ => c1) (e1 : Γ' g = Γ := by rfl) (e2 : c g = c1 := by rfl) :
    ∀ (σ : St) (H : Hp) (R : Asr) (Q : VK) (x : V), Top (sep (base E σ Γ) (sep (cx σ x) R)) H → (Res.ok g).wp (fun g => ∀ v H', Top (sep (base E σ (Γ' g)) (sep (c g σ v) R)) H' → Q v H') (Exn E R σ) → r x lo hi H Q := fun σ H R Q x t q => by
  have q' : ∀ v H', Top (sep (base E σ (Γ' g)) (sep (c g σ v) R)) H' → Q v H' := q
  rw [e1, e2] at q'
  exact h σ H R Q x t q'
theorem ev_slS {tl th : TO} {r : V → Option Int → Option Int → Hp → VK → Prop} {m0 : Res δ} {ca : δ → RC} {τ ε : Type} {ml : δ → Res τ} {mh : δ → τ → Res ε} {lo : τ → Option Int} {hi : ε → Option Int} {Γ0 : δ → List Cell} {Γ1 : δ → τ → List Cell} {Γ2 : δ → τ → ε → List Cell} {k : δ → τ → ε → Res γ} {c : γ → RC} {Γ' : γ → List Cell}
    (h : EvJ E te Γ m0 Γ0 ca) (h1 : ∀ d, EvO E tl (Γ0 d) (ml d) (Γ1 d) lo) (h2 : ∀ d a, EvO E th (Γ1 d a) (mh d a) (Γ2 d a) hi)
    (hr : ∀ d a b (σ : St) (H : Hp) (R : Asr) (Q : VK) (x : V), Top (sep (base E σ (Γ2 d a b)) (sep (ca d σ x) R)) H → (k d a b).wp (fun g => ∀ v H', Top (sep (base E σ (Γ' g)) (sep (c g σ v) R)) H' → Q v H') (Exn E R σ) → r x (lo a) (hi b) H Q) :
    EvJ E (tSl r te tl th) Γ (m0.bind fun d => (ml d).bind fun a => (mh d a).bind fun b => k d a b) Γ' c := ev_sl h h1 h2 hr
theorem eoS {τ : Type} {v : τ → Int} {m : Res τ} {Γ' : τ → List Cell} (h : EvJ E te Γ m Γ' fun a => rV (.int (v a))) : EvO E (tPart te) Γ m Γ' fun a => some (v a) := fun σ H R Q t q =>
  h σ H R _ t (wp_mono q (fun a _ q x H1 t1 => ⟨v a, int1 t1, q H1 (t1.ent (Ent.sepR Ent.right))⟩) fun _ x => x)
/-! any value -/
def ppX (d : PyData) : PP := fun v F H => Rp F v d ∨ ∃ ds, d = .list ds ∧ ppL ds v F H
theorem pa_xv {Kn : St → Prop} {d : PyData} : PArg E Γ Kn (rV d) (ppX d) := fun _ _ _ _ _ _ _ ⟨_, _, _, _, _, _, x⟩ => .inl x
theorem pa_xl {Kn : St → Prop} {c : RC} {ds : List PyData} (h : PArg E Γ Kn c (ppL ds)) : PArg E Γ Kn c (ppX (.list ds)) := fun σ v F H o kn s q => .inr ⟨ds, rfl, h σ v F H o kn s q⟩
theorem pa_xd {Kn : St → Prop} {c : RC} {d : PyData} (h : PArg E Γ Kn c (ppX d)) : PArg E Γ Kn c (ppD E.K d) := fun σ v F H o kn s q => by
  rcases h σ v F H o kn s q with z | ⟨ds, rfl, p, vs, rfl, e, r⟩
  · exact z.dp s
  · exact .lst (SqL.of e) (r.dp s)
theorem bwS {v : V} {ds : List PyData} (h : Bw E v (ppL ds)) : Bw E v (ppS E.K ds) := fun F H o s c => ppS_of (h F H o s c)
/-! a loop inside a part with other results -/
theorem es_seqG {t u : TS} {ρ : Type} {m : Res (Jn α ρ)} {Γ1 : α → List Cell} {k : α → Res β} {post0 : ρ → Fin} (g : ρ → β) (hg : ∀ r, (post (g r)).out = (post0 r).out) (h1 : EvS E t Γ m (Jn.post Γ1 post0)) (h2 : ∀ a, EvS E u (Γ1 a) (k a) post) :
    EvS E (tSeq t u) Γ (m.bind fun j => match j with | .go a => k a | .out b => .ok (g b)) post := fun σ H R D tt q =>
  h1 σ H R { D with nx := u D } tt (wp_mono (wp_bind.mp q) (fun j _ q1 => by
    cases j with
    | go a => exact fun σ' H' t' => h2 a σ' H' R D t' q1
    | out b =>
      show (post0 b).out.ok E R _
      rw [← hg b]
      exact Fin.out_ok q1) fun _ x => x)
theorem len_of {ps : List PP} {vs : List V} {C : Asr} (t : Top C H) (h : ∀ F H o, Same F H → C.P F H o → parOk ps vs F H) : vs.length = ps.length := by
  obtain ⟨F, o, s, _, p⟩ := t
  exact parOk_len (h F H o s p)
theorem len_of1 {ps : List PP} {vs : List V} {C B : Asr} (t : Top (sep C B) H) (h : ∀ F H o, Same F H → C.P F H o → parOk ps vs F H) : vs.length = ps.length := len_of (t.ent Ent.left) h
end
theorem len0 {vs : List V} (h : vs.length = 0) : vs = [] := List.eq_nil_of_length_eq_zero h
theorem len1 {vs : List V} (h : vs.length = 1) : ∃ a, vs = [a] := match vs, h with | [a], _ => ⟨a, rfl⟩
theorem len2 {vs : List V} (h : vs.length = 2) : ∃ a b, vs = [a, b] := match vs, h with | [a, b], _ => ⟨a, b, rfl⟩
theorem len3 {vs : List V} (h : vs.length = 3) : ∃ a b c, vs = [a, b, c] := match vs, h with | [a, b, c], _ => ⟨a, b, c, rfl⟩
theorem len4 {vs : List V} (h : vs.length = 4) : ∃ a b c d, vs = [a, b, c, d] := match vs, h with | [a, b, c, d], _ => ⟨a, b, c, d, rfl⟩
theorem len5 {vs : List V} (h : vs.length = 5) : ∃ a b c d e, vs = [a, b, c, d, e] := match vs, h with | [a, b, c, d, e], _ => ⟨a, b, c, d, e, rfl⟩
theorem len6 {vs : List V} (h : vs.length = 6) : ∃ a b c d e f, vs = [a, b, c, d, e, f] := match vs, h with | [a, b, c, d, e, f], _ => ⟨a, b, c, d, e, f, rfl⟩
end Lc
/-! Lc: values of any kind: isinstance, what a start and cards are -/
namespace Lc
theorem lt_len {n m : Nat} (h : Nat.ble (n + 1) m = true) : n < m := Nat.le_of_ble_eq_true h
open PySem L2
section
variable {E : Ec} {Γ : List Cell} {R A : Asr} {H : Hp} {x y v : V} {d : PyData} {cx cy : RC} {α β γ δ : Type} {ta tb tc te : TE} {tr : TA} {tt tu : TT}
open Res
theorem pg_tupK {X : Cx} {pos : Pos} {es : List Expr} {k : Nat} {t : TGs} (K : PySem.W.Frag) (n : Nat) (hK : X.K = K) (hc : X.calm = true) (h : PGs X es t) (hn : (assignEach es X.env).length = n) (hst : (assignEach es X.env).findIdx? (·.1) = none) : PG X (.Tuple es k pos) (gTup K n t) :=
  hK ▸ pg_tup hc h hn hst
theorem ixK {X : Cx} (K : PySem.W.Frag) (h : X.K = K) : IxR X (rIxL K) := h ▸ ix_list
theorem slK {X : Cx} (K : PySem.W.Frag) (h : X.K = K) : SlR X (rSlL K) := h ▸ sl_list
theorem lenK {X : Cx} (K : PySem.W.Frag) (h : X.K = K) : CallR X (.builtin "len") (fun xs H Q => ∃ p ys, xs = [.ref p] ∧ (SqL K H p ys ∨ SqT K H p ys) ∧ Q (.int ys.length) H) := by
  subst h
  exact call_len_seq
theorem listK {X : Cx} (K : PySem.W.Frag) (h : X.K = K) : CallR X (.type "list") (fun xs H Q => ∃ p ys, xs = [.ref p] ∧ (SqL K H p ys ∨ SqT K H p ys) ∧ ∀ l, H l = none → Q (.ref l) (upd H l (.lst ys))) := by
  subst h
  exact call_list_of
theorem sumK {X : Cx} (K : PySem.W.Frag) (h : X.K = K) (hc : X.calm = true) : CallR X (.builtin "sum") (rSum K) := h ▸ cr_sum hc
theorem minK {X : Cx} (K : PySem.W.Frag) (h : X.K = K) (hc : X.calm = true) : CallR X (.builtin "min") (rMin K) := h ▸ cr_min hc
theorem maxK {X : Cx} (K : PySem.W.Frag) (h : X.K = K) (hc : X.calm = true) : CallR X (.builtin "max") (rMax K) := h ▸ cr_max hc
theorem allK {X : Cx} (K : PySem.W.Frag) (h : X.K = K) (hc : X.calm = true) : CallR X (.builtin "all") (rAll K) := h ▸ cr_all hc
theorem anyK {X : Cx} (K : PySem.W.Frag) (h : X.K = K) (hc : X.calm = true) : CallR X (.builtin "any") (rAny K) := h ▸ cr_any hc
theorem es_parC {m : Res γ} {Γ1 : γ → List Cell} {c1 c2 : γ → RC} {k1 k2 : γ → Cell} {i j : Nat} {cs : γ → List RC} (h : EvA E tr Γ m Γ1 cs) (e : cs = fun a => [c1 a, c2 a]) (s1 : ∀ a, Sto (c1 a) (k1 a)) (s2 : ∀ a, Sto (c2 a) (k2 a)) (f2 : ∀ a, Fl (c2 a)) (hi : ∀ a, i < (Γ1 a).length) (hj : ∀ a, j < (Γ1 a).length) :
    EvS1 E (tPar i j tr) Γ m fun a => ((Γ1 a).set i (k1 a)).set j (k2 a) := es_par (e ▸ h) s1 s2 f2 hi hj
theorem es_par3C {m : Res γ} {Γ1 : γ → List Cell} {c1 c2 c3 : γ → RC} {k1 k2 k3 : γ → Cell} {i j l : Nat} {cs : γ → List RC} (h : EvA E tr Γ m Γ1 cs) (e : cs = fun a => [c1 a, c2 a, c3 a]) (s1 : ∀ a, Sto (c1 a) (k1 a)) (s2 : ∀ a, Sto (c2 a) (k2 a)) (s3 : ∀ a, Sto (c3 a) (k3 a)) (f2 : ∀ a, Fl (c2 a)) (f3 : ∀ a, Fl (c3 a))
    (hi : ∀ a, i < (Γ1 a).length) (hj : ∀ a, j < (Γ1 a).length) (hl : ∀ a, l < (Γ1 a).length) :
    EvS1 E (tPar3 i j l tr) Γ m fun a => (((Γ1 a).set i (k1 a)).set j (k2 a)).set l (k3 a) := es_par3 (e ▸ h) s1 s2 s3 f2 f3 hi hj hl
theorem ei_range1C {m : Res α} {Γ1 : α → List Cell} {n : α → Int} {cs : α → List RC} (h : EvA E tr Γ m Γ1 cs) (e : cs = fun a => [rV (.int (n a))]) : EvI E (iRng1 tr) Γ (m.bind fun a => (rangeR 0 (n a)).bind fun xs => .ok (a, xs)) (fun p => Γ1 p.1) (fun p => p.2.map dat) fun _ _ => True := ei_range1M (e ▸ h)
theorem ei_range2C {m : Res α} {Γ1 : α → List Cell} {a b : α → Int} {cs : α → List RC} (h : EvA E tr Γ m Γ1 cs) (e : cs = fun r => [rV (.int (a r)), rV (.int (b r))]) : EvI E (iRng2 tr) Γ (m.bind fun r => (rangeR (a r) (b r)).bind fun xs => .ok (r, xs)) (fun p => Γ1 p.1) (fun p => p.2.map dat) fun _ _ => True := ei_range2M (e ▸ h)
theorem ei_enumC [Dat α] {m : Res γ} {Γ' : γ → List Cell} {c : γ → RC} {xs : γ → List α} {Kp : γ → List Cell → Prop} {cs : γ → List RC} (h : EvA E tr Γ m Γ' cs) (e : cs = fun a => [c a]) (hs : ∀ a, Src E (Γ' a) (c a) ((xs a).map dat) (Kp a)) : EvI E (iEnum E.K tr) Γ m Γ' (fun a => (enumL (xs a)).map dat) Kp := ei_enumM (e ▸ h) hs
theorem ei_zipC [Dat α] [Dat β] {m : Res γ} {Γ' : γ → List Cell} {c c' : γ → RC} {xs : γ → List α} {ys : γ → List β} {Kp Kp' : γ → List Cell → Prop} {cs : γ → List RC} (h : EvA E tr Γ m Γ' cs) (e : cs = fun a => [c a, c' a]) (hs : ∀ a, Src E (Γ' a) (c a) ((xs a).map dat) (Kp a)) (hs' : ∀ a, Src E (Γ' a) (c' a) ((ys a).map dat) (Kp' a)) :
    EvI E (iZip E.K tr) Γ m Γ' (fun a => ((xs a).zip (ys a)).map dat) fun a Γ'' => Kp a Γ'' ∧ Kp' a Γ'' := ei_zip (e ▸ h) hs hs'
theorem ev_callSC {ma : Res δ} {Γ1 : δ → List Cell} {cs : δ → List RC} {ps : α → List PP} {m : α → Res β} {cb : β → V → Asr} (x : δ → α) (h : EvA E tr Γ ma Γ1 cs) (e : Γ1 = fun _ => Γ) (hp : ∀ a, Pars E Γ K0 (cs a) (ps (x a))) (hx : XOk E Γ) :
    EvJ E (tCallS (Sp0 E.ec ps m cb) (WE E.W) tr) Γ (ma.bind fun a => m (x a)) (fun _ => Γ) (fun b _ => cb b) := ev_callS' x (e ▸ h) hp hx
/-- a part that may go on or end -/
def Jn.sq {τ ρ β : Type} (m : Res (Jn τ ρ)) (k : τ → Res β) (g : ρ → β) : Res β := m.bind fun j => match j with | .go a => k a | .out b => .ok (g b)
theorem es_seqGJ {t u : TS} {ρ : Type} {m : Res (Jn α ρ)} {Γ1 : α → List Cell} {k : α → Res β} {post0 : ρ → Fin} {post : β → Fin} (g : ρ → β) (hg : ∀ r, (post (g r)).out = (post0 r).out) (h1 : EvS E t Γ m (Jn.post Γ1 post0)) (h2 : ∀ a, EvS E u (Γ1 a) (k a) post) :
    EvS E (tSeq t u) Γ (Jn.sq m k g) post := es_seqG g hg h1 h2
theorem es_seqCJ {t u : TS} {m1 : Res (Jn α β)} {Γ1 : α → List Cell} {k : α → Res β} {post : β → Fin} (h1 : EvS E t Γ m1 (Jn.post Γ1 post)) (h2 : ∀ a, EvS E u (Γ1 a) (k a) post) :
    EvS E (tSeq t u) Γ (Jn.sq m1 k fun b => b) post := es_seqC h1 h2
theorem Top.allocX {p : Addr} {ob : HO} {B : Asr} (t : Top A H) (hp : H p = none) (r : ∀ F, F p = none → ∀ H o, B.P (upd F p ob) H o) : Top (sep B A) (upd H p ob) := by
  obtain ⟨F, o, s, k, a⟩ := t
  have ne : ∀ q, o q → q ≠ p := fun q hq e => (k q hq).2 (e ▸ hp)
  have fp : F p = none := by
    cases e : F p with
    | none => rfl
    | some u => rw [s p u e] at hp; cases hp
  have sF : Same F (upd F p ob) := fun b u e => by
    rw [upd_ne (fun z => by rw [z, fp] at e; cases e)]
    exact e
  refine ⟨upd F p ob, o, fun b u e => ?_, fun q hq => ?_, sep_pers (fun _ => r F fp _ _) (A.st sF (fun q hq => upd_ne (ne q hq)) a)⟩
  · by_cases hb : b = p
    · subst hb
      rw [upd_same] at e ⊢
      exact e
    · rw [upd_ne hb] at e ⊢
      exact s b u e
  · rw [upd_ne (ne q hq), upd_ne (ne q hq)]
    exact k q hq
/-- a tuple of classes -/
def tyT (ns : List String) (v : V) : Asr := ⟨fun F _ _ => ∃ p, v = .ref p ∧ F p = some (.tup (ns.map V.ty)), fun s _ ⟨p, e, h⟩ => ⟨p, e, s _ _ h⟩, fun _ h => h⟩
theorem ev_tyT2 {a b : String} : EvP E (tTup (tCons (tC (.ty a)) (tCons (tC (.ty b)) tNil))) Γ (fun _ v => tyT [a, b] v) := fun σ H R Q t q =>
  ⟨(show 2 ≤ sizeLine by decide), fun p hp => q (.ref p) _ (((Top.allocX (B := tyT [a, b] (.ref p)) (ob := .tup [.ty a, .ty b]) t hp fun F fp H o => ⟨p, rfl, upd_same⟩)).ent frontE)⟩
theorem tyT_pair : ∀ ns : List String, Paired ClsV (ns.map V.ty) (ns.map Value.type)
  | [] => .nil
  | n :: ns => .cons (.ty n) (tyT_pair ns)
theorem rn_isiT {ns : List String} {b : Bool} (hk : PySem.W.kitAny E.K (.type (tyName d)) (ns.map Value.type) = some b) : RnP E (rIsiT E.K) [rV d, fun _ v => tyT ns v] Γ (rV (.bool b)) := fun σ H R Q vs t q => by
  obtain ⟨x, y, rfl, t1⟩ := two_args t
  obtain ⟨F, s, z⟩ := top1 t1
  obtain ⟨p, rfl, hp⟩ : ∃ p, y = .ref p ∧ H p = some (.tup (ns.map V.ty)) := t1.fact fun F o s ⟨_, _, _, _, _, _, ⟨_, _, _, _, _, _, ⟨_, _, _, _, _, ⟨p, e, h⟩, _⟩⟩⟩ => ⟨p, e, s _ _ h⟩
  exact ⟨x, p, _, .type (tyName d), _, b, rfl, hp, tyT_pair ns, ty_of s z, hk, q _ H (res2 t1 fun F => .bl _)⟩
theorem rn_isiTL {ns : List String} {ds : List PyData} {b : Bool} (h : PArg E Γ K0 cx (ppL ds)) (hk : PySem.W.kitAny E.K (.type "list") (ns.map Value.type) = some b) : RnP E (rIsiT E.K) [cx, fun _ v => tyT ns v] Γ (rV (.bool b)) := fun σ H R Q vs t q => by
  obtain ⟨x, y, rfl, t1⟩ := two_args t
  obtain ⟨a, ws, rfl, e, _, _⟩ := readL h t1
  obtain ⟨p, rfl, hp⟩ : ∃ p, y = .ref p ∧ H p = some (.tup (ns.map V.ty)) := t1.fact fun F o s ⟨_, _, _, _, _, _, ⟨_, _, _, _, _, _, ⟨_, _, _, _, _, ⟨p, e, h⟩, _⟩⟩⟩ => ⟨p, e, s _ _ h⟩
  exact ⟨_, p, _, .type "list", _, b, rfl, hp, tyT_pair ns, .base (.lst e), hk, q _ H (res2 t1 fun F => .bl _)⟩
def kitAnyB (a : String) : List String → Option Bool
  | [] => some false
  | n :: ns => match kitB a n with
    | some true => some true
    | some false => kitAnyB a ns
    | none => none
theorem kit_any {K : PySem.W.Frag} {a : String} : ∀ {ns : List String} {b : Bool}, kitAnyB a ns = some b → PySem.W.kitAny K (.type a) (ns.map Value.type) = some b
  | [], b, h => by
    cases h
    rfl
  | n :: ns, b, h => by
    unfold kitAnyB at h
    cases e : kitB a n with
    | none => rw [e] at h; cases h
    | some c =>
      rw [e] at h
      cases c with
      | true =>
        cases h
        exact kitAny_cons (kit_ty e) (fun z => by cases z) fun _ => rfl
      | false => exact kitAny_cons (kit_ty e) (fun _ => kit_any h) fun z => by cases z
theorem etp_eq {a b : Bool} (h : EvTP E tt Γ a) (e : a = b) : EvTP E tt Γ b := e ▸ h
theorem es_ifFF {t u : TS} {m : Res β} {post : β → Fin} (h : EvTP E tt Γ false) (h2 : EvS E u Γ m post) : EvS E (tSeq (tIfS tt t tNext) u) Γ m post := fun σ H R D t0 q =>
  h σ H R _ t0 fun H1 t1 => h2 σ H1 R D t1 q
theorem ev_callS1M {mk : List PyData → Cell} {i : Nat} {ma : Res δ} {Γ1 : δ → List Cell} {cs : δ → List RC} {ps : Addr → α → List PP} {i0 : α → List PyData} {m : α → Res β} {i1 : β → List PyData} {cb : β → V → Asr} (x : δ → α) (hk : OwnC mk) (h : EvA E tr Γ ma Γ1 cs) (hi : ∀ a, (Γ1 a)[i]? = some (mk (i0 (x a))))
    (hp : ∀ a p, Pars E ((Γ1 a).set i cAny) (K1 i p) (cs a) (ps p (x a))) (hx : ∀ a, XOk E (Γ1 a)) : EvJ E (tCallS (Sp1 E.ec ps i0 m i1 cb) (WE E.W) tr) Γ (ma.bind fun a => (m (x a)).bind fun b => .ok (a, b)) (fun r => (Γ1 r.1).set i (mk (i1 r.2))) (fun r _ => cb r.2) := fun σ H R Q t q =>
  h σ H R _ t (wp_mono (wp_bind.mp q) (fun a _ q1 vs H1 t1 => call1_core hk (hi a) (hp a) (hx a) (fun k H z => z) t1 (wp_mono (wp_bind.mp q1) (fun b _ q2 => q2) fun _ z => z)) fun _ z => z)
theorem ev_call01M {mk : List PyData → Cell} {i : Nat} {ma : Res δ} {Γ1 : δ → List Cell} {cs : δ → List RC} {ps : Addr → α → List PP} {i0 : α → List PyData} {m : α → Res β} {i1 : β → List PyData} {cb : β → V → Asr} (x : δ → α) (hk : OwnC mk) (h : EvA E tr Γ ma Γ1 cs) (hi : ∀ a, (Γ1 a)[i]? = some (mk (i0 (x a))))
    (hp : ∀ a p, Pars E ((Γ1 a).set i cAny) (K1 i p) (cs a) (ps p (x a))) (hx : ∀ a, XOk E (Γ1 a)) (hc : Calm E) : EvJ E (tCall (Sp1 E.ec ps i0 m i1 cb) [] E0 tr) Γ (ma.bind fun a => (m (x a)).bind fun b => .ok (a, b)) (fun r => (Γ1 r.1).set i (mk (i1 r.2))) (fun r _ => cb r.2) := fun σ H R Q t q =>
  h σ H R _ t (wp_mono (wp_bind.mp q) (fun a _ q1 vs H1 t1 => by
    rw [List.append_nil]
    exact call1_core hk (hi a) (hp a) (hx a) (fun k H z => (hc _ _ _ _ z).elim) t1 (wp_mono (wp_bind.mp q1) (fun b _ q2 => q2) fun _ z => z)) fun _ z => z)
/-- a promise that no reduction looks into -/
structure WP {α : Type} (m : Res α) (Q : α → Prop) (X : Nat → Prop) : Prop where
  wp : m.wp Q X
theorem sp0_go {ec : Nat → Value} {ps : α → List PP} {m : α → Res β} {c : β → V → Asr} {vs : List V} {Q : VK} {X : XK} {G : Prop} (h : Sp0 ec ps m c vs H Q X)
    (k : ∀ (x : α) (C : Asr), Top C H → (∀ F H o, Same F H → C.P F H o → parOk (ps x) vs F H) → WP (m x) (fun b => ∀ v H', Top (sep C (c b v)) H' → Q v H') (fun k => ∀ H', Top C H' → X (ec k) none H') → G) : G := by
  obtain ⟨x, C, a, b, d⟩ := h
  exact k x C a b ⟨d⟩
theorem sp1_go {ec : Nat → Value} {ps : Addr → α → List PP} {i0 : α → List PyData} {m : α → Res β} {i1 : β → List PyData} {c : β → V → Asr} {vs : List V} {Q : VK} {X : XK} {G : Prop} (h : Sp1 ec ps i0 m i1 c vs H Q X)
    (k : ∀ (p : Addr) (x : α) (C : Asr), Top (sep C (oA p (i0 x))) H → (∀ F H o, Same F H → C.P F H o → parOk (ps p x) vs F H) → WP (m x) (fun b => ∀ v H', Top (sep C (sep (oA p (i1 b)) (c b v))) H' → Q v H') (fun k => ∀ H', Top (sep C (oA p (i0 x))) H' → X (ec k) none H') → G) : G := by
  obtain ⟨p, x, C, a, b, d⟩ := h
  exact k p x C a b ⟨d⟩
theorem evp_andF (h : EvP E ta Γ (rV (.bool false))) : EvP E (tAndV ta tb) Γ (rV (.bool false)) := fun σ H R Q t q => h σ H R _ t fun v H1 t1 => ⟨false, bl_of t1, q (.bl false) H1 (bl_of t1 ▸ t1)⟩
theorem etp_orT (h : EvTP E tt Γ true) : EvTP E (tOr tt tu) Γ true := fun σ H R Q t q => h σ H R _ t fun H1 t1 => q H1 t1
theorem es_ifTT {t u : TS} {m : Res β} {post : β → Fin} (h : EvTP E tt Γ true) (h1 : EvS E t Γ m fun b => (post b).out) : EvS E (tSeq (tIfS tt t tNext) u) Γ m post := fun σ H R D t0 q =>
  h σ H R _ t0 fun H1 t1 => h1 σ H1 R { D with nx := u D } t1 (wp_mono q (fun b _ q1 => Fin.out_ok q1) fun _ x => x)
theorem ev_bwX {i : Nat} (hi : Γ[i]? = some (cIs v)) (h : Bw E v (ppX d)) (hd : ∀ ds, d ≠ .list ds) : EvP E (tVar i) Γ (rV d) := fun σ H R Q t q => by
  obtain ⟨F, o, s, kk, o1, o2, h1, h2, e, ⟨o3, o4, h3, h4, e', a, b⟩, b2⟩ := t
  obtain ⟨x, ex, hx⟩ := sl_get hi a
  have e1 : x = some v := hx
  subst e1
  have z : Rp F v d := by
    rcases h F H _ s b with z | ⟨ds, e, _⟩
    · exact z
    · exact (hd ds e).elim
  exact ⟨v, ex, q v H ⟨F, o, s, kk, o1, o2, h1, h2, e, ⟨o3, o4, h3, h4, e', a, b⟩, sep_pers (fun _ => z) b2⟩⟩
theorem tyX_of {K : PySem.W.Frag} {F : Hp} (s : Same F H) (h : ppX d x F H) : TyX K H x (.type (tyName d)) := by
  rcases h with z | ⟨ds, rfl, p, vs, rfl, e, r⟩
  · exact ty_of s z
  · exact .base (.lst e)
theorem rn_isiX {n : String} {b : Bool} (h : PArg E Γ K0 cx (ppX d)) (hk : PySem.W.kitOne E.K (.type (tyName d)) (.type n) = some b) : RnP E (rIsi E.K) [cx, fun _ v => pur (v = .ty n)] Γ (rV (.bool b)) := fun σ H R Q vs t q => by
  obtain ⟨x, y, rfl, t1⟩ := two_args t
  obtain ⟨F, s, z⟩ := par1 h t1
  have ey : y = .ty n := t1.fact fun F o s ⟨_, _, _, _, _, _, ⟨_, _, _, _, _, _, ⟨_, _, _, _, _, e, _⟩⟩⟩ => e
  subst ey
  exact ⟨x, .ty n, .type (tyName d), .type n, b, rfl, .ty n, tyX_of s z, hk, q _ H (res2 t1 fun F => .bl _)⟩
def isIntD (d : PyData) (a b : Int) : Bool := match d with
  | .int i => decide (a ≤ i) && decide (i ≤ b)
  | _ => false
abbrev tIsi (K : PySem.W.Frag) (te : TE) (n : String) : TE := tCB (rIsi K) (tCons te (tCons (tC (.ty n)) tNil))
theorem ev_isiX {n : String} {b : Bool} {i : Nat} (hi : Γ[i]? = some (cIs v)) (h : Bw E v (ppX d)) (hk : PySem.W.kitOne E.K (.type (tyName d)) (.type n) = some b) : EvP E (tIsi E.K (tVar i) n) Γ (rV (.bool b)) :=
  evp_cb (eap_cons (ev_slot hi no_Is) (eap_cons ev_ty eap_nil)) (rn_isiX (pa_bw hi h) hk)
abbrev rLe' : R2 := rI0 fun i j => .bl (decide (i ≤ j))
theorem ev_is_integer {a b : Int} {i j k : Nat} (hi : Γ[i]? = some (cIs v)) (hj : Γ[j]? = some (cV (.int a))) (hk : Γ[k]? = some (cV (.int b))) (h : Bw E v (ppX d)) (nd : ∀ kvs, d ≠ .dict kvs) :
    EvP E (tAndV (tIsi E.K (tVar i) "int") (tAndV (tNotV (tIsi E.K (tVar i) "bool")) (tChain rLe' rLe' (tVar j) (tVar i) (tVar k)))) Γ (rV (.bool (isIntD d a b))) := by
  cases d with
  | int n =>
    have h1 : EvP E (tIsi E.K (tVar i) "int") Γ (rV (.bool true)) := ev_isiX hi h (kit_ty (show kitB "int" "int" = some true by decide +kernel))
    have h2 : EvP E (tIsi E.K (tVar i) "bool") Γ (rV (.bool false)) := ev_isiX hi h (kit_ty (show kitB "int" "bool" = some false by decide +kernel))
    have h3 : EvP E (tVar i) Γ (rV (.int n)) := ev_bwX hi h (fun _ z => by cases z)
    have z : EvP E _ Γ (rV (.bool (true && (!false && (decide (a ≤ n) && decide (n ≤ b)))))) := evp_and h1 (evp_and (evp_not h2) (evp_chain (p := fun i j => decide (i ≤ j)) (p' := fun i j => decide (i ≤ j)) (ev_var hj) h3 (ev_var hk) (ch_B0 (g := fun i j => decide (i ≤ j))) (ch_B0 (g := fun i j => decide (i ≤ j)))))
    exact z
  | bool n =>
    have h1 : EvP E (tIsi E.K (tVar i) "int") Γ (rV (.bool true)) := ev_isiX hi h (kit_ty (show kitB "bool" "int" = some true by decide +kernel))
    have h2 : EvP E (tIsi E.K (tVar i) "bool") Γ (rV (.bool true)) := ev_isiX hi h (kit_ty (show kitB "bool" "bool" = some true by decide +kernel))
    exact evp_and h1 (evp_andF (evp_not h2))
  | none =>
    have h1 : EvP E (tIsi E.K (tVar i) "int") Γ (rV (.bool false)) := ev_isiX hi h (kit_ty (show kitB "NoneType" "int" = some false by decide +kernel))
    exact evp_andF h1
  | str z =>
    have h1 : EvP E (tIsi E.K (tVar i) "int") Γ (rV (.bool false)) := ev_isiX hi h (kit_ty (show kitB "str" "int" = some false by decide +kernel))
    exact evp_andF h1
  | list z =>
    have h1 : EvP E (tIsi E.K (tVar i) "int") Γ (rV (.bool false)) := ev_isiX hi h (kit_ty (show kitB "list" "int" = some false by decide +kernel))
    exact evp_andF h1
  | tuple z =>
    have h1 : EvP E (tIsi E.K (tVar i) "int") Γ (rV (.bool false)) := ev_isiX hi h (kit_ty (show kitB "tuple" "int" = some false by decide +kernel))
    exact evp_andF h1
  | dict z => exact (nd z rfl).elim
/-- no dict is among frozen data -/
theorem nd_of {F : Hp} (h : ppX d x F H) : ∀ kvs, d ≠ .dict kvs := fun kvs e => by
  subst e
  rcases h with z | ⟨ds, e, _⟩
  · cases z
  · cases e
def isStartD (d : PyData) : Bool := match d with
  | .list ds => decide (1 ≤ ds.length) && decide (ds.length ≤ 30) && ds.all fun d => isIntD d 0 1000000000000000000000000000000
  | _ => false
def isCardsD (d : PyData) : Bool := match d with
  | .list ds => decide (ds.length ≤ 200) && ds.all fun d => isIntD d 1 1000000000000000000000000000000
  | _ => false
theorem bwL_of {ds : List PyData} (h : Bw E v (ppX (.list ds))) : Bw E v (ppL (ds.map dat)) := fun F H o s c => by
  have e : ds.map (dat : PyData → PyData) = ds := List.map_id ds
  rw [e]
  rcases h F H o s c with z | ⟨ds', e, z⟩
  · exact ppL_of s z
  · cases e
    exact z
/-- the test that a value is no list -/
theorem et_nolist {i : Nat} (hi : Γ[i]? = some (cIs v)) (h : Bw E v (ppX d)) (hd : ∀ ds, d ≠ .list ds) (nd : ∀ kvs, d ≠ .dict kvs) : EvTP E (tNot (tB (tIsi E.K (tVar i) "list"))) Γ true := by
  have z : EvP E (tIsi E.K (tVar i) "list") Γ (rV (.bool false)) := by
    cases d with
    | list ds => exact (hd ds rfl).elim
    | dict ds => exact (nd ds rfl).elim
    | none => exact ev_isiX hi h (kit_ty (show kitB "NoneType" "list" = some false by decide +kernel))
    | bool b => exact ev_isiX hi h (kit_ty (show kitB "bool" "list" = some false by decide +kernel))
    | int b => exact ev_isiX hi h (kit_ty (show kitB "int" "list" = some false by decide +kernel))
    | str b => exact ev_isiX hi h (kit_ty (show kitB "str" "list" = some false by decide +kernel))
    | tuple b => exact ev_isiX hi h (kit_ty (show kitB "tuple" "list" = some false by decide +kernel))
  exact etp_not (et_val (b := fun _ => false) z)
end
section
variable {K : PySem.W.Frag} {Ex : XK} {ec : Nat → Value} {C : Asr} {Q : VK} {H : Hp} {σ : St} {t : TS} {β : Type} {m : Res β} {c : β → V → Asr} {Γ0 : List Cell} {Γr : β → List Cell}
theorem fin0W (hT : Top C H) (hin : ∀ F o, Same F H → C.P F H o → allP F H σ Γ0) (hw : WP m (fun b => ∀ v H', Top (sep C (c b v)) H' → Q v H') fun k => ∀ H', Top C H' → Ex (ec k) none H')
    (hb : EvS (Ecf K Ex ec C) t Γ0 m fun b => .rt (Γr b) fun _ => c b) : t { nx := fun _ H' => Q .non H', rt := Q } σ H := fin0 hT hin hw.wp hb
theorem fin0NW (hT : Top C H) (hin : ∀ F o, Same F H → C.P F H o → allP F H σ Γ0) (hw : WP m (fun b => ∀ v H', Top (sep C (vA .none v)) H' → Q v H') fun k => ∀ H', Top C H' → Ex (ec k) none H')
    (hb : EvS (Ecf K Ex ec C) t Γ0 m fun b => .nx (Γr b)) : t { nx := fun _ H' => Q .non H', rt := Q } σ H := fin0N hT hin hw.wp hb
theorem fin1W {p : Addr} {i : Nat} {i0 : List PyData} {i1 : β → List PyData} {Γ : List Cell} {Er : Nat → Prop} (hT : Top (sep C (oA p i0)) H) (hi : i < Γ.length) (hs : σ[i]? = some (some (.ref p))) (hin : ∀ F o, Same F H → C.P F H o → allP F H σ (Γ.set i cAny)) (hr : ∀ b, (Γr b)[i]? = some (cAt p (i1 b)))
    (hw : WP (noErr m) (fun b => ∀ v H', Top (sep C (sep (oA p (i1 b)) (c b v))) H' → Q v H') Er)
    (hb : EvS (Ecf K Ex ec C) t (Γ.set i (cAt p i0)) m fun b => .rt (Γr b) fun _ => c b) : t { nx := fun _ H' => Q .non H', rt := Q } σ H := fin1 hT hi hs hin hr hw.wp hb
end
end Lc
/-! Lc: more: a value that may be None, sorted -/
namespace Lc
open PySem L2
section
variable {E : Ec} {Γ : List Cell} {R A : Asr} {H : Hp} {cx : RC} {α β γ : Type} {te : TE} {tr : TA} {t : TS}
open Res
instance : Dflt (Option α) := ⟨none⟩
def unO : Option α → Res α
  | some a => .ok a
  | none => .bad
theorem es_unO [Dat α] {i : Nat} {o : Option α} {m : α → Res β} {post : β → Fin} (h0 : Γ[i]? = some (cV (dat o))) (h : ∀ a, EvS E t (Γ.set i (cV (dat a))) (m a) post) : EvS E t Γ ((unO o).bind m) post := by
  cases o with
  | none => exact fun σ H R D t0 q => (show False from q).elim
  | some a =>
    obtain ⟨hl, e⟩ := List.getElem?_eq_some_iff.mp h0
    have z := h a
    have e2 : Γ.set i (cV (dat a)) = Γ := by
      have : Γ.set i (Γ[i]) = Γ := List.set_getElem_self hl
      rw [e] at this
      exact this
    rw [e2] at z
    exact z
theorem sort_uniq : ∀ {a b : List Int}, a.Perm b → a.Pairwise (· ≤ ·) → b.Pairwise (· ≤ ·) → a = b
  | [], b, p, _, _ => (List.nil_perm.mp p).symm
  | x :: a, [], p, _, _ => (List.perm_nil.mp p)
  | x :: a, y :: b, p, ha, hb => by
    have h1 := List.pairwise_cons.mp ha
    have h2 := List.pairwise_cons.mp hb
    have hx : x ∈ y :: b := p.subset List.mem_cons_self
    have hy : y ∈ x :: a := p.symm.subset List.mem_cons_self
    have e : x = y := by
      rcases List.mem_cons.mp hx with e | hx
      · exact e
      · rcases List.mem_cons.mp hy with e | hy
        · exact e.symm
        · have := h1.1 y hy
          have := h2.1 x hx
          omega
    subst e
    rw [sort_uniq (p.cons_inv) h1.2 h2.2]
def sortL (l : List Int) : List Int := l.mergeSort
theorem sortL_perm (l : List Int) : (sortL l).Perm l := List.mergeSort_perm l _
theorem sortL_sorted (l : List Int) : (sortL l).Pairwise (· ≤ ·) := by
  have := List.pairwise_mergeSort (le := fun a b : Int => decide (a ≤ b)) (fun a b c h1 h2 => by simp at *; omega) (fun a b => by simp; omega) l
  exact this.imp fun h => by simpa using h
theorem rn_sorted {ns : List Int} (h : PArg E Γ K0 cx (ppS E.K (ns.map dat))) : RnP E (rSortedI E.K) [cx] Γ (rO ((sortL ns).map dat)) := fun σ H R Q vs t q => by
  obtain ⟨x, rfl, t1⟩ := one_arg t
  obtain ⟨a, rfl, hs⟩ := ints_of h t1
  refine ⟨a, ns, rfl, hs, fun ns' p hp ho hn => ?_⟩
  have e : ns' = sortL ns := sort_uniq (hp.trans (sortL_perm ns).symm) ho (sortL_sorted ns)
  subst e
  exact q _ _ ((newL t1 hn fun F o s _ => RpAll.of_ints _).ent (Ent.sepR (Ent.sepR Ent.right)))
theorem RpAll_erase {F : Hp} {vs : List V} {ds : List PyData} (r : RpAll F vs ds) (j : Nat) : RpAll F (vs.eraseIdx j) (ds.eraseIdx j) := by
  rw [List.eraseIdx_eq_take_drop_succ, List.eraseIdx_eq_take_drop_succ]
  exact (r.take j).append (r.drop (j + 1))
/-- xs.pop(k) -/
def popR {α : Type} (xs : List α) (k : Int) : Res (α × List α) := need (xs.length ≤ lim) (match ixN xs.length k with
  | some j => match xs[j]? with
    | some a => .ok (a, xs.eraseIdx j)
    | none => .bad
  | none => .bad)
theorem ev_popAt [Dat α] {mk : List PyData → Cell} {i : Nat} {xs : List α} {k : Int} (hk : OwnC mk) (h : EvP E te Γ (rV (.int k))) (hi : Γ[i]? = some (mk (xs.map dat))) :
    EvJ E (tBM E.K "list" rPopAt (tVar i) (tCons te tNil)) Γ (popR xs k) (fun r => Γ.set i (mk (r.2.map dat))) (fun r => rV (dat r.1)) := fun σ H R Q t q => by
  obtain ⟨hn, q⟩ := wp_need q
  obtain ⟨p, hs, t2, _⟩ := take_own (A := R) hk hi t
  obtain ⟨vs, ep, _⟩ := own_at t2
  refine ⟨_, hs, .inl ⟨rfl, vs, SqL.of ep⟩, ?_⟩
  refine h σ H R _ t fun w H1 t1 => ?_
  have ew : w = .int k := int1 t1
  subst ew
  have t3 := t1.ent (Ent.sepR Ent.right)
  obtain ⟨p', hs', t4, back⟩ := take_own hk hi t3
  rw [hs] at hs'
  cases hs'
  obtain ⟨vs', ep', ln⟩ := own_at t4
  rw [List.length_map] at ln
  cases ej : ixN xs.length k with
  | none =>
    rw [ej] at q
    exact (show False from q).elim
  | some j =>
    rw [ej] at q
    obtain ⟨sq, jl, b1, b2⟩ := ixN_seq ej
    cases ea : xs[j]? with
    | none =>
      simp only [ea] at q
      exact (show False from q).elim
    | some a =>
      simp only [ea] at q
      have hj : j < vs'.length := by omega
      have hv : vs'[j]? = some vs'[j] := List.getElem?_eq_getElem hj
      have l62 : (xs.length : Int) ≤ 16000000 := by
        have : xs.length ≤ 16000000 := hn
        omega
      refine ⟨p, vs', k, j, vs'[j], rfl, rfl, ep', by omega, by omega, by rw [ln]; exact sq, hv, q _ _ ?_⟩
      have t5 := t4.addV (v := vs'[j]) (d := dat a) fun F o s ⟨_, _, _, _, _, _, ⟨_, vs'', e2, r⟩⟩ => by
        rw [ep'] at e2
        cases e2
        obtain ⟨v', e3, r3⟩ := r.get (i := j) (d := dat a) (by simp [ea])
        rw [hv] at e3
        cases e3
        exact r3
      have t6 := own_write (σ := σ) (es := (xs.eraseIdx j).map dat) (ws := vs'.eraseIdx j) (t5.ent Ent.assoc') fun F o vs'' s z e2 r => by
        rw [ep'] at e2
        cases e2
        have := RpAll_erase r j
        rw [List.eraseIdx_eq_take_drop_succ (l := xs.map dat)] at this
        rw [List.eraseIdx_eq_take_drop_succ (l := xs), List.map_append, List.map_take, List.map_drop]
        exact this
      exact ((t6.ent Ent.assoc).ent (Ent.sepR (back _))).ent frontE
/-- xs.extend(ys), ys new -/
theorem es_extendTM [Dat α] {mk : List PyData → Cell} {i : Nat} {m : Res γ} {Γ1 : γ → List Cell} {xs ys : γ → List α} {ds0 : List PyData} (hk : OwnC mk) (h : EvJ E te Γ m Γ1 fun a => rO ((ys a).map dat)) (h0 : Γ[i]? = some (mk ds0)) (hi : ∀ a, (Γ1 a)[i]? = some (mk ((xs a).map dat))) :
    EvS1 E (tDrop (tBM E.K "list" rExtend (tVar i) (tCons te tNil))) Γ (m.bind fun a => need ((xs a).length + (ys a).length ≤ lim) (.ok a)) fun a => (Γ1 a).set i (mk ((xs a ++ ys a).map dat)) := fun σ H R D t q => by
  obtain ⟨p, hs, t2, _⟩ := take_own (A := R) hk h0 t
  obtain ⟨vs, ep, _⟩ := own_at t2
  refine ⟨_, hs, .inl ⟨rfl, vs, SqL.of ep⟩, ?_⟩
  refine h σ H R _ t (wp_mono (wp_bind.mp q) (fun a _ q w H1 t1 => ?_) fun _ x => x σ)
  obtain ⟨hn, q⟩ := wp_need q
  obtain ⟨p', hs', t4, back⟩ := take_own hk (hi a) t1
  rw [hs] at hs'
  cases hs'
  obtain ⟨vs', ep', ln⟩ := own_at t4
  rw [List.length_map] at ln
  obtain ⟨b, zs, rfl, eb, lb⟩ : ∃ b zs, w = .ref b ∧ H1 b = some (.lst zs) ∧ zs.length = (ys a).length := t4.fact fun F o s ⟨_, _, _, _, _, ⟨_, _, _, _, _, _, ⟨_, _, _, _, _, ⟨b, e, _, zs, eb, r⟩, _⟩⟩, _⟩ => ⟨b, zs, e, eb, by rw [r.len, List.length_map]⟩
  refine ⟨p, b, vs', zs, rfl, rfl, ep', eb, by rw [ln, lb]; exact lim_le hn, q σ _ ?_⟩
  have t5 := own_write (σ := σ) (es := (xs a ++ ys a).map dat) (ws := vs' ++ zs) t4 fun F o vs'' s z e2 r => by
    rw [ep'] at e2
    cases e2
    obtain ⟨_, _, _, _, _, _, ⟨_, _, _, _, _, ⟨b', e, _, zs', eb', r'⟩, _⟩⟩ := z
    cases e
    rw [eb] at eb'
    cases eb'
    rw [List.map_append]
    exact r.append r'
  exact (t5.ent (back _)).ent (Ent.sepR Ent.right)
theorem eqDK {X : Cx} (K : PySem.W.Frag) (h : X.K = K) (hu : X.A.units + 64 < cLine) : OpR X (compareOp .Eq) (rEqD K) := h ▸ op_eqD hu
theorem neDK {X : Cx} (K : PySem.W.Frag) (h : X.K = K) (hu : X.A.units + 64 < cLine) : OpR X (compareOp .NotEq) (rNeD K) := h ▸ op_neD hu
theorem sortedK {X : Cx} (K : PySem.W.Frag) (h : X.K = K) : CallR X (.builtin "sorted") (rSortedI K) := h ▸ cr_sortedI
end
end Lc
/-! Lc: a law's end -/
namespace Lc
open PySem L2
def scA (K : PySem.W.Frag) (p : Addr) (vs : List V) : Asr := ⟨fun F _ _ => ∀ H, Same F H → SqL K H p vs, fun s _ h H t => h H (Same.trans s t), fun _ h => h⟩
theorem sql_same {K : PySem.W.Frag} {H H' : Hp} {a : Addr} {xs : List V} (h : SqL K H a xs) (e : Same H H') : SqL K H' a xs :=
  h.elim (fun h => .inl (h.elim (fun h => .inl (e _ _ h)) fun ⟨o, h⟩ => .inr ⟨o, e _ _ h⟩)) fun h => .inr h
def spLaw (K : PySem.W.Frag) : Sp := fun vs H Q _ => ∃ (a : Addr) (ns : List Int), vs = [.ref a] ∧ SqL K H a (ns.map V.int) ∧ ns.length ≤ 63 ∧ ∀ H', Q (.bl true) H'
theorem law_sp {ec : Nat → Value} {K : PySem.W.Frag} {m : List Int → Res Bool} (hm : ∀ ns, ns.length ≤ 63 → m ns = .ok true) (vs : List V) (H : Hp) (Q : VK) (E : XK) (h : spLaw K vs H Q E) :
    Sp0 ec (fun x : List Int => [ppS K (x.map dat)]) m (fun b => vA (.bool b)) vs H Q E := by
  obtain ⟨a, ns, rfl, hS, hl, q⟩ := h
  refine ⟨ns, scA K a (ns.map V.int), ⟨H, fun _ => False, fun _ _ h => h, fun _ h => h.elim, fun H' s => sql_same hS s⟩, fun F H' o s c => ⟨⟨a, _, rfl, c H' s, RpAll.of_ints ns⟩, trivial⟩, ?_⟩
  rw [hm ns hl]
  intro v H' t
  have e : v = .bl true := t.fact fun F o s ⟨_, _, _, _, _, _, r⟩ => by
    cases r
    rfl
  subst e
  exact q H'
theorem walk {l : PySem.W.OpenLaw} {q : Program} {loose : List Str} {XP : (Str → Option Value) → Heap → Prop} {YP : World → Heap → Prop} {d : DefRec} {K : Params → PySem.W.Frag} {k : Nat} (hn : l.most = some 63) (hdf : d.params.defaults = []) (hr : Room k callerA)
    (hY : ∀ (w : World) (h : Heap), YP w h → (K w.params).In h)
    (F : ∀ (w : World) (mg : Str → Option Value) (fa : Addr) (h : Heap), (K w.params).In h → h.Ns mainGlobals mg → mg d.name = some (.ref fa) →
      ∃ fd : FuncData, (∀ (s : Shared) (u : Value), BindsTo s fd ⟨[u], []⟩ [("script", u)]) ∧ ∀ base : Heap, (K w.params).In base → base.Ns mainGlobals mg → FnOk l.prog w (K w.params) mg base (L2.CX l.prog w) k fa fd ["script"] (spLaw (K w.params))) :
    PySem.W.WalkO q loose XP YP l.row.toRowW d [] (fun f vs => PySem.call f vs) :=
  L2.walk_of (n := 63) (k := k) (x := "script") (CX := fun w => L2.CX l.prog w) (sp := fun w => spLaw (K w.params)) hn (by decide) hdf hr hY F (fun _ _ a ns hl _ hS => ⟨a, ns, rfl, hS, hl, fun _ => rfl⟩) fun _ _ _ _ _ ⟨_, _, _, _, _, _, _, _, _, _, _, _, z⟩ => z
end Lc
/-! Lc: defs called where no repr is under way (guards = []), calls with keywords, repr -/
namespace Lc
open PySem L2 PySem.Spec PyProof.Rows

structure RoomG (k : Nat) (A : Around) : Prop where
  rm : Room k A
  gd : A.guards = some []
theorem RoomG.mono {j k : Nat} {A : Around} (r : RoomG k A) (h : j ≤ k) : RoomG j A := ⟨r.rm.mono h, r.gd⟩
theorem RoomG.deeper {k : Nat} {A : Around} (r : RoomG (k + 1) A) (env : Env) : RoomG k (A.deeper env) := ⟨r.rm.deeper env, r.gd⟩
theorem RoomG.un {k : Nat} {A : Around} (r : RoomG k A) : A.units + 16 * k + 200 < cLine := r.rm.un

structure FnG (P : Program) (w : World) (K : PySem.W.Frag) (mg : Str → Option Value) (base : Heap) (CX : CXT) (k : Nat) (f : Addr) (fd : FuncData) (ps : List Str) (sp : Sp) : Prop where
  len : ∀ vs H Q E, sp vs H Q E → vs.length = ps.length
  run : ∀ (A : Around) (outer : List Env) (s : Shared) (H : Hp) (args : Args) (us : List Value) (vs : List V) (Q : VK) (E : XK), RoomG k A → Env0 P w K mg base A outer s H → BindsTo s fd args (ps.zip us) → Vals vs us → sp vs H Q E →
    codeAny (model P w) A (.call (.ref f) args) (CR CX outer P w H s Q E) s
theorem FnG.imp {P : Program} {w : World} {K : PySem.W.Frag} {mg : Str → Option Value} {base : Heap} {CX : CXT} {k : Nat} {f : Addr} {fd : FuncData} {ps : List Str} {sp sp' : Sp} (F : FnG P w K mg base CX k f fd ps sp)
    (h : ∀ vs H Q E, sp' vs H Q E → sp vs H Q E) : FnG P w K mg base CX k f fd ps sp' :=
  ⟨fun vs H Q E q => F.len vs H Q E (h _ _ _ _ q), fun A outer s H args us vs Q E hr he hb hv hs => F.run A outer s H args us vs Q E hr he hb hv (h _ _ _ _ hs)⟩

section
variable {P : Program} {w : World} {K : PySem.W.Frag} {mg : Str → Option Value} {base : Heap}
theorem fn_ofG {CX : CXT} {k : Nat} {f : Addr} {name qual : Str} {params : Arguments} {body : List Stmt} {scope : Scope} {dV kV doc pm cdv ct oc : Value} {an od : Option Addr}
    {osl : Array (Option Value)} {N ps : List Str} {sp : Sp} (lk : K.lookup f = some ⟨oc, od, .func (PySem.W.fnOf name qual params body scope dV kV doc pm an cdv ct), osl⟩) (hcd : PySem.W.codeIn K cdv qual = true) (S : FnScope N ps scope)
    (len : ∀ vs H Q E, sp vs H Q E → vs.length = ps.length)
    (hbody : ∀ (A : Around) (outer : List Env) (s : Shared) (H : Hp) (vs : List V) (Q : VK) (E : XK), RoomG k (A.deeper (envOfC qual scope s.heap.objs.size f cdv)) → sp vs H Q E →
      ∃ t, PSs (cxOf CX P w K mg base N qual scope f cdv A outer s H E) body t ∧ t { nx := fun _ H' => Q .non H', rt := Q } (start N vs) H) :
    FnG P w K mg base CX (k + 1) f (PySem.W.fnOf name qual params body scope dV kV doc pm an cdv ct) ps sp := by
  refine ⟨len, fun A outer s H args us vs Q E hr e0 hb r hsp => ?_⟩
  have hl := len _ _ _ _ hsp
  have KX : K.In s.heap := e0.mod.kin.keeps fun b o e => (e0.bs b o e).1
  have lim : s.heap.NoLimit := e0.mod.nolimit.keeps fun b o e => (e0.bs b o e).1
  have hkind : ∀ y ∈ ps.zip us, scope.names.lookup y.1 = some .local ∨ (scope.names.lookup y.1 = some .cell ∧ ((cellsFrom (s.heap.objs.size + 1) scope.names []).lookup y.1).isSome = true) := fun ⟨n, v⟩ hy => by
    rcases S.par n (List.of_mem_zip hy).1 with q | q
    · exact .inl q
    · exact .inr ⟨q, PySem.W.cellsFrom_some _ _ _ (.inl q)⟩
  refine codeAny_call_function hr.rm.depth (KX _ _ lk) rfl S.co S.gen rfl (PySem.W.codeRec_of KX hcd) (hb _ _ _ _ ?_)
  refine wpAny_newFunctionEnv_cells S.kind hkind fun env he s1 x => ?_
  subst he
  refine ⟨lim.keeps x.toInCall.keep, codeAny_func ?_⟩
  obtain ⟨t, ht, hq⟩ := hbody A outer s H vs Q E (hr.deeper _) hsp
  have I : Inv (cxOf CX P w K mg base N qual scope f cdv A outer s H E) [] (start N vs) H s1 := inv_start S hr.rm.hd e0 hl r x
  refine wpAny_mono (ht.run [] s1 (start N vs) H _ I hq) (fun fl s' hs => ?_) fun e s' hs => hs
  have fin : ∀ {σ' : L2.St} {H' : Hp} {v : V} {u : Value}, Inv (cxOf CX P w K mg base N qual scope f cdv A outer s H E) [] σ' H' s' → RelV v u → Q v H' → CE outer P w H s Q u s' :=
    fun {σ' H' v u} J rv q => ⟨v, H', J.os, J.bare, J.base, J.hok, rv, q⟩
  cases fl with
  | ret u =>
    obtain ⟨v, σ', H', J, rv, q⟩ := hs
    exact fin J rv q
  | next =>
    obtain ⟨σ', H', J, q⟩ := hs
    exact fin (v := V.non) (u := Value.none) J rfl q
  | brk =>
    obtain ⟨_, _, _, q⟩ := hs
    exact False.elim q
  | cont =>
    obtain ⟨_, _, _, q⟩ := hs
    exact False.elim q
/-- a def's defaults: none of the positional ones; fd's own -/
structure FunG (K : PySem.W.Frag) (x qual : Str) (st : Stmt) (f : Addr) (fd : FuncData) : Prop where
  ex : ∃ (oc : Value) (od : Option Addr) (dV kV doc pm : Value) (an : Option Addr) (cdv ct : Value) (osl : Array (Option Value)),
    fd = PySem.W.fnOf x qual (defArgs st) (defBody st) (defScope st) dV kV doc pm an cdv ct ∧ K.lookup f = some ⟨oc, od, .func fd, osl⟩ ∧ PySem.W.codeIn K cdv qual = true
  kp : PySem.W.keepIn K (.ref f) = true
theorem fun_mkG {x qual : Str} {st : Stmt} {f : Addr} {oc dV kV doc pm cdv ct : Value} {od an : Option Addr} {osl : Array (Option Value)}
    (l : K.lookup f = some ⟨oc, od, .func (PySem.W.fnOf x qual (defArgs st) (defBody st) (defScope st) dV kV doc pm an cdv ct), osl⟩) (c : PySem.W.codeIn K cdv qual = true) (k : PySem.W.keepIn K (.ref f) = true) :
    FunG K x qual st f (PySem.W.fnOf x qual (defArgs st) (defBody st) (defScope st) dV kV doc pm an cdv ct) := ⟨⟨_, _, _, _, _, _, _, _, _, _, rfl, l, c⟩, k⟩
theorem FunG.okX {x qual : Str} {st : Stmt} {f : Addr} {fd : FuncData} {N ps : List Str} {k : Nat} {sp : Sp} (F : FunG K x qual st f fd) (S : FnScope N ps (defScope st)) (len : ∀ vs H Q E, sp vs H Q E → vs.length = ps.length)
    (hbody : ∀ (cdv : Value) (A : Around) (outer : List Env) (s : Shared) (H : Hp) (vs : List V) (Q : VK) (E : XK), RoomG k (A.deeper (envOfC qual (defScope st) s.heap.objs.size f cdv)) → sp vs H Q E →
      ∃ t, PSs (cxOf (L2.CX P w) P w K mg base N qual (defScope st) f cdv A outer s H E) (defBody st) t ∧ t { nx := fun _ H' => Q .non H', rt := Q } (start N vs) H) : FnG P w K mg base (L2.CX P w) (k + 1) f fd ps sp := by
  obtain ⟨oc, od, dV, kV, doc, pm, an, cdv, ct, osl, rfl, lk, hcd⟩ := F.ex
  exact fn_ofG lk hcd S len fun A outer s H vs Q E hr hsp => hbody cdv A outer s H vs Q E hr hsp
end

/-! ### calls: n values by position, then the keywords' values (names ks) -/
/-- what the call binds: h puts the values in the parameters' order -/
def KB (K : PySem.W.Frag) (fd : FuncData) (ps : List Str) (n : Nat) (ks : List Str) (h : List Value → List Value) : Prop :=
  ∀ (s : Shared) (us ws : List Value), K.In s.heap → us.length = n → ws.length = ks.length → BindsTo s fd ⟨us, ks.zip ws⟩ (ps.zip (h (us ++ ws)))
theorem KB.of {K : PySem.W.Frag} {fd : FuncData} {ps : List Str} {n : Nat} {ks : List Str} {h : List Value → List Value} (e : ∀ us ws : List Value, us.length = n → ws.length = ks.length → bindArgs fd ⟨us, ks.zip ws⟩ = pure (ps.zip (h (us ++ ws)))) : KB K fd ps n ks h :=
  fun s us ws _ l1 l2 => .of_eq (e us ws l1 l2)
/-- a list has n items -/
def chk : Nat → List V → Prop → Prop
  | 0, [], P => P
  | n + 1, _ :: l, P => chk n l P
  | _, _, _ => False
theorem chk_len : ∀ {n : Nat} {l : List V} {P : Prop}, chk n l P → l.length = n ∧ P
  | 0, [], _, h => ⟨rfl, h⟩
  | n + 1, _ :: l, _, h => ⟨congrArg Nat.succ (chk_len (n := n) (l := l) h).1, (chk_len (n := n) (l := l) h).2⟩
  | 0, _ :: _, _, h => (show False from h).elim
  | _ + 1, [], _, h => (show False from h).elim
structure PKN (X : Cx) (kws : List Keyword) (m : Nat) (t : TA) : Prop where
  pk : PK X kws t
  eq : ∀ σ H Q, t σ H Q = t σ H fun zs H2 => chk m zs (Q zs H2)
structure PKA (X : Cx) (es : List Expr) (kws : List Keyword) (n m : Nat) (t : TA) : Prop where
  ex : ∃ t1 tk, PA X es t1 ∧ PK X kws tk ∧ ∀ σ H Q, t σ H Q = t1 σ H fun vs H1 => tk σ H1 fun zs H2 => chk n vs (chk m zs (Q (vs ++ zs) H2))
section
variable {X : Cx} {e : Expr} {es : List Expr} {kws : List Keyword} {te : TE} {t : TA} {n m : Nat} {nm : Option Str} {kpos : Pos}
theorem pkn_nil : PKN X [] 0 tNil := ⟨pk_nil, fun _ _ _ => rfl⟩
theorem pkn_cons (he : PE X e te) (h : PKN X kws m t) : PKN X (⟨nm, e, kpos⟩ :: kws) (m + 1) (tCons te t) :=
  ⟨pk_cons he h.pk, fun σ H Q => congrArg (te σ H) (funext fun x => funext fun H1 => h.eq σ H1 fun xs H2 => Q (x :: xs) H2)⟩
theorem pka_kw (h : PKN X kws m t) : PKA X [] kws 0 m t := ⟨_, _, pa_nil, h.pk, fun σ H Q => h.eq σ H Q⟩
theorem pka_cons (he : PE X e te) (h : PKA X es kws n m t) (hs : starEach (e :: es) X.env = (false, eval e X.env) :: starEach es X.env := by rfl) : PKA X (e :: es) kws (n + 1) m (tCons te t) := by
  obtain ⟨t1, tk, h1, h2, q⟩ := h.ex
  exact ⟨_, _, pa_cons he h1 hs, h2, fun σ H Q => congrArg (te σ H) (funext fun x => funext fun H1 => q σ H1 fun xs H2 => Q (x :: xs) H2)⟩
end
/-- the values by their places -/
def Pm {α : Type} (d : α) (is : List Nat) (l : List α) : List α := is.map fun i => l.getD i d
theorem vals_pm : ∀ (is : List Nat) {vs : List V} {us : List Value}, (∀ i ∈ is, i < vs.length) → Vals vs us → Vals (Pm .non is vs) (Pm .none is us)
  | [], _, _, _, _ => .nil
  | i :: is, vs, us, h, r => by
    have hi := h i List.mem_cons_self
    obtain ⟨u, hu, rv⟩ := r.get (List.getElem?_eq_getElem hi)
    refine .cons ?_ (vals_pm is (fun j hj => h j (List.mem_cons_of_mem _ hj)) r)
    show L2.RelV (vs.getD i V.non) (us.getD i Value.none)
    rw [List.getD_eq_getElem?_getD, List.getD_eq_getElem?_getD, hu, List.getElem?_eq_getElem hi]
    exact rv
/-- what is promised of a call of that shape: the values in the order of the text; dv the defaults -/
structure SpK (sp sp' : Sp) (n : Nat) (is : List Nat) (dv : List V) : Prop where
  go : ∀ vs H Q E, sp' vs H Q E → vs.length = n ∧ sp (Pm .non is (vs ++ dv)) H Q E
theorem spk {ec : Nat → Value} {α α' β : Type} {ps : α → List PP} {ps' : α' → List PP} {m : α → Res β} {m' : α' → Res β} {cb : β → V → Asr} {n : Nat} {is : List Nat} {dv : List V} (g : α' → α) (hlen : ∀ x', (ps' x').length = n)
    (hpar : ∀ x' vs F H, parOk (ps' x') vs F H → parOk (ps (g x')) (Pm .non is (vs ++ dv)) F H) (hm : ∀ x', m' x' = m (g x')) : SpK (Sp0 ec ps m cb) (Sp0 ec ps' m' cb) n is dv := ⟨fun vs H Q E ⟨x, C, t, hp, hw⟩ => by
  refine ⟨?_, g x, C, t, fun F H o s c => hpar x vs F H (hp F H o s c), hm x ▸ hw⟩
  obtain ⟨F, o, s, _, c⟩ := t
  rw [parOk_len (hp F H o s c), hlen]⟩
section
variable {X : Cx} {CX : CXT} {k : Nat} {f : Addr} {fd : FuncData} {ps ks : List Str} {sp sp' : Sp} {x : Str} {p pos : Pos} {e : Expr} {es : List Expr} {kws : List Keyword} {t : TA} {n m : Nat} {is : List Nat} {dv : List V} {du : List Value}
theorem run_fnG {Ex : XK} {pins : List (Addr × Obj)} {σ : L2.St} {H : Hp} {s : Shared} {Q : VK} {us ws : List Value} {vs : List V} (F : FnG X.prog X.w X.K X.mg X.base CX k f fd ps sp) (hr : RoomG k X.A) (hb : KB X.K fd ps n ks fun l => Pm .none is (l ++ du)) (hd : Vals dv du)
    (his : ∀ i ∈ is, i < n + ks.length + dv.length) (hx : ∀ pins H s e s', Inv X pins σ H s → CX X.stack H s Ex e s' → X.xe e s')
    (I : Inv X pins σ H s) (r : Vals vs (us ++ ws)) (l1 : us.length = n) (l2 : ws.length = ks.length) (hs : sp (Pm .non is (vs ++ dv)) H Q Ex) : wpAny (model X.prog X.w) X.A (call (.ref f) us (ks.zip ws)) (EP X pins σ Q) X.xe s := by
  have hlv : vs.length = n + ks.length := by rw [r.length, List.length_append, l1, l2]
  have hv := vals_pm is (fun i hi => by rw [List.length_append, hlv]; exact his i hi) (r.append hd)
  refine wpAny_call (codeAny_mono (F.run X.A X.stack s H ⟨us, ks.zip ws⟩ _ _ Q Ex hr I.env0 (hb s us ws I.kIn l1 l2) hv hs) fun r s' hq => ?_)
  cases r with
  | error e => exact hx pins H s e s' I hq
  | ok fl =>
    cases fl with
    | ret u => exact I.after hq
    | next => exact False.elim hq
    | brk => exact False.elim hq
    | cont => exact False.elim hq
/-- the reading of a call: the arguments, then the promise -/
theorem pe_callG {E : L2.St → XK} (F : FnG X.prog X.w X.K X.mg X.base CX k f fd ps sp) (hr : RoomG k X.A) (hg : Gl X x) (hm : X.mg x = some (.ref f)) (hk : PySem.W.keepIn X.K (.ref f) = true) (hb : Binds X.K fd ps []) (hx : ∀ σ, PassesAt CX X σ (E σ))
    (ha : PA X (e :: es) t) (hdb : (x == ("__debug__" : Str)) = false := by decide) (he : starEach (e :: es) X.env = (false, eval e X.env) :: starEach es X.env := by rfl) (hpl : (backTo pos (starEach es X.env)).any (·.1) = false := by rfl) :
    PE X (.Call (.Name x p) (e :: es) [] pos) (tCallS sp E t) := by
  refine ⟨fun pins s σ H Q I h => ?_⟩
  refine wpAny_Call_Name_kw (ld_glob I hg hm ?_ hdb)
  refine PySem.W.callWith_K (h₀ := X.base) I.ok.mod.kin hk (thn (ha.run pos pins s σ H _ I h) fun us s1 ⟨vs, H1, I1, r, q⟩ => ⟨I1.kIn, ?_⟩) he hpl
  have hl : us.length = ps.length := by rw [← r.length]; exact F.len _ _ _ _ q
  have b := hb s1 us I1.kIn (by rw [List.append_nil]; exact hl)
  rw [List.append_nil] at b
  refine wpAny_call (codeAny_mono (F.run X.A X.stack s1 H1 ⟨us, []⟩ us vs Q (E σ) hr I1.env0 b r q) fun r s' hq => ?_)
  cases r with
  | error e => exact hx σ pins H1 s1 e s' I1 hq
  | ok fl =>
    cases fl with
    | ret u => exact I1.after hq
    | next => exact False.elim hq
    | brk => exact False.elim hq
    | cont => exact False.elim hq
/-- .. within a comprehension -/
theorem pe_callG0 {E : XK} (F : FnG X.prog X.w X.K X.mg X.base CX k f fd ps sp) (hr : RoomG k X.A) (hg : Gl X x) (hm : X.mg x = some (.ref f)) (hk : PySem.W.keepIn X.K (.ref f) = true) (hb : Binds X.K fd ps []) (hd : Vals ([] : List V) []) (hx : Passes CX X E)
    (ha : PA X (e :: es) t) (hdb : (x == ("__debug__" : Str)) = false := by decide) (he : starEach (e :: es) X.env = (false, eval e X.env) :: starEach es X.env := by rfl) (hpl : (backTo pos (starEach es X.env)).any (·.1) = false := by rfl) :
    PE X (.Call (.Name x p) (e :: es) [] pos) (tCall sp [] E t) := by
  refine ⟨fun pins s σ H Q I h => ?_⟩
  refine wpAny_Call_Name_kw (ld_glob I hg hm ?_ hdb)
  refine PySem.W.callWith_K (h₀ := X.base) I.ok.mod.kin hk (thn (ha.run pos pins s σ H _ I h) fun us s1 ⟨vs, H1, I1, r, q⟩ => ⟨I1.kIn, ?_⟩) he hpl
  have q : sp (vs ++ []) H1 Q E := q
  rw [List.append_nil] at q
  have hl : us.length = ps.length := by rw [← r.length]; exact F.len _ _ _ _ q
  have b := hb s1 us I1.kIn (by rw [List.append_nil]; exact hl)
  rw [List.append_nil] at b
  refine wpAny_call (codeAny_mono (F.run X.A X.stack s1 H1 ⟨us, []⟩ us vs Q E hr I1.env0 b r q) fun r s' hq => ?_)
  cases r with
  | error e => exact hx pins σ H1 s1 e s' I1 hq
  | ok fl =>
    cases fl with
    | ret u => exact I1.after hq
    | next => exact False.elim hq
    | brk => exact False.elim hq
    | cont => exact False.elim hq
/-- f(e, .., k = v, ..); sp' is the promise of that shape -/
theorem pe_callGK {E : L2.St → XK} (F : FnG X.prog X.w X.K X.mg X.base CX k f fd ps sp) (hr : RoomG k X.A) (hg : Gl X x) (hm : X.mg x = some (.ref f)) (hk : PySem.W.keepIn X.K (.ref f) = true) (hb : KB X.K fd ps n ks fun l => Pm .none is (l ++ du)) (hd : Vals dv du)
    (his : ∀ i ∈ is, i < n + ks.length + dv.length) (hsp : SpK sp sp' (n + ks.length) is dv) (hx : ∀ σ, PassesAt CX X σ (E σ))
    (ha : PKA X (e :: es) kws n ks.length t) (hall : (backToKw pos (keywordEach kws X.env)).all (·.1.isSome) = true := by rfl) (hks : (backToKw pos (keywordEach kws X.env)).filterMap (·.1) = ks := by rfl)
    (hdb : (x == ("__debug__" : Str)) = false := by decide) (he : starEach (e :: es) X.env = (false, eval e X.env) :: starEach es X.env := by rfl)
    (hpl : ((backTo pos (starEach (e :: es) X.env)).any (·.1) || (backToKw pos (keywordEach kws X.env)).any (·.1.isNone)) = false := by rfl) :
    PE X (.Call (.Name x p) (e :: es) kws pos) (tCallS sp' E t) := by
  refine ⟨fun pins s σ H Q I h => ?_⟩
  obtain ⟨t1, tk, h1, h2, q0⟩ := ha.ex
  have h : t1 σ H _ := (q0 σ H _).mp h
  refine wpAny_Call_Name_kw (ld_glob I hg hm ?_ hdb)
  refine PySem.W.callWith_KW (h₀ := X.base) I.ok.mod.kin hk hall (thn (h1.run pos pins s σ H _ I h) fun us s1 ⟨vs, H1, I1, r, q⟩ => ?_) hpl he
  refine thn (h2.run pos pins s1 σ H1 _ I1 q) fun ws s2 ⟨zs, H2, I2, rz, q2⟩ => ⟨I2.kIn, ?_⟩
  rw [hks]
  obtain ⟨l1, q2⟩ := chk_len q2
  obtain ⟨l2, q2⟩ := chk_len q2
  exact run_fnG F hr hb hd his (fun pins H s e s' I c => hx σ pins H s e s' I c) I2 (r.append rz) (r.length.symm.trans l1) (rz.length.symm.trans l2) (hsp.go _ _ _ _ q2).2
/-- f(k = v, ..) -/
theorem pe_callGK0 {E : L2.St → XK} (F : FnG X.prog X.w X.K X.mg X.base CX k f fd ps sp) (hr : RoomG k X.A) (hg : Gl X x) (hm : X.mg x = some (.ref f)) (hk : PySem.W.keepIn X.K (.ref f) = true) (hb : KB X.K fd ps n ks fun l => Pm .none is (l ++ du)) (hn : n = 0) (hd : Vals dv du)
    (his : ∀ i ∈ is, i < n + ks.length + dv.length) (hsp : SpK sp sp' (n + ks.length) is dv) (hx : ∀ σ, PassesAt CX X σ (E σ))
    (ha : PKN X kws ks.length t) (hall : (backToKw pos (keywordEach kws X.env)).all (·.1.isSome) = true := by rfl) (hks : (backToKw pos (keywordEach kws X.env)).filterMap (·.1) = ks := by rfl)
    (hdb : (x == ("__debug__" : Str)) = false := by decide)
    (hpl : ((backTo pos (starEach [] X.env)).any (·.1) || (backToKw pos (keywordEach kws X.env)).any (·.1.isNone)) = false := by rfl) :
    PE X (.Call (.Name x p) [] kws pos) (tCallS sp' E t) := by
  refine ⟨fun pins s σ H Q I h => ?_⟩
  subst hn
  have h : t σ H _ := (ha.eq σ H _).mp h
  refine wpAny_Call_Name_kw (ld_glob I hg hm ?_ hdb)
  refine PySem.W.callWith_KW0 (h₀ := X.base) I.ok.mod.kin hk hall ?_ hpl
  refine thn (ha.pk.run pos pins s σ H _ I h) fun ws s2 ⟨zs, H2, I2, rz, q2⟩ => ⟨I2.kIn, ?_⟩
  rw [hks]
  obtain ⟨l2, q2⟩ := chk_len q2
  exact run_fnG (us := []) F hr hb hd his (fun pins H s e s' I c => hx σ pins H s e s' I c) I2 rz rfl (rz.length.symm.trans l2) (hsp.go _ _ _ _ q2).2
end

/-! ### repr -/
def reprOk (d : PyData) : Bool := d.showable && !d.hasDict && decide (d.depth ≤ 50) && decide (d.shown.length ≤ sizeLine)
def reprR (d : PyData) : Res Str := Res.need (reprOk d = true) (.ok d.shown)
def rRepr (K : PySem.W.Frag) : List V → Hp → VK → Prop := fun xs H Q => ∃ v d, xs = [v] ∧ Dp K H v d ∧ (∃ ds, d = .list ds ∨ d = .tuple ds) ∧ reprOk d = true ∧ Q (.str d.shown) H
theorem reprK {X : Cx} (K : PySem.W.Frag) (h : X.K = K) (hg : X.A.guards = some []) (hu : X.A.units + 64 < cLine) : CallR X (.builtin "repr") (rRepr K) := by
  subst h
  intro pins s σ H xs us Q I r h
  obtain ⟨v, d, rfl, hd, ⟨ds, hf⟩, ho, q⟩ := h
  obtain ⟨u, rfl, rv⟩ := vals1 r
  obtain ⟨as, r1⟩ := Dp.reads I d v u hd rv
  unfold reprOk at ho
  simp only [Bool.and_eq_true, decide_eq_true_eq, Bool.not_eq_true'] at ho
  obtain ⟨⟨⟨h1, h2⟩, h3⟩, h4⟩ := ho
  have hu' : ∃ a, u = .ref a := by
    rcases hf with rfl | rfl
    · cases r1; exact ⟨_, rfl⟩
    · cases r1; exact ⟨_, rfl⟩
  obtain ⟨a, rfl⟩ := hu'
  exact repr_of_reads' r1 h1 (PyData.noDict_hsm h2) hg (by omega) (fun _ _ e => e) (fun h' u tk hk => ⟨.str _, H, I.kept hk, ⟨_, rfl⟩, q⟩) h4

/-! ### the law's end -/
theorem law_callG {P : Program} {w : World} {K : PySem.W.Frag} {mg mb : Str → Option Value} {CX : CXT} {k : Nat} {fa a : Addr} {fd : FuncData} {x : Str} {sp : Sp} {s₁ : Shared} {vs : List Value} {ns : List Int}
    (KX : K.In s₁.heap) (hns : s₁.heap.Ns mainGlobals mg) (hb : s₁.heap.Ns builtinsNs mb) (hbb : ∀ x : Str, x ≠ "__name__" → mb x = bootBuiltins x) (hlim : s₁.heap.NoLimit) (hg : s₁.gens = #[])
    (ha : s₁.heap.get? a = some { cls := .type "list", data := .seq vs.toArray }) (hi : IntsAre vs ns) (hl : ns.length ≤ sizeLine) (hr : RoomG k callerA)
    (F : ∀ base : Heap, K.In base → base.Ns mainGlobals mg → FnG P w K mg base CX k fa fd [x] sp) (hbind : ∀ (s : Shared) (u : Value), BindsTo s fd ⟨[u], []⟩ [(x, u)])
    (hsp : ∀ H : Hp, Only H → SqL K H a (ns.map V.int) → sp [.ref a] H (fun v _ => v = .bl true) fun _ _ _ => False)
    (hCX : ∀ H e s', CX [] H s₁ (fun _ _ _ => False) e s' → False) :
    codeAny (model P w) callerA (.call (.ref fa) ⟨[.ref a], []⟩) (fun r s' => r = .ok (.ret (.bool true)) ∧ OldK s₁.heap s'.heap ∧ s'.os = s₁.os ∧ AllBare s'.gens) s₁ := by
  have rv := vals_ints hi
  have lenV := hi.length
  have core : ∀ H : Hp, Only H → SqL K H a (ns.map V.int) → HOk P w H s₁.heap → (∀ b, H b ≠ none → b = a) → (H a ≠ none → K.lookup a = none) →
      codeAny (model P w) callerA (.call (.ref fa) ⟨[.ref a], []⟩) (fun r s' => r = .ok (.ret (.bool true)) ∧ OldK s₁.heap s'.heap ∧ s'.os = s₁.os ∧ AllBare s'.gens) s₁ := by
    intro H hO hS hok hA hK
    have base_of : ∀ {b : Addr} {o : Obj}, s₁.heap.get? b = some o → H b = none → (hidT s₁.heap H).get? b = some o := fun e n => hidT_get e n
    have noA : ∀ {b : Addr} {o : Obj} {es : Array DictEntry} {ep : Nat}, s₁.heap.get? b = some o → o.data = .dict es ep → H b = none := fun {b o es ep} e d => by
      cases q : H b with
      | none => rfl
      | some u =>
        have e' : b = a := hA b (by rw [q]; simp)
        subst e'
        rw [ha] at e; cases e
        have d' : Data.seq vs.toArray _ = Data.dict es ep := d
        cases d'
    have nsK : ∀ {b : Addr} {m : Str → Option Value}, s₁.heap.Ns b m → (hidT s₁.heap H).Ns b m := fun {b m} ⟨o, es, ep, e, d, r⟩ => ⟨o, es, ep, base_of e (noA e d), d, r⟩
    have hKb : K.In (hidT s₁.heap H) := fun b o e => base_of (KX b o e) (by
      cases q : H b with
      | none => rfl
      | some u =>
        have e' : b = a := hA b (by rw [q]; simp)
        subst e'
        rw [hK (by rw [q]; simp)] at e; cases e)
    have hM : Mod K mg (hidT s₁.heap H) := ⟨hKb, nsK hns, ⟨mb, nsK hb, hbb⟩, let ⟨mc, h1, h2⟩ := hlim; ⟨mc, nsK h1, h2⟩⟩
    have e0 : Env0 P w K mg (hidT s₁.heap H) callerA [] s₁ H := ⟨rfl, hM, fun b o e => of_hidT e, Nat.le_of_eq (hidT_size _ _), trivial, fun b hb => absurd (show b ∈ ([] : List Addr) from hb) (by simp), hok, .of_eq hg⟩
    refine codeAny_mono ((F _ hKb (nsK hns)).run callerA [] s₁ H ⟨[.ref a], []⟩ [.ref a] [.ref a] _ _ hr e0 (hbind s₁ (.ref a)) (.cons rfl .nil) (hsp H hO hS)) fun r s' h => ?_
    cases r with
    | error e => exact (hCX H e s' h).elim
    | ok fl =>
      cases fl with
      | next => exact False.elim h
      | brk => exact False.elim h
      | cont => exact False.elim h
      | ret u =>
        obtain ⟨v, H', os, bare, un, hok', r', q⟩ := h
        have q' : v = .bl true := q
        subst q'
        obtain rfl : u = Value.bool true := r'
        refine ⟨rfl, OldK.of_keep fun b o e => ?_, os, bare⟩
        cases q : H b with
        | none => exact un.keep b o e q (by intro z; exact absurd (show b ∈ ([] : List Addr) from z) (by simp)) (by simp)
        | some u =>
          rcases hO b with z | ⟨ob, xs, z⟩
          · rw [q] at z; cases z
          · have z2 := un.frzs b ob _ z
            obtain ⟨e1, _⟩ := hok b _ z
            obtain ⟨e2, _⟩ := hok' b _ z2
            rw [e] at e1; cases e1
            exact e2
  cases hk : K.lookup a with
  | some o =>
    have e := KX a o hk
    rw [ha] at e
    cases e
    refine core (fun _ => none) (fun _ => .inl rfl) (.inr ⟨_, vs.toArray, _, hk, rfl, rfl, rfl, by rw [List.size_toArray, lenV]; exact hl, by simpa using rv⟩) (fun b u z => by have z' : (none : Option HO) = some u := z; cases z') (fun b z => absurd rfl z) fun z => absurd rfl z
  | none =>
    refine core (fun b => if b = a then some (.frz { cls := .type "list", data := .seq vs.toArray } (.lst (ns.map V.int))) else none) (fun b => ?_) (.inl (.inr ⟨{ cls := .type "list", data := .seq vs.toArray }, if_pos rfl⟩)) (fun b u z => ?_) (fun b z => ?_) fun _ => hk
    · by_cases hb : b = a
      · exact .inr ⟨_, _, if_pos hb⟩
      · exact .inl (if_neg hb)
    · by_cases hb : b = a
      · have z' := (if_pos hb).symm.trans z
        cases z'
        subst hb
        exact ⟨ha, by rw [List.length_map]; exact hl, vs, _, rv, ha⟩
      · have z' := (if_neg hb).symm.trans z
        cases z'
    · by_cases hb : b = a
      · exact hb
      · exact absurd (if_neg hb) z
theorem walkG {l : PySem.W.OpenLaw} {q : Program} {loose : List Str} {XP : (Str → Option Value) → Heap → Prop} {YP : World → Heap → Prop} {d : DefRec} {K : Params → PySem.W.Frag} {k : Nat} (hn : l.most = some 63) (hdf : d.params.defaults = []) (hr : Room k callerA)
    (hY : ∀ (w : World) (h : Heap), YP w h → (K w.params).In h)
    (F : ∀ (w : World) (mg : Str → Option Value) (fa : Addr) (h : Heap), (K w.params).In h → h.Ns mainGlobals mg → mg d.name = some (.ref fa) →
      ∃ fd : FuncData, (∀ (s : Shared) (u : Value), BindsTo s fd ⟨[u], []⟩ [("script", u)]) ∧ ∀ base : Heap, (K w.params).In base → base.Ns mainGlobals mg → FnG l.prog w (K w.params) mg base (L2.CX l.prog w) k fa fd ["script"] (spLaw (K w.params))) :
    PySem.W.WalkO q loose XP YP l.row.toRowW d [] (fun f vs => PySem.call f vs) := by
  refine Att.attach_call hn hdf fun w s₀ s₁ mg mb fa o pm cd doc a vs ns G Y ho hd hcd hmg hobj hints hlen hg => ?_
  have KX := hY w _ Y
  obtain ⟨fd, hb, hF⟩ := F w mg fa _ KX G.T.g hmg
  exact law_callG KX G.T.g G.T.b G.T.builtins G.T.nolimit hg hobj hints (Nat.le_trans hlen (by decide)) ⟨hr, rfl⟩ hF hb (fun H hO hS => ⟨a, ns, rfl, hS, hlen, fun _ => rfl⟩) fun H e s' ⟨_, _, _, _, _, _, _, _, _, _, _, _, z⟩ => z
end Lc
/-! Lc: repr, min of pairs, shifts of cells, reverse, pokes -/
namespace Lc
open PySem L2 PySem.Spec PyProof.Rows
section
variable {E : Ec} {te ta tb tc : TE} {tr : TA} {t : TS} {Γ : List Cell} {α β γ δ : Type} {A B R : Asr} {H : Hp} {cx cy : RC} {i : Nat}
open Res
theorem put_cell {σ : L2.St} {x : Option V} {c : Cell} (hlt : i < Γ.length) (ex : σ[i]? = some x) (hB : Ent B (c x)) : Ent (sep (sep (base E σ (Γ.set i cAny)) A) B) (sep (base E σ (Γ.set i c)) A) := by
  intro F H o s ⟨o1, o2, h1, h2, d, ⟨o3, o4, h3, h4, d', ⟨o5, o6, h5, h6, d2, a, cc⟩, r⟩, b⟩
  refine ⟨fun q => o2 q ∨ o5 q ∨ o6 q, o4, fun q z => ?_, fun q z => h1 q (h4 q z), fun q z w => ?_, ⟨fun q => o2 q ∨ o5 q, o6, fun q z => z.elim .inl fun z => .inr (.inl z), fun q z => .inr (.inr z), fun q z w => ?_,
      sl_put hlt ex ⟨o2, o5, fun _ z => .inl z, fun _ z => .inr z, fun q z w => d q (h3 q (h5 q w)) z, hB F H o2 s b, a⟩, cc⟩, r⟩
  · rcases z with z | z | z
    · exact h2 q z
    · exact h1 q (h3 q (h5 q z))
    · exact h1 q (h3 q (h6 q z))
  · rcases z with z | z | z
    · exact d q (h4 q w) z
    · exact d' q (h5 q z) w
    · exact d' q (h6 q z) w
  · rcases z with z | z
    · exact d q (h3 q (h6 q w)) z
    · exact d2 q z w
/-- a list of one's own by its address -/
theorem es_at {mk : List PyData → Cell} {ds : List PyData} {m : Res β} {post : β → Fin} (hk : OwnC mk) (hi : Γ[i]? = some (mk ds)) (h : ∀ p, EvS E t (Γ.set i (cAt p ds)) m post) : EvS E t Γ m post := fun σ H R D t0 q => by
  obtain ⟨p, hs, t2, _⟩ := take_own (A := R) hk hi t0
  exact h p σ H R D (t2.ent (put_cell (c := cAt p ds) (List.getElem?_eq_some_iff.mp hi).1 hs fun F H o s a => sep_pers (fun _ => rfl) a)) q
/-- a list of one's own is frozen where it stands -/
theorem es_frz {mk : List PyData → Cell} {ds : List PyData} {m : Res β} {post : β → Fin} (hk : OwnC mk) (hi : Γ[i]? = some (mk ds)) (h : EvS E t (Γ.set i (cV (.list ds))) m post) : EvS E t Γ m post := fun σ H R D t0 q => by
  obtain ⟨p, hs, t2, _⟩ := take_own (A := R) hk hi t0
  exact h σ H R D (((t2.ent Ent.comm).freeze.ent Ent.comm).ent (put_cell (c := cV (.list ds)) (List.getElem?_eq_some_iff.mp hi).1 hs fun F H o s a => a)) q
/-- a slot is forgotten -/
theorem es_forget {c : Cell} {m : Res β} {post : β → Fin} (l : Le Γ (Γ.set i cAny)) (h : EvS E t (Γ.set i cAny) m post) : EvS E t Γ m post := EvS.pre l h

/-! ### repr -/
theorem rn_repr {d : PyData} (h : PArg E Γ K0 cx (ppD E.K d)) (hf : ∃ ds, d = .list ds ∨ d = .tuple ds) : RnJ E (rRepr E.K) [cx] Γ (reprR d) (fun _ => Γ) fun s => rV (.str s) := fun σ H R Q vs t q => by
  obtain ⟨ho, q⟩ := wp_need q
  obtain ⟨x, rfl, t1⟩ := one_arg t
  obtain ⟨_, _, z⟩ := par1 h t1
  exact ⟨x, d, rfl, z, hf, ho, q _ H (res1 t1 fun F => .str _)⟩
mutual
theorem Dp.up {K : PySem.W.Frag} {H H' : Hp} (s : Same H H') : ∀ {v : V} {d : PyData}, Dp K H v d → Dp K H' v d
  | _, _, .non => .non
  | _, _, .bl b => .bl b
  | _, _, .int i => .int i
  | _, _, .str x => .str x
  | _, _, .lst h r => .lst (sql_same h s) (DpAll.up s r)
  | _, _, .tup h r => .tup (h.elim (fun h => .inl (h.elim (fun h => .inl (s _ _ h)) fun ⟨o, h⟩ => .inr ⟨o, s _ _ h⟩)) fun h => .inr h) (DpAll.up s r)
theorem DpAll.up {K : PySem.W.Frag} {H H' : Hp} (s : Same H H') : ∀ {vs : List V} {ds : List PyData}, DpAll K H vs ds → DpAll K H' vs ds
  | _, _, .nil => .nil
  | _, _, .cons h r => .cons (Dp.up s h) (DpAll.up s r)
end
theorem dpAll_of {K : PySem.W.Frag} {F H : Hp} : ∀ {ds : List PyData} {vs : List V}, parOk (ds.map (ppD K)) vs F H → DpAll K H vs ds
  | [], [], _ => .nil
  | _ :: _, _ :: _, h => .cons h.1 (dpAll_of h.2)
  | [], _ :: _, h => (show False from h).elim
  | _ :: _, [], h => (show False from h).elim
theorem same_upd {H : Hp} {p : Addr} {u : HO} (h : H p = none) : Same H (upd H p u) := fun b w e => by
  rw [upd_ne (fun z => by rw [z, h] at e; cases e)]
  exact e
/-- repr([a, b, ..]), the items may be names of lists of one's own -/
theorem ev_reprL {ma : Res α} {Γ1 : α → List Cell} {cs : α → List RC} {ds : α → List PyData} (h : EvA E tr Γ ma Γ1 cs) (hp : ∀ a, Pars E (Γ1 a) K0 (cs a) ((ds a).map (ppD E.K))) (hl : ∀ a, (ds a).length ≤ 1000 := by exact fun _ => Nat.le_of_ble_eq_true rfl) :
    EvJ E (tCB (rRepr E.K) (tCons (tLst tr) tNil)) Γ (ma.bind fun a => (reprR (.list (ds a))).bind fun s => .ok (a, s)) (fun r => Γ1 r.1) fun r => rV (.str r.2) := fun σ H R Q t q =>
  h σ H R _ t (wp_mono (wp_bind.mp q) (fun a _ q vs H1 t1 => by
    obtain ⟨ho, q⟩ := wp_need (wp_bind.mp q)
    obtain ⟨F, o, s, k, P⟩ := t1
    have hpar : parOk ((ds a).map (ppD E.K)) vs F H1 := hp a σ vs F H1 o trivial s (Ent.left F H1 o s (Ent.assoc' F H1 o s P))
    have hd := dpAll_of hpar
    have ln : vs.length = (ds a).length := by rw [parOk_len hpar, List.length_map]
    refine ⟨by rw [ln]; exact Nat.le_trans (hl a) (by decide), fun p hp => ⟨.ref p, .list (ds a), rfl, .lst (SqL.of upd_same) (DpAll.up (same_upd hp) hd), ⟨_, .inl rfl⟩, ho, ?_⟩⟩
    have t2 : Top (sep emp (sep (base E σ (Γ1 a)) (sep (csA (cs a) σ vs) R))) (upd H1 p (.lst vs)) := Top.allocX ⟨F, o, s, k, P⟩ hp fun _ _ _ _ => trivial
    exact q (.str _) _ (res1 (t2.ent Ent.right) fun F => .str _)) fun _ x => x)

/-! ### min of pairs -/
def ltPr (a b : Int × Int) : Bool := decide (a.1 < b.1 ∨ (a.1 = b.1 ∧ a.2 < b.2))
def minP : List (Int × Int) → Res (Int × Int)
  | [] => .bad
  | x :: xs => .ok (xs.foldl (fun a y => if ltPr y a then y else a) x)
theorem minP_data (x : Int × Int) : ∀ xs : List (Int × Int), PySem.W.minD (dat x) (xs.map dat) = dat (xs.foldl (fun a y => if ltPr y a then y else a) x) := by
  intro xs
  unfold PySem.W.minD
  induction xs generalizing x with
  | nil => rfl
  | cons y ys ih =>
    rw [List.map_cons, List.foldl_cons, List.foldl_cons, ← ih]
    have e : (if PySem.W.dataLt (dat y) (dat x) = true then dat y else dat x) = dat (if ltPr y x = true then y else x) := by
      have e1 : PySem.W.dataLt (dat y) (dat x) = ltPr y x := PySem.W.dataLt_ii y.1 y.2 x.1 x.2
      rw [e1]
      split <;> rfl
    rw [e]
def rMinD (K : PySem.W.Frag) : List V → Hp → VK → Prop := fun vs H Q => ∃ (a : Addr) (xs : List V) (p : Int × Int) (ps : List (Int × Int)), vs = [.ref a] ∧ SqL K H a xs ∧ DpAll K H xs ((p :: ps).map dat) ∧ ∀ (i : Nat) (v : V), xs[i]? = some v → ((p :: ps).map dat)[i]? = some (PySem.W.minD (dat p) (ps.map dat)) → Q v H
theorem minPK {X : Cx} (K : PySem.W.Frag) (h : X.K = K) (hc : X.calm = true) (hu : X.A.units + 64 < cLine) : CallR X (.builtin "min") (rMinD K) := by
  subst h
  intro pins s σ H vs us Q I r h
  obtain ⟨a, xs, p, ps, rfl, hs, hd, q⟩ := h
  obtain ⟨its, rv, hl, _⟩ := I.list hs
  rw [Vals.ref1 r]
  obtain ⟨as, hr⟩ := Dp.readsAll I ((p :: ps).map dat) xs its hd rv
  have hr' : ReadsAll s.heap its.toArray.toList (dat p :: ps.map dat) as := hr
  have depth : ∀ l : List (Int × Int), PyData.depthAll (l.map dat) ≤ 3 := by
    intro l
    induction l with
    | nil => exact Nat.zero_le _
    | cons y ys ih =>
      refine Nat.max_le.mpr ⟨?_, ih⟩
      show PyData.depth (.tuple [.int y.1, .int y.2]) ≤ 3
      simp [PyData.depth, PyData.depthAll]
  have hal : PySem.W.AlikeAll (dat p :: ps.map dat) := by
    have e : (dat p :: ps.map dat) = (p :: ps).map dat := rfl
    rw [e]
    refine ⟨fun x hx y hy => ?_, fun x hx => ?_⟩
    · obtain ⟨x', _, rfl⟩ := List.mem_map.mp hx
      obtain ⟨y', _, rfl⟩ := List.mem_map.mp hy
      rfl
    · obtain ⟨x', _, rfl⟩ := List.mem_map.mp hx
      exact fun z => by cases z
  have hn : its.toArray.size = ps.length + 1 := by
    have := PySem.W.readsAll_len hr'
    simpa using this
  have du : X.A.units + 1 + PyData.depthAll (dat p :: ps.map dat) < cLine := by
    have := depth (p :: ps)
    have e : PyData.depthAll (dat p :: ps.map dat) = PyData.depthAll ((p :: ps).map dat) := rfl
    omega
  refine call_min_walkH (PySem.W.iter_listW (A := X.A.in1) (I.ok.hd hc) hl.isList fun s₂ e W st hfp hw hk => ?_)
  refine ⟨_, _, _, _, _, _, _, s.heap, _, rfl, W, st, hfp, by omega, hw, hk, PySem.W.cmpIn_lt (A := X.A.in1) hr' hal du, fun v s' hP m => ?_⟩
  obtain ⟨h', tk, rfl, hk'⟩ := PySem.W.moved_old e rfl m
  have e1 : its.toArray.size - 1 = (ps.map dat).length := by rw [List.length_map]; omega
  have e2 := (PySem.W.argBest_fold PySem.W.dataLt PyData.none (dat p) (ps.map dat) (ps.map dat).length (Nat.le_refl _)).2
  rw [List.take_length] at e2
  rw [← e1] at e2
  generalize hb : argBest (fun i j => PySem.W.dataLt ((dat p :: ps.map dat).getD i PyData.none) ((dat p :: ps.map dat).getD j PyData.none)) (its.toArray.size - 1) = b at hP e2
  have hP' : its[b]? = some v := by simpa using hP
  have hlt : b < its.length := (List.getElem?_eq_some_iff.mp hP').1
  have hx : b < xs.length := by
    have := rv.length
    omega
  obtain ⟨u, hu, hw2⟩ := rv.get (List.getElem?_eq_getElem hx)
  rw [hP'] at hu
  cases hu
  refine ⟨xs[b], H, I.kept hk', hw2, q b _ (List.getElem?_eq_getElem hx) ?_⟩
  have hb2 : b < (dat p :: ps.map dat).length := by
    rw [List.length_cons, List.length_map]
    have : its.toArray.size = its.length := by simp
    omega
  show (dat p :: ps.map dat)[b]? = _
  rw [List.getElem?_eq_getElem hb2]
  rw [List.getD_eq_getElem?_getD, List.getElem?_eq_getElem hb2] at e2
  exact congrArg some e2
theorem rn_minP {ps : List (Int × Int)} (h : PArg E Γ K0 cx (ppS E.K (ps.map dat))) : RnJ E (rMinD E.K) [cx] Γ (minP ps) (fun _ => Γ) fun r => rV (dat r) := fun σ H R Q vs t q => by
  obtain ⟨x, rfl, t1⟩ := one_arg t
  cases ps with
  | nil => exact (show False from q).elim
  | cons p ps =>
    have q : ∀ v H', Top (sep (base E σ Γ) (sep (rV (dat (ps.foldl (fun a y => if ltPr y a then y else a) p)) σ v) R)) H' → Q v H' := q
    obtain ⟨a, ws, rfl, hs, ln, t2⟩ := readS h t1
    have hd : DpAll E.K H ws ((p :: ps).map dat) := t2.fact fun F o s z => (as_of F o s z).dp s
    refine ⟨a, ws, p, ps, rfl, hs, hd, fun i v hv hi => ?_⟩
    rw [minP_data] at hi
    exact q v H (res1' (t2.ent (Ent.sepR (Ent.sepR Ent.right))) fun F o s z => by
      obtain ⟨v', e1, e2⟩ := (as_of F o s z).get hi
      rw [hv] at e1
      cases e1
      exact e2)
end
end Lc
/-! Lc: xs[a:b] = ys, reverse, pokes, chains -/
namespace Lc
open PySem L2 PySem.Spec PyProof.Rows
section
open PySem.SeqAt
open PySem.AutoSeq1 (wpAny_loadPart')
open PySem.MeetsSeq PySem.MeetsSeq2 PySem.MeetsSeq3
variable {prog : Program} {w : World} {A : Around} {E : Value → Shared → Prop} {s : Shared}
theorem setItem_sliceG {l b sl : Addr} {items new : Array Value} {n n2 : Nat} {vl vu : Value} {lo hi : Option Int} {a c : Nat} {Q : Unit → Shared → Prop}
    (e : s.heap.get? l = some { cls := .type "list", data := .seq items n }) (e2 : s.heap.get? b = some { cls := .type "list", data := .seq new n2 }) (hne : l ≠ b)
    (hs : s.heap.IsSliceOf sl vl vu .none) (pl : IsPart vl lo) (pu : IsPart vu hi) (hb0 : sliceBounds lo hi none items.size = ((a : Int), (c : Int), 1)) (hac : a ≤ c) (hc : c ≤ items.size)
    (hsz : items.size + new.size ≤ sizeLine) (h : Q () { s with heap := s.heap.update l (Obj.mapSeq fun xs => xs.extract 0 a ++ new ++ xs.extract c xs.size) }) :
    wpAny (model prog w) A (setItem (.ref l) (.ref sl) (.ref b)) Q E s := by
  have hl : s.heap.IsList l items := PySem.IsL.isList e
  have hb : s.heap.IsList b new := PySem.IsL.isList e2
  obtain ⟨os, hos, hcs, hds⟩ := id hs
  have hTs : s.TypeIs (.ref sl) "slice" := ⟨os, hos, hcs⟩
  have hstep : ¬ ((rawPart none == rawInt 0) = true) := Bool.false_ne_true
  have hsame : Builtin.List.listSameRef (.ref l) (.ref b) = false := by
    unfold Builtin.List.listSameRef
    exact beq_eq_false_iff_ne.mpr hne
  have hmax : (max (a : Int) (c : Int)).toNat = c := by omega
  have hz' : ((fun xs : Array Value => xs.extract 0 a ++ new ++ xs.extract c xs.size) items).size ≤ sizeLine + 1 := by
    simp only [Array.size_append, Array.size_extract]
    omega
  unfold setItem
  try with_reducible refine wpAny_holding ?_
  first | refine wpAny_bind (wpAny_pure ?_) | skip
  refine wpAny_bind (wpAny_sequenceKey hl.typeIs (by decide) ?_)
  refine wpAny_bind (wpAny_callSpecial?_slot (name := Str.ofString "__setitem__") hl.typeIs slot_list_setitem
    (wpAny_call_entry slot_list_setitem hl.typeIs entry_list_setitem ?_ (args_list_setitem _ _ _)))
  show wpAny _ _ (Builtin.List.listSubscript? (.ref sl) >>= _) _ _ s
  refine wpAny_bind ?_
  unfold Builtin.List.listSubscript?
  refine wpAny_bind (wpAny_specialOf hTs slice_no_index ?_)
  simp only [Option.isNone_none, if_true]
  refine wpAny_pure ?_
  show wpAny _ _ (typeOf (.ref sl) >>= _) _ _ s
  refine wpAny_bind (wpAny_typeOf hTs ?_)
  first
    | rw [if_neg (by decide)]
    | refine PySem.W.KFB.if_not (by decide) ?_
  rw [listSliceParts_eq]
  refine wpAny_bind (wpAny_bind (wpAny_field hos hds (x := .none) rfl (wpAny_bind (wpAny_listPart .none ?_))))
  rw [if_neg hstep]
  refine wpAny_bind (wpAny_field hos hds (x := vl) rfl (wpAny_bind (wpAny_listPart pl ?_)))
  refine wpAny_bind (wpAny_field hos hds (x := vu) rfl (wpAny_bind (wpAny_listPart pu (wpAny_pure ?_))))
  first
    | simp only [hsame, Bool.false_eq_true, if_false]
    | refine PySem.W.KFB.if_not hsame ?_
    | (dsimp only
       rw [if_neg (by rw [hsame]; exact Bool.false_ne_true)])
  refine wpAny_bind (m := Builtin.List.listAllItems (.ref b) "must assign iterable to extended slice") ?_
  unfold Builtin.List.listAllItems
  refine wpAny_bind (wpAny_typeOf hb.typeIs ?_)
  first
    | refine PySem.W.KFB.if_so (by decide) ?_
    | rw [if_pos (by decide)]
    | simp only [beq_self_eq_true, Bool.true_or, if_true]
  unfold Builtin.List.listItems
  refine wpAny_bind (wpAny_seqItems e2 rfl (wpAny_pure ?_))
  refine wpAny_bind (wpAny_bind (wpAny_seqItems e rfl (wpAny_pure ?_)))
  refine wpAny_bind (wpAny_of_eq ((sliceIndices_raw lo hi none items.size (by simp)).trans (congrArg (pure : Int × Int × Int → Sem (Int × Int × Int)) hb0)) ?_)
  show wpAny _ _ (if ((1 : Int) == 1) = true then _ else _) _ _ s
  rw [if_pos (by decide)]
  refine wpAny_bind (wpAny_rule ?_)
  first
    | simp only [notLongL hsz, Bool.false_eq_true, if_false]
    | refine PySem.W.KFB.if_not (notLongL hsz) ?_
  first | refine wpAny_bind (wpAny_pure ?_) | skip
  show wpAny _ _ (updateSeq l (fun xs => xs.extract 0 ((a : Int)).toNat ++ new ++ xs.extract (max (a : Int) (c : Int)).toNat xs.size) >>= _) _ _ s
  rw [hmax, Int.toNat_natCast]
  refine wpAny_bind (wpAny_updateSeq (hz := Nat.le_trans (Nat.le_add_right _ _) hsz) (_hz' := hz') e rfl ?_)
  refine wpAny_bind (wpAny_letGo ?_)
  first
    | exact wpAny_bind (wpAny_pure (wpAny_pure ⟨.none, rfl, wpAny_pure h⟩))
    | exact wpAny_pure ⟨.none, rfl, wpAny_pure h⟩
end
section
variable {X : Cx} {o : Expr} {lo hi : Option Expr} {to : TE} {tl th : TO} {pos p2 : Pos}
/-- o[lo:hi] = ys -/
def gSl (to : TE) (tl th : TO) : TG := fun v σ H Q => to σ H fun x H1 => tl σ H1 fun l H2 => th σ H2 fun u H3 => ∃ (a b : Addr) (xs ys : List V) (i j : Nat), x = .ref a ∧ v = .ref b ∧ a ≠ b ∧ H3 a = some (.lst xs) ∧ H3 b = some (.lst ys) ∧
  sliceBounds l u none xs.length = ((i : Int), (j : Int), 1) ∧ i ≤ j ∧ j ≤ xs.length ∧ xs.length + ys.length ≤ sizeLine ∧ Q σ (upd H3 a (.lst (xs.take i ++ ys ++ xs.drop j)))
theorem pg_slice (ho : PE X o to) (hl : PO X lo tl) (hu : PO X hi th)
    (ha : ∀ v, assign (.Subscript o (.Slice lo hi none p2) pos) X.env v = (do
      let ov ← holding [v] (eval o X.env)
      let iv ← holding [v, ov] (eval (.Slice lo hi none p2) X.env)
      standAt pos
      holding [v, ov, iv] (setItem ov iv v)
      release [iv, v, ov] []) := by intro _; rfl) : PG X (.Subscript o (.Slice lo hi none p2) pos) (gSl to tl th) := by
  refine ⟨fun pins s σ H v u Q I r h => ?_⟩
  rw [ha]
  refine wpAny_bind (wpAny_holding (thn (ho.run pins s σ H _ I h) fun ov s1 ⟨x, H1, I1, r1, q1⟩ => ?_))
  refine wpAny_bind (wpAny_holding (wpAny_Slice (thn (hl.run pins s1 σ H1 _ I1 q1) fun vl s2 ⟨l, H2, I2, pl, q2⟩ => thn (hu.run pins s2 σ H2 _ I2 q2) fun vu s3 ⟨u', H3, I3, pu, q3⟩ => ?_)))
  rw [evalPart_none]
  refine wpAny_pure ?_
  have I4 : Inv X pins σ H3 { s3 with heap := s3.heap.push { cls := .type "slice", data := .fields #[vl, vu, .none] } } := I3.kept (t' := s3.toks) fun b ob q => Heap.get?_push_of_some _ q
  obtain ⟨a, b, xs, ys, i, j, rfl, rfl, hne, hH, hB, hb, hij, hj, hz, q⟩ := q3
  cases r
  cases r1
  obtain ⟨z, its, n, rr, hl', e⟩ := I4.lstM hH
  obtain ⟨z2, its2, n2, r2, hl2, e2⟩ := I4.lstM hB
  refine wpAny_bind (wpAny_standAt (wpAny_bind (wpAny_holding ?_)))
  have hle : its.toArray.size = xs.length := by rw [List.size_toArray]; omega
  have hle2 : its2.toArray.size = ys.length := by rw [List.size_toArray]; omega
  refine setItem_sliceG (a := i) (c := j) e e2 hne (Heap.IsSliceOf.new ..) pl pu (by rw [hle]; exact hb) hij (by omega) (by omega) ?_
  refine wpAny_release ⟨σ, _, I4.lset (its' := its.take i ++ its2 ++ its.drop j) (t' := s3.toks) hH e (splice_eq its its2 i j) (Vals.append (Vals.append (rr.take _) r2) (rr.drop _)) ?_, q⟩
  rw [List.length_append, List.length_append, List.length_take, List.length_drop]
  omega
end
section
variable {E : Ec} {te ta tb tc : TE} {tr : TA} {t : TS} {Γ : List Cell} {α β γ δ : Type} {A B R : Asr} {H : Hp} {cx cy : RC} {i : Nat}
open Res
theorem es_reverse {mk : List PyData → Cell} {ds : List PyData} (hk : OwnC mk) (hi : Γ[i]? = some (mk ds)) :
    EvS1 E (tDrop (tBM0 E.K "list" rReverse (tVar i))) Γ (.ok ()) fun _ => Γ.set i (mk ds.reverse) := fun σ H R D t q => by
  obtain ⟨p, hs, t2, back⟩ := take_own (A := R) hk hi t
  obtain ⟨vs, ep, _⟩ := own_at t2
  refine ⟨_, hs, .inl ⟨rfl, vs, SqL.of ep⟩, p, vs, rfl, rfl, ep, q σ _ ?_⟩
  have t5 := own_write (σ := σ) (es := ds.reverse) (ws := vs.reverse) t2 fun F o vs'' s a e2 r => by
    rw [ep] at e2
    cases e2
    exact r.reverse
  exact t5.ent (back ds.reverse)
theorem es_reverseT [Dat α] {mk : List PyData → Cell} {xs : List α} (hk : OwnC mk) (hi : Γ[i]? = some (mk (xs.map dat))) :
    EvS1 E (tDrop (tBM0 E.K "list" rReverse (tVar i))) Γ (.ok ()) fun _ => Γ.set i (mk (xs.reverse.map dat)) := by
  rw [List.map_reverse]
  exact es_reverse hk hi
/-- xs[lo:hi] = ys of another list, frozen or new -/
def setSl {α : Type} (xs ys : List α) (lo hi : Option Int) : List α := let b := sliceBounds lo hi none xs.length; xs.take b.1.toNat ++ ys ++ xs.drop b.2.1.toNat
def setSlR {α : Type} (xs ys : List α) (lo hi : Option Int) : Res (List α) := let b := sliceBounds lo hi none xs.length
  need (0 ≤ b.1 ∧ b.1 ≤ b.2.1 ∧ b.2.1 ≤ xs.length ∧ xs.length + ys.length ≤ lim) (.ok (setSl xs ys lo hi))
theorem es_setSl [Dat α] {mk : List PyData → Cell} {xs : List α} {ys : γ → List α} {m : Res γ} {c : γ → RC} {tl th : TO} {lo hi : Option Int} (hk : OwnC mk) (h : EvJ E te Γ m (fun _ => Γ) c) (f : ∀ a, Fz (c a) (.list ((ys a).map dat))) (hi0 : Γ[i]? = some (mk (xs.map dat)))
    (h1 : EvOP E tl Γ lo) (h2 : EvOP E th Γ hi) :
    EvS1 E (tAsg te (gSl (tVar i) tl th)) Γ (m.bind fun a => (setSlR xs (ys a) lo hi)) fun zs => Γ.set i (mk (zs.map dat)) := fun σ H R D t q => by
  refine h σ H R _ t (wp_mono (wp_bind.mp q) (fun a _ q w H1 t1 => ?_) fun _ x => x σ)
  obtain ⟨⟨n0, n1, n2, n3⟩, q⟩ := wp_need q
  have t3 : Top (sep (base E σ Γ) (sep (vA (.list ((ys a).map dat)) w) R)) H1 := (f a σ w _ H1 (t1.ent frontE)).ent frontE
  obtain ⟨p, hs, t4, back⟩ := take_own hk hi0 t3
  refine ⟨_, hs, h1 σ H1 _ _ t3 fun H2 t3 => h2 σ H2 _ _ t3 fun H3 t3 => ?_⟩
  obtain ⟨p', hs', t4, back⟩ := take_own hk hi0 t3
  rw [hs] at hs'
  cases hs'
  obtain ⟨vs, ep, ln⟩ := own_at t4
  rw [List.length_map] at ln
  obtain ⟨b, zs, rfl, eb, lb, hne⟩ : ∃ b zs, w = .ref b ∧ H3 b = some (.lst zs) ∧ zs.length = (ys a).length ∧ p ≠ b := by
    obtain ⟨F, o, s, k, o1, o2, h1, h2, d, ⟨_, _, _, _, _, _, ⟨_, _, _, _, _, z, _⟩⟩, ⟨op, _⟩⟩ := t4
    have z : Rp F w (.list ((ys a).map dat)) := z
    cases z with
    | lst e r =>
      refine ⟨_, _, rfl, s _ _ e, by rw [r.len, List.length_map], fun hp => ?_⟩
      have := (k p (h2 p op)).1
      rw [hp] at this
      rw [this] at e
      cases e
  obtain ⟨i', ei⟩ := Int.eq_ofNat_of_zero_le n0
  obtain ⟨j', ej⟩ := Int.eq_ofNat_of_zero_le (Int.le_trans n0 n1)
  have hb3 : sliceBounds lo hi none xs.length = ((i' : Int), (j' : Int), 1) := by
    have e1 : (sliceBounds lo hi none xs.length).2.2 = 1 := rfl
    generalize hg : sliceBounds lo hi none xs.length = g at ei ej e1
    obtain ⟨g1, g2, g3⟩ := g
    simp only at ei ej e1
    rw [ei, ej, e1]
  rw [ei, ej] at n1
  rw [ej] at n2
  refine ⟨p, b, vs, zs, i', j', rfl, rfl, hne, ep, eb, by rw [ln]; exact hb3, by omega, by omega, by rw [ln, lb]; exact lim_le n3, q σ _ ?_⟩
  have t5 := own_write (σ := σ) (es := (setSl xs (ys a) lo hi).map dat) (ws := vs.take i' ++ zs ++ vs.drop j') t4 fun F o vs'' s z e2 r => by
    rw [ep] at e2
    cases e2
    obtain ⟨_, _, _, _, _, _, ⟨_, _, _, _, _, z, _⟩⟩ := z
    have z : Rp F (.ref b) (.list ((ys a).map dat)) := z
    cases z with
    | lst e rz =>
      have e' := s _ _ e
      rw [eb] at e'
      cases e'
      unfold setSl
      dsimp only
      rw [ei, ej]
      simp only [Int.toNat_natCast, Int.ofNat_eq_natCast]
      rw [List.map_append, List.map_append, List.map_take, List.map_drop]
      exact ((r.take i').append rz).append (r.drop j')
  exact (t5.ent (back _)).ent (Ent.sepR Ent.right)
theorem ev_ixT {ma : Res α} {Γ1 : α → List Cell} {ds : α → List PyData} {i : Int} {d : α → PyData} (ha : EvJ E ta Γ ma Γ1 fun a => rV (.tuple (ds a))) (hb : ∀ a, EvP E tb (Γ1 a) (rV (.int i))) (h : ∀ a, atI (ds a) i = some (d a)) :
    EvJ E (tOp (rIxT E.K) ta tb) Γ ma Γ1 fun a => rV (d a) :=
  (ev_op ha (fun a => ev_pure (a := ()) (cc := fun _ => rV (.int i)) (hb a)) (fun a _ => r2_to a (Γ' := Γ1) (c := fun a => rV (d a)) (r2_ixT (h a)))).eq (by cases ma <;> rfl)
/-- a < b < c, the parts may fail, no state changes -/
theorem ev_chainM {r r' : R2} {ma mb mc : Res Int} {p p' : Int → Int → Bool} (ha : EvJ E ta Γ ma (fun _ => Γ) fun a => rV (.int a)) (hb : EvJ E tb Γ mb (fun _ => Γ) fun a => rV (.int a)) (hc : EvJ E tc Γ mc (fun _ => Γ) fun a => rV (.int a))
    (h1 : ∀ a b H (Q : VK), Q (.bl (p a b)) H → r (.int a) (.int b) H Q) (h2 : ∀ a b H (Q : VK), Q (.bl (p' a b)) H → r' (.int a) (.int b) H Q) :
    EvJ E (tChain r r' ta tb tc) Γ (ma.bind fun a => mb.bind fun b => if p a b then mc.bind fun c => .ok (p' b c) else .ok false) (fun _ => Γ) fun x => rV (.bool x) := fun σ H R Q t q =>
  ha σ H R _ t (wp_mono (wp_bind.mp q) (fun a _ q x H1 t1 => by
    have ex := int1 t1
    subst ex
    refine hb σ H1 R _ (t1.ent (Ent.sepR Ent.right)) (wp_mono (wp_bind.mp q) (fun b _ q y H2 t2 => ?_) fun _ z => z)
    have ey := int1 t2
    subst ey
    refine h1 a b H2 _ ⟨p a b, rfl, ?_⟩
    cases e : p a b with
    | false =>
      rw [e] at q
      exact q (.bl false) H2 (res1 t2 fun F => .bl _)
    | true =>
      rw [e] at q
      refine hc σ H2 R _ (t2.ent (Ent.sepR Ent.right)) (wp_mono (wp_bind.mp q) (fun c _ q z H3 t3 => ?_) fun _ z => z)
      have ez := int1 t3
      subst ez
      exact h2 b c H3 _ (q (.bl (p' b c)) H3 (res1 t3 fun F => .bl _))) fun _ z => z)
end
section
variable {K : PySem.W.Frag} {x qual : Str} {st : Stmt} {f : Addr} {fd : FuncData} {ps ks : List Str} {n : Nat} {is : List Nat} {du : List Value}
theorem FunG.bindsAll (F : FunG K x qual st f fd) (h : ∀ us : List Value, us.length = ps.length → bindArgs fd ⟨us, []⟩ = pure (ps.zip us)) : L2.Binds K fd ps [] := Binds.all h
theorem FunG.kb (F : FunG K x qual st f fd) (h : ∀ us ws : List Value, us.length = n → ws.length = ks.length → bindArgs fd ⟨us, ks.zip ws⟩ = pure (ps.zip (Pm .none is (us ++ ws ++ du)))) : KB K fd ps n ks fun l => Pm .none is (l ++ du) := KB.of h
theorem kb_looks {D : Addr} {qs : List (Str × Value)} (hq : ∀ q ∈ qs, PySem.W.nsIn K D q.1 = some (some q.2))
    (h : ∀ us ws : List Value, us.length = n → ws.length = ks.length → KwChain D qs (bindArgs fd ⟨us, ks.zip ws⟩) (ps.zip (Pm .none is (us ++ ws ++ du)))) : KB K fd ps n ks fun l => Pm .none is (l ++ du) :=
  fun s us ws X l1 l2 => BindsTo.of_looks fun M => KwChain.looks X hq (h us ws l1 l2)
end
end Lc
/-! Lc: a list of one's own whose items are lists of one's own -/
namespace Lc
open PySem L2 PySem.Spec PyProof.Rows
/-- so many turns a while has at most -/
def fuelN : Nat := 100000
def exA {α : Type} (f : α → Asr) : Asr := ⟨fun F H o => ∃ a, (f a).P F H o, fun s k ⟨a, h⟩ => ⟨a, (f a).st s k h⟩, fun u ⟨a, h⟩ => ⟨a, (f a).up u h⟩⟩
/-- the list object alone -/
def lA (p : Addr) (vs : List V) : Asr where
  P := fun F H o => o p ∧ H p = some (.lst vs)
  st := fun s k ⟨h, e⟩ => ⟨h, (k p h).trans e⟩
  up := fun u ⟨h, e⟩ => ⟨u p h, e⟩
def oOs : List (List PyData) → List V → Asr
  | [], [] => emp
  | ds :: dss, v :: vs => sep (oV ds v) (oOs dss vs)
  | _, _ => bot
def rOO (dss : List (List PyData)) : RC := fun _ v => exA fun x : Addr × List V => sep (pur (v = .ref x.1)) (sep (lA x.1 x.2) (oOs dss x.2))
def cOO (dss : List (List PyData)) : Cell := fun o => match o with
  | some v => rOO dss [] v
  | none => bot
theorem oOs_len {F H : Hp} {o : Addr → Prop} : ∀ {dss : List (List PyData)} {vs : List V}, (∃ o, (oOs dss vs).P F H o) → vs.length = dss.length
  | [], [], _ => rfl
  | _ :: dss, _ :: vs, ⟨_, _, _, _, _, _, _, h⟩ => by rw [List.length_cons, List.length_cons, oOs_len (o := o) ⟨_, h⟩]
  | [], _ :: _, ⟨_, h⟩ => (show False from h).elim
  | _ :: _, [], ⟨_, h⟩ => (show False from h).elim
theorem oOs_dp {K : PySem.W.Frag} {F H : Hp} (s : Same F H) : ∀ {dss : List (List PyData)} {vs : List V} {o : Addr → Prop}, (oOs dss vs).P F H o → DpAll K H vs (dss.map .list)
  | [], [], _, _ => .nil
  | _ :: dss, _ :: vs, _, ⟨_, _, _, _, _, ⟨p, e, _, ws, ew, r⟩, h⟩ => .cons (e ▸ .lst (SqL.of ew) (r.dp s)) (oOs_dp s h)
  | [], _ :: _, _, h => (show False from h).elim
  | _ :: _, [], _, h => (show False from h).elim
section
variable {E : Ec} {te ta tb' tc : TE} {tr : TA} {t tb : TS} {Γ : List Cell} {α β γ δ : Type} {A B R : Asr} {H : Hp} {cx cy : RC} {i j : Nat}
open Res
theorem Top.allocN {p : Addr} {vs : List V} (t : Top A H) (hp : H p = none) : Top (sep (lA p vs) A) (upd H p (.lst vs)) := by
  obtain ⟨F, o, s, k, a⟩ := t
  have ne : ∀ q, o q → q ≠ p := fun q hq e => (k q hq).2 (e ▸ hp)
  have fp : F p = none := by
    cases e : F p with
    | none => rfl
    | some u => rw [s p u e] at hp; cases hp
  refine ⟨F, fun q => q = p ∨ o q, fun b u e => ?_, fun q hq => ?_, (fun q => q = p), o, fun _ z => .inl z, fun _ z => .inr z, fun q e hq => ne q hq e, ⟨rfl, upd_same⟩, A.st (Same.refl F) (fun q hq => upd_ne (ne q hq)) a⟩
  · rw [upd_ne (fun z => by rw [z, fp] at e; cases e)]
    exact s b u e
  · rcases hq with hq | hq
    · rw [hq]
      exact ⟨fp, by rw [upd_same]; exact fun z => by cases z⟩
    · exact ⟨(k q hq).1, by rw [upd_ne (ne q hq)]; exact (k q hq).2⟩
theorem cs_oOs {σ : L2.St} : ∀ {dss : List (List PyData)} {vs : List V}, Ent (csA (dss.map rO) σ vs) (oOs dss vs)
  | [], [] => Ent.refl _
  | _ :: dss, _ :: vs => Ent.sepR (cs_oOs (dss := dss) (vs := vs))
  | [], _ :: _ => fun _ _ _ _ h => (show False from h).elim
  | _ :: _, [] => fun _ _ _ _ h => (show False from h).elim
/-- [f(), g(), ..] of new lists -/
theorem ev_lstOO {ma : Res α} {Γ1 : α → List Cell} {cs : α → List RC} {dss : α → List (List PyData)} (h : EvA E tr Γ ma Γ1 cs) (e : cs = fun a => (dss a).map rO) (hl : ∀ a, (dss a).length ≤ 1000 := by exact fun _ => Nat.le_of_ble_eq_true rfl) :
    EvJ E (tLst tr) Γ ma Γ1 fun a => rOO (dss a) := fun σ H R Q t q => by
  subst e
  refine h σ H R _ t (wp_mono q (fun a _ q vs H1 t1 => ?_) fun _ x => x)
  have t2 : Top (sep (base E σ (Γ1 a)) (sep (oOs (dss a) vs) R)) H1 := t1.ent (Ent.sepR (Ent.sepL cs_oOs))
  have ln : vs.length = (dss a).length := t2.fact fun F o s ⟨_, _, _, _, _, _, ⟨o1, _, _, _, _, z, _⟩⟩ => oOs_len (o := o) ⟨o1, z⟩
  refine ⟨by rw [ln]; exact Nat.le_trans (hl a) (by decide), fun p hp => q _ _ ?_⟩
  refine ((t2.allocN hp).ent frontE).ent (Ent.sepR (Ent.assoc'.trans (Ent.sepL ?_)))
  exact fun F H o s z => ⟨(p, vs), sep_pers (fun _ => rfl) z⟩
theorem sto_OO {dss : List (List PyData)} : Sto (rOO dss) (cOO dss) := fun _ _ _ _ t => t
/-- slot i's list of lists, taken out of the state -/
theorem take_OO {dss : List (List PyData)} {σ : L2.St} (hi : Γ[i]? = some (cOO dss)) (t : Top (sep (base E σ Γ) A) H) :
    ∃ p vs, σ[i]? = some (some (.ref p)) ∧ Top (sep (base E σ (Γ.set i cAny)) (sep (sep (lA p vs) (oOs dss vs)) A)) H := by
  obtain ⟨F, o, s, kk, o1, o2, h1, h2, e, ⟨o3, o4, h3, h4, e', a, b⟩, r⟩ := t
  obtain ⟨x, ex, o5, o6, h5, h6, e2, cx, rest⟩ := sl_take hi a
  cases x with
  | none => exact (show False from cx).elim
  | some v =>
    obtain ⟨⟨p, vs⟩, o7, o8, h7, h8, d7, ev, z⟩ := cx
    have ev : v = .ref p := ev
    subst ev
    refine ⟨p, vs, ex, F, o, s, kk, fun q => o6 q ∨ o4 q, fun q => o5 q ∨ o2 q, fun q z => ?_, fun q z => ?_, fun q z w => ?_, ⟨o6, o4, fun _ z => .inl z, fun _ z => .inr z, fun q z w => e' q (h6 q z) w, rest, b⟩,
      o8, o2, fun q z => .inl (h8 q z), fun q z => .inr z, fun q z w => e q (h3 q (h5 q (h8 q z))) w, z, r⟩
    · rcases z with z | z
      · exact h1 q (h3 q (h6 q z))
      · exact h1 q (h4 q z)
    · rcases z with z | z
      · exact h1 q (h3 q (h5 q z))
      · exact h2 q z
    · rcases z with z | z <;> rcases w with w | w
      · exact e2 q w z
      · exact e q (h3 q (h6 q z)) w
      · exact e' q (h5 q w) z
      · exact e q (h4 q z) w
theorem no_OO {dss : List (List PyData)} : ∀ F H o, ¬ (cOO dss none).P F H o := fun _ _ _ h => h
theorem pa_OO {Kn : L2.St → Prop} {dss : List (List PyData)} (hi : Γ[i]? = some (cOO dss)) : PArg E Γ Kn (rS i) (ppD E.K (.list (dss.map .list))) := fun σ w F H o _ s ⟨_, _, _, _, _, ⟨_, _, _, _, _, a, _⟩, x⟩ => by
  obtain ⟨y, ey, hy⟩ := sl_get hi a
  have e2 : σ[i]? = some (some w) := x
  rw [ey] at e2
  cases e2
  obtain ⟨⟨p, vs⟩, _, _, _, _, _, ev, ⟨_, _, _, _, _, ⟨_, hp⟩, z⟩⟩ := hy
  have ev : w = .ref p := ev
  subst ev
  exact .lst (SqL.of hp) (oOs_dp s z)
theorem le_any : ∀ (Γ : List Cell) (j : Nat), Le Γ (Γ.set j cAny)
  | [], _ => .nil
  | _ :: Γ, 0 => .any (Le.refl Γ)
  | _ :: Γ, j + 1 => .same (le_any Γ j)
theorem map_datId (ds : List PyData) : ds.map dat = ds := List.map_id ds
/-- for row in rows: .., the rows are given away -/
theorem es_forOO {dss : List (List PyData)} {f : List PyData → Res Unit} (hi : Γ[i]? = some (cOO dss)) (hj : j < Γ.length)
    (hb0 : ∀ ds : List PyData, EvS E tb ((Γ.set i cAny).set j (cO (ds.map dat))) (f ds) fun _ => .lp ((Γ.set i cAny).set j cAny)) :
    EvS1 E (tFor (iList E.K (tVar i)) (gName j) tb) Γ (foldR dss () fun _ ds => f ds) fun _ => (Γ.set i cAny).set j cAny := fun σ H R D t q => by
  have hb : ∀ ds, EvS E tb ((Γ.set i cAny).set j (cO ds)) (f ds) fun _ => .lp ((Γ.set i cAny).set j cAny) := fun ds => by
    have := hb0 ds
    rwa [map_datId] at this
  obtain ⟨p, vs, hs, t1⟩ := take_OO hi t
  have ep : H p = some (.lst vs) := t1.fact fun F o s ⟨_, _, _, _, _, _, ⟨_, _, _, _, _, ⟨_, _, _, _, _, ⟨_, z⟩, _⟩, _⟩⟩ => z
  refine ⟨.ref p, hs, p, rfl, ⟨vs, SqL.of ep⟩, fun n mm σ' H' => mm = dss.length - n ∧ n ≤ dss.length ∧ Top (sep (base E σ' ((Γ.set i cAny).set j cAny)) (sep (lA p vs) (sep (oOs (dss.drop n) (vs.drop n)) R))) H' ∧ (foldR (dss.drop n) () fun _ ds => f ds).wp (fun b => (Fin.nx ((Γ.set i cAny).set j cAny)).ok E R D) (ExnS E R),
    ⟨_, rfl, Nat.zero_le _, (t1.ent (Ent.sepL (Ent.sepL (le_any _ j).ent))).ent (Ent.sepR Ent.assoc), q⟩, ?_⟩
  rintro n mm σ' H' ⟨rfl, hle, t2, q2⟩
  have ep' : H' p = some (.lst vs) := t2.fact fun F o s ⟨_, _, _, _, _, _, ⟨_, _, _, _, _, ⟨_, z⟩, _⟩⟩ => z
  have ln : (vs.drop n).length = (dss.drop n).length := t2.fact fun F o s ⟨_, _, _, _, _, _, ⟨_, _, _, _, _, _, ⟨o1, _, _, _, _, z, _⟩⟩⟩ => oOs_len (o := o) ⟨o1, z⟩
  rw [List.length_drop, List.length_drop] at ln
  by_cases hlt : n < dss.length
  · have hv : n < vs.length := by omega
    refine .inr ⟨⟨vs, vs[n], SqL.of ep', by simp [hv]⟩, ?_⟩
    have ed : dss.drop n = dss[n] :: dss.drop (n + 1) := List.drop_eq_getElem_cons hlt
    have ev : vs.drop n = vs[n] :: vs.drop (n + 1) := List.drop_eq_getElem_cons hv
    rw [ed] at q2
    rw [ed, ev] at t2
    refine ⟨fun σ2 H2 => Top (sep (base E σ2 ((Γ.set i cAny).set j cAny)) (sep (lA p vs) (sep (oOs (dss.drop (n + 1)) (vs.drop (n + 1))) R))) H2 ∧ (foldR (dss.drop (n + 1)) () fun _ ds => f ds).wp (fun b => (Fin.nx ((Γ.set i cAny).set j cAny)).ok E R D) (ExnS E R), fun σ2 H2 ⟨t3, q3⟩ => ⟨_, by omega, rfl, hlt, t3, q3⟩, fun x H2 hy => ?_⟩
    obtain ⟨rfl, hy⟩ := hy
    have ex := hy vs (SqL.of ep')
    rw [List.getElem?_eq_getElem hv] at ex
    cases ex
    have t3 : Top (sep (base E σ' ((Γ.set i cAny).set j cAny)) (sep (rO dss[n] σ' vs[n]) (sep (lA p vs) (sep (oOs (dss.drop (n + 1)) (vs.drop (n + 1))) R)))) H2 :=
      t2.ent (Ent.sepR ((Ent.sepR Ent.assoc).trans frontE))
    have t4 := put_slot (c := rO dss[n]) sto_o (by rw [List.length_set, List.length_set]; exact hj) t3
    rw [List.set_set] at t4
    refine hb dss[n] _ H2 _ _ t4 (wp_mono (wp_bind.mp q2) (fun _ _ q3 σ4 H4 t6 => ⟨⟨t6, q3⟩, ⟨t6, q3⟩⟩) fun _ x σ => ((x σ).drop).drop)
  · have e : n = dss.length := by omega
    subst e
    rw [List.drop_length] at q2
    exact .inl ⟨⟨vs, SqL.of ep', by omega⟩, q2 σ' H' (t2.ent (Ent.sepR (Ent.right.trans Ent.right)))⟩
/-- xs.pop(k), k computes -/
theorem ev_popAtM [Dat α] {mk : List PyData → Cell} {m : Res γ} {Γ1 : γ → List Cell} {xs : List α} {k : γ → Int} (hk : OwnC mk) (h : EvJ E te Γ m Γ1 fun a => rV (.int (k a))) (h0 : Γ[i]? = some (mk (xs.map dat))) (hi : ∀ a, (Γ1 a)[i]? = some (mk (xs.map dat))) :
    EvJ E (tBM E.K "list" rPopAt (tVar i) (tCons te tNil)) Γ (m.bind fun a => (popR xs (k a)).bind fun r => .ok (a, r)) (fun r => (Γ1 r.1).set i (mk (r.2.2.map dat))) (fun r => rV (dat r.2.1)) := fun σ H R Q t q => by
  obtain ⟨p, hs, t2, _⟩ := take_own (A := R) hk h0 t
  obtain ⟨vs, ep, _⟩ := own_at t2
  refine ⟨_, hs, .inl ⟨rfl, vs, SqL.of ep⟩, ?_⟩
  refine h σ H R _ t (wp_mono (wp_bind.mp q) (fun a _ q w H1 t1 => ?_) fun _ x => x)
  obtain ⟨hn, q⟩ := wp_need (wp_bind.mp q)
  have ew : w = .int (k a) := int1 t1
  subst ew
  have t3 := t1.ent (Ent.sepR Ent.right)
  obtain ⟨p', hs', t4, back⟩ := take_own hk (hi a) t3
  rw [hs] at hs'
  cases hs'
  obtain ⟨vs', ep', ln⟩ := own_at t4
  rw [List.length_map] at ln
  cases ej : ixN xs.length (k a) with
  | none =>
    rw [ej] at q
    exact (show False from q).elim
  | some j =>
    rw [ej] at q
    obtain ⟨sq, jl, b1, b2⟩ := ixN_seq ej
    cases ea : xs[j]? with
    | none =>
      simp only [ea] at q
      exact (show False from q).elim
    | some y =>
      simp only [ea] at q
      have hj : j < vs'.length := by omega
      have hv : vs'[j]? = some vs'[j] := List.getElem?_eq_getElem hj
      have l62 : (xs.length : Int) ≤ 16000000 := by
        have : xs.length ≤ 16000000 := hn
        omega
      refine ⟨p, vs', k a, j, vs'[j], rfl, rfl, ep', by omega, by omega, by rw [ln]; exact sq, hv, q _ _ ?_⟩
      have t5 := t4.addV (v := vs'[j]) (d := dat y) fun F o s ⟨_, _, _, _, _, _, ⟨_, vs'', e2, r⟩⟩ => by
        rw [ep'] at e2
        cases e2
        obtain ⟨v', e3, r3⟩ := r.get (i := j) (d := dat y) (by simp [ea])
        rw [hv] at e3
        cases e3
        exact r3
      have t6 := own_write (σ := σ) (es := (xs.eraseIdx j).map dat) (ws := vs'.eraseIdx j) (t5.ent Ent.assoc') fun F o vs'' s z e2 r => by
        rw [ep'] at e2
        cases e2
        have := RpAll_erase r j
        rw [List.eraseIdx_eq_take_drop_succ (l := xs.map dat)] at this
        rw [List.eraseIdx_eq_take_drop_succ (l := xs), List.map_append, List.map_take, List.map_drop]
        exact this
      exact ((t6.ent Ent.assoc).ent (Ent.sepR (back _))).ent frontE
theorem oOs_at : ∀ {dss : List (List PyData)} {vs : List V} {k : Nat} {ds : List PyData} {v : V}, dss[k]? = some ds → vs[k]? = some v → Ent (oOs dss vs) (oV ds v)
  | [], _, _, _, _, h, _ => by simp at h
  | _ :: _, [], _, _, _, _, h => by simp at h
  | _ :: _, _ :: _, 0, _, _, h, k => by
    simp at h k
    subst h
    subst k
    exact Ent.left
  | _ :: dss, _ :: vs, k + 1, _, _, h, e => Ent.right.trans (oOs_at (dss := dss) (vs := vs) (k := k) (by simpa using h) (by simpa using e))
def pokeIx (dss : List (List PyData)) (k : Nat) : Res Unit := match dss[k]? with
  | some ds => need (ds.length < lim) (.ok ())
  | none => .bad
/-- rows[k].append(None), the rows are given away -/
theorem es_pokeIx {dss : List (List PyData)} {k : Nat} (hi : Γ[i]? = some (cOO dss)) :
    EvS1 E (tDrop (tBM E.K "list" rAppend (tOp (rIxL E.K) (tVar i) (tC (.int (k : Int)))) (tCons (tC .non) tNil))) Γ (pokeIx dss k) fun _ => Γ.set i cAny := fun σ H R D t q => by
  unfold pokeIx at q
  cases e : dss[k]? with
  | none =>
    rw [e] at q
    exact (show False from q).elim
  | some ds =>
    rw [e] at q
    obtain ⟨hn, q⟩ := wp_need q
    obtain ⟨p, vs, hs, t1⟩ := take_OO hi t
    have ep : H p = some (.lst vs) := t1.fact fun F o s ⟨_, _, _, _, _, _, ⟨_, _, _, _, _, ⟨_, _, _, _, _, ⟨_, z⟩, _⟩, _⟩⟩ => z
    have ln : vs.length = dss.length := t1.fact fun F o s ⟨_, _, _, _, _, _, ⟨_, _, _, _, _, ⟨_, o1, _, _, _, _, z⟩, _⟩⟩ => oOs_len (o := o) ⟨o1, z⟩
    have hk : k < dss.length := (List.getElem?_eq_some_iff.mp e).1
    have hv : vs[k]? = some (vs[k]'(by omega)) := List.getElem?_eq_getElem _
    have t2 : Top (sep (sep (base E σ (Γ.set i cAny)) R) (oV ds (vs[k]'(by omega)))) H := t1.ent ((Ent.sepR (Ent.comm.trans (Ent.sepR (Ent.right.trans (oOs_at e hv))))).trans Ent.assoc')
    obtain ⟨p', ep'⟩ : ∃ p', vs[k]'(by omega) = .ref p' := t2.fact fun F o s ⟨_, _, _, _, _, _, ⟨p', e, _⟩⟩ => ⟨p', e⟩
    rw [ep'] at t2 hv
    have t3 : Top (sep (sep (base E σ (Γ.set i cAny)) R) (oA p' ds)) H := t2.ent (Ent.sepR fun F H o s ⟨p'', e, z⟩ => by
      cases e
      exact z)
    obtain ⟨ws, ew, lw⟩ := own_at t3
    have hat : atI vs (k : Int) = some (.ref p') := atI_nat hv
    refine ⟨.ref p, hs, p, vs, k, .ref p', rfl, rfl, SqL.of ep, hat, .inl ⟨rfl, ws, SqL.of ew⟩, p', ws, .non, rfl, rfl, ew, by rw [lw]; exact lim_lt hn, q σ _ ?_⟩
    have t4 := own_write (σ := σ) (es := ds ++ [.none]) (ws := ws ++ [.non]) t3 fun F o vs'' s a e2 r => by
      rw [ew] at e2
      cases e2
      exact r.append (.one .non)
    exact t4.ent Ent.left
end
theorem pe_bmK {X : Cx} {o e : Expr} {es : List Expr} {to : TE} {t : TA} {name : Str} {apos cpos : Pos} {T id : String} {r : V → List V → Hp → VK → Prop} (K : PySem.W.Frag) (hK : X.K = K) (pa : PlainAttrs T) (slot : Slot T name id) (hty : typeOf (.builtin id) = pure (.type "method_descriptor")) (hm : MtR X id r) (ho : PE X o to) (ha : PA X (e :: es) t)
    (hbase : attributeBase o name X.env (eval o X.env) = eval o X.env := by rfl)
    (hfew : ((backTo cpos (starEach (e :: es) X.env)).all (fun x => !x.1) && (backToKw cpos (keywordEach [] X.env)).all (fun x => x.1.isSome)
      && decide ((e :: es).length + ([] : List Keyword).length + (if ([] : List Keyword).isEmpty then 0 else 1) < 30)) = true := by rfl)
    (hline : (apos.endLine == cpos.line) = true := by rfl) (hs : starEach (e :: es) X.env = (false, eval e X.env) :: starEach es X.env := by rfl) (hplain : (backTo cpos (starEach es X.env)).any (·.1) = false := by rfl) :
    PE X (.Call (.Attribute o name apos) (e :: es) [] cpos) (tBM K T r to t) := hK ▸ pe_bm pa slot hty hm ho ha hbase hfew hline hs hplain
end Lc
/-! Ma: plain facts on what the mirrors are made of -/
namespace Lc
open PySem L2
/-- m ends well, with P -/
def Ok {α : Type} (m : Res α) (P : α → Prop) : Prop := ∃ a, m = .ok a ∧ P a
theorem Ok.bind {α β : Type} {m : Res α} {f : α → Res β} {P : α → Prop} {Q : β → Prop} (h : Ok m P) (k : ∀ a, P a → Ok (f a) Q) : Ok (m.bind f) Q := by
  obtain ⟨a, rfl, p⟩ := h
  exact k a p
theorem Ok.assoc {α β γ : Type} {m : Res α} {f : α → Res β} {g : β → Res γ} {P : γ → Prop} (h : Ok (m.bind fun a => (f a).bind g) P) : Ok ((m.bind f).bind g) P := by
  rw [Res.bind_assoc]
  exact h
theorem Ok.okb {α β : Type} {a : α} {f : α → Res β} {P : β → Prop} (h : Ok (f a) P) : Ok ((Res.ok a).bind f) P := h
theorem Ok.pure {α : Type} {a : α} {P : α → Prop} (h : P a) : Ok (.ok a) P := ⟨a, rfl, h⟩
theorem Ok.imp {α : Type} {m : Res α} {P Q : α → Prop} (h : Ok m P) (k : ∀ a, P a → Q a) : Ok m Q := by
  obtain ⟨a, e, p⟩ := h
  exact ⟨a, e, k a p⟩
theorem Ok.noErr {α : Type} {m : Res α} {P : α → Prop} (h : Ok m P) : Ok (noErr m) P := by
  obtain ⟨a, rfl, p⟩ := h
  exact ⟨a, rfl, p⟩
theorem Ok.need {α : Type} {c : Prop} [Decidable c] {m : Res α} {P : α → Prop} (hc : c) (h : Ok m P) : Ok (Res.need c m) P := by
  rw [Res.need_of hc]
  exact h
theorem Ok.of_eq {α : Type} {m : Res α} {a : α} (h : m = .ok a) : Ok m fun b => b = a := ⟨a, h, rfl⟩
theorem Ok.eq {α : Type} {m : Res α} {a : α} (h : Ok m fun b => b = a) : m = .ok a := by
  obtain ⟨b, e, rfl⟩ := h
  exact e
theorem getI_pos {α : Type} {xs : List α} {i : Int} (h0 : 0 ≤ i) (h1 : i < xs.length) : getI xs i = .ok (xs[i.toNat]'(by omega)) := by
  refine getI_some ?_
  unfold atI ixN
  rw [if_pos h0, if_pos (by omega)]
  simp
theorem getI_nat {α : Type} {xs : List α} {i : Nat} {a : α} (h : xs[i]? = some a) : getI xs (i : Int) = .ok a := by
  have hl : i < xs.length := (List.getElem?_eq_some_iff.mp h).1
  rw [getI_pos (Int.natCast_nonneg i) (by omega)]
  have e : xs[(i : Int).toNat]'(by omega) = a := by
    have := (List.getElem?_eq_some_iff.mp h).2
    simpa using this
  rw [e]
theorem getI_ok {α : Type} {xs : List α} {i : Int} (h0 : 0 ≤ i) (h1 : i < xs.length) : Ok (getI xs i) fun a => a ∈ xs := ⟨_, getI_pos h0 h1, List.getElem_mem _⟩
theorem getI_last {α : Type} {xs : List α} (h : xs ≠ []) : Ok (getI xs (-1)) fun a => a ∈ xs := by
  have hl : 0 < xs.length := List.length_pos_iff.mpr h
  refine ⟨xs[xs.length - 1]'(by omega), getI_some ?_, List.getElem_mem _⟩
  unfold atI ixN
  rw [if_neg (by omega), if_pos (by omega)]
  have e : ((-1 : Int) + (xs.length : Int)).toNat = xs.length - 1 := by omega
  simp only [Option.bind_some]
  rw [e]
  simp
theorem setR_pos {α : Type} {xs : List α} {i : Int} {a : α} (h0 : 0 ≤ i) (h1 : i < xs.length) : setR xs i a = .ok (xs.set i.toNat a) := by
  unfold setR ixN
  rw [if_pos h0, if_pos (by omega)]
theorem foldR_ok {α σ : Type} {f : σ → α → Res σ} (I : Nat → σ → Prop) : ∀ (xs : List α) (s : σ) (n : Nat), I n s → (∀ i s a, a ∈ xs → n ≤ i → i < n + xs.length → I i s → Ok (f s a) (I (i + 1))) → Ok (foldR xs s f) (I (n + xs.length))
  | [], s, n, h, _ => ⟨s, rfl, h⟩
  | a :: l, s, n, h, k => by
    unfold foldR
    refine Ok.bind (k n s a List.mem_cons_self (Nat.le_refl n) (by simp) h) fun s' h' => ?_
    have e : n + (a :: l).length = (n + 1) + l.length := by simp; omega
    rw [e]
    exact foldR_ok I l s' (n + 1) h' fun i s b hb h1 h2 => k i s b (List.mem_cons_of_mem _ hb) (by omega) (by rw [List.length_cons]; omega)
/-- an invariant at every step of a walk over a range -/
theorem foldR_range {σ : Type} {f : σ → Int → Res σ} (I : Int → σ → Prop) (b : Int) (hs : ∀ i s, i < b → I i s → Ok (f s i) (I (i + 1))) : ∀ (n : Nat) (a : Int) (s : σ), (b - a).toNat = n → a ≤ b → I a s → Ok (foldR (rangeL a b) s f) (I b)
  | 0, a, s, hn, hab, h => by
    have e : a = b := by omega
    subst e
    have : rangeL a a = [] := by unfold rangeL; simp
    rw [this]
    exact ⟨s, rfl, h⟩
  | n + 1, a, s, hn, hab, h => by
    have e : rangeL a b = a :: rangeL (a + 1) b := by
      unfold rangeL
      have : (b - a).toNat = (b - (a + 1)).toNat + 1 := by omega
      rw [this, List.range_succ_eq_map]
      simp [List.map_map, Function.comp_def]
      intro k _
      omega
    rw [e]
    unfold foldR
    exact Ok.bind (hs a s (by omega) h) fun s' h' => foldR_range I b hs n (a + 1) s' (by omega) (by omega) h'
theorem compR_ok {α β τ : Type} {f : τ → α → Res (Option β × τ)} (I : Nat → List β → τ → Prop) : ∀ (xs : List α) (s : τ) (acc : List β) (n : Nat), I n acc s → acc.length + xs.length ≤ lim →
    (∀ i s acc a, a ∈ xs → n ≤ i → i < n + xs.length → I i acc s → Ok (f s a) fun r => match r.1 with | some b => I (i + 1) (acc ++ [b]) r.2 | none => I (i + 1) acc r.2) →
    Ok (compR xs s acc f) fun r => I (n + xs.length) r.1 r.2
  | [], s, acc, n, h, _, _ => ⟨_, rfl, h⟩
  | a :: l, s, acc, n, h, hl, k => by
    rw [List.length_cons] at hl
    unfold compR
    refine Ok.bind (Ok.noErr (k n s acc a List.mem_cons_self (Nat.le_refl n) (by simp) h)) fun r h' => ?_
    have e : n + (a :: l).length = (n + 1) + l.length := by simp; omega
    rw [e]
    obtain ⟨ob, s'⟩ := r
    cases ob with
    | none => exact compR_ok I l s' acc (n + 1) h' (by omega) fun i s acc b hb h1 h2 => k i s acc b (List.mem_cons_of_mem _ hb) (by omega) (by rw [List.length_cons]; omega)
    | some b => exact Ok.need (by omega) (compR_ok I l s' (acc ++ [b]) (n + 1) h' (by simp; omega) fun i s acc b hb h1 h2 => k i s acc b (List.mem_cons_of_mem _ hb) (by omega) (by rw [List.length_cons]; omega))
theorem forR_ok {α σ ρ : Type} {f : σ → α → Res (Lp σ ρ)} (I : σ → Prop) : ∀ (xs : List α) (s : σ), I s → (∀ s a, a ∈ xs → I s → Ok (f s a) fun r => ∃ s', r = .next s' ∧ I s') → Ok (forR xs s f) fun r => ∃ s', r = .go s' ∧ I s'
  | [], s, h, _ => ⟨_, rfl, s, rfl, h⟩
  | a :: l, s, h, k => by
    unfold forR
    refine Ok.bind (k s a List.mem_cons_self h) fun r ⟨s', e, h'⟩ => ?_
    subst e
    exact forR_ok I l s' h' fun s b hb => k s b (List.mem_cons_of_mem _ hb)
theorem forR_idx {α σ ρ : Type} {f : σ → α → Res (Lp σ ρ)} (I : Nat → σ → Prop) : ∀ (xs : List α) (s : σ) (n : Nat), I n s → (∀ i s a, i < n + xs.length → I i s → Ok (f s a) fun r => ∃ s', r = .next s' ∧ I (i + 1) s') → Ok (forR xs s f) fun r => ∃ s', r = .go s' ∧ I (n + xs.length) s'
  | [], s, n, h, _ => ⟨_, rfl, s, rfl, h⟩
  | a :: l, s, n, h, k => by
    unfold forR
    refine Ok.bind (k n s a (by simp) h) fun r ⟨s', e, h'⟩ => ?_
    subst e
    have e : n + (a :: l).length = (n + 1) + l.length := by simp; omega
    rw [e]
    exact forR_idx I l s' (n + 1) h' fun i s b h1 => k i s b (by rw [List.length_cons]; omega)
theorem sq_ok {τ ρ β : Type} {m : Res (Jn τ ρ)} {k : τ → Res β} {g : ρ → β} {P : τ → Prop} {Q : β → Prop} (h : Ok m fun r => ∃ s', r = .go s' ∧ P s') (hk : ∀ s, P s → Ok (k s) Q) : Ok (Jn.sq m k g) Q := by
  obtain ⟨r, rfl, s, rfl, p⟩ := h
  exact hk s p
theorem rangeR_ok {a b : Int} (h1 : -(2 ^ 62) ≤ a) (h2 : a < 2 ^ 62) (h3 : -(2 ^ 62) ≤ b) (h4 : b < 2 ^ 62) : rangeR a b = .ok (rangeL a b) := Res.need_of ⟨h1, h2, h3, h4⟩
theorem mem_range {a b i : Int} (h : i ∈ rangeL a b) : a ≤ i ∧ i < b := by
  unfold rangeL at h
  simp at h
  obtain ⟨k, h1, rfl⟩ := h
  omega
theorem catR_ok {α : Type} {xs ys : List α} (h : xs.length + ys.length ≤ lim) : catR xs ys = .ok (xs ++ ys) := Res.need_of h
theorem modR_ok {i j : Int} (h : 0 < j) : modR i j = .ok (i % j) := Res.need_of h
theorem log2_lt {n k : Nat} (h : n < 2 ^ k) : n.log2 ≤ k := by
  by_cases h0 : n = 0
  · subst h0
    simp
  · exact Nat.le_of_lt ((Nat.log2_lt h0).mpr h)
theorem divR_ok {i j : Int} (h : 0 < j) (h2 : j < 2 ^ 300) : divR i j = .ok (i / j) := Res.need_of ⟨h, by
  have := log2_lt (n := j.natAbs) (k := 300) (by omega)
  omega⟩
theorem mulA_okL {i j : Int} (h : -(2 ^ 64) < i) (h2 : i < 2 ^ 64) : mulA i j = .ok (i * j) := Res.need_of (.inl (.inl ⟨h, h2⟩))
theorem mulA_okR {i j : Int} (h : -(2 ^ 64) < j) (h2 : j < 2 ^ 64) : mulA i j = .ok (i * j) := Res.need_of (.inl (.inr ⟨h, h2⟩))
theorem cutL_to {α : Type} (xs : List α) {k : Int} (h : 0 ≤ k) : cutL xs none (some k) = xs.take k.toNat := by
  obtain ⟨n, rfl⟩ := Int.eq_ofNat_of_zero_le h
  unfold cutL
  rw [HT.sIx_none, HT.sIx_nat, List.drop_zero, Nat.sub_zero, Int.toNat_natCast]
  by_cases hn : n ≤ xs.length
  · rw [Nat.min_eq_left hn]
  · rw [Nat.min_eq_right (by omega), List.take_of_length_le (Nat.le_refl _), List.take_of_length_le (by omega)]
theorem cutL_from {α : Type} (xs : List α) {k : Int} (h : 0 ≤ k) : cutL xs (some k) none = xs.drop k.toNat := by
  obtain ⟨n, rfl⟩ := Int.eq_ofNat_of_zero_le h
  unfold cutL
  rw [HT.sIx_none, HT.sIx_nat, Int.toNat_natCast]
  by_cases hn : n ≤ xs.length
  · rw [Nat.min_eq_left hn, List.take_of_length_le (by rw [List.length_drop]; exact Nat.le_refl _)]
  · rw [List.drop_of_length_le (by omega), List.drop_of_length_le (by omega)]
    simp
theorem cutL_mid {α : Type} (xs : List α) {i j : Int} (h : 0 ≤ i) (hj : i ≤ j) : cutL xs (some i) (some j) = (xs.drop i.toNat).take (j.toNat - i.toNat) := by
  obtain ⟨n, rfl⟩ := Int.eq_ofNat_of_zero_le h
  obtain ⟨m, rfl⟩ := Int.eq_ofNat_of_zero_le (Int.le_trans h hj)
  unfold cutL
  rw [HT.sIx_nat, HT.sIx_nat, Int.toNat_natCast, Int.toNat_natCast]
  have hnm : n ≤ m := by omega
  by_cases hn : n ≤ xs.length
  · rw [Nat.min_eq_left hn]
    by_cases hm : m ≤ xs.length
    · rw [Nat.min_eq_left hm]
    · rw [Nat.min_eq_right (by omega), List.take_of_length_le (by rw [List.length_drop]; exact Nat.le_refl _), List.take_of_length_le (by rw [List.length_drop]; omega)]
  · rw [Nat.min_eq_right (by omega), Nat.min_eq_right (by omega), List.drop_of_length_le (by omega), List.drop_of_length_le (by omega)]
    simp
theorem cutL_mem {α : Type} {xs : List α} {lo hi : Option Int} {a : α} (h : a ∈ cutL xs lo hi) : a ∈ xs := List.mem_of_mem_drop (List.mem_of_mem_take h)
theorem cutL_len {α : Type} (xs : List α) (lo hi : Option Int) : (cutL xs lo hi).length ≤ xs.length := by
  unfold cutL
  rw [List.length_take, List.length_drop]
  omega
theorem ints_dat (ns : List Int) : ns.map dat = ns.map PyData.int := rfl
end Lc
/-! Ma: what repr asks -/
namespace Lc
open PySem L2
mutual
def smallD : PyData → Bool
  | .none | .bool _ => true
  | .int i => decide (i.natAbs < 2 ^ 400)
  | .str _ => false
  | .list xs | .tuple xs => smallAll xs
  | .dict _ => false
def smallAll : List PyData → Bool
  | [] => true
  | x :: xs => smallD x && smallAll xs
end
mutual
def nodes : PyData → Nat
  | .list xs | .tuple xs => nodesAll xs + 1
  | _ => 1
def nodesAll : List PyData → Nat
  | [] => 0
  | x :: xs => nodes x + nodesAll xs
end
theorem int_log {i : Int} (h : i.natAbs < 2 ^ 400) : i.natAbs.log2 < 401 := by
  have := log2_lt h
  omega
mutual
theorem smallD_dict : ∀ {d : PyData}, smallD d = true → d.hasDict = false
  | .none, _ => by simp only [PyData.hasDict]
  | .bool _, _ => by simp only [PyData.hasDict]
  | .int _, _ => by simp only [PyData.hasDict]
  | .str _, h => by simp [smallD] at h
  | .list xs, h => by
    simp only [PyData.hasDict]
    exact smallAll_dict (by simpa [smallD] using h)
  | .tuple xs, h => by
    simp only [PyData.hasDict]
    exact smallAll_dict (by simpa [smallD] using h)
  | .dict _, h => by simp [smallD] at h
theorem smallAll_dict : ∀ {xs : List PyData}, smallAll xs = true → PyData.hasDictAll xs = false
  | [], _ => rfl
  | x :: xs, h => by
    have h : smallD x = true ∧ smallAll xs = true := by simpa [smallAll] using h
    simp only [PyData.hasDictAll, smallD_dict h.1, smallAll_dict h.2, Bool.or_self]
end
mutual
theorem smallD_show : ∀ {d : PyData}, smallD d = true → d.showable = true
  | .none, _ => by simp only [PyData.showable]
  | .bool _, _ => by simp only [PyData.showable]
  | .int i, h => by
    have h : i.natAbs < 2 ^ 400 := by simpa [smallD] using h
    simp only [PyData.showable, decide_eq_true_eq]
    have := int_log h
    omega
  | .str _, h => by simp [smallD] at h
  | .list xs, h => by
    simp only [PyData.showable]
    exact smallAll_show (by simpa [smallD] using h)
  | .tuple xs, h => by
    simp only [PyData.showable]
    exact smallAll_show (by simpa [smallD] using h)
  | .dict _, h => by simp [smallD] at h
theorem smallAll_show : ∀ {xs : List PyData}, smallAll xs = true → PyData.showableAll xs = true
  | [], _ => rfl
  | x :: xs, h => by
    have h : smallD x = true ∧ smallAll xs = true := by simpa [smallAll] using h
    simp only [PyData.showableAll, smallD_show h.1, smallAll_show h.2, Bool.and_self]
end
mutual
theorem smallD_len : ∀ {d : PyData}, smallD d = true → d.shown.length + 2 ≤ 410 * nodes d
  | .none, _ => by
    have e : (PyData.shown .none).length = 4 := rfl
    simp only [nodes]
    omega
  | .bool b, _ => by
    have e : (PyData.shown (.bool b)).length ≤ 5 := by cases b <;> decide
    simp only [nodes]
    omega
  | .int i, h => by
    have h : i.natAbs < 2 ^ 400 := by simpa [smallD] using h
    have e := PySem.int_text_length_le (a := i) (k := 401) (by decide) (int_log h)
    rw [PyData.shown_int]
    simp only [nodes]
    have e2 : ((toString i : String) : Str).length = (toString i).length := ofString_length _
    omega
  | .str _, h => by simp [smallD] at h
  | .list xs, h => by
    have h1 := smallAll_len (xs := xs) (by simpa [smallD] using h)
    have h2 := listText_len_le (PyData.shownAll xs)
    have h3 := PyData.shownAll_length xs
    simp only [PyData.shown, nodes]
    omega
  | .tuple xs, h => by
    have h1 := smallAll_len (xs := xs) (by simpa [smallD] using h)
    have h2 := tupleText_len_le (PyData.shownAll xs)
    have h3 := PyData.shownAll_length xs
    simp only [PyData.shown, nodes]
    omega
  | .dict _, h => by simp [smallD] at h
theorem smallAll_len : ∀ {xs : List PyData}, smallAll xs = true → ((PyData.shownAll xs).map (·.length)).sum + 2 * xs.length ≤ 410 * nodesAll xs
  | [], _ => by simp [PyData.shownAll, nodesAll]
  | x :: xs, h => by
    have h : smallD x = true ∧ smallAll xs = true := by simpa [smallAll] using h
    have h1 := smallD_len h.1
    have h2 := smallAll_len h.2
    simp only [PyData.shownAll, List.map_cons, List.sum_cons, List.length_cons, nodesAll]
    omega
end
theorem reprR_ok {d : PyData} (h : smallD d = true) (hd : d.depth ≤ 50) (hn : nodes d ≤ 40000) : reprR d = .ok d.shown := by
  refine Res.need_of ?_
  unfold reprOk
  simp only [Bool.and_eq_true, decide_eq_true_eq, Bool.not_eq_true']
  refine ⟨⟨⟨smallD_show h, smallD_dict h⟩, hd⟩, ?_⟩
  have := smallD_len h
  have : sizeLine = 16777216 := by decide
  omega
/-- typed data -/
theorem smallAll_map {α : Type} [Dat α] : ∀ {xs : List α}, (∀ x ∈ xs, smallD (dat x) = true) → smallAll (xs.map dat) = true
  | [], _ => rfl
  | x :: xs, h => by
    simp only [List.map_cons, smallAll, Bool.and_eq_true]
    exact ⟨h x List.mem_cons_self, smallAll_map fun y hy => h y (List.mem_cons_of_mem _ hy)⟩
theorem nodesAll_map {α : Type} [Dat α] (k : Nat) : ∀ {xs : List α}, (∀ x ∈ xs, nodes (dat x) ≤ k) → nodesAll (xs.map dat) ≤ k * xs.length
  | [], _ => by simp [nodesAll]
  | x :: xs, h => by
    have h1 := h x List.mem_cons_self
    have h2 := nodesAll_map k fun y hy => h y (List.mem_cons_of_mem _ hy)
    simp only [List.map_cons, nodesAll, List.length_cons]
    rw [Nat.mul_add]
    omega
theorem depthAll_map {α : Type} [Dat α] (k : Nat) : ∀ {xs : List α}, (∀ x ∈ xs, (dat x).depth ≤ k) → PyData.depthAll (xs.map dat) ≤ k
  | [], _ => Nat.zero_le _
  | x :: xs, h => Nat.max_le.mpr ⟨h x List.mem_cons_self, depthAll_map k fun y hy => h y (List.mem_cons_of_mem _ hy)⟩
/-- what is needed of a datum: its numbers are small, its nodes, its depth -/
structure Rp' (d : PyData) (n k : Nat) : Prop where
  s : smallD d = true
  n : nodes d ≤ n
  d : d.depth ≤ k
theorem Rp'.int {i : Int} (h : -(2 ^ 400) < i) (h2 : i < 2 ^ 400) : Rp' (.int i) 1 0 := ⟨by simp only [smallD, decide_eq_true_eq]; omega, Nat.le_refl _, by simp [PyData.depth]⟩
structure RpAll' (ds : List PyData) (n k : Nat) : Prop where
  s : smallAll ds = true
  n : nodesAll ds ≤ n
  d : PyData.depthAll ds ≤ k
theorem RpAll'.nil : RpAll' [] 0 0 := ⟨rfl, Nat.le_refl _, Nat.le_refl _⟩
theorem RpAll'.cons {d : PyData} {ds : List PyData} {n k m j : Nat} (h : Rp' d n k) (r : RpAll' ds m j) : RpAll' (d :: ds) (n + m) (max k j) :=
  ⟨by simp only [smallAll, h.s, r.s, Bool.and_self], Nat.add_le_add h.n r.n, by
    have := h.d
    have := r.d
    show max d.depth (PyData.depthAll ds) ≤ _
    omega⟩
theorem RpAll'.list {ds : List PyData} {n k : Nat} (h : RpAll' ds n k) : Rp' (.list ds) (n + 1) (k + 1) := ⟨by simpa only [smallD] using h.s, by simpa only [nodes] using Nat.succ_le_succ h.n, by simpa only [PyData.depth] using Nat.succ_le_succ h.d⟩
theorem RpAll'.tuple {ds : List PyData} {n k : Nat} (h : RpAll' ds n k) : Rp' (.tuple ds) (n + 1) (k + 1) := ⟨by simpa only [smallD] using h.s, by simpa only [nodes] using Nat.succ_le_succ h.n, by simpa only [PyData.depth] using Nat.succ_le_succ h.d⟩
theorem RpAll'.map {α : Type} [Dat α] {xs : List α} {n k m : Nat} (h : ∀ x ∈ xs, Rp' (dat x) n k) (hl : xs.length ≤ m) : RpAll' (xs.map dat) (n * m) k :=
  ⟨smallAll_map fun x hx => (h x hx).s, Nat.le_trans (nodesAll_map n fun x hx => (h x hx).n) (Nat.mul_le_mul_left _ hl), depthAll_map k fun x hx => (h x hx).d⟩
theorem RpAll'.ints {xs : List Int} {m : Nat} (h : ∀ x ∈ xs, -(2 ^ 400) < x ∧ x < 2 ^ 400) (hl : xs.length ≤ m) : RpAll' (xs.map dat) (1 * m) 0 := RpAll'.map (fun x hx => Rp'.int (h x hx).1 (h x hx).2) hl
theorem Rp'.ok {d : PyData} {n k : Nat} (h : Rp' d n k) (hn : n ≤ 40000) (hk : k ≤ 50) : reprR d = .ok d.shown := reprR_ok h.s (Nat.le_trans h.d hk) (Nat.le_trans h.n hn)
end Lc
namespace Lw
open PySem L2 Lc
def top (i : Nat) : Stmt := PySem.Challenge.pw_lowcolumns_k70_tops_by_sorted_columns.main.body.getD i (.Pass ⟨0, 0, 0, 0⟩)
abbrev s_is_integer : Stmt := top 8
abbrev s_is_start : Stmt := top 9
abbrev s_is_cards : Stmt := top 10
abbrev s_check_start : Stmt := top 11
abbrev s_check_cards : Stmt := top 12
abbrev s_lowest_in : Stmt := top 13
abbrev s_laid : Stmt := top 14
abbrev s_tops_in : Stmt := top 15
abbrev s_end_in : Stmt := top 16
abbrev s_tops_of : Stmt := top 17
abbrev s_end_of : Stmt := top 18
abbrev s__law_cell_at : Stmt := top 20
abbrev s__law_pool : Stmt := top 21
abbrev s__law_draw : Stmt := top 22
abbrev s__law_begun : Stmt := top 23
abbrev s__law_cards : Stmt := top 24
abbrev s__law_mixed : Stmt := top 25
abbrev s__law_sorted : Stmt := top 26
abbrev s__law_right : Stmt := top 27
abbrev s_law : Stmt := top 28
structure Ad where
  a_is_integer : Addr
  d_is_integer : FuncData
  a_is_start : Addr
  d_is_start : FuncData
  a_is_cards : Addr
  d_is_cards : FuncData
  a_check_start : Addr
  d_check_start : FuncData
  a_check_cards : Addr
  d_check_cards : FuncData
  a_lowest_in : Addr
  d_lowest_in : FuncData
  a_laid : Addr
  d_laid : FuncData
  a_tops_in : Addr
  d_tops_in : FuncData
  a_end_in : Addr
  d_end_in : FuncData
  a_tops_of : Addr
  d_tops_of : FuncData
  a_end_of : Addr
  d_end_of : FuncData
  a__law_cell_at : Addr
  d__law_cell_at : FuncData
  a__law_pool : Addr
  d__law_pool : FuncData
  a__law_draw : Addr
  d__law_draw : FuncData
  a__law_begun : Addr
  d__law_begun : FuncData
  a__law_cards : Addr
  d__law_cards : FuncData
  a__law_mixed : Addr
  d__law_mixed : FuncData
  a__law_sorted : Addr
  d__law_sorted : FuncData
  a__law_right : Addr
  d__law_right : FuncData
  a_law : Addr
  d_law : FuncData
  t_MOST_CARDS : Tok
  t_MOST_COLUMNS : Tok
  t_MOST_HEIGHT : Tok
def ecOf (_ad : Ad) : Nat → Value := fun _ => .none
structure Txt (K : PySem.W.Frag) (mg : Str → Option Value) (ad : Ad) : Prop where
  F_is_integer : FunG K "is_integer" "is_integer" s_is_integer ad.a_is_integer ad.d_is_integer
  g_is_integer : mg "is_integer" = some (.ref ad.a_is_integer)
  b_is_integer : Binds K ad.d_is_integer ["value", "least", "most"] []
  F_is_start : FunG K "is_start" "is_start" s_is_start ad.a_is_start ad.d_is_start
  g_is_start : mg "is_start" = some (.ref ad.a_is_start)
  b_is_start : Binds K ad.d_is_start ["value"] []
  F_is_cards : FunG K "is_cards" "is_cards" s_is_cards ad.a_is_cards ad.d_is_cards
  g_is_cards : mg "is_cards" = some (.ref ad.a_is_cards)
  b_is_cards : Binds K ad.d_is_cards ["value"] []
  F_check_start : FunG K "check_start" "check_start" s_check_start ad.a_check_start ad.d_check_start
  g_check_start : mg "check_start" = some (.ref ad.a_check_start)
  b_check_start : Binds K ad.d_check_start ["start"] []
  F_check_cards : FunG K "check_cards" "check_cards" s_check_cards ad.a_check_cards ad.d_check_cards
  g_check_cards : mg "check_cards" = some (.ref ad.a_check_cards)
  b_check_cards : Binds K ad.d_check_cards ["heights"] []
  F_lowest_in : FunG K "lowest_in" "lowest_in" s_lowest_in ad.a_lowest_in ad.d_lowest_in
  g_lowest_in : mg "lowest_in" = some (.ref ad.a_lowest_in)
  b_lowest_in : Binds K ad.d_lowest_in ["columns", "right"] []
  F_laid : FunG K "laid" "laid" s_laid ad.a_laid ad.d_laid
  g_laid : mg "laid" = some (.ref ad.a_laid)
  b_laid : Binds K ad.d_laid ["start", "heights", "right", "gap"] []
  F_tops_in : FunG K "tops_in" "tops_in" s_tops_in ad.a_tops_in ad.d_tops_in
  g_tops_in : mg "tops_in" = some (.ref ad.a_tops_in)
  b_tops_in : Binds K ad.d_tops_in ["start", "heights"] []
  F_end_in : FunG K "end_in" "end_in" s_end_in ad.a_end_in ad.d_end_in
  g_end_in : mg "end_in" = some (.ref ad.a_end_in)
  b_end_in : Binds K ad.d_end_in ["start", "heights"] []
  F_tops_of : FunG K "tops_of" "tops_of" s_tops_of ad.a_tops_of ad.d_tops_of
  g_tops_of : mg "tops_of" = some (.ref ad.a_tops_of)
  b_tops_of : Binds K ad.d_tops_of ["start", "heights"] []
  F_end_of : FunG K "end_of" "end_of" s_end_of ad.a_end_of ad.d_end_of
  g_end_of : mg "end_of" = some (.ref ad.a_end_of)
  b_end_of : Binds K ad.d_end_of ["start", "heights"] []
  F__law_cell_at : FunG K "_law_cell_at" "_law_cell_at" s__law_cell_at ad.a__law_cell_at ad.d__law_cell_at
  g__law_cell_at : mg "_law_cell_at" = some (.ref ad.a__law_cell_at)
  b__law_cell_at : Binds K ad.d__law_cell_at ["script", "k"] []
  F__law_pool : FunG K "_law_pool" "_law_pool" s__law_pool ad.a__law_pool ad.d__law_pool
  g__law_pool : mg "_law_pool" = some (.ref ad.a__law_pool)
  b__law_pool : Binds K ad.d__law_pool ["cell", "place"] []
  F__law_draw : FunG K "_law_draw" "_law_draw" s__law_draw ad.a__law_draw ad.d__law_draw
  g__law_draw : mg "_law_draw" = some (.ref ad.a__law_draw)
  b__law_draw : Binds K ad.d__law_draw ["pool", "many"] []
  F__law_begun : FunG K "_law_begun" "_law_begun" s__law_begun ad.a__law_begun ad.d__law_begun
  g__law_begun : mg "_law_begun" = some (.ref ad.a__law_begun)
  b__law_begun : Binds K ad.d__law_begun ["pool", "script"] []
  F__law_cards : FunG K "_law_cards" "_law_cards" s__law_cards ad.a__law_cards ad.d__law_cards
  g__law_cards : mg "_law_cards" = some (.ref ad.a__law_cards)
  b__law_cards : Binds K ad.d__law_cards ["pool", "script"] []
  F__law_mixed : FunG K "_law_mixed" "_law_mixed" s__law_mixed ad.a__law_mixed ad.d__law_mixed
  g__law_mixed : mg "_law_mixed" = some (.ref ad.a__law_mixed)
  b__law_mixed : Binds K ad.d__law_mixed ["pool", "things"] []
  F__law_sorted : FunG K "_law_sorted" "_law_sorted" s__law_sorted ad.a__law_sorted ad.d__law_sorted
  g__law_sorted : mg "_law_sorted" = some (.ref ad.a__law_sorted)
  b__law_sorted : Binds K ad.d__law_sorted ["begun", "cards"] []
  F__law_right : FunG K "_law_right" "_law_right" s__law_right ad.a__law_right ad.d__law_right
  g__law_right : mg "_law_right" = some (.ref ad.a__law_right)
  b__law_right : Binds K ad.d__law_right ["begun", "other", "cards"] []
  F_law : FunG K "law" "law" s_law ad.a_law ad.d_law
  g_law : mg "law" = some (.ref ad.a_law)
  b_law : Binds K ad.d_law ["script"] []
  k_tops_of_s1 : KB K ad.d_tops_of ["start", "heights"] 0 ["heights", "start"] fun l => Pm .none [1, 0] (l ++ [])
  c_MOST_CARDS : mg "MOST_CARDS" = some (.int 200 ad.t_MOST_CARDS)
  c_MOST_COLUMNS : mg "MOST_COLUMNS" = some (.int 30 ad.t_MOST_COLUMNS)
  c_MOST_HEIGHT : mg "MOST_HEIGHT" = some (.int 1000000000000000000000000000000 ad.t_MOST_HEIGHT)
  z_all : mg "all" = none
  z_bool : mg "bool" = none
  z_enumerate : mg "enumerate" = none
  z_int : mg "int" = none
  z_isinstance : mg "isinstance" = none
  z_len : mg "len" = none
  z_list : mg "list" = none
  z_max : mg "max" = none
  z_min : mg "min" = none
  z_range : mg "range" = none
  z_repr : mg "repr" = none
  z_sorted : mg "sorted" = none
  z_zip : mg "zip" = none
section
variable {P : Program} {w : World} {K : PySem.W.Frag} {mg : Str → Option Value} {base : Heap} {ad : Ad}
abbrev N_is_integer : List Str := ["value", "least", "most"]
theorem sc_is_integer : FnScope N_is_integer ["value", "least", "most"] (defScope s_is_integer) := ⟨rfl, rfl, rfl, by decide +kernel, rfl, by decide +kernel, by decide +kernel⟩
def m_is_integer (v : PyData) (a b : Int) : Res Bool := .ok (isIntD v a b)
abbrev ps_is_integer (K : PySem.W.Frag) (x : PyData × Int × Int) : List PP := [ppX x.1, ppV (.int x.2.1), ppV (.int x.2.2)]
abbrev c_is_integer (b : Bool) : V → Asr := vA (.bool b)
set_option maxHeartbeats 1600000 in
theorem ok_is_integer (T : Txt K mg ad) : FnG P w K mg base (L2.CX P w) 1 ad.a_is_integer ad.d_is_integer ["value", "least", "most"] (Sp0 (ecOf ad) (ps_is_integer K) (fun x => m_is_integer x.1 x.2.1 x.2.2) c_is_integer) := by
  refine T.F_is_integer.okX sc_is_integer (fun vs H Q E h => ?_) (fun cdv A outer s H vs Q E hr h => ?_)
  · obtain ⟨x, C, hT, hC, hw⟩ := h
    exact len_of hT hC
  · obtain ⟨⟨d, a, b⟩, C, hT, hC, hw⟩ := h
    have hl : vs.length = 3 := len_of hT hC
    obtain ⟨v0, v1, v2, rfl⟩ := len3 hl
    have h0 : Bw (Ecf K E (ecOf ad) C) v0 (ppX d) := fun F H o s c => (hC F H o s c).1
    have nd : ∀ kvs, d ≠ .dict kvs := hT.fact fun F o s c => nd_of (hC F H o s c).1
    refine ⟨_, (pss_cons (ps_ret (pe_and (pe_callB call_isi (by rfl) T.z_isinstance (by decide +kernel) (pa_cons (pv 0) (pa_cons (pe_bltn (v := .ty "int") rfl T.z_int (by decide +kernel) rfl) pa_nil))) (pe_and (pe_not (pe_callB call_isi (by rfl) T.z_isinstance (by decide +kernel) (pa_cons (pv 0) (pa_cons (pe_bltn (v := .ty "bool") rfl T.z_bool (by decide +kernel) rfl) pa_nil)))) (pe_one (pe_chain op_le op_le (pv 1) (pv 0) (pv 2)))))) pss_nil), ?_⟩
    refine fin0 (K := K) (Γ0 := [cIs v0, cV (.int a), cV (.int b)]) (Γr := fun b : Bool => [cAny, cAny, cAny]) (c := c_is_integer) hT (fun F o s c => ⟨fun _ => rfl, fun _ => (hC F H o s c).2.1, fun _ => (hC F H o s c).2.2.1, trivial⟩) hw ?_
    exact es_retP (b := isIntD d a b) (ev_is_integer rfl rfl rfl h0 nd) rfl (ret_le (.any (.any (.any .nil))))
abbrev N_is_start : List Str := ["value", "height"]
theorem sc_is_start : FnScope N_is_start ["value"] (defScope s_is_start) := ⟨rfl, rfl, rfl, by decide +kernel, rfl, by decide +kernel, by decide +kernel⟩
def m_is_start (v : PyData) : Res Bool := .ok (isStartD v)
def m_is_startL (ds : List PyData) : Res Bool :=
  (if ((!true) || (!(decide (1 ≤ ((ds).length : Int)) && decide (((ds).length : Int) ≤ 30)))) then (Res.ok false) else (((((Res.ok ()).bind fun a_6 => compR ds () [] fun s_8 x_7 => (m_is_integer x_7 0 1000000000000000000000000000000).bind fun r_9 => Res.ok (some r_9, s_8)).bind fun a_10 => (Res.ok ()).bind fun r_11 => Res.ok (a_10, r_11)).bind fun p_12 => Res.ok (p_12.1.1.all id)).bind fun r_13 => Res.ok r_13))
theorem m_is_startL_eq (ds : List PyData) : m_is_startL ds = .ok (isStartD (.list ds)) := by
  unfold m_is_startL isStartD
  by_cases h : 1 ≤ ds.length ∧ ds.length ≤ 30
  · rw [if_neg (by simp; omega)]
    simp only [Res.bind_ok]
    rw [compR_map (g := fun d => isIntD d 0 1000000000000000000000000000000) ds [] (fun _ _ => rfl) (by show 0 + ds.length ≤ 16000000; omega)]
    simp only [Res.bind_ok, List.nil_append, List.all_map]
    simp [h, Function.comp_def]
  · rw [if_pos (by simp; omega)]
    simp
    omega
abbrev ps_is_start (K : PySem.W.Frag) (x : PyData) : List PP := [ppX x]
abbrev c_is_start (b : Bool) : V → Asr := vA (.bool b)
set_option maxHeartbeats 1600000 in
theorem ok_is_start (T : Txt K mg ad) : FnG P w K mg base (L2.CX P w) 2 ad.a_is_start ad.d_is_start ["value"] (Sp0 (ecOf ad) (ps_is_start K) (fun x => m_is_start x) c_is_start) := by
  have G_is_integer : FnG P w K mg base (L2.CX P w) 1 ad.a_is_integer ad.d_is_integer ["value", "least", "most"] (Sp0 (ecOf ad) (ps_is_integer K) (fun x => m_is_integer x.1 x.2.1 x.2.2) c_is_integer) := ok_is_integer T
  refine T.F_is_start.okX sc_is_start (fun vs H Q E h => ?_) (fun cdv A outer s H vs Q E hr h => ?_)
  · obtain ⟨x, C, hT, hC, hw⟩ := h
    exact len_of hT hC
  · obtain ⟨d, C, hT, hC, hw⟩ := h
    have hl : vs.length = 1 := len_of hT hC
    obtain ⟨v0, rfl⟩ := len1 hl
    have h0 : Bw (Ecf K E (ecOf ad) C) v0 (ppX d) := fun F H o s c => (hC F H o s c).1
    have nd : ∀ kvs, d ≠ .dict kvs := hT.fact fun F o s c => nd_of (hC F H o s c).1
    have tk : Takes (cxOf (L2.CX P w) P w K mg base N_is_start "is_start" (defScope s_is_start) ad.a_is_start cdv A outer s H E) (fun cls d _ H => E cls d H) := takes_of rfl rfl rfl rfl
    refine ⟨_, (pss_cons (ps_if (PW.pt (pw_or (pt_not (pt_val (pe_callB call_isi (by rfl) T.z_isinstance (by decide +kernel) (pa_cons (pv 0) (pa_cons (pe_bltn (v := .ty "list") rfl T.z_list (by decide +kernel) rfl) pa_nil))))) (pw_or1 (pt_not (pt_chain op_le op_le pe_int (pe_callB (lenK K rfl) (by rfl) T.z_len PySem.boot_len (pa_cons (pv 0) pa_nil)) (pe_glob (v := .int 30) rfl T.c_MOST_COLUMNS ⟨_, rfl⟩)))))) (pss_cons (ps_ret pe_bl) pss_nil) pss_nil) (pss_cons (ps_ret (pe_callB (allK K rfl rfl) (by rfl) T.z_all (by decide +kernel) (pa_cons (pe_lc (own := [("height", 1)]) rfl sc_is_start.nd (pi_list (pv 0)) (blkOk_by (own := [("height", 1)]) (N := N_is_start) (sc := defScope s_is_start) (by decide +kernel)) (fun _ _ _ _ _ => (pg_name (i := 1) sc_is_start.nd rfl (Or.inl rfl) (.inr rfl))) (fun _ _ _ _ _ => pts_nil) (fun _ _ _ _ _ => (pe_callG0 G_is_integer (hr.mono (by decide)) (by rfl) T.g_is_integer T.F_is_integer.kp T.b_is_integer .nil passL (pa_cons (pv 1) (pa_cons pe_int (pa_cons (pe_glob (v := .int 1000000000000000000000000000000) rfl T.c_MOST_HEIGHT ⟨_, rfl⟩) pa_nil)))))) pa_nil))) pss_nil)), ?_⟩
    by_cases hd : ∃ ds, d = .list ds
    · obtain ⟨ds, rfl⟩ := hd
      have h1 := bwL_of h0
      refine fin0 (K := K) (Γ0 := [cIs v0, cAny]) (Γr := fun b : Bool => [cAny, cAny]) (c := c_is_start) hT (fun F o s c => ⟨fun _ => rfl, fun _ => trivial, trivial⟩) (m := m_is_startL ds) (by rw [m_is_startL_eq]; exact hw) ?_
      exact (es_ifT (etp_or (etp_not (et_val (b := fun _ => true) (evp_cb (eap_cons (ev_slot (i := 0) rfl no_Is) (eap_cons ev_ty eap_nil)) (rn_isiL (b := true) (pa_bw rfl h1) (kit_ty (show kitB "list" "list" = some true by decide +kernel)))))) (etp_not (et_val (b := fun _ => (decide (1 ≤ ((ds).length : Int)) && decide (((ds).length : Int) ≤ 30))) (evp_chain (p := (fun i j => decide (i ≤ j))) (p' := (fun i j => decide (i ≤ j))) ev_int (evp_cb (eap_cons (ev_slot (i := 0) rfl no_Is) eap_nil) (rn_len (xs := ds) (pa_S (pa_bw rfl h1)))) ev_int (ch_B0 (g := (fun i j => decide (i ≤ j)))) (ch_B0 (g := (fun i j => decide (i ≤ j)))))))) (by exact (es_retP (b := false) ev_bl rfl (ret_le (.any (.same .nil))))) (by exact (es_ret (g := fun r_13 : Bool => r_13) (ev_cb (ea_cons (Γ1 := fun (a_10 : (List Bool × Unit)) => [cIs v0, cAny]) (el_comp (xs := fun a_6 : Unit => ds) (Γs := fun s_8 : Unit => [cIs v0, cAny]) (Γt := fun (s_8 : Unit) (x_7 : PyData) => [cIs v0, cV x_7]) (s0 := fun a_6 => ()) (ei_list (ds := fun _ => (ds.map dat)) (ev_slot (i := 0) rfl no_Is) fun _ => (src_b rfl (bwS h1))) (fun _ _ => trivial) (fun a_6 => (.same (.same .nil))) (fun s_8 => (hv_cons rfl hv_nil)) (fun s_8 x_7 => (eg_name (lt_len rfl))) (by decide) (fun s_8 x_7 => elj_yes (b := fun r_9 : Bool => r_9) (s := fun r_9 => s_8) (evp_call0 (x_7, 0, 1000000000000000000000000000000) (eap_cons (ev_var rfl) (eap_cons ev_int (eap_cons ev_int eap_nil))) (pars_cons pa_xv (pars_cons pa_v (pars_cons pa_v pars_nil))) xok_calm calm_calm) (fun _ => fz_v) (fun r_9 => (.same (.any (.nil)))))) fun (a_10 : (List Bool × Unit)) => ea_nil) (fun p_12 => (rn_to (p_12.1.1.all id) (Γ' := fun r : Bool => [cIs v0, cAny]) (c := fun r : Bool => rV (PyData.bool r)) (rn_all (ns := p_12.1.1) (pa_S pa_lo))))) (fun _ => rfl) (fun r_13 => (ret_le (.any (.same .nil)))))))
    · have nl : ∀ ds, d ≠ .list ds := fun ds e => hd ⟨ds, e⟩
      have e : m_is_start d = .ok false := by
        cases d with
        | list ds => exact (nl ds rfl).elim
        | _ => rfl
      change (m_is_start d).wp _ _ at hw
      rw [e] at hw
      refine fin0 (K := K) (Γ0 := [cIs v0, cAny]) (Γr := fun b : Bool => [cAny, cAny]) (c := c_is_start) hT (fun F o s c => ⟨fun _ => rfl, fun _ => trivial, trivial⟩) hw ?_
      exact es_ifTT (etp_orT (et_nolist rfl h0 nl nd)) (es_retP (b := false) ev_bl rfl (ret_le (.any (.same .nil))))
abbrev N_is_cards : List Str := ["value", "height"]
theorem sc_is_cards : FnScope N_is_cards ["value"] (defScope s_is_cards) := ⟨rfl, rfl, rfl, by decide +kernel, rfl, by decide +kernel, by decide +kernel⟩
def m_is_cards (v : PyData) : Res Bool := .ok (isCardsD v)
def m_is_cardsL (ds : List PyData) : Res Bool :=
  (if ((!true) || (decide (200 < ((ds).length : Int)))) then (Res.ok false) else (((((Res.ok ()).bind fun a_19 => compR ds () [] fun s_21 x_20 => (m_is_integer x_20 1 1000000000000000000000000000000).bind fun r_22 => Res.ok (some r_22, s_21)).bind fun a_23 => (Res.ok ()).bind fun r_24 => Res.ok (a_23, r_24)).bind fun p_25 => Res.ok (p_25.1.1.all id)).bind fun r_26 => Res.ok r_26))
theorem m_is_cardsL_eq (ds : List PyData) : m_is_cardsL ds = .ok (isCardsD (.list ds)) := by
  unfold m_is_cardsL isCardsD
  by_cases h : ds.length ≤ 200
  · rw [if_neg (by simp; omega)]
    simp only [Res.bind_ok]
    rw [compR_map (g := fun d => isIntD d 1 1000000000000000000000000000000) ds [] (fun _ _ => rfl) (by show 0 + ds.length ≤ 16000000; omega)]
    simp only [Res.bind_ok, List.nil_append, List.all_map]
    simp [h, Function.comp_def]
  · rw [if_pos (by simp; omega)]
    simp
    omega
abbrev ps_is_cards (K : PySem.W.Frag) (x : PyData) : List PP := [ppX x]
abbrev c_is_cards (b : Bool) : V → Asr := vA (.bool b)
set_option maxHeartbeats 1600000 in
theorem ok_is_cards (T : Txt K mg ad) : FnG P w K mg base (L2.CX P w) 2 ad.a_is_cards ad.d_is_cards ["value"] (Sp0 (ecOf ad) (ps_is_cards K) (fun x => m_is_cards x) c_is_cards) := by
  have G_is_integer : FnG P w K mg base (L2.CX P w) 1 ad.a_is_integer ad.d_is_integer ["value", "least", "most"] (Sp0 (ecOf ad) (ps_is_integer K) (fun x => m_is_integer x.1 x.2.1 x.2.2) c_is_integer) := ok_is_integer T
  refine T.F_is_cards.okX sc_is_cards (fun vs H Q E h => ?_) (fun cdv A outer s H vs Q E hr h => ?_)
  · obtain ⟨x, C, hT, hC, hw⟩ := h
    exact len_of hT hC
  · obtain ⟨d, C, hT, hC, hw⟩ := h
    have hl : vs.length = 1 := len_of hT hC
    obtain ⟨v0, rfl⟩ := len1 hl
    have h0 : Bw (Ecf K E (ecOf ad) C) v0 (ppX d) := fun F H o s c => (hC F H o s c).1
    have nd : ∀ kvs, d ≠ .dict kvs := hT.fact fun F o s c => nd_of (hC F H o s c).1
    have tk : Takes (cxOf (L2.CX P w) P w K mg base N_is_cards "is_cards" (defScope s_is_cards) ad.a_is_cards cdv A outer s H E) (fun cls d _ H => E cls d H) := takes_of rfl rfl rfl rfl
    refine ⟨_, (pss_cons (ps_if (PW.pt (pw_or (pt_not (pt_val (pe_callB call_isi (by rfl) T.z_isinstance (by decide +kernel) (pa_cons (pv 0) (pa_cons (pe_bltn (v := .ty "list") rfl T.z_list (by decide +kernel) rfl) pa_nil))))) (pw_or1 (pt_cmpR op_gt (pe_callB (lenK K rfl) (by rfl) T.z_len PySem.boot_len (pa_cons (pv 0) pa_nil)) (pe_glob (v := .int 200) rfl T.c_MOST_CARDS ⟨_, rfl⟩) (nomark _))))) (pss_cons (ps_ret pe_bl) pss_nil) pss_nil) (pss_cons (ps_ret (pe_callB (allK K rfl rfl) (by rfl) T.z_all (by decide +kernel) (pa_cons (pe_lc (own := [("height", 1)]) rfl sc_is_cards.nd (pi_list (pv 0)) (blkOk_by (own := [("height", 1)]) (N := N_is_cards) (sc := defScope s_is_cards) (by decide +kernel)) (fun _ _ _ _ _ => (pg_name (i := 1) sc_is_cards.nd rfl (Or.inl rfl) (.inr rfl))) (fun _ _ _ _ _ => pts_nil) (fun _ _ _ _ _ => (pe_callG0 G_is_integer (hr.mono (by decide)) (by rfl) T.g_is_integer T.F_is_integer.kp T.b_is_integer .nil passL (pa_cons (pv 1) (pa_cons pe_int (pa_cons (pe_glob (v := .int 1000000000000000000000000000000) rfl T.c_MOST_HEIGHT ⟨_, rfl⟩) pa_nil)))))) pa_nil))) pss_nil)), ?_⟩
    by_cases hd : ∃ ds, d = .list ds
    · obtain ⟨ds, rfl⟩ := hd
      have h1 := bwL_of h0
      refine fin0 (K := K) (Γ0 := [cIs v0, cAny]) (Γr := fun b : Bool => [cAny, cAny]) (c := c_is_cards) hT (fun F o s c => ⟨fun _ => rfl, fun _ => trivial, trivial⟩) (m := m_is_cardsL ds) (by rw [m_is_cardsL_eq]; exact hw) ?_
      exact (es_ifT (etp_or (etp_not (et_val (b := fun _ => true) (evp_cb (eap_cons (ev_slot (i := 0) rfl no_Is) (eap_cons ev_ty eap_nil)) (rn_isiL (b := true) (pa_bw rfl h1) (kit_ty (show kitB "list" "list" = some true by decide +kernel)))))) (et_val (b := fun _ => (decide (200 < ((ds).length : Int)))) (evp_op (evp_cb (eap_cons (ev_slot (i := 0) rfl no_Is) eap_nil) (rn_len (xs := ds) (pa_S (pa_bw rfl h1)))) ev_int r2_B0))) (by exact (es_retP (b := false) ev_bl rfl (ret_le (.any (.same .nil))))) (by exact (es_ret (g := fun r_26 : Bool => r_26) (ev_cb (ea_cons (Γ1 := fun (a_23 : (List Bool × Unit)) => [cIs v0, cAny]) (el_comp (xs := fun a_19 : Unit => ds) (Γs := fun s_21 : Unit => [cIs v0, cAny]) (Γt := fun (s_21 : Unit) (x_20 : PyData) => [cIs v0, cV x_20]) (s0 := fun a_19 => ()) (ei_list (ds := fun _ => (ds.map dat)) (ev_slot (i := 0) rfl no_Is) fun _ => (src_b rfl (bwS h1))) (fun _ _ => trivial) (fun a_19 => (.same (.same .nil))) (fun s_21 => (hv_cons rfl hv_nil)) (fun s_21 x_20 => (eg_name (lt_len rfl))) (by decide) (fun s_21 x_20 => elj_yes (b := fun r_22 : Bool => r_22) (s := fun r_22 => s_21) (evp_call0 (x_20, 1, 1000000000000000000000000000000) (eap_cons (ev_var rfl) (eap_cons ev_int (eap_cons ev_int eap_nil))) (pars_cons pa_xv (pars_cons pa_v (pars_cons pa_v pars_nil))) xok_calm calm_calm) (fun _ => fz_v) (fun r_22 => (.same (.any (.nil)))))) fun (a_23 : (List Bool × Unit)) => ea_nil) (fun p_25 => (rn_to (p_25.1.1.all id) (Γ' := fun r : Bool => [cIs v0, cAny]) (c := fun r : Bool => rV (PyData.bool r)) (rn_all (ns := p_25.1.1) (pa_S pa_lo))))) (fun _ => rfl) (fun r_26 => (ret_le (.any (.same .nil)))))))
    · have nl : ∀ ds, d ≠ .list ds := fun ds e => hd ⟨ds, e⟩
      have e : m_is_cards d = .ok false := by
        cases d with
        | list ds => exact (nl ds rfl).elim
        | _ => rfl
      change (m_is_cards d).wp _ _ at hw
      rw [e] at hw
      refine fin0 (K := K) (Γ0 := [cIs v0, cAny]) (Γr := fun b : Bool => [cAny, cAny]) (c := c_is_cards) hT (fun F o s c => ⟨fun _ => rfl, fun _ => trivial, trivial⟩) hw ?_
      exact es_ifTT (etp_orT (et_nolist rfl h0 nl nd)) (es_retP (b := false) ev_bl rfl (ret_le (.any (.same .nil))))
abbrev N_check_start : List Str := ["start"]
theorem sc_check_start : FnScope N_check_start ["start"] (defScope s_check_start) := ⟨rfl, rfl, rfl, by decide +kernel, rfl, by decide +kernel, by decide +kernel⟩
def m_check_start (start_p : PyData) : Res Unit :=
  ((m_is_start start_p).bind fun c_27 => if (!c_27) then Res.bad else (Res.ok ()))
abbrev ps_check_start (K : PySem.W.Frag) (x : PyData) : List PP := [ppX x]
abbrev c_check_start (b : Unit) : V → Asr := vA PyData.none
set_option maxHeartbeats 1600000 in
theorem ok_check_start (T : Txt K mg ad) : FnG P w K mg base (L2.CX P w) 3 ad.a_check_start ad.d_check_start ["start"] (Sp0 (ecOf ad) (ps_check_start K) (fun x => m_check_start x) c_check_start) := by
  have G_is_start : FnG P w K mg base (L2.CX P w) 2 ad.a_is_start ad.d_is_start ["value"] (Sp0 (ecOf ad) (ps_is_start K) (fun x => m_is_start x) c_is_start) := ok_is_start T
  refine T.F_check_start.okX sc_check_start (fun vs H Q E h => sp0_go h fun x C hT hC hw => ?_) (fun cdv A outer s H vs Q E hr h => sp0_go h fun x C hT hC hw => ?_)
  · exact len_of hT hC
  · revert hT hC hw
    revert x
    intro start_p hT hC hw
    have hl : vs.length = 1 := len_of hT hC
    obtain ⟨v0, rfl⟩ := len1 hl
    have h0 : Bw (Ecf K E (ecOf ad) C) v0 (ppX start_p) := fun F H o s c => (hC F H o s c).1
    have hU : (A.deeper (PyProof.Rows.envOfC "check_start" (defScope s_check_start) s.heap.objs.size ad.a_check_start cdv)).units + 64 < cLine := Nat.lt_of_le_of_lt (by omega) hr.un
    have tk : Takes (cxOf (L2.CX P w) P w K mg base N_check_start "check_start" (defScope s_check_start) ad.a_check_start cdv A outer s H E) (fun cls d _ H => E cls d H) := takes_of rfl rfl rfl rfl
    refine ⟨_, (pss_cons (ps_if (pt_not (pt_val (pe_callG G_is_start (hr.mono (by decide)) (by rfl) T.g_is_start T.F_is_start.kp T.b_is_start (fun σ => passAt tk σ) (pa_cons (pv 0) pa_nil)))) (pss_cons ps_never pss_nil) pss_nil) pss_nil), ?_⟩
    have hw : WP (m_check_start start_p) (fun b => ∀ v H', Top (sep C (c_check_start b v)) H' → Q v H') (fun k => ∀ H', Top C H' → E (ecOf ad k) none H') := hw
    refine fin0NW (K := K) (Γ0 := [cIs v0]) (Γr := fun b : Unit => [cAny]) hT (fun F o s c => ⟨fun _ => rfl, trivial⟩) hw ?_
    exact (es_ifTM (b := fun c_27 : Bool => (!c_27)) (et_not (b := fun r : Bool => r) (et_val (b := fun r : Bool => r) (evp_callS start_p (eap_cons (ev_slot (i := 0) rfl no_Is) eap_nil) (pars_cons (pa_bw rfl h0) pars_nil) xok_emp))) (fun c_27 => by exact es_never) (fun c_27 => by exact (es_end (b := ()) rfl (.any (.nil)))))
abbrev N_check_cards : List Str := ["heights"]
theorem sc_check_cards : FnScope N_check_cards ["heights"] (defScope s_check_cards) := ⟨rfl, rfl, rfl, by decide +kernel, rfl, by decide +kernel, by decide +kernel⟩
def m_check_cards (heights_p : PyData) : Res Unit :=
  ((m_is_cards heights_p).bind fun c_28 => if (!c_28) then Res.bad else (Res.ok ()))
abbrev ps_check_cards (K : PySem.W.Frag) (x : PyData) : List PP := [ppX x]
abbrev c_check_cards (b : Unit) : V → Asr := vA PyData.none
set_option maxHeartbeats 1600000 in
theorem ok_check_cards (T : Txt K mg ad) : FnG P w K mg base (L2.CX P w) 3 ad.a_check_cards ad.d_check_cards ["heights"] (Sp0 (ecOf ad) (ps_check_cards K) (fun x => m_check_cards x) c_check_cards) := by
  have G_is_cards : FnG P w K mg base (L2.CX P w) 2 ad.a_is_cards ad.d_is_cards ["value"] (Sp0 (ecOf ad) (ps_is_cards K) (fun x => m_is_cards x) c_is_cards) := ok_is_cards T
  refine T.F_check_cards.okX sc_check_cards (fun vs H Q E h => sp0_go h fun x C hT hC hw => ?_) (fun cdv A outer s H vs Q E hr h => sp0_go h fun x C hT hC hw => ?_)
  · exact len_of hT hC
  · revert hT hC hw
    revert x
    intro heights_p hT hC hw
    have hl : vs.length = 1 := len_of hT hC
    obtain ⟨v0, rfl⟩ := len1 hl
    have h0 : Bw (Ecf K E (ecOf ad) C) v0 (ppX heights_p) := fun F H o s c => (hC F H o s c).1
    have hU : (A.deeper (PyProof.Rows.envOfC "check_cards" (defScope s_check_cards) s.heap.objs.size ad.a_check_cards cdv)).units + 64 < cLine := Nat.lt_of_le_of_lt (by omega) hr.un
    have tk : Takes (cxOf (L2.CX P w) P w K mg base N_check_cards "check_cards" (defScope s_check_cards) ad.a_check_cards cdv A outer s H E) (fun cls d _ H => E cls d H) := takes_of rfl rfl rfl rfl
    refine ⟨_, (pss_cons (ps_if (pt_not (pt_val (pe_callG G_is_cards (hr.mono (by decide)) (by rfl) T.g_is_cards T.F_is_cards.kp T.b_is_cards (fun σ => passAt tk σ) (pa_cons (pv 0) pa_nil)))) (pss_cons ps_never pss_nil) pss_nil) pss_nil), ?_⟩
    have hw : WP (m_check_cards heights_p) (fun b => ∀ v H', Top (sep C (c_check_cards b v)) H' → Q v H') (fun k => ∀ H', Top C H' → E (ecOf ad k) none H') := hw
    refine fin0NW (K := K) (Γ0 := [cIs v0]) (Γr := fun b : Unit => [cAny]) hT (fun F o s c => ⟨fun _ => rfl, trivial⟩) hw ?_
    exact (es_ifTM (b := fun c_28 : Bool => (!c_28)) (et_not (b := fun r : Bool => r) (et_val (b := fun r : Bool => r) (evp_callS heights_p (eap_cons (ev_slot (i := 0) rfl no_Is) eap_nil) (pars_cons (pa_bw rfl h0) pars_nil) xok_emp))) (fun c_28 => by exact es_never) (fun c_28 => by exact (es_end (b := ()) rfl (.any (.nil)))))
abbrev N_lowest_in : List Str := ["columns", "right", "lowest", "places", "place", "height"]
theorem sc_lowest_in : FnScope N_lowest_in ["columns", "right"] (defScope s_lowest_in) := ⟨rfl, rfl, rfl, by decide +kernel, rfl, by decide +kernel, by decide +kernel⟩
def m_lowest_in (columns_p : (List Int)) (right_p : Bool) : Res Int :=
  ((minR columns_p).bind fun r_29 => (((Res.ok ()).bind fun a_30 => compR (enumL columns_p) () [] fun s_32 x_31 => if (decide (x_31.2 = r_29)) then Res.ok (some x_31.1, s_32) else Res.ok (none, s_32)).bind fun r_33 => ((if right_p then (getI r_33.1 (-1)) else (getI r_33.1 0)).bind fun r_34 => Res.ok r_34)))
abbrev ps_lowest_in (K : PySem.W.Frag) (x : (List Int) × Bool) : List PP := [ppL (x.1.map dat), ppV (PyData.bool x.2)]
abbrev c_lowest_in (b : Int) : V → Asr := vA (PyData.int b)
set_option maxHeartbeats 1600000 in
theorem ok_lowest_in (T : Txt K mg ad) : FnG P w K mg base (L2.CX P w) 1 ad.a_lowest_in ad.d_lowest_in ["columns", "right"] (Sp0 (ecOf ad) (ps_lowest_in K) (fun x => m_lowest_in x.1 x.2) c_lowest_in) := by
  refine T.F_lowest_in.okX sc_lowest_in (fun vs H Q E h => sp0_go h fun x C hT hC hw => ?_) (fun cdv A outer s H vs Q E hr h => sp0_go h fun x C hT hC hw => ?_)
  · exact len_of hT hC
  · obtain ⟨columns_p, right_p⟩ := x
    have hl : vs.length = 2 := len_of hT hC
    obtain ⟨v0, v1, rfl⟩ := len2 hl
    have h0 : Bw (Ecf K E (ecOf ad) C) v0 (ppL (columns_p.map dat)) := fun F H o s c => (hC F H o s c).1
    have hU : (A.deeper (PyProof.Rows.envOfC "lowest_in" (defScope s_lowest_in) s.heap.objs.size ad.a_lowest_in cdv)).units + 64 < cLine := Nat.lt_of_le_of_lt (by omega) hr.un
    have tk : Takes (cxOf (L2.CX P w) P w K mg base N_lowest_in "lowest_in" (defScope s_lowest_in) ad.a_lowest_in cdv A outer s H E) (fun cls d _ H => E cls d H) := takes_of rfl rfl rfl rfl
    refine ⟨_, (pss_cons (ps_set (i := 2) sc_lowest_in.nd rfl (Or.inr rfl) (pe_callB (minK K rfl rfl) (by rfl) T.z_min (by decide +kernel) (pa_cons (pv 0) pa_nil))) (pss_cons (ps_setLc (i := 3) (own := [("place", 4), ("height", 5)]) rfl sc_lowest_in.nd rfl rfl (sw_true rfl rfl rfl (by decide +kernel)) (pi_enum (by rfl) T.z_enumerate (pa_cons (pv 0) pa_nil)) (blkOk_by (own := [("place", 4), ("height", 5)]) (N := N_lowest_in) (sc := defScope s_lowest_in) (by decide +kernel)) (fun _ _ _ _ _ => (pg_tupK K 2 rfl rfl (pgs_cons (pg_name (i := 4) sc_lowest_in.nd rfl (Or.inl rfl) (.inr rfl)) (pgs_cons (pg_name (i := 5) sc_lowest_in.nd rfl (Or.inl rfl) (.inr rfl)) pgs_nil)) rfl rfl)) (fun _ _ _ _ _ => pts_one (pt_cmpR op_eq (pv 5) (pv 2) (nomark _))) (fun _ _ _ _ _ => (pv 4))) (pss_cons (ps_ret (pe_ifExp (pt_val (pv 1)) (pe_ix (ixK K rfl) (pv 3) (pe_un un_neg pe_int) (fun _ _ => rfl)) (pe_ix (ixK K rfl) (pv 3) pe_int (fun _ _ => rfl)))) pss_nil))), ?_⟩
    have hw : WP (m_lowest_in columns_p right_p) (fun b => ∀ v H', Top (sep C (c_lowest_in b v)) H' → Q v H') (fun k => ∀ H', Top C H' → E (ecOf ad k) none H') := hw
    refine fin0W (K := K) (Γ0 := [cIs v0, cV (PyData.bool right_p), cAny, cAny, cAny, cAny]) (Γr := fun b : Int => [cAny, cAny, cAny, cAny, cAny, cAny]) (c := c_lowest_in) hT (fun F o s c => ⟨fun _ => rfl, fun _ => (hC F H o s c).2.1, fun _ => trivial, fun _ => trivial, fun _ => trivial, fun _ => trivial, trivial⟩) hw ?_
    exact (es_seq (es_asg (evp_cb (eap_cons (ev_slot (i := 0) rfl no_Is) eap_nil) (rn_min (ns := columns_p) (pa_S (pa_bw rfl h0)))) (fun _ => sto_v) (fun _ => lt_len rfl)) fun (r_29 : Int) => by exact EvS.is (Δ := [cIs v0, cV (PyData.bool right_p), cV (PyData.int r_29), cAny, cAny, cAny]) rfl (es_seq (es_asg (el_comp (xs := fun a_30 : Unit => (enumL columns_p)) (Γs := fun s_32 : Unit => [cIs v0, cV (PyData.bool right_p), cV (PyData.int r_29), cAny, cAny, cAny]) (Γt := fun (s_32 : Unit) (x_31 : (Int × Int)) => [cIs v0, cV (PyData.bool right_p), cV (PyData.int r_29), cAny, cV (PyData.int x_31.1), cV (PyData.int x_31.2)]) (s0 := fun a_30 => ()) (ei_enum (xs := columns_p) (eap_cons (ev_slot (i := 0) rfl no_Is) eap_nil) (src_b rfl (bwS h0))) (fun _ _ => trivial) (fun a_30 => (.same (.same (.same (.same (.same (.same .nil))))))) (fun s_32 => (hv_cons rfl (hv_cons rfl hv_nil))) (fun s_32 x_31 => (eg_tup (egs_cons (eg_name (lt_len rfl)) (egs_cons (eg_name (lt_len rfl)) egs_nil)) rfl)) (by decide) (fun s_32 x_31 => elj_ifP (b := x_31.1) (s := s_32) (et_val (b := fun _ => (decide (x_31.2 = r_29))) (evp_op (ev_var rfl) (ev_var rfl) r2_eqI)) (ev_var rfl) fz_v (.same (.same (.same (.same (.any (.any (.nil))))))))) (fun _ => sto_f) (fun _ => lt_len rfl)) fun (r_33 : (List Int × Unit)) => by exact EvS.is (Δ := [cIs v0, cV (PyData.bool right_p), cV (PyData.int r_29), cV (PyData.list (r_33.1.map dat)), cAny, cAny]) rfl (es_ret (g := fun r_34 : Int => r_34) (evp_if (et_val (b := fun _ => right_p) (ev_var rfl)) (evp_op (ev_var rfl) (evp_un ev_int r1_neg) (r2_ix (pa_S pa_lv))) (evp_op (ev_var rfl) ev_int (r2_ix (pa_S pa_lv)))) (fun _ => rfl) (fun r_34 => (ret_le (.any (.any (.any (.any (.same (.same .nil)))))))))))
abbrev N_laid : List Str := ["start", "heights", "right", "gap", "columns", "found", "height", "place"]
theorem sc_laid : FnScope N_laid ["start", "heights", "right", "gap"] (defScope s_laid) := ⟨rfl, rfl, rfl, by decide +kernel, rfl, by decide +kernel, by decide +kernel⟩
def m_laid (start_p : (List Int)) (heights_p : (List Int)) (right_p : Bool) (gap_p : Int) : Res (List (Int × Int)) :=
  (((Res.ok ()).bind fun a_35 => foldR heights_p (start_p, ([] : (List (Int × Int)))) fun s_37 x_36 => ((m_lowest_in s_37.1 right_p).bind fun r_38 => ((((Res.ok (r_38 : Int)).bind fun a_39 => ((getI s_37.1 r_38).bind fun a_40 => (Res.ok ()).bind fun r_41 => Res.ok (a_40, r_41)).bind fun r_42 => Res.ok (a_39, r_42)).bind fun q_43 => Res.need (s_37.2.length < lim) (Res.ok q_43)).bind fun r_44 => (((getI s_37.1 r_38).bind fun z_45 => setR s_37.1 r_38 (z_45 + (x_36 + gap_p))).bind fun r_46 => (Res.ok (r_46, (s_37.2 ++ [(r_44.1, r_44.2.1)]))))))).bind fun j_47 => (Res.ok j_47.2))
abbrev ps_laid (K : PySem.W.Frag) (x : (List Int) × (List Int) × Bool × Int) : List PP := [ppL (x.1.map dat), ppL (x.2.1.map dat), ppV (PyData.bool x.2.2.1), ppV (PyData.int x.2.2.2)]
abbrev c_laid (b : (List (Int × Int))) : V → Asr := oV (b.map dat)
set_option maxHeartbeats 1600000 in
theorem ok_laid (T : Txt K mg ad) : FnG P w K mg base (L2.CX P w) 2 ad.a_laid ad.d_laid ["start", "heights", "right", "gap"] (Sp0 (ecOf ad) (ps_laid K) (fun x => m_laid x.1 x.2.1 x.2.2.1 x.2.2.2) c_laid) := by
  have G_lowest_in : FnG P w K mg base (L2.CX P w) 1 ad.a_lowest_in ad.d_lowest_in ["columns", "right"] (Sp0 (ecOf ad) (ps_lowest_in K) (fun x => m_lowest_in x.1 x.2) c_lowest_in) := ok_lowest_in T
  refine T.F_laid.okX sc_laid (fun vs H Q E h => sp0_go h fun x C hT hC hw => ?_) (fun cdv A outer s H vs Q E hr h => sp0_go h fun x C hT hC hw => ?_)
  · exact len_of hT hC
  · obtain ⟨start_p, heights_p, right_p, gap_p⟩ := x
    have hl : vs.length = 4 := len_of hT hC
    obtain ⟨v0, v1, v2, v3, rfl⟩ := len4 hl
    have h0 : Bw (Ecf K E (ecOf ad) C) v0 (ppL (start_p.map dat)) := fun F H o s c => (hC F H o s c).1
    have h1 : Bw (Ecf K E (ecOf ad) C) v1 (ppL (heights_p.map dat)) := fun F H o s c => (hC F H o s c).2.1
    have hU : (A.deeper (PyProof.Rows.envOfC "laid" (defScope s_laid) s.heap.objs.size ad.a_laid cdv)).units + 64 < cLine := Nat.lt_of_le_of_lt (by omega) hr.un
    have tk : Takes (cxOf (L2.CX P w) P w K mg base N_laid "laid" (defScope s_laid) ad.a_laid cdv A outer s H E) (fun cls d _ H => E cls d H) := takes_of rfl rfl rfl rfl
    refine ⟨_, (pss_cons (ps_set (i := 4) sc_laid.nd rfl (Or.inl rfl) (pe_callTy (listK K rfl) (by rfl) T.z_list (by decide +kernel) (pa_cons (pv 0) pa_nil))) (pss_cons (ps_set (i := 5) sc_laid.nd rfl (Or.inl rfl) (pe_lst pa_nil)) (pss_cons (ps_for (passes_of rfl) rfl (pi_list (pv 1)) (pg_name (i := 6) sc_laid.nd rfl (Or.inl rfl)) (pss_cons (ps_set (i := 7) sc_laid.nd rfl (Or.inl rfl) (pe_callG G_lowest_in (hr.mono (by decide)) (by rfl) T.g_lowest_in T.F_lowest_in.kp T.b_lowest_in (fun σ => passAt tk σ) (pa_cons (pv 4) (pa_cons (pv 2) pa_nil)))) (pss_cons (ps_expr (pe_bm PySem.F.plainAttrs_list PySem.F.slot_list_append PySem.F.type_list_append mt_append (pv 5) (pa_cons (pe_tup (pa_cons (pv 7) (pa_cons (pe_ix (ixK K rfl) (pv 4) (pv 7) (fun _ _ => rfl)) pa_nil))) pa_nil))) (pss_cons (ps_augS (pv 4) (pv 7) pget_list (pe_op op_add (pv 6) (pv 3)) ip_add set_list) pss_nil)))) (pss_cons (ps_ret (pv 5)) pss_nil)))), ?_⟩
    have hw : WP (m_laid start_p heights_p right_p gap_p) (fun b => ∀ v H', Top (sep C (c_laid b v)) H' → Q v H') (fun k => ∀ H', Top C H' → E (ecOf ad k) none H') := hw
    refine fin0W (K := K) (Γ0 := [cIs v0, cIs v1, cV (PyData.bool right_p), cV (PyData.int gap_p), cAny, cAny, cAny, cAny]) (Γr := fun b : (List (Int × Int)) => [cAny, cAny, cAny, cAny, cAny, cAny, cAny, cAny]) (c := c_laid) hT (fun F o s c => ⟨fun _ => rfl, fun _ => rfl, fun _ => (hC F H o s c).2.2.1, fun _ => (hC F H o s c).2.2.2.1, fun _ => trivial, fun _ => trivial, fun _ => trivial, fun _ => trivial, trivial⟩) hw ?_
    exact (es_seqP (es_asgP (evp_cb (eap_cons (ev_slot (i := 0) rfl no_Is) eap_nil) (rn_list (ds := (start_p.map dat)) (pa_S (pa_bw rfl h0)))) sto_o (lt_len rfl)) (by exact EvS.is (Δ := [cIs v0, cIs v1, cV (PyData.bool right_p), cV (PyData.int gap_p), cO (start_p.map dat), cAny, cAny, cAny]) rfl (es_seqP (es_asgP (evp_lst (ds := []) eap_nil .nil) sto_o (lt_len rfl)) (by exact EvS.is (Δ := [cIs v0, cIs v1, cV (PyData.bool right_p), cV (PyData.int gap_p), cO (start_p.map dat), cO (([] : (List (Int × Int))).map dat), cAny, cAny]) rfl (es_seq (es_for0 (xs := fun a_35 : Unit => heights_p) (Γs := fun s_37 : ((List Int) × (List (Int × Int))) => [cIs v0, cIs v1, cV (PyData.bool right_p), cV (PyData.int gap_p), cO (s_37.1.map dat), cO (s_37.2.map dat), cAny, cAny]) (Γt := fun (s_37 : ((List Int) × (List (Int × Int)))) (x_36 : Int) => [cIs v0, cIs v1, cV (PyData.bool right_p), cV (PyData.int gap_p), cO (s_37.1.map dat), cO (s_37.2.map dat), cV (PyData.int x_36), cAny]) (s0 := fun a_35 => (start_p, ([] : (List (Int × Int))))) (ei_list (ds := fun _ => (heights_p.map dat)) (ev_slot (i := 1) rfl no_Is) fun _ => (src_b rfl (bwS h1))) (fun _ _ => trivial) (fun a_35 => (.same (.same (.same (.same (.same (.same (.same (.same .nil))))))))) (fun s_37 x_36 => (eg_name (lt_len rfl))) (fun s_37 x_36 => by exact (es_seq (es_asg (evp_callS (s_37.1, right_p) (eap_cons (ev_slot (i := 4) rfl no_O) (eap_cons (ev_var rfl) eap_nil)) (pars_cons (pa_own own_O rfl) (pars_cons pa_v pars_nil)) xok_emp) (fun _ => sto_v) (fun _ => lt_len rfl)) fun (r_38 : Int) => by exact EvS.is (Δ := [cIs v0, cIs v1, cV (PyData.bool right_p), cV (PyData.int gap_p), cO (s_37.1.map dat), cO (s_37.2.map dat), cV (PyData.int x_36), cV (PyData.int r_38)]) rfl (es_seq (es_appendTM (xs := fun q_43 : (Int × Int × Unit) => s_37.2) (a := fun q_43 => (q_43.1, q_43.2.1)) own_O (ev_tup (ds := fun p : (Int × Int × Unit) => [(PyData.int p.1), (PyData.int p.2.1)]) (ea_cons (Γ1 := fun (a_39 : Int) => [cIs v0, cIs v1, cV (PyData.bool right_p), cV (PyData.int gap_p), cO (s_37.1.map dat), cO (s_37.2.map dat), cV (PyData.int x_36), cV (PyData.int r_38)]) (ev_pure (a := r_38) (cc := fun r : Int => rV (PyData.int r)) (ev_var rfl)) fun (a_39 : Int) => (ea_cons (Γ1 := fun (a_40 : Int) => [cIs v0, cIs v1, cV (PyData.bool right_p), cV (PyData.int gap_p), cO (s_37.1.map dat), cO (s_37.2.map dat), cV (PyData.int x_36), cV (PyData.int r_38)]) (evp_op (ev_slot (i := 4) rfl no_O) (ev_var rfl) (r2_ix (pa_S (pa_own own_O rfl)))) fun (a_40 : Int) => ea_nil)) fun p => (.cons fz_v (.cons fz_v .nil))) (fun _ => fz_v) rfl (fun _ => rfl)) fun (r_44 : (Int × Int × Unit)) => by exact EvS.is (Δ := [cIs v0, cIs v1, cV (PyData.bool right_p), cV (PyData.int gap_p), cO (s_37.1.map dat), cO ((s_37.2 ++ [(r_44.1, r_44.2.1)]).map dat), cV (PyData.int x_36), cV (PyData.int r_38)]) rfl (es_seq (es_augitem (f := (fun i j => i + j)) (xs := s_37.1) own_O (evp_op (ev_var rfl) (ev_var rfl) r2_I0) (ev_var rfl) rfl) fun (r_46 : (List Int)) => by exact EvS.is (Δ := [cIs v0, cIs v1, cV (PyData.bool right_p), cV (PyData.int gap_p), cO (r_46.map dat), cO ((s_37.2 ++ [(r_44.1, r_44.2.1)]).map dat), cV (PyData.int x_36), cV (PyData.int r_38)]) rfl (es_endL (b := (r_46, (s_37.2 ++ [(r_44.1, r_44.2.1)]))) rfl (.same (.same (.same (.same (.same (.same (.any (.any (.nil))))))))))))))) fun (j_47 : ((List Int) × (List (Int × Int)))) => by exact EvS.is (Δ := [cIs v0, cIs v1, cV (PyData.bool right_p), cV (PyData.int gap_p), cO (j_47.1.map dat), cO (j_47.2.map dat), cAny, cAny]) rfl (es_retP (b := j_47.2) (ev_slot (i := 5) rfl no_O) rfl (ret_own own_O rfl (.any (.any (.any (.any (.any (.same (.same (.same .nil)))))))))))))))
abbrev N_tops_in : List Str := ["start", "heights", "place", "top"]
theorem sc_tops_in : FnScope N_tops_in ["start", "heights"] (defScope s_tops_in) := ⟨rfl, rfl, rfl, by decide +kernel, rfl, by decide +kernel, by decide +kernel⟩
def m_tops_in (start_p : (List Int)) (heights_p : (List Int)) : Res (List Int) :=
  (((m_laid start_p heights_p false 0).bind fun a_48 => compR a_48 () [] fun s_50 x_49 => Res.ok (some x_49.2, s_50)).bind fun r_51 => Res.ok r_51.1)
abbrev ps_tops_in (K : PySem.W.Frag) (x : (List Int) × (List Int)) : List PP := [ppL (x.1.map dat), ppL (x.2.map dat)]
abbrev c_tops_in (b : (List Int)) : V → Asr := oV (b.map dat)
set_option maxHeartbeats 1600000 in
theorem ok_tops_in (T : Txt K mg ad) : FnG P w K mg base (L2.CX P w) 3 ad.a_tops_in ad.d_tops_in ["start", "heights"] (Sp0 (ecOf ad) (ps_tops_in K) (fun x => m_tops_in x.1 x.2) c_tops_in) := by
  have G_laid : FnG P w K mg base (L2.CX P w) 2 ad.a_laid ad.d_laid ["start", "heights", "right", "gap"] (Sp0 (ecOf ad) (ps_laid K) (fun x => m_laid x.1 x.2.1 x.2.2.1 x.2.2.2) c_laid) := ok_laid T
  refine T.F_tops_in.okX sc_tops_in (fun vs H Q E h => sp0_go h fun x C hT hC hw => ?_) (fun cdv A outer s H vs Q E hr h => sp0_go h fun x C hT hC hw => ?_)
  · exact len_of hT hC
  · obtain ⟨start_p, heights_p⟩ := x
    have hl : vs.length = 2 := len_of hT hC
    obtain ⟨v0, v1, rfl⟩ := len2 hl
    have h0 : Bw (Ecf K E (ecOf ad) C) v0 (ppL (start_p.map dat)) := fun F H o s c => (hC F H o s c).1
    have h1 : Bw (Ecf K E (ecOf ad) C) v1 (ppL (heights_p.map dat)) := fun F H o s c => (hC F H o s c).2.1
    have hU : (A.deeper (PyProof.Rows.envOfC "tops_in" (defScope s_tops_in) s.heap.objs.size ad.a_tops_in cdv)).units + 64 < cLine := Nat.lt_of_le_of_lt (by omega) hr.un
    have tk : Takes (cxOf (L2.CX P w) P w K mg base N_tops_in "tops_in" (defScope s_tops_in) ad.a_tops_in cdv A outer s H E) (fun cls d _ H => E cls d H) := takes_of rfl rfl rfl rfl
    refine ⟨_, (pss_cons (ps_ret (pe_lc (own := [("place", 2), ("top", 3)]) rfl sc_tops_in.nd (pi_list (pe_callG G_laid (hr.mono (by decide)) (by rfl) T.g_laid T.F_laid.kp T.b_laid (fun σ => passAt tk σ) (pa_cons (pv 0) (pa_cons (pv 1) (pa_cons pe_bl (pa_cons pe_int pa_nil)))))) (blkOk_by (own := [("place", 2), ("top", 3)]) (N := N_tops_in) (sc := defScope s_tops_in) (by decide +kernel)) (fun _ _ _ _ _ => (pg_tupK K 2 rfl rfl (pgs_cons (pg_name (i := 2) sc_tops_in.nd rfl (Or.inl rfl) (.inr rfl)) (pgs_cons (pg_name (i := 3) sc_tops_in.nd rfl (Or.inl rfl) (.inr rfl)) pgs_nil)) rfl rfl)) (fun _ _ _ _ _ => pts_nil) (fun _ _ _ _ _ => (pv 3)))) pss_nil), ?_⟩
    have hw : WP (m_tops_in start_p heights_p) (fun b => ∀ v H', Top (sep C (c_tops_in b v)) H' → Q v H') (fun k => ∀ H', Top C H' → E (ecOf ad k) none H') := hw
    refine fin0W (K := K) (Γ0 := [cIs v0, cIs v1, cAny, cAny]) (Γr := fun b : (List Int) => [cAny, cAny, cAny, cAny]) (c := c_tops_in) hT (fun F o s c => ⟨fun _ => rfl, fun _ => rfl, fun _ => trivial, fun _ => trivial, trivial⟩) hw ?_
    exact (es_ret (g := fun r_51 : (List Int × Unit) => r_51.1) (el_comp (xs := fun a_48 : (List (Int × Int)) => a_48) (Γs := fun s_50 : Unit => [cIs v0, cIs v1, cAny, cAny]) (Γt := fun (s_50 : Unit) (x_49 : (Int × Int)) => [cIs v0, cIs v1, cV (PyData.int x_49.1), cV (PyData.int x_49.2)]) (s0 := fun a_48 => ()) (ei_list (ds := fun r : (List (Int × Int)) => (r.map dat)) (evp_callS (start_p, heights_p, false, 0) (eap_cons (ev_slot (i := 0) rfl no_Is) (eap_cons (ev_slot (i := 1) rfl no_Is) (eap_cons ev_bl (eap_cons ev_int eap_nil)))) (pars_cons (pa_bw rfl h0) (pars_cons (pa_bw rfl h1) (pars_cons pa_v (pars_cons pa_v pars_nil)))) xok_emp) fun r => src_o) (fun _ _ => trivial) (fun a_48 => (.same (.same (.same (.same .nil))))) (fun s_50 => (hv_cons rfl (hv_cons rfl hv_nil))) (fun s_50 x_49 => (eg_tup (egs_cons (eg_name (lt_len rfl)) (egs_cons (eg_name (lt_len rfl)) egs_nil)) rfl)) (by decide) (fun s_50 x_49 => elj_yesP (b := x_49.2) (s := s_50) (ev_var rfl) fz_v (.same (.same (.any (.any (.nil))))))) (fun _ => rfl) (fun r_51 => (ret_le (.any (.any (.same (.same .nil)))))))
abbrev N_end_in : List Str := ["start", "heights", "columns", "height", "place", "top"]
theorem sc_end_in : FnScope N_end_in ["start", "heights"] (defScope s_end_in) := ⟨rfl, rfl, rfl, by decide +kernel, rfl, by decide +kernel, by decide +kernel⟩
def m_end_in (start_p : (List Int)) (heights_p : (List Int)) : Res (List Int) :=
  ((((Res.ok ()).bind fun a_52 => ((m_laid start_p heights_p false 0).bind fun a_53 => (Res.ok ()).bind fun r_54 => Res.ok (a_53, r_54)).bind fun r_55 => Res.ok (a_52, r_55)).bind fun a_57 => foldR (heights_p.zip a_57.2.1) start_p fun s_59 x_58 => ((setR s_59 x_58.2.1 (x_58.2.2 + x_58.1)).bind fun r_60 => (Res.ok r_60))).bind fun j_61 => (Res.ok j_61))
abbrev ps_end_in (K : PySem.W.Frag) (x : (List Int) × (List Int)) : List PP := [ppL (x.1.map dat), ppL (x.2.map dat)]
abbrev c_end_in (b : (List Int)) : V → Asr := oV (b.map dat)
set_option maxHeartbeats 1600000 in
theorem ok_end_in (T : Txt K mg ad) : FnG P w K mg base (L2.CX P w) 3 ad.a_end_in ad.d_end_in ["start", "heights"] (Sp0 (ecOf ad) (ps_end_in K) (fun x => m_end_in x.1 x.2) c_end_in) := by
  have G_laid : FnG P w K mg base (L2.CX P w) 2 ad.a_laid ad.d_laid ["start", "heights", "right", "gap"] (Sp0 (ecOf ad) (ps_laid K) (fun x => m_laid x.1 x.2.1 x.2.2.1 x.2.2.2) c_laid) := ok_laid T
  refine T.F_end_in.okX sc_end_in (fun vs H Q E h => sp0_go h fun x C hT hC hw => ?_) (fun cdv A outer s H vs Q E hr h => sp0_go h fun x C hT hC hw => ?_)
  · exact len_of hT hC
  · obtain ⟨start_p, heights_p⟩ := x
    have hl : vs.length = 2 := len_of hT hC
    obtain ⟨v0, v1, rfl⟩ := len2 hl
    have h0 : Bw (Ecf K E (ecOf ad) C) v0 (ppL (start_p.map dat)) := fun F H o s c => (hC F H o s c).1
    have h1 : Bw (Ecf K E (ecOf ad) C) v1 (ppL (heights_p.map dat)) := fun F H o s c => (hC F H o s c).2.1
    have hU : (A.deeper (PyProof.Rows.envOfC "end_in" (defScope s_end_in) s.heap.objs.size ad.a_end_in cdv)).units + 64 < cLine := Nat.lt_of_le_of_lt (by omega) hr.un
    have tk : Takes (cxOf (L2.CX P w) P w K mg base N_end_in "end_in" (defScope s_end_in) ad.a_end_in cdv A outer s H E) (fun cls d _ H => E cls d H) := takes_of rfl rfl rfl rfl
    refine ⟨_, (pss_cons (ps_set (i := 2) sc_end_in.nd rfl (Or.inl rfl) (pe_callTy (listK K rfl) (by rfl) T.z_list (by decide +kernel) (pa_cons (pv 0) pa_nil))) (pss_cons (ps_for (passes_of rfl) rfl (pi_zip (by rfl) T.z_zip (pa_cons (pv 1) (pa_cons (pe_callG G_laid (hr.mono (by decide)) (by rfl) T.g_laid T.F_laid.kp T.b_laid (fun σ => passAt tk σ) (pa_cons (pv 0) (pa_cons (pv 1) (pa_cons pe_bl (pa_cons pe_int pa_nil))))) pa_nil))) (pg_tupK K 2 rfl rfl (pgs_cons (pg_name (i := 3) sc_end_in.nd rfl (Or.inl rfl)) (pgs_cons (pg_tupK K 2 rfl rfl (pgs_cons (pg_name (i := 4) sc_end_in.nd rfl (Or.inl rfl)) (pgs_cons (pg_name (i := 5) sc_end_in.nd rfl (Or.inl rfl)) pgs_nil)) rfl rfl) pgs_nil)) rfl rfl) (pss_cons (ps_asg (pe_op op_add (pv 5) (pv 3)) (pg_sub (pv 2) (pv 4) set_list)) pss_nil)) (pss_cons (ps_ret (pv 2)) pss_nil))), ?_⟩
    have hw : WP (m_end_in start_p heights_p) (fun b => ∀ v H', Top (sep C (c_end_in b v)) H' → Q v H') (fun k => ∀ H', Top C H' → E (ecOf ad k) none H') := hw
    refine fin0W (K := K) (Γ0 := [cIs v0, cIs v1, cAny, cAny, cAny, cAny]) (Γr := fun b : (List Int) => [cAny, cAny, cAny, cAny, cAny, cAny]) (c := c_end_in) hT (fun F o s c => ⟨fun _ => rfl, fun _ => rfl, fun _ => trivial, fun _ => trivial, fun _ => trivial, fun _ => trivial, trivial⟩) hw ?_
    exact (es_seqP (es_asgP (evp_cb (eap_cons (ev_slot (i := 0) rfl no_Is) eap_nil) (rn_list (ds := (start_p.map dat)) (pa_S (pa_bw rfl h0)))) sto_o (lt_len rfl)) (by exact EvS.is (Δ := [cIs v0, cIs v1, cO (start_p.map dat), cAny, cAny, cAny]) rfl (es_seq (es_for0 (xs := fun a_57 : (Unit × (List (Int × Int)) × Unit) => (heights_p.zip a_57.2.1)) (Γs := fun s_59 : (List Int) => [cIs v0, cIs v1, cO (s_59.map dat), cAny, cAny, cAny]) (Γt := fun (s_59 : (List Int)) (x_58 : (Int × (Int × Int))) => [cIs v0, cIs v1, cO (s_59.map dat), cV (PyData.int x_58.1), cV (PyData.int x_58.2.1), cV (PyData.int x_58.2.2)]) (s0 := fun a_57 => start_p) (ei_zipC (c := fun p : (Unit × (List (Int × Int)) × Unit) => rS 1) (c' := fun p : (Unit × (List (Int × Int)) × Unit) => rO (p.2.1.map dat)) (xs := fun p : (Unit × (List (Int × Int)) × Unit) => heights_p) (ys := fun p : (Unit × (List (Int × Int)) × Unit) => p.2.1) (ea_cons (Γ1 := fun (a_52 : Unit) => [cIs v0, cIs v1, cO (start_p.map dat), cAny, cAny, cAny]) (ev_pure (a := ()) (cc := fun _ => rS 1) (ev_slot (i := 1) rfl no_Is)) fun (a_52 : Unit) => (ea_cons (Γ1 := fun (a_53 : (List (Int × Int))) => [cIs v0, cIs v1, cO (start_p.map dat), cAny, cAny, cAny]) (evp_callS (start_p, heights_p, false, 0) (eap_cons (ev_slot (i := 0) rfl no_Is) (eap_cons (ev_slot (i := 1) rfl no_Is) (eap_cons ev_bl (eap_cons ev_int eap_nil)))) (pars_cons (pa_bw rfl h0) (pars_cons (pa_bw rfl h1) (pars_cons pa_v (pars_cons pa_v pars_nil)))) xok_emp) fun (a_53 : (List (Int × Int))) => ea_nil)) rfl (fun p => (src_b rfl (bwS h1))) (fun p => src_o)) (fun a s => ⟨(fun _ _ => trivial) a s, (fun _ _ => trivial) a s⟩) (fun a_57 => (.same (.same (.same (.same (.same (.same .nil))))))) (fun s_59 x_58 => (eg_tup (egs_cons (eg_name (lt_len rfl)) (egs_cons (eg_tup (egs_cons (eg_name (lt_len rfl)) (egs_cons (eg_name (lt_len rfl)) egs_nil)) rfl) egs_nil)) rfl)) (fun s_59 x_58 => by exact (es_seq (es_setitemP (a := (x_58.2.2 + x_58.1)) own_O (evp_op (ev_var rfl) (ev_var rfl) r2_I0) fz_v (ev_var rfl) rfl) fun (r_60 : (List Int)) => by exact EvS.is (Δ := [cIs v0, cIs v1, cO (r_60.map dat), cV (PyData.int x_58.1), cV (PyData.int x_58.2.1), cV (PyData.int x_58.2.2)]) rfl (es_endL (b := r_60) rfl (.same (.same (.same (.any (.any (.any (.nil))))))))))) fun (j_61 : (List Int)) => by exact EvS.is (Δ := [cIs v0, cIs v1, cO (j_61.map dat), cAny, cAny, cAny]) rfl (es_retP (b := j_61) (ev_slot (i := 2) rfl no_O) rfl (ret_own own_O rfl (.any (.any (.same (.same (.same (.same .nil)))))))))))
abbrev N_tops_of : List Str := ["start", "heights"]
theorem sc_tops_of : FnScope N_tops_of ["start", "heights"] (defScope s_tops_of) := ⟨rfl, rfl, rfl, by decide +kernel, rfl, by decide +kernel, by decide +kernel⟩
def m_tops_of (start_p : (List Int)) (heights_p : (List Int)) : Res (List Int) :=
  ((m_check_start (PyData.list (start_p.map dat))).bind fun r_62 => ((m_check_cards (PyData.list (heights_p.map dat))).bind fun r_63 => ((m_tops_in start_p heights_p).bind fun r_64 => Res.ok r_64)))
abbrev ps_tops_of (K : PySem.W.Frag) (x : (List Int) × (List Int)) : List PP := [ppL (x.1.map dat), ppL (x.2.map dat)]
abbrev c_tops_of (b : (List Int)) : V → Asr := oV (b.map dat)
set_option maxHeartbeats 1600000 in
theorem ok_tops_of (T : Txt K mg ad) : FnG P w K mg base (L2.CX P w) 4 ad.a_tops_of ad.d_tops_of ["start", "heights"] (Sp0 (ecOf ad) (ps_tops_of K) (fun x => m_tops_of x.1 x.2) c_tops_of) := by
  have G_check_cards : FnG P w K mg base (L2.CX P w) 3 ad.a_check_cards ad.d_check_cards ["heights"] (Sp0 (ecOf ad) (ps_check_cards K) (fun x => m_check_cards x) c_check_cards) := ok_check_cards T
  have G_check_start : FnG P w K mg base (L2.CX P w) 3 ad.a_check_start ad.d_check_start ["start"] (Sp0 (ecOf ad) (ps_check_start K) (fun x => m_check_start x) c_check_start) := ok_check_start T
  have G_tops_in : FnG P w K mg base (L2.CX P w) 3 ad.a_tops_in ad.d_tops_in ["start", "heights"] (Sp0 (ecOf ad) (ps_tops_in K) (fun x => m_tops_in x.1 x.2) c_tops_in) := ok_tops_in T
  refine T.F_tops_of.okX sc_tops_of (fun vs H Q E h => sp0_go h fun x C hT hC hw => ?_) (fun cdv A outer s H vs Q E hr h => sp0_go h fun x C hT hC hw => ?_)
  · exact len_of hT hC
  · obtain ⟨start_p, heights_p⟩ := x
    have hl : vs.length = 2 := len_of hT hC
    obtain ⟨v0, v1, rfl⟩ := len2 hl
    have h0 : Bw (Ecf K E (ecOf ad) C) v0 (ppL (start_p.map dat)) := fun F H o s c => (hC F H o s c).1
    have h1 : Bw (Ecf K E (ecOf ad) C) v1 (ppL (heights_p.map dat)) := fun F H o s c => (hC F H o s c).2.1
    have hU : (A.deeper (PyProof.Rows.envOfC "tops_of" (defScope s_tops_of) s.heap.objs.size ad.a_tops_of cdv)).units + 64 < cLine := Nat.lt_of_le_of_lt (by omega) hr.un
    have tk : Takes (cxOf (L2.CX P w) P w K mg base N_tops_of "tops_of" (defScope s_tops_of) ad.a_tops_of cdv A outer s H E) (fun cls d _ H => E cls d H) := takes_of rfl rfl rfl rfl
    refine ⟨_, (pss_cons (ps_expr (pe_callG G_check_start (hr.mono (by decide)) (by rfl) T.g_check_start T.F_check_start.kp T.b_check_start (fun σ => passAt tk σ) (pa_cons (pv 0) pa_nil))) (pss_cons (ps_expr (pe_callG G_check_cards (hr.mono (by decide)) (by rfl) T.g_check_cards T.F_check_cards.kp T.b_check_cards (fun σ => passAt tk σ) (pa_cons (pv 1) pa_nil))) (pss_cons (ps_ret (pe_callG G_tops_in (hr.mono (by decide)) (by rfl) T.g_tops_in T.F_tops_in.kp T.b_tops_in (fun σ => passAt tk σ) (pa_cons (pv 0) (pa_cons (pv 1) pa_nil)))) pss_nil))), ?_⟩
    have hw : WP (m_tops_of start_p heights_p) (fun b => ∀ v H', Top (sep C (c_tops_of b v)) H' → Q v H') (fun k => ∀ H', Top C H' → E (ecOf ad k) none H') := hw
    refine fin0W (K := K) (Γ0 := [cIs v0, cIs v1]) (Γr := fun b : (List Int) => [cAny, cAny]) (c := c_tops_of) hT (fun F o s c => ⟨fun _ => rfl, fun _ => rfl, trivial⟩) hw ?_
    exact (es_seq (es_drop (evp_callS (PyData.list (start_p.map dat)) (eap_cons (ev_slot (i := 0) rfl no_Is) eap_nil) (pars_cons (pa_xl (pa_bw rfl h0)) pars_nil) xok_emp)) fun (r_62 : Unit) => by exact EvS.is (Δ := [cIs v0, cIs v1]) rfl (es_seq (es_drop (evp_callS (PyData.list (heights_p.map dat)) (eap_cons (ev_slot (i := 1) rfl no_Is) eap_nil) (pars_cons (pa_xl (pa_bw rfl h1)) pars_nil) xok_emp)) fun (r_63 : Unit) => by exact EvS.is (Δ := [cIs v0, cIs v1]) rfl (es_ret (g := fun r_64 : (List Int) => r_64) (evp_callS (start_p, heights_p) (eap_cons (ev_slot (i := 0) rfl no_Is) (eap_cons (ev_slot (i := 1) rfl no_Is) eap_nil)) (pars_cons (pa_bw rfl h0) (pars_cons (pa_bw rfl h1) pars_nil)) xok_emp) (fun _ => rfl) (fun r_64 => (ret_le (.any (.any (.nil))))))))
abbrev N_end_of : List Str := ["start", "heights"]
theorem sc_end_of : FnScope N_end_of ["start", "heights"] (defScope s_end_of) := ⟨rfl, rfl, rfl, by decide +kernel, rfl, by decide +kernel, by decide +kernel⟩
def m_end_of (start_p : (List Int)) (heights_p : (List Int)) : Res (List Int) :=
  ((m_check_start (PyData.list (start_p.map dat))).bind fun r_65 => ((m_check_cards (PyData.list (heights_p.map dat))).bind fun r_66 => ((m_end_in start_p heights_p).bind fun r_67 => Res.ok r_67)))
abbrev ps_end_of (K : PySem.W.Frag) (x : (List Int) × (List Int)) : List PP := [ppL (x.1.map dat), ppL (x.2.map dat)]
abbrev c_end_of (b : (List Int)) : V → Asr := oV (b.map dat)
set_option maxHeartbeats 1600000 in
theorem ok_end_of (T : Txt K mg ad) : FnG P w K mg base (L2.CX P w) 4 ad.a_end_of ad.d_end_of ["start", "heights"] (Sp0 (ecOf ad) (ps_end_of K) (fun x => m_end_of x.1 x.2) c_end_of) := by
  have G_check_cards : FnG P w K mg base (L2.CX P w) 3 ad.a_check_cards ad.d_check_cards ["heights"] (Sp0 (ecOf ad) (ps_check_cards K) (fun x => m_check_cards x) c_check_cards) := ok_check_cards T
  have G_check_start : FnG P w K mg base (L2.CX P w) 3 ad.a_check_start ad.d_check_start ["start"] (Sp0 (ecOf ad) (ps_check_start K) (fun x => m_check_start x) c_check_start) := ok_check_start T
  have G_end_in : FnG P w K mg base (L2.CX P w) 3 ad.a_end_in ad.d_end_in ["start", "heights"] (Sp0 (ecOf ad) (ps_end_in K) (fun x => m_end_in x.1 x.2) c_end_in) := ok_end_in T
  refine T.F_end_of.okX sc_end_of (fun vs H Q E h => sp0_go h fun x C hT hC hw => ?_) (fun cdv A outer s H vs Q E hr h => sp0_go h fun x C hT hC hw => ?_)
  · exact len_of hT hC
  · obtain ⟨start_p, heights_p⟩ := x
    have hl : vs.length = 2 := len_of hT hC
    obtain ⟨v0, v1, rfl⟩ := len2 hl
    have h0 : Bw (Ecf K E (ecOf ad) C) v0 (ppL (start_p.map dat)) := fun F H o s c => (hC F H o s c).1
    have h1 : Bw (Ecf K E (ecOf ad) C) v1 (ppL (heights_p.map dat)) := fun F H o s c => (hC F H o s c).2.1
    have hU : (A.deeper (PyProof.Rows.envOfC "end_of" (defScope s_end_of) s.heap.objs.size ad.a_end_of cdv)).units + 64 < cLine := Nat.lt_of_le_of_lt (by omega) hr.un
    have tk : Takes (cxOf (L2.CX P w) P w K mg base N_end_of "end_of" (defScope s_end_of) ad.a_end_of cdv A outer s H E) (fun cls d _ H => E cls d H) := takes_of rfl rfl rfl rfl
    refine ⟨_, (pss_cons (ps_expr (pe_callG G_check_start (hr.mono (by decide)) (by rfl) T.g_check_start T.F_check_start.kp T.b_check_start (fun σ => passAt tk σ) (pa_cons (pv 0) pa_nil))) (pss_cons (ps_expr (pe_callG G_check_cards (hr.mono (by decide)) (by rfl) T.g_check_cards T.F_check_cards.kp T.b_check_cards (fun σ => passAt tk σ) (pa_cons (pv 1) pa_nil))) (pss_cons (ps_ret (pe_callG G_end_in (hr.mono (by decide)) (by rfl) T.g_end_in T.F_end_in.kp T.b_end_in (fun σ => passAt tk σ) (pa_cons (pv 0) (pa_cons (pv 1) pa_nil)))) pss_nil))), ?_⟩
    have hw : WP (m_end_of start_p heights_p) (fun b => ∀ v H', Top (sep C (c_end_of b v)) H' → Q v H') (fun k => ∀ H', Top C H' → E (ecOf ad k) none H') := hw
    refine fin0W (K := K) (Γ0 := [cIs v0, cIs v1]) (Γr := fun b : (List Int) => [cAny, cAny]) (c := c_end_of) hT (fun F o s c => ⟨fun _ => rfl, fun _ => rfl, trivial⟩) hw ?_
    exact (es_seq (es_drop (evp_callS (PyData.list (start_p.map dat)) (eap_cons (ev_slot (i := 0) rfl no_Is) eap_nil) (pars_cons (pa_xl (pa_bw rfl h0)) pars_nil) xok_emp)) fun (r_65 : Unit) => by exact EvS.is (Δ := [cIs v0, cIs v1]) rfl (es_seq (es_drop (evp_callS (PyData.list (heights_p.map dat)) (eap_cons (ev_slot (i := 1) rfl no_Is) eap_nil) (pars_cons (pa_xl (pa_bw rfl h1)) pars_nil) xok_emp)) fun (r_66 : Unit) => by exact EvS.is (Δ := [cIs v0, cIs v1]) rfl (es_ret (g := fun r_67 : (List Int) => r_67) (evp_callS (start_p, heights_p) (eap_cons (ev_slot (i := 0) rfl no_Is) (eap_cons (ev_slot (i := 1) rfl no_Is) eap_nil)) (pars_cons (pa_bw rfl h0) (pars_cons (pa_bw rfl h1) pars_nil)) xok_emp) (fun _ => rfl) (fun r_67 => (ret_le (.any (.any (.nil))))))))
abbrev N__law_cell_at : List Str := ["script", "k"]
theorem sc__law_cell_at : FnScope N__law_cell_at ["script", "k"] (defScope s__law_cell_at) := ⟨rfl, rfl, rfl, by decide +kernel, rfl, by decide +kernel, by decide +kernel⟩
def m__law_cell_at (script_p : (List Int)) (k_p : Int) : Res Int :=
  (if (decide (k_p < ((script_p).length : Int))) then ((getI script_p k_p).bind fun r_69 => Res.ok r_69) else (Res.ok 0))
abbrev ps__law_cell_at (K : PySem.W.Frag) (x : (List Int) × Int) : List PP := [ppS K (x.1.map dat), ppV (PyData.int x.2)]
abbrev c__law_cell_at (b : Int) : V → Asr := vA (PyData.int b)
set_option maxHeartbeats 1600000 in
theorem ok__law_cell_at (T : Txt K mg ad) : FnG P w K mg base (L2.CX P w) 1 ad.a__law_cell_at ad.d__law_cell_at ["script", "k"] (Sp0 (ecOf ad) (ps__law_cell_at K) (fun x => m__law_cell_at x.1 x.2) c__law_cell_at) := by
  refine T.F__law_cell_at.okX sc__law_cell_at (fun vs H Q E h => sp0_go h fun x C hT hC hw => ?_) (fun cdv A outer s H vs Q E hr h => sp0_go h fun x C hT hC hw => ?_)
  · exact len_of hT hC
  · obtain ⟨script_p, k_p⟩ := x
    have hl : vs.length = 2 := len_of hT hC
    obtain ⟨v0, v1, rfl⟩ := len2 hl
    have h0 : Bw (Ecf K E (ecOf ad) C) v0 (ppS K (script_p.map dat)) := fun F H o s c => (hC F H o s c).1
    have hU : (A.deeper (PyProof.Rows.envOfC "_law_cell_at" (defScope s__law_cell_at) s.heap.objs.size ad.a__law_cell_at cdv)).units + 64 < cLine := Nat.lt_of_le_of_lt (by omega) hr.un
    have tk : Takes (cxOf (L2.CX P w) P w K mg base N__law_cell_at "_law_cell_at" (defScope s__law_cell_at) ad.a__law_cell_at cdv A outer s H E) (fun cls d _ H => E cls d H) := takes_of rfl rfl rfl rfl
    refine ⟨_, (pss_cons (ps_if (pt_cmpR op_lt (pv 1) (pe_callB (lenK K rfl) (by rfl) T.z_len PySem.boot_len (pa_cons (pv 0) pa_nil)) (nomark _)) (pss_cons (ps_ret (pe_ix (ixK K rfl) (pv 0) (pv 1) (fun _ _ => rfl))) pss_nil) pss_nil) (pss_cons (ps_ret pe_int) pss_nil)), ?_⟩
    have hw : WP (m__law_cell_at script_p k_p) (fun b => ∀ v H', Top (sep C (c__law_cell_at b v)) H' → Q v H') (fun k => ∀ H', Top C H' → E (ecOf ad k) none H') := hw
    refine fin0W (K := K) (Γ0 := [cIs v0, cV (PyData.int k_p)]) (Γr := fun b : Int => [cAny, cAny]) (c := c__law_cell_at) hT (fun F o s c => ⟨fun _ => rfl, fun _ => (hC F H o s c).2.1, trivial⟩) hw ?_
    exact (es_ifT (et_val (b := fun _ => (decide (k_p < ((script_p).length : Int)))) (evp_op (ev_var rfl) (evp_cb (eap_cons (ev_slot (i := 0) rfl no_Is) eap_nil) (rn_len (xs := script_p) (pa_bw rfl h0))) r2_B0)) (by exact (es_ret (g := fun r_69 : Int => r_69) (evp_op (ev_slot (i := 0) rfl no_Is) (ev_var rfl) (r2_ix (pa_bw rfl h0))) (fun _ => rfl) (fun r_69 => (ret_le (.any (.any (.nil))))))) (by exact (es_retP (b := 0) ev_int rfl (ret_le (.any (.any (.nil)))))))
abbrev N__law_pool : List Str := ["cell", "place"]
theorem sc__law_pool : FnScope N__law_pool ["cell", "place"] (defScope s__law_pool) := ⟨rfl, rfl, rfl, by decide +kernel, rfl, by decide +kernel, by decide +kernel⟩
def m__law_pool (cell_p : Int) (place_p : Int) : Res (List Int) :=
  (((Res.ok ((max (cell_p - 1000000000000000000) 0) : Int)).bind fun a_75 => ((((modR cell_p 2147483629).bind fun x_76 => (mulA 51001 place_p).bind fun y_77 => Res.ok (x_76 + y_77)).bind fun x_78 => (Res.ok (2147483629 : Int)).bind fun y_79 => (modR x_78 y_79)).bind fun a_81 => ((Res.ok (0 : Int)).bind fun a_82 => (Res.ok ()).bind fun r_83 => Res.ok (a_82, r_83)).bind fun r_84 => Res.ok (a_81, r_84)).bind fun r_85 => Res.ok (a_75, r_85)).bind fun r_86 => Res.ok ([r_86.1, r_86.2.1, r_86.2.2.1] : List Int))
abbrev ps__law_pool (K : PySem.W.Frag) (x : Int × Int) : List PP := [ppV (PyData.int x.1), ppV (PyData.int x.2)]
abbrev c__law_pool (b : (List Int)) : V → Asr := oV (b.map dat)
set_option maxHeartbeats 1600000 in
theorem ok__law_pool (T : Txt K mg ad) : FnG P w K mg base (L2.CX P w) 1 ad.a__law_pool ad.d__law_pool ["cell", "place"] (Sp0 (ecOf ad) (ps__law_pool K) (fun x => m__law_pool x.1 x.2) c__law_pool) := by
  refine T.F__law_pool.okX sc__law_pool (fun vs H Q E h => sp0_go h fun x C hT hC hw => ?_) (fun cdv A outer s H vs Q E hr h => sp0_go h fun x C hT hC hw => ?_)
  · exact len_of hT hC
  · obtain ⟨cell_p, place_p⟩ := x
    have hl : vs.length = 2 := len_of hT hC
    obtain ⟨v0, v1, rfl⟩ := len2 hl
    have hU : (A.deeper (PyProof.Rows.envOfC "_law_pool" (defScope s__law_pool) s.heap.objs.size ad.a__law_pool cdv)).units + 64 < cLine := Nat.lt_of_le_of_lt (by omega) hr.un
    have tk : Takes (cxOf (L2.CX P w) P w K mg base N__law_pool "_law_pool" (defScope s__law_pool) ad.a__law_pool cdv A outer s H E) (fun cls d _ H => E cls d H) := takes_of rfl rfl rfl rfl
    refine ⟨_, (pss_cons (ps_ret (pe_lst (pa_cons (pe_callB (call_max2 rfl) (by rfl) T.z_max (by decide +kernel) (pa_cons (pe_op op_sub (pv 0) (pe_op op_pow pe_int pe_int)) (pa_cons pe_int pa_nil))) (pa_cons (pe_op op_mod (pe_op op_add (pe_op op_mod (pv 0) pe_int) (pe_op op_mulA pe_int (pv 1))) pe_int) (pa_cons pe_int pa_nil))))) pss_nil), ?_⟩
    have hw : WP (m__law_pool cell_p place_p) (fun b => ∀ v H', Top (sep C (c__law_pool b v)) H' → Q v H') (fun k => ∀ H', Top C H' → E (ecOf ad k) none H') := hw
    refine fin0W (K := K) (Γ0 := [cV (PyData.int cell_p), cV (PyData.int place_p)]) (Γr := fun b : (List Int) => [cAny, cAny]) (c := c__law_pool) hT (fun F o s c => ⟨fun _ => (hC F H o s c).1, fun _ => (hC F H o s c).2.1, trivial⟩) hw ?_
    exact (es_ret (g := fun r_86 : (Int × Int × Int × Unit) => ([r_86.1, r_86.2.1, r_86.2.2.1] : List Int)) (ev_lst (ds := fun p : (Int × Int × Int × Unit) => [(PyData.int p.1), (PyData.int p.2.1), (PyData.int p.2.2.1)]) (ea_cons (Γ1 := fun (a_75 : Int) => [cV (PyData.int cell_p), cV (PyData.int place_p)]) (ev_pure (a := (max (cell_p - 1000000000000000000) 0)) (cc := fun r : Int => rV (PyData.int r)) (evp_cb (eap_cons (evp_op (ev_var rfl) (evp_op ev_int ev_int (r2_pow (k := 1000000000000000000) (by unfold CPow; decide +kernel) (by decide +kernel))) r2_I0) (eap_cons ev_int eap_nil)) rn_max2)) fun (a_75 : Int) => (ea_cons (Γ1 := fun (a_81 : Int) => [cV (PyData.int cell_p), cV (PyData.int place_p)]) (ev_op (ev_op (evp_op (ev_var rfl) ev_int r2_mod) (fun (x_76 : Int) => (evp_op ev_int (ev_var rfl) r2_mulA)) (fun (x_76 : Int) (y_77 : Int) => (r2_to (x_76 + y_77) (Γ' := fun r : Int => [cV (PyData.int cell_p), cV (PyData.int place_p)]) (c := fun r : Int => rV (PyData.int r)) r2_I0))) (fun (x_78 : Int) => (ev_pure (a := 2147483629) (cc := fun r : Int => rV (PyData.int r)) ev_int)) (fun (x_78 : Int) (y_79 : Int) => r2_mod)) fun (a_81 : Int) => (ea_cons (Γ1 := fun (a_82 : Int) => [cV (PyData.int cell_p), cV (PyData.int place_p)]) (ev_pure (a := 0) (cc := fun r : Int => rV (PyData.int r)) ev_int) fun (a_82 : Int) => ea_nil))) fun p => (.cons fz_v (.cons fz_v (.cons fz_v .nil)))) (fun _ => rfl) (fun r_86 => (ret_le (.any (.any (.nil))))))
abbrev N__law_draw : List Str := ["pool", "many", "stir", "found"]
theorem sc__law_draw : FnScope N__law_draw ["pool", "many"] (defScope s__law_draw) := ⟨rfl, rfl, rfl, by decide +kernel, rfl, by decide +kernel, by decide +kernel⟩
def m__law_draw (pool_p : (List Int)) (many_p : Int) : Res (Int × List Int) :=
  noErr ((((getI pool_p 2).bind fun x_87 => (Res.ok (1 : Int)).bind fun y_88 => Res.ok (x_87 + y_88)).bind fun g_89 => (Res.ok (2 : Int)).bind fun d_90 => (setR pool_p d_90 g_89).bind fun ys_91 => Res.ok (g_89, d_90, ys_91)).bind fun r_92 => ((((((getI r_92.2.2 1).bind fun x_99 => (((Res.ok (7 : Int)).bind fun x_100 => (getI r_92.2.2 2).bind fun y_101 => (mulA x_100 y_101)).bind fun x_103 => (getI r_92.2.2 2).bind fun y_104 => (mulA x_103 y_104)).bind fun y_106 => Res.ok (x_99 + y_106)).bind fun x_107 => (Res.ok (1 : Int)).bind fun y_108 => Res.ok (x_107 + y_108)).bind fun x_109 => (Res.ok (2 : Int)).bind fun y_110 => (powA x_109 y_110)).bind fun x_112 => (Res.ok (2147483587 : Int)).bind fun y_113 => (modR x_112 y_113)).bind fun r_115 => (((((mulA r_115 69621).bind fun x_119 => ((Res.ok (40692 : Int)).bind fun x_120 => (getI r_92.2.2 2).bind fun y_121 => (mulA x_120 y_121)).bind fun y_123 => Res.ok (x_119 + y_123)).bind fun x_124 => (Res.ok (2147483629 : Int)).bind fun y_125 => (modR x_124 y_125)).bind fun g_127 => (Res.ok (1 : Int)).bind fun d_128 => (setR r_92.2.2 d_128 g_127).bind fun ys_129 => Res.ok (g_127, d_128, ys_129)).bind fun r_130 => ((((getI r_130.2.2 1).bind fun x_131 => (Res.ok (64 : Int)).bind fun y_132 => (divR x_131 y_132)).bind fun x_134 => (Res.ok (many_p : Int)).bind fun y_135 => (modR x_134 y_135)).bind fun r_137 => ((((getI r_130.2.2 0).bind fun x_138 => (Res.ok (0 : Int)).bind fun y_139 => Res.ok (decide (y_139 < x_138))).bind fun c_140 => if c_140 then (((getI r_130.2.2 0).bind fun x_152 => (Res.ok (many_p : Int)).bind fun y_153 => (modR x_152 y_153)).bind fun r_155 => ((((getI r_130.2.2 0).bind fun x_156 => (Res.ok (many_p : Int)).bind fun y_157 => (divR x_156 y_157)).bind fun g_159 => (Res.ok (0 : Int)).bind fun d_160 => (setR r_130.2.2 d_160 g_159).bind fun ys_161 => Res.ok (g_159, d_160, ys_161)).bind fun r_162 => (Res.ok (r_162.2.2, r_155)))) else (Res.ok (r_130.2.2, r_137))).bind fun j_163 => (Res.ok (j_163.2, j_163.1)))))))
abbrev ps__law_draw (K : PySem.W.Frag) (p : Addr) (x : (List Int) × Int) : List PP := [ppAt p, ppV (PyData.int x.2)]
abbrev c__law_draw (b : (Int × List Int)) : V → Asr := vA (PyData.int b.1)
set_option maxHeartbeats 1600000 in
theorem ok__law_draw (T : Txt K mg ad) : FnG P w K mg base (L2.CX P w) 1 ad.a__law_draw ad.d__law_draw ["pool", "many"] (Sp1 (ecOf ad) (ps__law_draw K) (fun x : (List Int) × Int => (x.1.map dat)) (fun x => m__law_draw x.1 x.2) (fun b => (b.2.map dat)) c__law_draw) := by
  refine T.F__law_draw.okX sc__law_draw (fun vs H Q E h => sp1_go h fun p x C hT hC hw => ?_) (fun cdv A outer s H vs Q E hr h => sp1_go h fun p x C hT hC hw => ?_)
  · exact len_of1 hT (hC)
  · obtain ⟨pool_p, many_p⟩ := x
    have hl : vs.length = 2 := len_of1 hT hC
    obtain ⟨v0, v1, rfl⟩ := len2 hl
    obtain rfl : v0 = V.ref p := hT.fact fun F o s ⟨_, _, _, _, _, c, _⟩ => (hC F H _ s c).1
    have hU : (A.deeper (PyProof.Rows.envOfC "_law_draw" (defScope s__law_draw) s.heap.objs.size ad.a__law_draw cdv)).units + 64 < cLine := Nat.lt_of_le_of_lt (by omega) hr.un
    have tk : Takes (cxOf (L2.CX P w) P w K mg base N__law_draw "_law_draw" (defScope s__law_draw) ad.a__law_draw cdv A outer s H E) (fun cls d _ H => E cls d H) := takes_of rfl rfl rfl rfl
    refine ⟨_, (pss_cons (ps_asg (pe_op op_add (pe_ix (ixK K rfl) (pv 0) pe_int (fun _ _ => rfl)) pe_int) (pg_sub (pv 0) pe_int set_list)) (pss_cons (ps_set (i := 2) sc__law_draw.nd rfl (Or.inl rfl) (pe_op op_mod (pe_op op_powA (pe_op op_add (pe_op op_add (pe_ix (ixK K rfl) (pv 0) pe_int (fun _ _ => rfl)) (pe_op op_mulA (pe_op op_mulA pe_int (pe_ix (ixK K rfl) (pv 0) pe_int (fun _ _ => rfl))) (pe_ix (ixK K rfl) (pv 0) pe_int (fun _ _ => rfl)))) pe_int) pe_int) pe_int)) (pss_cons (ps_asg (pe_op op_mod (pe_op op_add (pe_op op_mulA (pv 2) pe_int) (pe_op op_mulA pe_int (pe_ix (ixK K rfl) (pv 0) pe_int (fun _ _ => rfl)))) pe_int) (pg_sub (pv 0) pe_int set_list)) (pss_cons (ps_set (i := 3) sc__law_draw.nd rfl (Or.inl rfl) (pe_op op_mod (pe_op op_fdivW (pe_ix (ixK K rfl) (pv 0) pe_int (fun _ _ => rfl)) pe_int) (pv 1))) (pss_cons (ps_if (pt_cmpR op_gt (pe_ix (ixK K rfl) (pv 0) pe_int (fun _ _ => rfl)) pe_int (nomark _)) (pss_cons (ps_set (i := 3) sc__law_draw.nd rfl (Or.inl rfl) (pe_op op_mod (pe_ix (ixK K rfl) (pv 0) pe_int (fun _ _ => rfl)) (pv 1))) (pss_cons (ps_asg (pe_op op_fdivW (pe_ix (ixK K rfl) (pv 0) pe_int (fun _ _ => rfl)) (pv 1)) (pg_sub (pv 0) pe_int set_list)) pss_nil)) pss_nil) (pss_cons (ps_ret (pv 3)) pss_nil)))))), ?_⟩
    refine fin1W (K := K) (Ex := E) (ec := ecOf ad) (i := 0) (Γ := [cAt p (pool_p.map dat), cV (PyData.int many_p), cAny, cAny]) (Γr := fun b : (Int × List Int) => [cAt p (b.2.map dat), cAny, cAny, cAny]) (i1 := fun b => (b.2.map dat)) (c := c__law_draw) hT (lt_len rfl) rfl (fun F o s c => ⟨fun _ => trivial, fun _ => (hC F H o s c).2.1, fun _ => trivial, fun _ => trivial, trivial⟩) (fun _ => rfl) hw (EvS.is (Δ := [cAt p (pool_p.map dat), cV (PyData.int many_p), cAny, cAny]) rfl ?_)
    exact (es_seq (es_setitem (a := fun g_89 : Int => g_89) (k := fun (g_89 : Int) (d_90 : Int) => d_90) (xs := fun (g_89 : Int) (d_90 : Int) => pool_p) (Γ2 := fun (g_89 : Int) (d_90 : Int) => [cAt p (pool_p.map dat), cV (PyData.int many_p), cAny, cAny]) own_At (ev_op (evp_op (ev_slot (i := 0) rfl no_At) ev_int (r2_ix (pa_S (pa_own own_At rfl)))) (fun (x_87 : Int) => (ev_pure (a := 1) (cc := fun r : Int => rV (PyData.int r)) ev_int)) (fun (x_87 : Int) (y_88 : Int) => (r2_to (x_87 + y_88) (Γ' := fun r : Int => [cAt p (pool_p.map dat), cV (PyData.int many_p), cAny, cAny]) (c := fun r : Int => rV (PyData.int r)) r2_I0))) (fun _ => fz_v) (fun g_89 => (ev_pure (a := 2) (cc := fun r : Int => rV (PyData.int r)) ev_int)) (fun _ => ⟨_, rfl⟩) (fun _ _ => rfl)) fun (r_92 : (Int × Int × (List Int))) => by exact EvS.is (Δ := [cAt p (r_92.2.2.map dat), cV (PyData.int many_p), cAny, cAny]) rfl (es_seq (es_asg (ev_op (ev_op (ev_op (ev_op (evp_op (ev_slot (i := 0) rfl no_At) ev_int (r2_ix (pa_S (pa_own own_At rfl)))) (fun (x_99 : Int) => (ev_op (ev_op (ev_pure (a := 7) (cc := fun r : Int => rV (PyData.int r)) ev_int) (fun (x_100 : Int) => (evp_op (ev_slot (i := 0) rfl no_At) ev_int (r2_ix (pa_S (pa_own own_At rfl))))) (fun (x_100 : Int) (y_101 : Int) => r2_mulA)) (fun (x_103 : Int) => (evp_op (ev_slot (i := 0) rfl no_At) ev_int (r2_ix (pa_S (pa_own own_At rfl))))) (fun (x_103 : Int) (y_104 : Int) => r2_mulA))) (fun (x_99 : Int) (y_106 : Int) => (r2_to (x_99 + y_106) (Γ' := fun r : Int => [cAt p (r_92.2.2.map dat), cV (PyData.int many_p), cAny, cAny]) (c := fun r : Int => rV (PyData.int r)) r2_I0))) (fun (x_107 : Int) => (ev_pure (a := 1) (cc := fun r : Int => rV (PyData.int r)) ev_int)) (fun (x_107 : Int) (y_108 : Int) => (r2_to (x_107 + y_108) (Γ' := fun r : Int => [cAt p (r_92.2.2.map dat), cV (PyData.int many_p), cAny, cAny]) (c := fun r : Int => rV (PyData.int r)) r2_I0))) (fun (x_109 : Int) => (ev_pure (a := 2) (cc := fun r : Int => rV (PyData.int r)) ev_int)) (fun (x_109 : Int) (y_110 : Int) => r2_powA)) (fun (x_112 : Int) => (ev_pure (a := 2147483587) (cc := fun r : Int => rV (PyData.int r)) ev_int)) (fun (x_112 : Int) (y_113 : Int) => r2_mod)) (fun _ => sto_v) (fun _ => lt_len rfl)) fun (r_115 : Int) => by exact EvS.is (Δ := [cAt p (r_92.2.2.map dat), cV (PyData.int many_p), cV (PyData.int r_115), cAny]) rfl (es_seq (es_setitem (a := fun g_127 : Int => g_127) (k := fun (g_127 : Int) (d_128 : Int) => d_128) (xs := fun (g_127 : Int) (d_128 : Int) => r_92.2.2) (Γ2 := fun (g_127 : Int) (d_128 : Int) => [cAt p (r_92.2.2.map dat), cV (PyData.int many_p), cV (PyData.int r_115), cAny]) own_At (ev_op (ev_op (evp_op (ev_var rfl) ev_int r2_mulA) (fun (x_119 : Int) => (ev_op (ev_pure (a := 40692) (cc := fun r : Int => rV (PyData.int r)) ev_int) (fun (x_120 : Int) => (evp_op (ev_slot (i := 0) rfl no_At) ev_int (r2_ix (pa_S (pa_own own_At rfl))))) (fun (x_120 : Int) (y_121 : Int) => r2_mulA))) (fun (x_119 : Int) (y_123 : Int) => (r2_to (x_119 + y_123) (Γ' := fun r : Int => [cAt p (r_92.2.2.map dat), cV (PyData.int many_p), cV (PyData.int r_115), cAny]) (c := fun r : Int => rV (PyData.int r)) r2_I0))) (fun (x_124 : Int) => (ev_pure (a := 2147483629) (cc := fun r : Int => rV (PyData.int r)) ev_int)) (fun (x_124 : Int) (y_125 : Int) => r2_mod)) (fun _ => fz_v) (fun g_127 => (ev_pure (a := 1) (cc := fun r : Int => rV (PyData.int r)) ev_int)) (fun _ => ⟨_, rfl⟩) (fun _ _ => rfl)) fun (r_130 : (Int × Int × (List Int))) => by exact EvS.is (Δ := [cAt p (r_130.2.2.map dat), cV (PyData.int many_p), cV (PyData.int r_115), cAny]) rfl (es_seq (es_asg (ev_op (ev_op (evp_op (ev_slot (i := 0) rfl no_At) ev_int (r2_ix (pa_S (pa_own own_At rfl)))) (fun (x_131 : Int) => (ev_pure (a := 64) (cc := fun r : Int => rV (PyData.int r)) ev_int)) (fun (x_131 : Int) (y_132 : Int) => r2_div)) (fun (x_134 : Int) => (ev_pure (a := many_p) (cc := fun r : Int => rV (PyData.int r)) (ev_var rfl))) (fun (x_134 : Int) (y_135 : Int) => r2_mod)) (fun _ => sto_v) (fun _ => lt_len rfl)) fun (r_137 : Int) => by exact EvS.is (Δ := [cAt p (r_130.2.2.map dat), cV (PyData.int many_p), cV (PyData.int r_115), cV (PyData.int r_137)]) rfl (es_seq (Γ1 := fun j_163 : ((List Int) × Int) => [cAt p (j_163.1.map dat), cV (PyData.int many_p), cV (PyData.int r_115), cV (PyData.int j_163.2)]) (es_ifM (b := fun c_140 : Bool => c_140) (et_val (b := fun r : Bool => r) (ev_op (evp_op (ev_slot (i := 0) rfl no_At) ev_int (r2_ix (pa_S (pa_own own_At rfl)))) (fun (x_138 : Int) => (ev_pure (a := 0) (cc := fun r : Int => rV (PyData.int r)) ev_int)) (fun (x_138 : Int) (y_139 : Int) => (r2_to (decide (y_139 < x_138)) (Γ' := fun r : Bool => [cAt p (r_130.2.2.map dat), cV (PyData.int many_p), cV (PyData.int r_115), cV (PyData.int r_137)]) (c := fun r : Bool => rV (PyData.bool r)) r2_B0)))) (fun c_140 => by exact (es_seq (es_asg (ev_op (evp_op (ev_slot (i := 0) rfl no_At) ev_int (r2_ix (pa_S (pa_own own_At rfl)))) (fun (x_152 : Int) => (ev_pure (a := many_p) (cc := fun r : Int => rV (PyData.int r)) (ev_var rfl))) (fun (x_152 : Int) (y_153 : Int) => r2_mod)) (fun _ => sto_v) (fun _ => lt_len rfl)) fun (r_155 : Int) => by exact EvS.is (Δ := [cAt p (r_130.2.2.map dat), cV (PyData.int many_p), cV (PyData.int r_115), cV (PyData.int r_155)]) rfl (es_seq (es_setitem (a := fun g_159 : Int => g_159) (k := fun (g_159 : Int) (d_160 : Int) => d_160) (xs := fun (g_159 : Int) (d_160 : Int) => r_130.2.2) (Γ2 := fun (g_159 : Int) (d_160 : Int) => [cAt p (r_130.2.2.map dat), cV (PyData.int many_p), cV (PyData.int r_115), cV (PyData.int r_155)]) own_At (ev_op (evp_op (ev_slot (i := 0) rfl no_At) ev_int (r2_ix (pa_S (pa_own own_At rfl)))) (fun (x_156 : Int) => (ev_pure (a := many_p) (cc := fun r : Int => rV (PyData.int r)) (ev_var rfl))) (fun (x_156 : Int) (y_157 : Int) => r2_div)) (fun _ => fz_v) (fun g_159 => (ev_pure (a := 0) (cc := fun r : Int => rV (PyData.int r)) ev_int)) (fun _ => ⟨_, rfl⟩) (fun _ _ => rfl)) fun (r_162 : (Int × Int × (List Int))) => by exact EvS.is (Δ := [cAt p (r_162.2.2.map dat), cV (PyData.int many_p), cV (PyData.int r_115), cV (PyData.int r_155)]) rfl (es_end (b := (r_162.2.2, r_155)) rfl (.same (.same (.same (.same .nil)))))))) (fun c_140 => by exact (es_end (b := (r_130.2.2, r_137)) rfl (.same (.same (.same (.same .nil))))))) fun (j_163 : ((List Int) × Int)) => by exact (es_retP (b := (j_163.2, j_163.1)) (ev_var rfl) rfl (ret_le (.same (.any (.any (.any (.nil))))))))))))
abbrev N__law_begun : List Str := ["pool", "script", "many", "wide", "k"]
theorem sc__law_begun : FnScope N__law_begun ["pool", "script"] (defScope s__law_begun) := ⟨rfl, rfl, rfl, by decide +kernel, rfl, by decide +kernel, by decide +kernel⟩
def m__law_begun (pool_p : (List Int)) (script_p : (List Int)) : Res ((List Int) × List Int) :=
  noErr (if (eqD (script_p : (List Int)) (([] : (List Int)) : (List Int))) then (((rangeR 0 3).bind fun a_165 => compR a_165 pool_p [] fun s_167 x_166 => (m__law_draw s_167 3).bind fun r_168 => Res.ok (some r_168.1, r_168.2)).bind fun r_169 => Res.ok (r_169.1, r_169.2)) else (((((Res.ok (1 : Int)).bind fun x_174 => (m__law_draw pool_p 5).bind fun y_175 => Res.ok ((x_174 + y_175.1), y_175.2)).bind fun a_176 => (((Res.ok (1 : Int)).bind fun x_177 => (m__law_draw a_176.2 30).bind fun y_178 => Res.ok ((x_177 + y_178.1), y_178.2)).bind fun a_179 => ((Res.ok (30 : Int)).bind fun a_180 => (Res.ok ()).bind fun r_181 => Res.ok (a_180, r_181)).bind fun r_182 => Res.ok (a_179, r_182)).bind fun r_183 => Res.ok (a_176, r_183)).bind fun x_184 => (m__law_draw x_184.2.1.2 3).bind fun y_185 => ((getI ([x_184.1.1, x_184.2.1.1, x_184.2.2.1] : List Int) y_185.1)).bind fun z_186 => Res.ok (z_186, y_185.2)).bind fun r_187 => (((Res.ok (([1, 3, 12, (1000000000000000000000000000000 + 1)] : List Int) : (List Int))).bind fun x_188 => (m__law_draw r_187.2 4).bind fun y_189 => ((getI x_188 y_189.1)).bind fun z_190 => Res.ok (z_190, y_189.2)).bind fun r_191 => (((rangeR 0 r_187.1).bind fun a_192 => compR a_192 r_191.2 [] fun s_194 x_193 => (m__law_draw s_194 r_191.1).bind fun r_195 => Res.ok (some r_195.1, r_195.2)).bind fun r_196 => Res.ok (r_196.1, r_196.2)))))
abbrev ps__law_begun (K : PySem.W.Frag) (p : Addr) (x : (List Int) × (List Int)) : List PP := [ppAt p, ppS K (x.2.map dat)]
abbrev c__law_begun (b : ((List Int) × List Int)) : V → Asr := oV (b.1.map dat)
set_option maxHeartbeats 1600000 in
theorem ok__law_begun (T : Txt K mg ad) : FnG P w K mg base (L2.CX P w) 2 ad.a__law_begun ad.d__law_begun ["pool", "script"] (Sp1 (ecOf ad) (ps__law_begun K) (fun x : (List Int) × (List Int) => (x.1.map dat)) (fun x => m__law_begun x.1 x.2) (fun b => (b.2.map dat)) c__law_begun) := by
  have G__law_draw : FnG P w K mg base (L2.CX P w) 1 ad.a__law_draw ad.d__law_draw ["pool", "many"] (Sp1 (ecOf ad) (ps__law_draw K) (fun x : (List Int) × Int => (x.1.map dat)) (fun x => m__law_draw x.1 x.2) (fun b => (b.2.map dat)) c__law_draw) := ok__law_draw T
  refine T.F__law_begun.okX sc__law_begun (fun vs H Q E h => sp1_go h fun p x C hT hC hw => ?_) (fun cdv A outer s H vs Q E hr h => sp1_go h fun p x C hT hC hw => ?_)
  · exact len_of1 hT (hC)
  · obtain ⟨pool_p, script_p⟩ := x
    have hl : vs.length = 2 := len_of1 hT hC
    obtain ⟨v0, v1, rfl⟩ := len2 hl
    have h1 : Bw (Ecf K E (ecOf ad) C) v1 (ppS K (script_p.map dat)) := fun F H o s c => (hC F H o s c).2.1
    obtain rfl : v0 = V.ref p := hT.fact fun F o s ⟨_, _, _, _, _, c, _⟩ => (hC F H _ s c).1
    have hU : (A.deeper (PyProof.Rows.envOfC "_law_begun" (defScope s__law_begun) s.heap.objs.size ad.a__law_begun cdv)).units + 64 < cLine := Nat.lt_of_le_of_lt (by omega) hr.un
    have tk : Takes (cxOf (L2.CX P w) P w K mg base N__law_begun "_law_begun" (defScope s__law_begun) ad.a__law_begun cdv A outer s H E) (fun cls d _ H => E cls d H) := takes_of rfl rfl rfl rfl
    refine ⟨_, (pss_cons (ps_if (pt_cmpR (eqDK K rfl hU) (pv 1) (pe_lst pa_nil) (nomark _)) (pss_cons (ps_ret (pe_lc (own := [("k", 4)]) rfl sc__law_begun.nd (pi_range1 (by rfl) T.z_range (pa_cons pe_int pa_nil)) (blkOk_by (own := [("k", 4)]) (N := N__law_begun) (sc := defScope s__law_begun) (by decide +kernel)) (fun _ _ _ _ _ => (pg_name (i := 4) sc__law_begun.nd rfl (Or.inl rfl) (.inr rfl))) (fun _ _ _ _ _ => pts_nil) (fun _ _ _ _ _ => (pe_callG0 G__law_draw (hr.mono (by decide)) (by rfl) T.g__law_draw T.F__law_draw.kp T.b__law_draw .nil passL (pa_cons (pv 0) (pa_cons pe_int pa_nil)))))) pss_nil) pss_nil) (pss_cons (ps_set (i := 2) sc__law_begun.nd rfl (Or.inl rfl) (pe_ix (ixK K rfl) (pe_lst (pa_cons (pe_op op_add pe_int (pe_callG G__law_draw (hr.mono (by decide)) (by rfl) T.g__law_draw T.F__law_draw.kp T.b__law_draw (fun σ => passAt tk σ) (pa_cons (pv 0) (pa_cons pe_int pa_nil)))) (pa_cons (pe_op op_add pe_int (pe_callG G__law_draw (hr.mono (by decide)) (by rfl) T.g__law_draw T.F__law_draw.kp T.b__law_draw (fun σ => passAt tk σ) (pa_cons (pv 0) (pa_cons pe_int pa_nil)))) (pa_cons pe_int pa_nil)))) (pe_callG G__law_draw (hr.mono (by decide)) (by rfl) T.g__law_draw T.F__law_draw.kp T.b__law_draw (fun σ => passAt tk σ) (pa_cons (pv 0) (pa_cons pe_int pa_nil))) (fun _ _ => rfl))) (pss_cons (ps_set (i := 3) sc__law_begun.nd rfl (Or.inr rfl) (pe_ix (ixK K rfl) (pe_lst (pa_cons pe_int (pa_cons pe_int (pa_cons pe_int (pa_cons (pe_op op_add (pe_op op_pow pe_int pe_int) pe_int) pa_nil))))) (pe_callG G__law_draw (hr.mono (by decide)) (by rfl) T.g__law_draw T.F__law_draw.kp T.b__law_draw (fun σ => passAt tk σ) (pa_cons (pv 0) (pa_cons pe_int pa_nil))) (fun _ _ => rfl))) (pss_cons (ps_ret (pe_lc (own := [("k", 4)]) rfl sc__law_begun.nd (pi_range1 (by rfl) T.z_range (pa_cons (pv 2) pa_nil)) (blkOk_by (own := [("k", 4)]) (N := N__law_begun) (sc := defScope s__law_begun) (by decide +kernel)) (fun _ _ _ _ _ => (pg_name (i := 4) sc__law_begun.nd rfl (Or.inl rfl) (.inr rfl))) (fun _ _ _ _ _ => pts_nil) (fun _ _ _ _ _ => (pe_callG0 G__law_draw (hr.mono (by decide)) (by rfl) T.g__law_draw T.F__law_draw.kp T.b__law_draw .nil passL (pa_cons (pv 0) (pa_cons (pv 3) pa_nil)))))) pss_nil)))), ?_⟩
    refine fin1W (K := K) (Ex := E) (ec := ecOf ad) (i := 0) (Γ := [cAt p (pool_p.map dat), cIs v1, cAny, cAny, cAny]) (Γr := fun b : ((List Int) × List Int) => [cAt p (b.2.map dat), cAny, cAny, cAny, cAny]) (i1 := fun b => (b.2.map dat)) (c := c__law_begun) hT (lt_len rfl) rfl (fun F o s c => ⟨fun _ => trivial, fun _ => rfl, fun _ => trivial, fun _ => trivial, fun _ => trivial, trivial⟩) (fun _ => rfl) hw (EvS.is (Δ := [cAt p (pool_p.map dat), cIs v1, cAny, cAny, cAny]) rfl ?_)
    exact (es_ifT (et_val (b := fun _ => (eqD (script_p : (List Int)) (([] : (List Int)) : (List Int)))) (evp_op (ev_slot (i := 1) rfl no_Is) (evp_lst (ds := []) eap_nil .nil) (r2_eq (pa_D (pa_bw rfl h1)) (pa_D (pa_S pa_lo)) (shp (α := (List Int)) (a := script_p)) (shp (α := (List Int)) (a := ([] : (List Int))))))) (by exact (es_ret (g := fun r_169 : (List Int × (List Int)) => (r_169.1, r_169.2)) (el_comp (xs := fun a_165 : (List Int) => a_165) (Γs := fun s_167 : (List Int) => [cAt p (s_167.map dat), cIs v1, cAny, cAny, cAny]) (Γt := fun (s_167 : (List Int)) (x_166 : Int) => [cAt p (s_167.map dat), cIs v1, cAny, cAny, cV (PyData.int x_166)]) (s0 := fun a_165 => pool_p) (ei_range1 (eap_cons ev_int eap_nil)) (fun _ _ => trivial) (fun a_165 => (.same (.same (.same (.same (.same .nil)))))) (fun s_167 => (hv_cons rfl hv_nil)) (fun s_167 x_166 => (eg_name (lt_len rfl))) (by decide) (fun s_167 x_166 => elj_yes (b := fun r_168 : (Int × List Int) => r_168.1) (s := fun r_168 => r_168.2) (evp_call01 (i := 0) (s_167, 3) own_At (eap_cons (ev_slot (i := 0) rfl no_At) (eap_cons ev_int eap_nil)) rfl (fun _ => (pars_cons pa_at (pars_cons pa_v pars_nil))) xok_calm calm_calm) (fun _ => fz_v) (fun r_168 => (.same (.same (.same (.same (.any (.nil))))))))) (fun _ => rfl) (fun r_169 => (ret_le (.same (.any (.same (.same (.same .nil))))))))) (by exact (es_seq (es_asg (ev_op (ev_lst (ds := fun p : ((Int × List Int) × (Int × List Int) × Int × Unit) => [(PyData.int p.1.1), (PyData.int p.2.1.1), (PyData.int p.2.2.1)]) (ea_cons (Γ1 := fun (a_176 : (Int × List Int)) => [cAt p (a_176.2.map dat), cIs v1, cAny, cAny, cAny]) (ev_op (ev_pure (a := 1) (cc := fun r : Int => rV (PyData.int r)) ev_int) (fun (x_174 : Int) => (evp_callS1 (i := 0) (pool_p, 5) own_At (eap_cons (ev_slot (i := 0) rfl no_At) (eap_cons ev_int eap_nil)) rfl (fun _ => (pars_cons pa_at (pars_cons pa_v pars_nil))) xok_emp)) (fun (x_174 : Int) (y_175 : (Int × List Int)) => (r2_to ((x_174 + y_175.1), y_175.2) (Γ' := fun r : (Int × List Int) => [cAt p (r.2.map dat), cIs v1, cAny, cAny, cAny]) (c := fun r : (Int × List Int) => rV (PyData.int r.1)) r2_I0))) fun (a_176 : (Int × List Int)) => (ea_cons (Γ1 := fun (a_179 : (Int × List Int)) => [cAt p (a_179.2.map dat), cIs v1, cAny, cAny, cAny]) (ev_op (ev_pure (a := 1) (cc := fun r : Int => rV (PyData.int r)) ev_int) (fun (x_177 : Int) => (evp_callS1 (i := 0) (a_176.2, 30) own_At (eap_cons (ev_slot (i := 0) rfl no_At) (eap_cons ev_int eap_nil)) rfl (fun _ => (pars_cons pa_at (pars_cons pa_v pars_nil))) xok_emp)) (fun (x_177 : Int) (y_178 : (Int × List Int)) => (r2_to ((x_177 + y_178.1), y_178.2) (Γ' := fun r : (Int × List Int) => [cAt p (r.2.map dat), cIs v1, cAny, cAny, cAny]) (c := fun r : (Int × List Int) => rV (PyData.int r.1)) r2_I0))) fun (a_179 : (Int × List Int)) => (ea_cons (Γ1 := fun (a_180 : Int) => [cAt p (a_179.2.map dat), cIs v1, cAny, cAny, cAny]) (ev_pure (a := 30) (cc := fun r : Int => rV (PyData.int r)) ev_int) fun (a_180 : Int) => ea_nil))) fun p => (.cons fz_v (.cons fz_v (.cons fz_v .nil)))) (fun (x_184 : ((Int × List Int) × (Int × List Int) × Int × Unit)) => (evp_callS1 (i := 0) (x_184.2.1.2, 3) own_At (eap_cons (ev_slot (i := 0) rfl no_At) (eap_cons ev_int eap_nil)) rfl (fun _ => (pars_cons pa_at (pars_cons pa_v pars_nil))) xok_emp)) (fun (x_184 : ((Int × List Int) × (Int × List Int) × Int × Unit)) (y_185 : (Int × List Int)) => (r2_map (fun z_186 => (z_186, y_185.2)) (Γ' := fun r : (Int × List Int) => [cAt p (r.2.map dat), cIs v1, cAny, cAny, cAny]) (c := fun r : (Int × List Int) => rV (PyData.int r.1)) (r2_ix (pa_S pa_lo))))) (fun _ => sto_v) (fun _ => lt_len rfl)) fun (r_187 : (Int × List Int)) => by exact EvS.is (Δ := [cAt p (r_187.2.map dat), cIs v1, cV (PyData.int r_187.1), cAny, cAny]) rfl (es_seq (es_asg (ev_op (ev_pure (a := ([1, 3, 12, (1000000000000000000000000000000 + 1)] : List Int)) (cc := fun r : (List Int) => rO (r.map dat)) (evp_lst (ds := [(PyData.int 1), (PyData.int 3), (PyData.int 12), (PyData.int (1000000000000000000000000000000 + 1))]) (eap_cons ev_int (eap_cons ev_int (eap_cons ev_int (eap_cons (evp_op (evp_op ev_int ev_int (r2_pow (k := 1000000000000000000000000000000) (by unfold CPow; decide +kernel) (by decide +kernel))) ev_int r2_I0) eap_nil)))) (.cons fz_v (.cons fz_v (.cons fz_v (.cons fz_v .nil)))))) (fun (x_188 : (List Int)) => (evp_callS1 (i := 0) (r_187.2, 4) own_At (eap_cons (ev_slot (i := 0) rfl no_At) (eap_cons ev_int eap_nil)) rfl (fun _ => (pars_cons pa_at (pars_cons pa_v pars_nil))) xok_emp)) (fun (x_188 : (List Int)) (y_189 : (Int × List Int)) => (r2_map (fun z_190 => (z_190, y_189.2)) (Γ' := fun r : (Int × List Int) => [cAt p (r.2.map dat), cIs v1, cV (PyData.int r_187.1), cAny, cAny]) (c := fun r : (Int × List Int) => rV (PyData.int r.1)) (r2_ix (pa_S pa_lo))))) (fun _ => sto_v) (fun _ => lt_len rfl)) fun (r_191 : (Int × List Int)) => by exact EvS.is (Δ := [cAt p (r_191.2.map dat), cIs v1, cV (PyData.int r_187.1), cV (PyData.int r_191.1), cAny]) rfl (es_ret (g := fun r_196 : (List Int × (List Int)) => (r_196.1, r_196.2)) (el_comp (xs := fun a_192 : (List Int) => a_192) (Γs := fun s_194 : (List Int) => [cAt p (s_194.map dat), cIs v1, cV (PyData.int r_187.1), cV (PyData.int r_191.1), cAny]) (Γt := fun (s_194 : (List Int)) (x_193 : Int) => [cAt p (s_194.map dat), cIs v1, cV (PyData.int r_187.1), cV (PyData.int r_191.1), cV (PyData.int x_193)]) (s0 := fun a_192 => r_191.2) (ei_range1 (eap_cons (ev_var rfl) eap_nil)) (fun _ _ => trivial) (fun a_192 => (.same (.same (.same (.same (.same .nil)))))) (fun s_194 => (hv_cons rfl hv_nil)) (fun s_194 x_193 => (eg_name (lt_len rfl))) (by decide) (fun s_194 x_193 => elj_yes (b := fun r_195 : (Int × List Int) => r_195.1) (s := fun r_195 => r_195.2) (evp_call01 (i := 0) (s_194, r_191.1) own_At (eap_cons (ev_slot (i := 0) rfl no_At) (eap_cons (ev_var rfl) eap_nil)) rfl (fun _ => (pars_cons pa_at (pars_cons pa_v pars_nil))) xok_calm calm_calm) (fun _ => fz_v) (fun r_195 => (.same (.same (.same (.same (.any (.nil))))))))) (fun _ => rfl) (fun r_196 => (ret_le (.same (.any (.any (.any (.same .nil))))))))))))
abbrev N__law_cards : List Str := ["pool", "script", "many", "wide", "found", "style", "k"]
theorem sc__law_cards : FnScope N__law_cards ["pool", "script"] (defScope s__law_cards) := ⟨rfl, rfl, rfl, by decide +kernel, rfl, by decide +kernel, by decide +kernel⟩
def m__law_cards (pool_p : (List Int)) (script_p : (List Int)) : Res ((List Int) × List Int) :=
  noErr (if (eqD (script_p : (List Int)) (([] : (List Int)) : (List Int))) then (((rangeR 0 5).bind fun a_198 => compR a_198 pool_p [] fun s_200 x_199 => ((Res.ok (1 : Int)).bind fun x_203 => (m__law_draw s_200 4).bind fun y_204 => Res.ok ((x_203 + y_204.1), y_204.2)).bind fun r_205 => Res.ok (some r_205.1, r_205.2)).bind fun r_206 => Res.ok (r_206.1, r_206.2)) else ((((m__law_draw pool_p 9).bind fun a_207 => ((m__law_draw a_207.2 201).bind fun a_208 => ((Res.ok (200 : Int)).bind fun a_209 => (Res.ok ()).bind fun r_210 => Res.ok (a_209, r_210)).bind fun r_211 => Res.ok (a_208, r_211)).bind fun r_212 => Res.ok (a_207, r_212)).bind fun x_213 => (m__law_draw x_213.2.1.2 3).bind fun y_214 => ((getI ([x_213.1.1, x_213.2.1.1, x_213.2.2.1] : List Int) y_214.1)).bind fun z_215 => Res.ok (z_215, y_214.2)).bind fun r_216 => (((Res.ok (([1, 2, 5, 40, 1000000000000000000000000000000] : List Int) : (List Int))).bind fun x_217 => (m__law_draw r_216.2 5).bind fun y_218 => ((getI x_217 y_218.1)).bind fun z_219 => Res.ok (z_219, y_218.2)).bind fun r_220 => ((((rangeR 0 r_216.1).bind fun a_229 => compR a_229 r_220.2 [] fun s_231 x_230 => ((Res.ok (1 : Int)).bind fun x_234 => (m__law_draw s_231 r_220.1).bind fun y_235 => Res.ok ((x_234 + y_235.1), y_235.2)).bind fun r_236 => Res.ok (some r_236.1, r_236.2)).bind fun a_237 => ((m__law_draw a_237.2 3).bind fun a_238 => (Res.ok ()).bind fun r_239 => Res.ok (a_238, r_239)).bind fun r_240 => Res.ok (a_237, r_240)).bind fun r_242 => ((if ((!eqD (r_242.1.1 : (List Int)) (([] : (List Int)) : (List Int))) && (decide (r_242.2.1.1 = 1))) then ((((Res.ok (1 : Int)).bind fun x_250 => (m__law_draw r_242.2.1.2 1000000000000000000000000000000).bind fun y_251 => Res.ok ((x_250 + y_251.1), y_251.2)).bind fun g_252 => (m__law_draw g_252.2 r_216.1).bind fun d_253 => (setR r_242.1.1 d_253.1 g_252.1).bind fun ys_254 => Res.ok (g_252, d_253, ys_254)).bind fun r_255 => (Res.ok (r_255.2.1.2, r_255.2.2))) else (Res.ok (r_242.2.1.2, r_242.1.1))).bind fun j_256 => (Res.ok (j_256.2, j_256.1)))))))
abbrev ps__law_cards (K : PySem.W.Frag) (p : Addr) (x : (List Int) × (List Int)) : List PP := [ppAt p, ppS K (x.2.map dat)]
abbrev c__law_cards (b : ((List Int) × List Int)) : V → Asr := oV (b.1.map dat)
set_option maxHeartbeats 1600000 in
theorem ok__law_cards (T : Txt K mg ad) : FnG P w K mg base (L2.CX P w) 2 ad.a__law_cards ad.d__law_cards ["pool", "script"] (Sp1 (ecOf ad) (ps__law_cards K) (fun x : (List Int) × (List Int) => (x.1.map dat)) (fun x => m__law_cards x.1 x.2) (fun b => (b.2.map dat)) c__law_cards) := by
  have G__law_draw : FnG P w K mg base (L2.CX P w) 1 ad.a__law_draw ad.d__law_draw ["pool", "many"] (Sp1 (ecOf ad) (ps__law_draw K) (fun x : (List Int) × Int => (x.1.map dat)) (fun x => m__law_draw x.1 x.2) (fun b => (b.2.map dat)) c__law_draw) := ok__law_draw T
  refine T.F__law_cards.okX sc__law_cards (fun vs H Q E h => sp1_go h fun p x C hT hC hw => ?_) (fun cdv A outer s H vs Q E hr h => sp1_go h fun p x C hT hC hw => ?_)
  · exact len_of1 hT (hC)
  · obtain ⟨pool_p, script_p⟩ := x
    have hl : vs.length = 2 := len_of1 hT hC
    obtain ⟨v0, v1, rfl⟩ := len2 hl
    have h1 : Bw (Ecf K E (ecOf ad) C) v1 (ppS K (script_p.map dat)) := fun F H o s c => (hC F H o s c).2.1
    obtain rfl : v0 = V.ref p := hT.fact fun F o s ⟨_, _, _, _, _, c, _⟩ => (hC F H _ s c).1
    have hU : (A.deeper (PyProof.Rows.envOfC "_law_cards" (defScope s__law_cards) s.heap.objs.size ad.a__law_cards cdv)).units + 64 < cLine := Nat.lt_of_le_of_lt (by omega) hr.un
    have tk : Takes (cxOf (L2.CX P w) P w K mg base N__law_cards "_law_cards" (defScope s__law_cards) ad.a__law_cards cdv A outer s H E) (fun cls d _ H => E cls d H) := takes_of rfl rfl rfl rfl
    refine ⟨_, (pss_cons (ps_if (pt_cmpR (eqDK K rfl hU) (pv 1) (pe_lst pa_nil) (nomark _)) (pss_cons (ps_ret (pe_lc (own := [("k", 6)]) rfl sc__law_cards.nd (pi_range1 (by rfl) T.z_range (pa_cons pe_int pa_nil)) (blkOk_by (own := [("k", 6)]) (N := N__law_cards) (sc := defScope s__law_cards) (by decide +kernel)) (fun _ _ _ _ _ => (pg_name (i := 6) sc__law_cards.nd rfl (Or.inl rfl) (.inr rfl))) (fun _ _ _ _ _ => pts_nil) (fun _ _ _ _ _ => (pe_op op_add pe_int (pe_callG0 G__law_draw (hr.mono (by decide)) (by rfl) T.g__law_draw T.F__law_draw.kp T.b__law_draw .nil passL (pa_cons (pv 0) (pa_cons pe_int pa_nil))))))) pss_nil) pss_nil) (pss_cons (ps_set (i := 2) sc__law_cards.nd rfl (Or.inl rfl) (pe_ix (ixK K rfl) (pe_lst (pa_cons (pe_callG G__law_draw (hr.mono (by decide)) (by rfl) T.g__law_draw T.F__law_draw.kp T.b__law_draw (fun σ => passAt tk σ) (pa_cons (pv 0) (pa_cons pe_int pa_nil))) (pa_cons (pe_callG G__law_draw (hr.mono (by decide)) (by rfl) T.g__law_draw T.F__law_draw.kp T.b__law_draw (fun σ => passAt tk σ) (pa_cons (pv 0) (pa_cons pe_int pa_nil))) (pa_cons pe_int pa_nil)))) (pe_callG G__law_draw (hr.mono (by decide)) (by rfl) T.g__law_draw T.F__law_draw.kp T.b__law_draw (fun σ => passAt tk σ) (pa_cons (pv 0) (pa_cons pe_int pa_nil))) (fun _ _ => rfl))) (pss_cons (ps_set (i := 3) sc__law_cards.nd rfl (Or.inr rfl) (pe_ix (ixK K rfl) (pe_lst (pa_cons pe_int (pa_cons pe_int (pa_cons pe_int (pa_cons pe_int (pa_cons (pe_op op_pow pe_int pe_int) pa_nil)))))) (pe_callG G__law_draw (hr.mono (by decide)) (by rfl) T.g__law_draw T.F__law_draw.kp T.b__law_draw (fun σ => passAt tk σ) (pa_cons (pv 0) (pa_cons pe_int pa_nil))) (fun _ _ => rfl))) (pss_cons (ps_par (i := 4) (j := 5) rfl sc__law_cards.nd rfl rfl (by decide) rfl rfl (pa_cons (pe_lc (own := [("k", 6)]) rfl sc__law_cards.nd (pi_range1 (by rfl) T.z_range (pa_cons (pv 2) pa_nil)) (blkOk_by (own := [("k", 6)]) (N := N__law_cards) (sc := defScope s__law_cards) (by decide +kernel)) (fun _ _ _ _ _ => (pg_name (i := 6) sc__law_cards.nd rfl (Or.inl rfl) (.inr rfl))) (fun _ _ _ _ _ => pts_nil) (fun _ _ _ _ _ => (pe_op op_add pe_int (pe_callG0 G__law_draw (hr.mono (by decide)) (by rfl) T.g__law_draw T.F__law_draw.kp T.b__law_draw .nil passL (pa_cons (pv 0) (pa_cons (pv 3) pa_nil)))))) (pa_cons (pe_callG G__law_draw (hr.mono (by decide)) (by rfl) T.g__law_draw T.F__law_draw.kp T.b__law_draw (fun σ => passAt tk σ) (pa_cons (pv 0) (pa_cons pe_int pa_nil))) pa_nil)) (by rfl)) (pss_cons (ps_if (PW.pt (pw_and (pt_cmpR (neDK K rfl hU) (pv 4) (pe_lst pa_nil) (nomark _)) (pw_and1 (pt_cmpR op_eq (pv 5) pe_int (nomark _))))) (pss_cons (ps_asg (pe_op op_add pe_int (pe_callG G__law_draw (hr.mono (by decide)) (by rfl) T.g__law_draw T.F__law_draw.kp T.b__law_draw (fun σ => passAt tk σ) (pa_cons (pv 0) (pa_cons (pe_op op_pow pe_int pe_int) pa_nil)))) (pg_sub (pv 4) (pe_callG G__law_draw (hr.mono (by decide)) (by rfl) T.g__law_draw T.F__law_draw.kp T.b__law_draw (fun σ => passAt tk σ) (pa_cons (pv 0) (pa_cons (pv 2) pa_nil))) set_list)) pss_nil) pss_nil) (pss_cons (ps_ret (pv 4)) pss_nil)))))), ?_⟩
    refine fin1W (K := K) (Ex := E) (ec := ecOf ad) (i := 0) (Γ := [cAt p (pool_p.map dat), cIs v1, cAny, cAny, cAny, cAny, cAny]) (Γr := fun b : ((List Int) × List Int) => [cAt p (b.2.map dat), cAny, cAny, cAny, cAny, cAny, cAny]) (i1 := fun b => (b.2.map dat)) (c := c__law_cards) hT (lt_len rfl) rfl (fun F o s c => ⟨fun _ => trivial, fun _ => rfl, fun _ => trivial, fun _ => trivial, fun _ => trivial, fun _ => trivial, fun _ => trivial, trivial⟩) (fun _ => rfl) hw (EvS.is (Δ := [cAt p (pool_p.map dat), cIs v1, cAny, cAny, cAny, cAny, cAny]) rfl ?_)
    exact (es_ifT (et_val (b := fun _ => (eqD (script_p : (List Int)) (([] : (List Int)) : (List Int)))) (evp_op (ev_slot (i := 1) rfl no_Is) (evp_lst (ds := []) eap_nil .nil) (r2_eq (pa_D (pa_bw rfl h1)) (pa_D (pa_S pa_lo)) (shp (α := (List Int)) (a := script_p)) (shp (α := (List Int)) (a := ([] : (List Int))))))) (by exact (es_ret (g := fun r_206 : (List Int × (List Int)) => (r_206.1, r_206.2)) (el_comp (xs := fun a_198 : (List Int) => a_198) (Γs := fun s_200 : (List Int) => [cAt p (s_200.map dat), cIs v1, cAny, cAny, cAny, cAny, cAny]) (Γt := fun (s_200 : (List Int)) (x_199 : Int) => [cAt p (s_200.map dat), cIs v1, cAny, cAny, cAny, cAny, cV (PyData.int x_199)]) (s0 := fun a_198 => pool_p) (ei_range1 (eap_cons ev_int eap_nil)) (fun _ _ => trivial) (fun a_198 => (.same (.same (.same (.same (.same (.same (.same .nil)))))))) (fun s_200 => (hv_cons rfl hv_nil)) (fun s_200 x_199 => (eg_name (lt_len rfl))) (by decide) (fun s_200 x_199 => elj_yes (b := fun r_205 : (Int × List Int) => r_205.1) (s := fun r_205 => r_205.2) (ev_op (ev_pure (a := 1) (cc := fun r : Int => rV (PyData.int r)) ev_int) (fun (x_203 : Int) => (evp_call01 (i := 0) (s_200, 4) own_At (eap_cons (ev_slot (i := 0) rfl no_At) (eap_cons ev_int eap_nil)) rfl (fun _ => (pars_cons pa_at (pars_cons pa_v pars_nil))) xok_calm calm_calm)) (fun (x_203 : Int) (y_204 : (Int × List Int)) => (r2_to ((x_203 + y_204.1), y_204.2) (Γ' := fun r : (Int × List Int) => [cAt p (r.2.map dat), cIs v1, cAny, cAny, cAny, cAny, cV (PyData.int x_199)]) (c := fun r : (Int × List Int) => rV (PyData.int r.1)) r2_I0))) (fun _ => fz_v) (fun r_205 => (.same (.same (.same (.same (.same (.same (.any (.nil))))))))))) (fun _ => rfl) (fun r_206 => (ret_le (.same (.any (.same (.same (.same (.same (.same .nil))))))))))) (by exact (es_seq (es_asg (ev_op (ev_lst (ds := fun p : ((Int × List Int) × (Int × List Int) × Int × Unit) => [(PyData.int p.1.1), (PyData.int p.2.1.1), (PyData.int p.2.2.1)]) (ea_cons (Γ1 := fun (a_207 : (Int × List Int)) => [cAt p (a_207.2.map dat), cIs v1, cAny, cAny, cAny, cAny, cAny]) (evp_callS1 (i := 0) (pool_p, 9) own_At (eap_cons (ev_slot (i := 0) rfl no_At) (eap_cons ev_int eap_nil)) rfl (fun _ => (pars_cons pa_at (pars_cons pa_v pars_nil))) xok_emp) fun (a_207 : (Int × List Int)) => (ea_cons (Γ1 := fun (a_208 : (Int × List Int)) => [cAt p (a_208.2.map dat), cIs v1, cAny, cAny, cAny, cAny, cAny]) (evp_callS1 (i := 0) (a_207.2, 201) own_At (eap_cons (ev_slot (i := 0) rfl no_At) (eap_cons ev_int eap_nil)) rfl (fun _ => (pars_cons pa_at (pars_cons pa_v pars_nil))) xok_emp) fun (a_208 : (Int × List Int)) => (ea_cons (Γ1 := fun (a_209 : Int) => [cAt p (a_208.2.map dat), cIs v1, cAny, cAny, cAny, cAny, cAny]) (ev_pure (a := 200) (cc := fun r : Int => rV (PyData.int r)) ev_int) fun (a_209 : Int) => ea_nil))) fun p => (.cons fz_v (.cons fz_v (.cons fz_v .nil)))) (fun (x_213 : ((Int × List Int) × (Int × List Int) × Int × Unit)) => (evp_callS1 (i := 0) (x_213.2.1.2, 3) own_At (eap_cons (ev_slot (i := 0) rfl no_At) (eap_cons ev_int eap_nil)) rfl (fun _ => (pars_cons pa_at (pars_cons pa_v pars_nil))) xok_emp)) (fun (x_213 : ((Int × List Int) × (Int × List Int) × Int × Unit)) (y_214 : (Int × List Int)) => (r2_map (fun z_215 => (z_215, y_214.2)) (Γ' := fun r : (Int × List Int) => [cAt p (r.2.map dat), cIs v1, cAny, cAny, cAny, cAny, cAny]) (c := fun r : (Int × List Int) => rV (PyData.int r.1)) (r2_ix (pa_S pa_lo))))) (fun _ => sto_v) (fun _ => lt_len rfl)) fun (r_216 : (Int × List Int)) => by exact EvS.is (Δ := [cAt p (r_216.2.map dat), cIs v1, cV (PyData.int r_216.1), cAny, cAny, cAny, cAny]) rfl (es_seq (es_asg (ev_op (ev_pure (a := ([1, 2, 5, 40, 1000000000000000000000000000000] : List Int)) (cc := fun r : (List Int) => rO (r.map dat)) (evp_lst (ds := [(PyData.int 1), (PyData.int 2), (PyData.int 5), (PyData.int 40), (PyData.int 1000000000000000000000000000000)]) (eap_cons ev_int (eap_cons ev_int (eap_cons ev_int (eap_cons ev_int (eap_cons (evp_op ev_int ev_int (r2_pow (k := 1000000000000000000000000000000) (by unfold CPow; decide +kernel) (by decide +kernel))) eap_nil))))) (.cons fz_v (.cons fz_v (.cons fz_v (.cons fz_v (.cons fz_v .nil))))))) (fun (x_217 : (List Int)) => (evp_callS1 (i := 0) (r_216.2, 5) own_At (eap_cons (ev_slot (i := 0) rfl no_At) (eap_cons ev_int eap_nil)) rfl (fun _ => (pars_cons pa_at (pars_cons pa_v pars_nil))) xok_emp)) (fun (x_217 : (List Int)) (y_218 : (Int × List Int)) => (r2_map (fun z_219 => (z_219, y_218.2)) (Γ' := fun r : (Int × List Int) => [cAt p (r.2.map dat), cIs v1, cV (PyData.int r_216.1), cAny, cAny, cAny, cAny]) (c := fun r : (Int × List Int) => rV (PyData.int r.1)) (r2_ix (pa_S pa_lo))))) (fun _ => sto_v) (fun _ => lt_len rfl)) fun (r_220 : (Int × List Int)) => by exact EvS.is (Δ := [cAt p (r_220.2.map dat), cIs v1, cV (PyData.int r_216.1), cV (PyData.int r_220.1), cAny, cAny, cAny]) rfl (es_seq (es_parC (c1 := fun p_241 : ((List Int × (List Int)) × (Int × List Int) × Unit) => rO (p_241.1.1.map dat)) (c2 := fun p_241 : ((List Int × (List Int)) × (Int × List Int) × Unit) => rV (PyData.int p_241.2.1.1)) (ea_cons (Γ1 := fun (a_237 : (List Int × (List Int))) => [cAt p (a_237.2.map dat), cIs v1, cV (PyData.int r_216.1), cV (PyData.int r_220.1), cAny, cAny, cAny]) (el_comp (xs := fun a_229 : (List Int) => a_229) (Γs := fun s_231 : (List Int) => [cAt p (s_231.map dat), cIs v1, cV (PyData.int r_216.1), cV (PyData.int r_220.1), cAny, cAny, cAny]) (Γt := fun (s_231 : (List Int)) (x_230 : Int) => [cAt p (s_231.map dat), cIs v1, cV (PyData.int r_216.1), cV (PyData.int r_220.1), cAny, cAny, cV (PyData.int x_230)]) (s0 := fun a_229 => r_220.2) (ei_range1 (eap_cons (ev_var rfl) eap_nil)) (fun _ _ => trivial) (fun a_229 => (.same (.same (.same (.same (.same (.same (.same .nil)))))))) (fun s_231 => (hv_cons rfl hv_nil)) (fun s_231 x_230 => (eg_name (lt_len rfl))) (by decide) (fun s_231 x_230 => elj_yes (b := fun r_236 : (Int × List Int) => r_236.1) (s := fun r_236 => r_236.2) (ev_op (ev_pure (a := 1) (cc := fun r : Int => rV (PyData.int r)) ev_int) (fun (x_234 : Int) => (evp_call01 (i := 0) (s_231, r_220.1) own_At (eap_cons (ev_slot (i := 0) rfl no_At) (eap_cons (ev_var rfl) eap_nil)) rfl (fun _ => (pars_cons pa_at (pars_cons pa_v pars_nil))) xok_calm calm_calm)) (fun (x_234 : Int) (y_235 : (Int × List Int)) => (r2_to ((x_234 + y_235.1), y_235.2) (Γ' := fun r : (Int × List Int) => [cAt p (r.2.map dat), cIs v1, cV (PyData.int r_216.1), cV (PyData.int r_220.1), cAny, cAny, cV (PyData.int x_230)]) (c := fun r : (Int × List Int) => rV (PyData.int r.1)) r2_I0))) (fun _ => fz_v) (fun r_236 => (.same (.same (.same (.same (.same (.same (.any (.nil))))))))))) fun (a_237 : (List Int × (List Int))) => (ea_cons (Γ1 := fun (a_238 : (Int × List Int)) => [cAt p (a_238.2.map dat), cIs v1, cV (PyData.int r_216.1), cV (PyData.int r_220.1), cAny, cAny, cAny]) (evp_callS1 (i := 0) (a_237.2, 3) own_At (eap_cons (ev_slot (i := 0) rfl no_At) (eap_cons ev_int eap_nil)) rfl (fun _ => (pars_cons pa_at (pars_cons pa_v pars_nil))) xok_emp) fun (a_238 : (Int × List Int)) => ea_nil)) rfl (fun _ => sto_o) (fun _ => sto_v) (fun _ => fl_v) (fun _ => lt_len rfl) (fun _ => lt_len rfl)) fun (r_242 : ((List Int × (List Int)) × (Int × List Int) × Unit)) => by exact EvS.is (Δ := [cAt p (r_242.2.1.2.map dat), cIs v1, cV (PyData.int r_216.1), cV (PyData.int r_220.1), cO (r_242.1.1.map dat), cV (PyData.int r_242.2.1.1), cAny]) rfl (es_seq (Γ1 := fun j_256 : ((List Int) × (List Int)) => [cAt p (j_256.1.map dat), cIs v1, cV (PyData.int r_216.1), cV (PyData.int r_220.1), cO (j_256.2.map dat), cV (PyData.int r_242.2.1.1), cAny]) (es_if (etp_and (et_val (b := fun _ => (!eqD (r_242.1.1 : (List Int)) (([] : (List Int)) : (List Int)))) (evp_op (ev_slot (i := 4) rfl no_O) (evp_lst (ds := []) eap_nil .nil) (r2_ne (pa_D (pa_S (pa_own own_O rfl))) (pa_D (pa_S pa_lo)) (shp (α := (List Int)) (a := r_242.1.1)) (shp (α := (List Int)) (a := ([] : (List Int))))))) (et_val (b := fun _ => (decide (r_242.2.1.1 = 1))) (evp_op (ev_var rfl) ev_int r2_eqI))) (by exact (es_seq (es_setitem (a := fun g_252 : (Int × List Int) => g_252.1) (k := fun (g_252 : (Int × List Int)) (d_253 : (Int × List Int)) => d_253.1) (xs := fun (g_252 : (Int × List Int)) (d_253 : (Int × List Int)) => r_242.1.1) (Γ2 := fun (g_252 : (Int × List Int)) (d_253 : (Int × List Int)) => [cAt p (d_253.2.map dat), cIs v1, cV (PyData.int r_216.1), cV (PyData.int r_220.1), cO (r_242.1.1.map dat), cV (PyData.int r_242.2.1.1), cAny]) own_O (ev_op (ev_pure (a := 1) (cc := fun r : Int => rV (PyData.int r)) ev_int) (fun (x_250 : Int) => (evp_callS1 (i := 0) (r_242.2.1.2, 1000000000000000000000000000000) own_At (eap_cons (ev_slot (i := 0) rfl no_At) (eap_cons (evp_op ev_int ev_int (r2_pow (k := 1000000000000000000000000000000) (by unfold CPow; decide +kernel) (by decide +kernel))) eap_nil)) rfl (fun _ => (pars_cons pa_at (pars_cons pa_v pars_nil))) xok_emp)) (fun (x_250 : Int) (y_251 : (Int × List Int)) => (r2_to ((x_250 + y_251.1), y_251.2) (Γ' := fun r : (Int × List Int) => [cAt p (r.2.map dat), cIs v1, cV (PyData.int r_216.1), cV (PyData.int r_220.1), cO (r_242.1.1.map dat), cV (PyData.int r_242.2.1.1), cAny]) (c := fun r : (Int × List Int) => rV (PyData.int r.1)) r2_I0))) (fun _ => fz_v) (fun g_252 => (evp_callS1 (i := 0) (g_252.2, r_216.1) own_At (eap_cons (ev_slot (i := 0) rfl no_At) (eap_cons (ev_var rfl) eap_nil)) rfl (fun _ => (pars_cons pa_at (pars_cons pa_v pars_nil))) xok_emp)) (fun _ => ⟨_, rfl⟩) (fun _ _ => rfl)) fun (r_255 : ((Int × List Int) × (Int × List Int) × (List Int))) => by exact EvS.is (Δ := [cAt p (r_255.2.1.2.map dat), cIs v1, cV (PyData.int r_216.1), cV (PyData.int r_220.1), cO (r_255.2.2.map dat), cV (PyData.int r_242.2.1.1), cAny]) rfl (es_end (b := (r_255.2.1.2, r_255.2.2)) rfl (.same (.same (.same (.same (.same (.same (.same .nil)))))))))) (by exact (es_end (b := (r_242.2.1.2, r_242.1.1)) rfl (.same (.same (.same (.same (.same (.same (.same .nil)))))))))) fun (j_256 : ((List Int) × (List Int))) => by exact (es_retP (b := (j_256.2, j_256.1)) (ev_slot (i := 4) rfl no_O) rfl (ret_own own_O rfl (.same (.any (.any (.any (.same (.any (.same .nil)))))))))))))))
abbrev N__law_mixed : List Str := ["pool", "things", "left", "k"]
theorem sc__law_mixed : FnScope N__law_mixed ["pool", "things"] (defScope s__law_mixed) := ⟨rfl, rfl, rfl, by decide +kernel, rfl, by decide +kernel, by decide +kernel⟩
def m__law_mixed (pool_p : (List Int)) (things_p : (List Int)) : Res ((List Int) × List Int) :=
  noErr (((rangeR 0 ((things_p).length : Int)).bind fun a_257 => compR a_257 (pool_p, things_p) [] fun s_259 x_258 => ((m__law_draw s_259.1 ((s_259.2).length : Int)).bind fun q_262 => (popR s_259.2 q_262.1).bind fun r_263 => Res.ok (q_262, r_263)).bind fun r_264 => Res.ok (some r_264.2.1, (r_264.1.2, r_264.2.2))).bind fun r_265 => Res.ok (r_265.1, r_265.2.1))
abbrev ps__law_mixed (K : PySem.W.Frag) (p : Addr) (x : (List Int) × (List Int)) : List PP := [ppAt p, ppL (x.2.map dat)]
abbrev c__law_mixed (b : ((List Int) × List Int)) : V → Asr := oV (b.1.map dat)
set_option maxHeartbeats 1600000 in
theorem ok__law_mixed (T : Txt K mg ad) : FnG P w K mg base (L2.CX P w) 2 ad.a__law_mixed ad.d__law_mixed ["pool", "things"] (Sp1 (ecOf ad) (ps__law_mixed K) (fun x : (List Int) × (List Int) => (x.1.map dat)) (fun x => m__law_mixed x.1 x.2) (fun b => (b.2.map dat)) c__law_mixed) := by
  have G__law_draw : FnG P w K mg base (L2.CX P w) 1 ad.a__law_draw ad.d__law_draw ["pool", "many"] (Sp1 (ecOf ad) (ps__law_draw K) (fun x : (List Int) × Int => (x.1.map dat)) (fun x => m__law_draw x.1 x.2) (fun b => (b.2.map dat)) c__law_draw) := ok__law_draw T
  refine T.F__law_mixed.okX sc__law_mixed (fun vs H Q E h => sp1_go h fun p x C hT hC hw => ?_) (fun cdv A outer s H vs Q E hr h => sp1_go h fun p x C hT hC hw => ?_)
  · exact len_of1 hT (hC)
  · obtain ⟨pool_p, things_p⟩ := x
    have hl : vs.length = 2 := len_of1 hT hC
    obtain ⟨v0, v1, rfl⟩ := len2 hl
    have h1 : Bw (Ecf K E (ecOf ad) C) v1 (ppL (things_p.map dat)) := fun F H o s c => (hC F H o s c).2.1
    obtain rfl : v0 = V.ref p := hT.fact fun F o s ⟨_, _, _, _, _, c, _⟩ => (hC F H _ s c).1
    have hU : (A.deeper (PyProof.Rows.envOfC "_law_mixed" (defScope s__law_mixed) s.heap.objs.size ad.a__law_mixed cdv)).units + 64 < cLine := Nat.lt_of_le_of_lt (by omega) hr.un
    have tk : Takes (cxOf (L2.CX P w) P w K mg base N__law_mixed "_law_mixed" (defScope s__law_mixed) ad.a__law_mixed cdv A outer s H E) (fun cls d _ H => E cls d H) := takes_of rfl rfl rfl rfl
    refine ⟨_, (pss_cons (ps_set (i := 2) sc__law_mixed.nd rfl (Or.inr rfl) (pe_callTy (listK K rfl) (by rfl) T.z_list (by decide +kernel) (pa_cons (pv 1) pa_nil))) (pss_cons (ps_ret (pe_lc (own := [("k", 3)]) rfl sc__law_mixed.nd (pi_range1 (by rfl) T.z_range (pa_cons (pe_callB (lenK K rfl) (by rfl) T.z_len PySem.boot_len (pa_cons (pv 1) pa_nil)) pa_nil)) (blkOk_by (own := [("k", 3)]) (N := N__law_mixed) (sc := defScope s__law_mixed) (by decide +kernel)) (fun _ _ _ _ _ => (pg_name (i := 3) sc__law_mixed.nd rfl (Or.inl rfl) (.inr rfl))) (fun _ _ _ _ _ => pts_nil) (fun _ _ _ _ _ => (pe_bmK K rfl PySem.F.plainAttrs_list PySem.F.slot_list_pop PySem.F.type_list_pop mt_popAt (pv 2) (pa_cons (pe_callG0 G__law_draw (hr.mono (by decide)) (by rfl) T.g__law_draw T.F__law_draw.kp T.b__law_draw .nil passL (pa_cons (pv 0) (pa_cons (pe_callB (lenK K rfl) (by rfl) T.z_len PySem.boot_len (pa_cons (pv 2) pa_nil)) pa_nil))) pa_nil))))) pss_nil)), ?_⟩
    refine fin1W (K := K) (Ex := E) (ec := ecOf ad) (i := 0) (Γ := [cAt p (pool_p.map dat), cIs v1, cAny, cAny]) (Γr := fun b : ((List Int) × List Int) => [cAt p (b.2.map dat), cAny, cAny, cAny]) (i1 := fun b => (b.2.map dat)) (c := c__law_mixed) hT (lt_len rfl) rfl (fun F o s c => ⟨fun _ => trivial, fun _ => rfl, fun _ => trivial, fun _ => trivial, trivial⟩) (fun _ => rfl) hw (EvS.is (Δ := [cAt p (pool_p.map dat), cIs v1, cAny, cAny]) rfl ?_)
    exact (es_seqP (es_asgP (evp_cb (eap_cons (ev_slot (i := 1) rfl no_Is) eap_nil) (rn_list (ds := (things_p.map dat)) (pa_S (pa_bw rfl h1)))) sto_o (lt_len rfl)) (by exact EvS.is (Δ := [cAt p (pool_p.map dat), cIs v1, cO (things_p.map dat), cAny]) rfl (es_ret (g := fun r_265 : (List Int × (List Int × List Int)) => (r_265.1, r_265.2.1)) (el_comp (xs := fun a_257 : (List Int) => a_257) (Γs := fun s_259 : (List Int × List Int) => [cAt p (s_259.1.map dat), cIs v1, cO (s_259.2.map dat), cAny]) (Γt := fun (s_259 : (List Int × List Int)) (x_258 : Int) => [cAt p (s_259.1.map dat), cIs v1, cO (s_259.2.map dat), cV (PyData.int x_258)]) (s0 := fun a_257 => (pool_p, things_p)) (ei_range1 (eap_cons (evp_cb (eap_cons (ev_slot (i := 1) rfl no_Is) eap_nil) (rn_len (xs := things_p) (pa_S (pa_bw rfl h1)))) eap_nil)) (fun _ _ => trivial) (fun a_257 => (.same (.same (.same (.same .nil))))) (fun s_259 => (hv_cons rfl hv_nil)) (fun s_259 x_258 => (eg_name (lt_len rfl))) (by decide) (fun s_259 x_258 => elj_yes (b := fun r_264 : ((Int × List Int) × (Int × List Int)) => r_264.2.1) (s := fun r_264 => (r_264.1.2, r_264.2.2)) (ev_popAtM (k := fun q_262 : (Int × List Int) => q_262.1) (xs := s_259.2) own_O (evp_call01 (i := 0) (s_259.1, ((s_259.2).length : Int)) own_At (eap_cons (ev_slot (i := 0) rfl no_At) (eap_cons (evp_cb (eap_cons (ev_slot (i := 2) rfl no_O) eap_nil) (rn_len (xs := s_259.2) (pa_S (pa_own own_O rfl)))) eap_nil)) rfl (fun _ => (pars_cons pa_at (pars_cons pa_v pars_nil))) xok_calm calm_calm) rfl (fun _ => rfl)) (fun _ => fz_v) (fun r_264 => (.same (.same (.same (.any (.nil)))))))) (fun _ => rfl) (fun r_265 => (ret_le (.same (.any (.any (.same .nil)))))))))
abbrev N__law_sorted : List Str := ["begun", "cards", "rest", "found", "size", "high", "spot"]
theorem sc__law_sorted : FnScope N__law_sorted ["begun", "cards"] (defScope s__law_sorted) := ⟨rfl, rfl, rfl, by decide +kernel, rfl, by decide +kernel, by decide +kernel⟩
def m__law_sorted (begun_p : (List Int)) (cards_p : (List Int)) : Res ((List Int) × (List Int)) :=
  ((Res.ok ()).bind fun r_267 => (((Res.ok ()).bind fun a_268 => foldR cards_p ((sortL begun_p), ([] : (List Int))) fun s_270 x_269 => (((getI s_270.1 0).bind fun q_271 => Res.need (s_270.2.length < lim) (Res.ok q_271)).bind fun r_272 => (((getI s_270.1 0).bind fun x_273 => (Res.ok (x_269 : Int)).bind fun y_274 => Res.ok (x_273 + y_274)).bind fun r_275 => (Jn.sq (whileR (ρ := Empty) fuelN 1 (fun s_276 : Int => ((Res.ok (decide (s_276 < ((s_270.1).length : Int)))).bind fun b_279 => if b_279 then ((getI s_270.1 s_276).bind fun x_277 => (Res.ok (r_275 : Int)).bind fun y_278 => Res.ok (decide (x_277 < y_278))) else Res.ok false)) (fun s_276 : Int => (Res.ok (Lp.next (s_276 + 1))))) (fun (j_280 : Int) => (((catR (cutL s_270.1 (some 1) (some j_280)) ([r_275] : List Int)).bind fun x_281 => (Res.ok ((cutL s_270.1 (some j_280) none) : (List Int))).bind fun y_282 => (catR x_281 y_282)).bind fun r_284 => (Res.ok (r_284, (s_270.2 ++ [r_272]))))) fun b_285 => b_285.elim)))).bind fun j_286 => (Res.ok (j_286.2, j_286.1))))
abbrev ps__law_sorted (K : PySem.W.Frag) (x : (List Int) × (List Int)) : List PP := [ppL (x.1.map dat), ppL (x.2.map dat)]
abbrev c__law_sorted (b : ((List Int) × (List Int))) : V → Asr := vA (PyData.tuple [(PyData.list (b.1.map dat)), (PyData.list (b.2.map dat))])
set_option maxHeartbeats 1600000 in
theorem ok__law_sorted (T : Txt K mg ad) : FnG P w K mg base (L2.CX P w) 1 ad.a__law_sorted ad.d__law_sorted ["begun", "cards"] (Sp0 (ecOf ad) (ps__law_sorted K) (fun x => m__law_sorted x.1 x.2) c__law_sorted) := by
  refine T.F__law_sorted.okX sc__law_sorted (fun vs H Q E h => sp0_go h fun x C hT hC hw => ?_) (fun cdv A outer s H vs Q E hr h => sp0_go h fun x C hT hC hw => ?_)
  · exact len_of hT hC
  · obtain ⟨begun_p, cards_p⟩ := x
    have hl : vs.length = 2 := len_of hT hC
    obtain ⟨v0, v1, rfl⟩ := len2 hl
    have h0 : Bw (Ecf K E (ecOf ad) C) v0 (ppL (begun_p.map dat)) := fun F H o s c => (hC F H o s c).1
    have h1 : Bw (Ecf K E (ecOf ad) C) v1 (ppL (cards_p.map dat)) := fun F H o s c => (hC F H o s c).2.1
    have hU : (A.deeper (PyProof.Rows.envOfC "_law_sorted" (defScope s__law_sorted) s.heap.objs.size ad.a__law_sorted cdv)).units + 64 < cLine := Nat.lt_of_le_of_lt (by omega) hr.un
    have tk : Takes (cxOf (L2.CX P w) P w K mg base N__law_sorted "_law_sorted" (defScope s__law_sorted) ad.a__law_sorted cdv A outer s H E) (fun cls d _ H => E cls d H) := takes_of rfl rfl rfl rfl
    refine ⟨_, (pss_cons (ps_par (i := 2) (j := 3) rfl sc__law_sorted.nd rfl rfl (by decide) rfl rfl (pa_cons (pe_callB (sortedK K rfl) (by rfl) T.z_sorted (by decide +kernel) (pa_cons (pv 0) pa_nil)) (pa_cons (pe_lst pa_nil) pa_nil)) (by rfl)) (pss_cons (ps_for (passes_of rfl) rfl (pi_list (pv 1)) (pg_name (i := 4) sc__law_sorted.nd rfl (Or.inl rfl)) (pss_cons (ps_expr (pe_bm PySem.F.plainAttrs_list PySem.F.slot_list_append PySem.F.type_list_append mt_append (pv 3) (pa_cons (pe_ix (ixK K rfl) (pv 2) pe_int (fun _ _ => rfl)) pa_nil))) (pss_cons (ps_set (i := 5) sc__law_sorted.nd rfl (Or.inl rfl) (pe_op op_add (pe_ix (ixK K rfl) (pv 2) pe_int (fun _ _ => rfl)) (pv 4))) (pss_cons (ps_set (i := 6) sc__law_sorted.nd rfl (Or.inl rfl) pe_int) (pss_cons (ps_while (passes_of rfl) (PW.pt (pw_and (pt_cmpR op_lt (pv 6) (pe_callB (lenK K rfl) (by rfl) T.z_len PySem.boot_len (pa_cons (pv 2) pa_nil)) (nomark _)) (pw_and1 (pt_cmpR op_lt (pe_ix (ixK K rfl) (pv 2) (pv 6) (fun _ _ => rfl)) (pv 5) (nomark _))))) (pss_cons (ps_set (i := 6) sc__law_sorted.nd rfl (Or.inl rfl) (pe_op op_add (pv 6) pe_int)) pss_nil)) (pss_cons (ps_set (i := 2) sc__law_sorted.nd rfl (Or.inl rfl) (pe_op op_cat (pe_op op_cat (pe_slice (slK K rfl) (pv 2) (po_some pe_int) (po_some (pv 6))) (pe_lst (pa_cons (pv 5) pa_nil))) (pe_slice (slK K rfl) (pv 2) (po_some (pv 6)) po_none))) pss_nil)))))) (pss_cons (ps_ret (pe_tup (pa_cons (pv 3) (pa_cons (pv 2) pa_nil)))) pss_nil))), ?_⟩
    have hw : WP (m__law_sorted begun_p cards_p) (fun b => ∀ v H', Top (sep C (c__law_sorted b v)) H' → Q v H') (fun k => ∀ H', Top C H' → E (ecOf ad k) none H') := hw
    refine fin0W (K := K) (Γ0 := [cIs v0, cIs v1, cAny, cAny, cAny, cAny, cAny]) (Γr := fun b : ((List Int) × (List Int)) => [cAny, cAny, cAny, cAny, cAny, cAny, cAny]) (c := c__law_sorted) hT (fun F o s c => ⟨fun _ => rfl, fun _ => rfl, fun _ => trivial, fun _ => trivial, fun _ => trivial, fun _ => trivial, fun _ => trivial, trivial⟩) hw ?_
    exact (es_seq (es_parC (c1 := fun p_266 : Unit => rO ((sortL begun_p).map dat)) (c2 := fun p_266 : Unit => rO (([] : (List Int)).map dat)) (ea_pure (a := ()) (cs := fun _ => [rO ((sortL begun_p).map dat), rO (([] : (List Int)).map dat)]) (eap_cons (evp_cb (eap_cons (ev_slot (i := 0) rfl no_Is) eap_nil) (rn_sorted (ns := begun_p) (pa_S (pa_bw rfl h0)))) (eap_cons (evp_lst (ds := []) eap_nil .nil) eap_nil))) rfl (fun _ => sto_f) (fun _ => sto_o) (fun _ => fl_o) (fun _ => lt_len rfl) (fun _ => lt_len rfl)) fun (r_267 : Unit) => by exact EvS.is (Δ := [cIs v0, cIs v1, cV (PyData.list ((sortL begun_p).map dat)), cO (([] : (List Int)).map dat), cAny, cAny, cAny]) rfl (es_seq (es_for0 (xs := fun a_268 : Unit => cards_p) (Γs := fun s_270 : ((List Int) × (List Int)) => [cIs v0, cIs v1, cV (PyData.list (s_270.1.map dat)), cO (s_270.2.map dat), cAny, cAny, cAny]) (Γt := fun (s_270 : ((List Int) × (List Int))) (x_269 : Int) => [cIs v0, cIs v1, cV (PyData.list (s_270.1.map dat)), cO (s_270.2.map dat), cV (PyData.int x_269), cAny, cAny]) (s0 := fun a_268 => ((sortL begun_p), ([] : (List Int)))) (ei_list (ds := fun _ => (cards_p.map dat)) (ev_slot (i := 1) rfl no_Is) fun _ => (src_b rfl (bwS h1))) (fun _ _ => trivial) (fun a_268 => (.same (.same (.same (.same (.same (.same (.same .nil)))))))) (fun s_270 x_269 => (eg_name (lt_len rfl))) (fun s_270 x_269 => by exact (es_seq (es_appendTM (xs := fun q_271 : Int => s_270.2) (a := fun q_271 => q_271) own_O (evp_op (ev_var rfl) ev_int (r2_ix (pa_S pa_lv))) (fun _ => fz_v) rfl (fun _ => rfl)) fun (r_272 : Int) => by exact EvS.is (Δ := [cIs v0, cIs v1, cV (PyData.list (s_270.1.map dat)), cO ((s_270.2 ++ [r_272]).map dat), cV (PyData.int x_269), cAny, cAny]) rfl (es_seq (es_asg (ev_op (evp_op (ev_var rfl) ev_int (r2_ix (pa_S pa_lv))) (fun (x_273 : Int) => (ev_pure (a := x_269) (cc := fun r : Int => rV (PyData.int r)) (ev_var rfl))) (fun (x_273 : Int) (y_274 : Int) => (r2_to (x_273 + y_274) (Γ' := fun r : Int => [cIs v0, cIs v1, cV (PyData.list (s_270.1.map dat)), cO ((s_270.2 ++ [r_272]).map dat), cV (PyData.int x_269), cAny, cAny]) (c := fun r : Int => rV (PyData.int r)) r2_I0))) (fun _ => sto_v) (fun _ => lt_len rfl)) fun (r_275 : Int) => by exact EvS.is (Δ := [cIs v0, cIs v1, cV (PyData.list (s_270.1.map dat)), cO ((s_270.2 ++ [r_272]).map dat), cV (PyData.int x_269), cV (PyData.int r_275), cAny]) rfl (es_seqP (es_asgP ev_int sto_v (lt_len rfl)) (by exact EvS.is (Δ := [cIs v0, cIs v1, cV (PyData.list (s_270.1.map dat)), cO ((s_270.2 ++ [r_272]).map dat), cV (PyData.int x_269), cV (PyData.int r_275), cV (PyData.int 1)]) rfl (es_seqGJ (post0 := fun _ : Empty => Fin.no) (fun b_285 => b_285.elim) nofun (es_while (Γs := fun s_276 : Int => [cIs v0, cIs v1, cV (PyData.list (s_270.1.map dat)), cO ((s_270.2 ++ [r_272]).map dat), cV (PyData.int x_269), cV (PyData.int r_275), cV (PyData.int s_276)]) (s0 := 1) (mt := fun s_276 : Int => ((Res.ok (decide (s_276 < ((s_270.1).length : Int)))).bind fun b_279 => if b_279 then ((getI s_270.1 s_276).bind fun x_277 => (Res.ok (r_275 : Int)).bind fun y_278 => Res.ok (decide (x_277 < y_278))) else Res.ok false)) (.same (.same (.same (.same (.same (.same (.same .nil))))))) (fun s_276 => (et_and (et_pure (a := (decide (s_276 < ((s_270.1).length : Int)))) (b := id) (et_val (b := fun _ => (decide (s_276 < ((s_270.1).length : Int)))) (evp_op (ev_var rfl) (evp_cb (eap_cons (ev_var rfl) eap_nil) (rn_len (xs := s_270.1) (pa_S pa_lv))) r2_B0))) (et_val (b := fun r : Bool => r) (ev_op (evp_op (ev_var rfl) (ev_var rfl) (r2_ix (pa_S pa_lv))) (fun (x_277 : Int) => (ev_pure (a := r_275) (cc := fun r : Int => rV (PyData.int r)) (ev_var rfl))) (fun (x_277 : Int) (y_278 : Int) => (r2_to (decide (x_277 < y_278)) (Γ' := fun r : Bool => [cIs v0, cIs v1, cV (PyData.list (s_270.1.map dat)), cO ((s_270.2 ++ [r_272]).map dat), cV (PyData.int x_269), cV (PyData.int r_275), cV (PyData.int s_276)]) (c := fun r : Bool => rV (PyData.bool r)) r2_B0)))))) (fun s_276 => by exact (es_seqP (es_asgP (evp_op (ev_var rfl) ev_int r2_I0) sto_v (lt_len rfl)) (by exact EvS.is (Δ := [cIs v0, cIs v1, cV (PyData.list (s_270.1.map dat)), cO ((s_270.2 ++ [r_272]).map dat), cV (PyData.int x_269), cV (PyData.int r_275), cV (PyData.int (s_276 + 1))]) rfl (es_endL (b := (Lp.next (s_276 + 1))) rfl (.same (.same (.same (.same (.same (.same (.same .nil))))))))))) (fun _ => ⟨nofun, nofun, nofun⟩)) fun (j_280 : Int) => by exact EvS.is (Δ := [cIs v0, cIs v1, cV (PyData.list (s_270.1.map dat)), cO ((s_270.2 ++ [r_272]).map dat), cV (PyData.int x_269), cV (PyData.int r_275), cV (PyData.int j_280)]) rfl (es_seq (es_asg (ev_op (evp_op (evp_sl (ev_var rfl) (eop ev_int) (eop (ev_var rfl)) (rsl_list (xs := s_270.1) (pa_S pa_lv))) (evp_lst (ds := [(PyData.int r_275)]) (eap_cons (ev_var rfl) eap_nil) (.cons fz_v .nil)) (r2_cat pa_lo pa_lo)) (fun (x_281 : (List Int)) => (ev_pure (a := (cutL s_270.1 (some j_280) none)) (cc := fun r : (List Int) => rO (r.map dat)) (evp_sl (ev_var rfl) (eop (ev_var rfl)) eo_no (rsl_list (xs := s_270.1) (pa_S pa_lv))))) (fun (x_281 : (List Int)) (y_282 : (List Int)) => (r2_cat pa_lo pa_lo))) (fun _ => sto_f) (fun _ => lt_len rfl)) fun (r_284 : (List Int)) => by exact EvS.is (Δ := [cIs v0, cIs v1, cV (PyData.list (r_284.map dat)), cO ((s_270.2 ++ [r_272]).map dat), cV (PyData.int x_269), cV (PyData.int r_275), cV (PyData.int j_280)]) rfl (es_endL (b := (r_284, (s_270.2 ++ [r_272]))) rfl (.same (.same (.same (.same (.any (.any (.any (.nil))))))))))))))))) fun (j_286 : ((List Int) × (List Int))) => by exact EvS.is (Δ := [cIs v0, cIs v1, cV (PyData.list (j_286.1.map dat)), cO (j_286.2.map dat), cAny, cAny, cAny]) rfl (es_frz (i := 3) own_O rfl (by exact EvS.is (Δ := [cIs v0, cIs v1, cV (PyData.list (j_286.1.map dat)), cV (PyData.list (j_286.2.map dat)), cAny, cAny, cAny]) rfl (es_retP (b := (j_286.2, j_286.1)) (evp_tup (ds := [(PyData.list (j_286.2.map dat)), (PyData.list (j_286.1.map dat))]) (eap_cons (ev_var rfl) (eap_cons (ev_var rfl) eap_nil)) (.cons fz_v (.cons fz_v .nil))) rfl (ret_le (.any (.any (.any (.any (.same (.same (.same .nil)))))))))))))
def m_tops_of_s1 (heights_p : (List Int)) (start_p : (List Int)) : Res (List Int) := m_tops_of start_p heights_p
abbrev ps_tops_of_s1 (K : PySem.W.Frag) (x : (List Int) × (List Int)) : List PP := [ppL (x.1.map dat), ppL (x.2.map dat)]
theorem spk_tops_of_s1 : SpK (Sp0 (ecOf ad) (ps_tops_of K) (fun x => m_tops_of x.1 x.2) c_tops_of) (Sp0 (ecOf ad) (ps_tops_of_s1 K) (fun x => m_tops_of_s1 x.1 x.2) c_tops_of) 2 [1, 0] [] := spk (fun x => (x.2, x.1)) (fun _ => rfl) (fun x vs F H h => by
  obtain ⟨a0, a1, rfl⟩ := len2 (parOk_len h)
  obtain ⟨h0, h1, _⟩ := h
  exact ⟨h1, h0, trivial⟩) (fun _ => rfl)
abbrev N__law_right : List Str := ["begun", "other", "cards", "before", "rows", "due", "rest", "told"]
theorem sc__law_right : FnScope N__law_right ["begun", "other", "cards"] (defScope s__law_right) := ⟨rfl, rfl, rfl, by decide +kernel, rfl, by decide +kernel, by decide +kernel⟩
def m__law_right (begun_p : (List Int)) (other_p : (List Int)) (cards_p : (List Int)) : Res Bool :=
  ((((Res.ok ()).bind fun p_289 => (reprR (.list [(PyData.list (begun_p.map dat)), (PyData.list (other_p.map dat)), (PyData.list (cards_p.map dat))])).bind fun s_290 => Res.ok (p_289, s_290)).bind fun a_291 => ((m__law_sorted begun_p cards_p).bind fun a_292 => (Res.ok ()).bind fun r_293 => Res.ok (a_292, r_293)).bind fun r_294 => Res.ok (a_291, r_294)).bind fun r_296 => ((Res.ok (r_296.2.1 : ((List Int) × (List Int)))).bind fun r_298 => (((m_tops_of begun_p cards_p).bind fun a_299 => ((m_tops_of_s1 cards_p other_p).bind fun a_300 => (Res.ok ()).bind fun r_301 => Res.ok (a_300, r_301)).bind fun r_302 => Res.ok (a_299, r_302)).bind fun r_304 => ((((reprR (PyData.list (([(r_304.1.map dat), (r_304.2.1.map dat)] : List (List PyData)).map PyData.list))).bind fun x_309 => ((Res.ok ()).bind fun p_310 => (reprR (.list [(PyData.list (r_298.1.map dat)), (PyData.list (r_298.1.map dat))])).bind fun s_311 => Res.ok (p_310, s_311)).bind fun y_312 => Res.ok (!decide (x_309 = y_312.2))).bind fun b_313 => if b_313 then Res.ok true else (Res.ok (!eqD (r_298.1 : (List Int)) ((sortL r_298.1) : (List Int))))).bind fun c_314 => if c_314 then (Res.ok false) else ((pokeIx ([(r_304.1.map dat), (r_304.2.1.map dat)] : List (List PyData)) 0).bind fun r_315 => ((((((m_end_of begun_p cards_p).bind fun a_322 => (Res.ok ()).bind fun r_323 => Res.ok (a_322, r_323)).bind fun p_324 => Res.ok (sortL p_324.1)).bind fun a_325 => ((((m_end_of other_p cards_p).bind fun a_326 => (Res.ok ()).bind fun r_327 => Res.ok (a_326, r_327)).bind fun p_328 => Res.ok (sortL p_328.1)).bind fun a_329 => (Res.ok ()).bind fun r_330 => Res.ok (a_329, r_330)).bind fun r_331 => Res.ok (a_325, r_331)).bind fun x_332 => (Res.ok (([r_298.2, r_298.2] : List (List Int)) : (List (List Int)))).bind fun y_333 => Res.ok (!eqD (([x_332.1, x_332.2.1] : List (List Int)) : (List (List Int))) (y_333 : (List (List Int))))).bind fun c_334 => if c_334 then (Res.ok false) else ((((((m_tops_of begun_p cards_p).bind fun a_335 => (Res.ok ()).bind fun r_336 => Res.ok (a_335, r_336)).bind fun p_337 => (reprR (PyData.list (p_337.1.map dat)))).bind fun x_339 => (reprR (PyData.list (r_298.1.map dat))).bind fun y_340 => Res.ok (decide (x_339 = y_340))).bind fun b_345 => if b_345 then (((Res.ok ()).bind fun p_341 => (reprR (.list [(PyData.list (begun_p.map dat)), (PyData.list (other_p.map dat)), (PyData.list (cards_p.map dat))])).bind fun s_342 => Res.ok (p_341, s_342)).bind fun x_343 => (Res.ok (r_296.1.2 : Str)).bind fun y_344 => Res.ok (decide (x_343.2 = y_344))) else Res.ok false).bind fun r_346 => Res.ok r_346)))))))
abbrev ps__law_right (K : PySem.W.Frag) (x : (List Int) × (List Int) × (List Int)) : List PP := [ppL (x.1.map dat), ppL (x.2.1.map dat), ppL (x.2.2.map dat)]
abbrev c__law_right (b : Bool) : V → Asr := vA (PyData.bool b)
set_option maxHeartbeats 1600000 in
theorem ok__law_right (T : Txt K mg ad) : FnG P w K mg base (L2.CX P w) 5 ad.a__law_right ad.d__law_right ["begun", "other", "cards"] (Sp0 (ecOf ad) (ps__law_right K) (fun x => m__law_right x.1 x.2.1 x.2.2) c__law_right) := by
  have G__law_sorted : FnG P w K mg base (L2.CX P w) 1 ad.a__law_sorted ad.d__law_sorted ["begun", "cards"] (Sp0 (ecOf ad) (ps__law_sorted K) (fun x => m__law_sorted x.1 x.2) c__law_sorted) := ok__law_sorted T
  have G_end_of : FnG P w K mg base (L2.CX P w) 4 ad.a_end_of ad.d_end_of ["start", "heights"] (Sp0 (ecOf ad) (ps_end_of K) (fun x => m_end_of x.1 x.2) c_end_of) := ok_end_of T
  have G_tops_of : FnG P w K mg base (L2.CX P w) 4 ad.a_tops_of ad.d_tops_of ["start", "heights"] (Sp0 (ecOf ad) (ps_tops_of K) (fun x => m_tops_of x.1 x.2) c_tops_of) := ok_tops_of T
  refine T.F__law_right.okX sc__law_right (fun vs H Q E h => sp0_go h fun x C hT hC hw => ?_) (fun cdv A outer s H vs Q E hr h => sp0_go h fun x C hT hC hw => ?_)
  · exact len_of hT hC
  · obtain ⟨begun_p, other_p, cards_p⟩ := x
    have hl : vs.length = 3 := len_of hT hC
    obtain ⟨v0, v1, v2, rfl⟩ := len3 hl
    have h0 : Bw (Ecf K E (ecOf ad) C) v0 (ppL (begun_p.map dat)) := fun F H o s c => (hC F H o s c).1
    have h1 : Bw (Ecf K E (ecOf ad) C) v1 (ppL (other_p.map dat)) := fun F H o s c => (hC F H o s c).2.1
    have h2 : Bw (Ecf K E (ecOf ad) C) v2 (ppL (cards_p.map dat)) := fun F H o s c => (hC F H o s c).2.2.1
    have hU : (A.deeper (PyProof.Rows.envOfC "_law_right" (defScope s__law_right) s.heap.objs.size ad.a__law_right cdv)).units + 64 < cLine := Nat.lt_of_le_of_lt (by omega) hr.un
    have tk : Takes (cxOf (L2.CX P w) P w K mg base N__law_right "_law_right" (defScope s__law_right) ad.a__law_right cdv A outer s H E) (fun cls d _ H => E cls d H) := takes_of rfl rfl rfl rfl
    refine ⟨_, (pss_cons (ps_par (i := 3) (j := 4) rfl sc__law_right.nd rfl rfl (by decide) rfl rfl (pa_cons (pe_callB (reprK K rfl hr.gd hU) (by rfl) T.z_repr (by decide +kernel) (pa_cons (pe_lst (pa_cons (pv 0) (pa_cons (pv 1) (pa_cons (pv 2) pa_nil)))) pa_nil)) (pa_cons (pe_callG G__law_sorted (hr.mono (by decide)) (by rfl) T.g__law_sorted T.F__law_sorted.kp T.b__law_sorted (fun σ => passAt tk σ) (pa_cons (pv 0) (pa_cons (pv 2) pa_nil))) pa_nil)) (by rfl)) (pss_cons (ps_asg (pv 4) (pg_tupK K 2 rfl rfl (pgs_cons (pg_name (i := 5) sc__law_right.nd rfl (Or.inl rfl)) (pgs_cons (pg_name (i := 6) sc__law_right.nd rfl (Or.inl rfl)) pgs_nil)) rfl rfl)) (pss_cons (ps_set (i := 7) sc__law_right.nd rfl (Or.inl rfl) (pe_lst (pa_cons (pe_callG G_tops_of (hr.mono (by decide)) (by rfl) T.g_tops_of T.F_tops_of.kp T.b_tops_of (fun σ => passAt tk σ) (pa_cons (pv 0) (pa_cons (pv 2) pa_nil))) (pa_cons (pe_callGK0 (dv := []) (du := []) G_tops_of (hr.mono (by decide)) (by rfl) T.g_tops_of T.F_tops_of.kp T.k_tops_of_s1 rfl .nil (by decide) spk_tops_of_s1 (fun σ => passAt tk σ) (pkn_cons (pv 2) (pkn_cons (pv 1) pkn_nil))) pa_nil)))) (pss_cons (ps_if (PW.pt (pw_or (pt_cmpR op_ne (pe_callB (reprK K rfl hr.gd hU) (by rfl) T.z_repr (by decide +kernel) (pa_cons (pv 7) pa_nil)) (pe_callB (reprK K rfl hr.gd hU) (by rfl) T.z_repr (by decide +kernel) (pa_cons (pe_lst (pa_cons (pv 5) (pa_cons (pv 5) pa_nil))) pa_nil)) (nomark _)) (pw_or1 (pt_cmpR (neDK K rfl hU) (pv 5) (pe_callB (sortedK K rfl) (by rfl) T.z_sorted (by decide +kernel) (pa_cons (pv 5) pa_nil)) (nomark _))))) (pss_cons (ps_ret pe_bl) pss_nil) pss_nil) (pss_cons (ps_expr (pe_bm PySem.F.plainAttrs_list PySem.F.slot_list_append PySem.F.type_list_append mt_append (pe_ix (ixK K rfl) (pv 7) pe_int (fun _ _ => rfl)) (pa_cons pe_non pa_nil))) (pss_cons (ps_if (pt_cmpR (neDK K rfl hU) (pe_lst (pa_cons (pe_callB (sortedK K rfl) (by rfl) T.z_sorted (by decide +kernel) (pa_cons (pe_callG G_end_of (hr.mono (by decide)) (by rfl) T.g_end_of T.F_end_of.kp T.b_end_of (fun σ => passAt tk σ) (pa_cons (pv 0) (pa_cons (pv 2) pa_nil))) pa_nil)) (pa_cons (pe_callB (sortedK K rfl) (by rfl) T.z_sorted (by decide +kernel) (pa_cons (pe_callG G_end_of (hr.mono (by decide)) (by rfl) T.g_end_of T.F_end_of.kp T.b_end_of (fun σ => passAt tk σ) (pa_cons (pv 1) (pa_cons (pv 2) pa_nil))) pa_nil)) pa_nil))) (pe_lst (pa_cons (pv 6) (pa_cons (pv 6) pa_nil))) (nomark _)) (pss_cons (ps_ret pe_bl) pss_nil) pss_nil) (pss_cons (ps_ret (pe_and (pe_cmpR op_eq (pe_callB (reprK K rfl hr.gd hU) (by rfl) T.z_repr (by decide +kernel) (pa_cons (pe_callG G_tops_of (hr.mono (by decide)) (by rfl) T.g_tops_of T.F_tops_of.kp T.b_tops_of (fun σ => passAt tk σ) (pa_cons (pv 0) (pa_cons (pv 2) pa_nil))) pa_nil)) (pe_callB (reprK K rfl hr.gd hU) (by rfl) T.z_repr (by decide +kernel) (pa_cons (pv 5) pa_nil)) (nomark _)) (pe_one (pe_cmpR op_eq (pe_callB (reprK K rfl hr.gd hU) (by rfl) T.z_repr (by decide +kernel) (pa_cons (pe_lst (pa_cons (pv 0) (pa_cons (pv 1) (pa_cons (pv 2) pa_nil)))) pa_nil)) (pv 3) (nomark _))))) pss_nil))))))), ?_⟩
    have hw : WP (m__law_right begun_p other_p cards_p) (fun b => ∀ v H', Top (sep C (c__law_right b v)) H' → Q v H') (fun k => ∀ H', Top C H' → E (ecOf ad k) none H') := hw
    refine fin0W (K := K) (Γ0 := [cIs v0, cIs v1, cIs v2, cAny, cAny, cAny, cAny, cAny]) (Γr := fun b : Bool => [cAny, cAny, cAny, cAny, cAny, cAny, cAny, cAny]) (c := c__law_right) hT (fun F o s c => ⟨fun _ => rfl, fun _ => rfl, fun _ => rfl, fun _ => trivial, fun _ => trivial, fun _ => trivial, fun _ => trivial, fun _ => trivial, trivial⟩) hw ?_
    exact (es_seq (es_parC (c1 := fun p_295 : ((Unit × Str) × ((List Int) × (List Int)) × Unit) => rV (PyData.str p_295.1.2)) (c2 := fun p_295 : ((Unit × Str) × ((List Int) × (List Int)) × Unit) => rV (PyData.tuple [(PyData.list (p_295.2.1.1.map dat)), (PyData.list (p_295.2.1.2.map dat))])) (ea_cons (Γ1 := fun (a_291 : (Unit × Str)) => [cIs v0, cIs v1, cIs v2, cAny, cAny, cAny, cAny, cAny]) (ev_reprL (ds := fun p_289 : Unit => [(PyData.list (begun_p.map dat)), (PyData.list (other_p.map dat)), (PyData.list (cards_p.map dat))]) (ea_pure (a := ()) (cs := fun _ => [rS 0, rS 1, rS 2]) (eap_cons (ev_slot (i := 0) rfl no_Is) (eap_cons (ev_slot (i := 1) rfl no_Is) (eap_cons (ev_slot (i := 2) rfl no_Is) eap_nil)))) (fun p_289 => (pars_cons (pa_D (pa_S (pa_bw rfl h0))) (pars_cons (pa_D (pa_S (pa_bw rfl h1))) (pars_cons (pa_D (pa_S (pa_bw rfl h2))) pars_nil))))) fun (a_291 : (Unit × Str)) => (ea_cons (Γ1 := fun (a_292 : ((List Int) × (List Int))) => [cIs v0, cIs v1, cIs v2, cAny, cAny, cAny, cAny, cAny]) (evp_callS (begun_p, cards_p) (eap_cons (ev_slot (i := 0) rfl no_Is) (eap_cons (ev_slot (i := 2) rfl no_Is) eap_nil)) (pars_cons (pa_bw rfl h0) (pars_cons (pa_bw rfl h2) pars_nil)) xok_emp) fun (a_292 : ((List Int) × (List Int))) => ea_nil)) rfl (fun _ => sto_v) (fun _ => sto_v) (fun _ => fl_v) (fun _ => lt_len rfl) (fun _ => lt_len rfl)) fun (r_296 : ((Unit × Str) × ((List Int) × (List Int)) × Unit)) => by exact EvS.is (Δ := [cIs v0, cIs v1, cIs v2, cV (PyData.str r_296.1.2), cV (PyData.tuple [(PyData.list (r_296.2.1.1.map dat)), (PyData.list (r_296.2.1.2.map dat))]), cAny, cAny, cAny]) rfl (es_seq (es_asgG (ds := fun q_297 : ((List Int) × (List Int)) => (PyData.tuple [(PyData.list (q_297.1.map dat)), (PyData.list (q_297.2.map dat))])) (ev_pure (a := r_296.2.1) (cc := fun r : ((List Int) × (List Int)) => rV (PyData.tuple [(PyData.list (r.1.map dat)), (PyData.list (r.2.map dat))])) (ev_var rfl)) (fun _ => fz_v) (fun q_297 => (eg_tup (egs_cons (eg_name (lt_len rfl)) (egs_cons (eg_name (lt_len rfl)) egs_nil)) rfl))) fun (r_298 : ((List Int) × (List Int))) => by exact EvS.is (Δ := [cIs v0, cIs v1, cIs v2, cV (PyData.str r_296.1.2), cV (PyData.tuple [(PyData.list (r_296.2.1.1.map dat)), (PyData.list (r_296.2.1.2.map dat))]), cV (PyData.list (r_298.1.map dat)), cV (PyData.list (r_298.2.map dat)), cAny]) rfl (es_seq (es_asg (ev_lstOO (dss := fun p_303 : ((List Int) × (List Int) × Unit) => [(p_303.1.map dat), (p_303.2.1.map dat)]) (ea_cons (Γ1 := fun (a_299 : (List Int)) => [cIs v0, cIs v1, cIs v2, cV (PyData.str r_296.1.2), cV (PyData.tuple [(PyData.list (r_296.2.1.1.map dat)), (PyData.list (r_296.2.1.2.map dat))]), cV (PyData.list (r_298.1.map dat)), cV (PyData.list (r_298.2.map dat)), cAny]) (evp_callS (begun_p, cards_p) (eap_cons (ev_slot (i := 0) rfl no_Is) (eap_cons (ev_slot (i := 2) rfl no_Is) eap_nil)) (pars_cons (pa_bw rfl h0) (pars_cons (pa_bw rfl h2) pars_nil)) xok_emp) fun (a_299 : (List Int)) => (ea_cons (Γ1 := fun (a_300 : (List Int)) => [cIs v0, cIs v1, cIs v2, cV (PyData.str r_296.1.2), cV (PyData.tuple [(PyData.list (r_296.2.1.1.map dat)), (PyData.list (r_296.2.1.2.map dat))]), cV (PyData.list (r_298.1.map dat)), cV (PyData.list (r_298.2.map dat)), cAny]) (evp_callS (cards_p, other_p) (eap_cons (ev_slot (i := 2) rfl no_Is) (eap_cons (ev_slot (i := 1) rfl no_Is) eap_nil)) (pars_cons (pa_bw rfl h2) (pars_cons (pa_bw rfl h1) pars_nil)) xok_emp) fun (a_300 : (List Int)) => ea_nil)) rfl) (fun _ => sto_OO) (fun _ => lt_len rfl)) fun (r_304 : ((List Int) × (List Int) × Unit)) => by exact EvS.is (Δ := [cIs v0, cIs v1, cIs v2, cV (PyData.str r_296.1.2), cV (PyData.tuple [(PyData.list (r_296.2.1.1.map dat)), (PyData.list (r_296.2.1.2.map dat))]), cV (PyData.list (r_298.1.map dat)), cV (PyData.list (r_298.2.map dat)), cOO ([(r_304.1.map dat), (r_304.2.1.map dat)] : List (List PyData))]) rfl (es_ifTM (b := fun c_314 : Bool => c_314) (et_or (et_val (b := fun r : Bool => r) (ev_op (evp_cb (eap_cons (ev_slot (i := 7) rfl no_OO) eap_nil) (rn_repr (d := (PyData.list (([(r_304.1.map dat), (r_304.2.1.map dat)] : List (List PyData)).map PyData.list))) (pa_OO rfl) ⟨_, .inl rfl⟩)) (fun (x_309 : Str) => (ev_reprL (ds := fun p_310 : Unit => [(PyData.list (r_298.1.map dat)), (PyData.list (r_298.1.map dat))]) (ea_pure (a := ()) (cs := fun _ => [rV (PyData.list (r_298.1.map dat)), rV (PyData.list (r_298.1.map dat))]) (eap_cons (ev_var rfl) (eap_cons (ev_var rfl) eap_nil))) (fun p_310 => (pars_cons pa_dv (pars_cons pa_dv pars_nil))))) (fun (x_309 : Str) (y_312 : (Unit × Str)) => (r2_to (!decide (x_309 = y_312.2)) (Γ' := fun r : Bool => [cIs v0, cIs v1, cIs v2, cV (PyData.str r_296.1.2), cV (PyData.tuple [(PyData.list (r_296.2.1.1.map dat)), (PyData.list (r_296.2.1.2.map dat))]), cV (PyData.list (r_298.1.map dat)), cV (PyData.list (r_298.2.map dat)), cOO ([(r_304.1.map dat), (r_304.2.1.map dat)] : List (List PyData))]) (c := fun r : Bool => rV (PyData.bool r)) r2_neS)))) (et_pure (a := (!eqD (r_298.1 : (List Int)) ((sortL r_298.1) : (List Int)))) (b := id) (et_val (b := fun _ => (!eqD (r_298.1 : (List Int)) ((sortL r_298.1) : (List Int)))) (evp_op (ev_var rfl) (evp_cb (eap_cons (ev_var rfl) eap_nil) (rn_sorted (ns := r_298.1) (pa_S pa_lv))) (r2_ne pa_dv (pa_D (pa_S pa_lo)) (shp (α := (List Int)) (a := r_298.1)) (shp (α := (List Int)) (a := (sortL r_298.1)))))))) (fun c_314 => by exact (es_retP (b := false) ev_bl rfl (ret_le (.any (.any (.any (.any (.any (.any (.any (.any (.nil)))))))))))) (fun c_314 => by exact (es_seq (es_pokeIx (dss := ([(r_304.1.map dat), (r_304.2.1.map dat)] : List (List PyData))) (k := 0) rfl) fun (r_315 : Unit) => by exact EvS.is (Δ := [cIs v0, cIs v1, cIs v2, cV (PyData.str r_296.1.2), cV (PyData.tuple [(PyData.list (r_296.2.1.1.map dat)), (PyData.list (r_296.2.1.2.map dat))]), cV (PyData.list (r_298.1.map dat)), cV (PyData.list (r_298.2.map dat)), cAny]) rfl (es_ifTM (b := fun c_334 : Bool => c_334) (et_val (b := fun r : Bool => r) (ev_op (ev_lst (ds := fun p : ((List Int) × (List Int) × Unit) => [(PyData.list (p.1.map dat)), (PyData.list (p.2.1.map dat))]) (ea_cons (Γ1 := fun (a_325 : (List Int)) => [cIs v0, cIs v1, cIs v2, cV (PyData.str r_296.1.2), cV (PyData.tuple [(PyData.list (r_296.2.1.1.map dat)), (PyData.list (r_296.2.1.2.map dat))]), cV (PyData.list (r_298.1.map dat)), cV (PyData.list (r_298.2.map dat)), cAny]) (ev_cb (ea_cons (Γ1 := fun (a_322 : (List Int)) => [cIs v0, cIs v1, cIs v2, cV (PyData.str r_296.1.2), cV (PyData.tuple [(PyData.list (r_296.2.1.1.map dat)), (PyData.list (r_296.2.1.2.map dat))]), cV (PyData.list (r_298.1.map dat)), cV (PyData.list (r_298.2.map dat)), cAny]) (evp_callS (begun_p, cards_p) (eap_cons (ev_slot (i := 0) rfl no_Is) (eap_cons (ev_slot (i := 2) rfl no_Is) eap_nil)) (pars_cons (pa_bw rfl h0) (pars_cons (pa_bw rfl h2) pars_nil)) xok_emp) fun (a_322 : (List Int)) => ea_nil) (fun p_324 => (rn_to (sortL p_324.1) (Γ' := fun r : (List Int) => [cIs v0, cIs v1, cIs v2, cV (PyData.str r_296.1.2), cV (PyData.tuple [(PyData.list (r_296.2.1.1.map dat)), (PyData.list (r_296.2.1.2.map dat))]), cV (PyData.list (r_298.1.map dat)), cV (PyData.list (r_298.2.map dat)), cAny]) (c := fun r : (List Int) => rO (r.map dat)) (rn_sorted (ns := p_324.1) (pa_S pa_lo))))) fun (a_325 : (List Int)) => (ea_cons (Γ1 := fun (a_329 : (List Int)) => [cIs v0, cIs v1, cIs v2, cV (PyData.str r_296.1.2), cV (PyData.tuple [(PyData.list (r_296.2.1.1.map dat)), (PyData.list (r_296.2.1.2.map dat))]), cV (PyData.list (r_298.1.map dat)), cV (PyData.list (r_298.2.map dat)), cAny]) (ev_cb (ea_cons (Γ1 := fun (a_326 : (List Int)) => [cIs v0, cIs v1, cIs v2, cV (PyData.str r_296.1.2), cV (PyData.tuple [(PyData.list (r_296.2.1.1.map dat)), (PyData.list (r_296.2.1.2.map dat))]), cV (PyData.list (r_298.1.map dat)), cV (PyData.list (r_298.2.map dat)), cAny]) (evp_callS (other_p, cards_p) (eap_cons (ev_slot (i := 1) rfl no_Is) (eap_cons (ev_slot (i := 2) rfl no_Is) eap_nil)) (pars_cons (pa_bw rfl h1) (pars_cons (pa_bw rfl h2) pars_nil)) xok_emp) fun (a_326 : (List Int)) => ea_nil) (fun p_328 => (rn_to (sortL p_328.1) (Γ' := fun r : (List Int) => [cIs v0, cIs v1, cIs v2, cV (PyData.str r_296.1.2), cV (PyData.tuple [(PyData.list (r_296.2.1.1.map dat)), (PyData.list (r_296.2.1.2.map dat))]), cV (PyData.list (r_298.1.map dat)), cV (PyData.list (r_298.2.map dat)), cAny]) (c := fun r : (List Int) => rO (r.map dat)) (rn_sorted (ns := p_328.1) (pa_S pa_lo))))) fun (a_329 : (List Int)) => ea_nil)) fun p => (.cons fz_o (.cons fz_o .nil))) (fun (x_332 : ((List Int) × (List Int) × Unit)) => (ev_pure (a := ([r_298.2, r_298.2] : List (List Int))) (cc := fun r : (List (List Int)) => rO (r.map dat)) (evp_lst (ds := [(PyData.list (r_298.2.map dat)), (PyData.list (r_298.2.map dat))]) (eap_cons (ev_var rfl) (eap_cons (ev_var rfl) eap_nil)) (.cons fz_v (.cons fz_v .nil))))) (fun (x_332 : ((List Int) × (List Int) × Unit)) (y_333 : (List (List Int))) => (r2_to (!eqD (([x_332.1, x_332.2.1] : List (List Int)) : (List (List Int))) (y_333 : (List (List Int)))) (Γ' := fun r : Bool => [cIs v0, cIs v1, cIs v2, cV (PyData.str r_296.1.2), cV (PyData.tuple [(PyData.list (r_296.2.1.1.map dat)), (PyData.list (r_296.2.1.2.map dat))]), cV (PyData.list (r_298.1.map dat)), cV (PyData.list (r_298.2.map dat)), cAny]) (c := fun r : Bool => rV (PyData.bool r)) (r2_ne (pa_D (pa_S pa_lo)) (pa_D (pa_S pa_lo)) (shp (α := (List (List Int))) (a := ([x_332.1, x_332.2.1] : List (List Int)))) (shp (α := (List (List Int))) (a := y_333))))))) (fun c_334 => by exact (es_retP (b := false) ev_bl rfl (ret_le (.any (.any (.any (.any (.any (.any (.any (.same .nil))))))))))) (fun c_334 => by exact (es_ret (g := fun r_346 : Bool => r_346) (ev_and (ev_op (ev_cb (ea_cons (Γ1 := fun (a_335 : (List Int)) => [cIs v0, cIs v1, cIs v2, cV (PyData.str r_296.1.2), cV (PyData.tuple [(PyData.list (r_296.2.1.1.map dat)), (PyData.list (r_296.2.1.2.map dat))]), cV (PyData.list (r_298.1.map dat)), cV (PyData.list (r_298.2.map dat)), cAny]) (evp_callS (begun_p, cards_p) (eap_cons (ev_slot (i := 0) rfl no_Is) (eap_cons (ev_slot (i := 2) rfl no_Is) eap_nil)) (pars_cons (pa_bw rfl h0) (pars_cons (pa_bw rfl h2) pars_nil)) xok_emp) fun (a_335 : (List Int)) => ea_nil) (fun p_337 => (rn_repr (d := (PyData.list (p_337.1.map dat))) (pa_D (pa_S pa_lo)) ⟨_, .inl rfl⟩))) (fun (x_339 : Str) => (evp_cb (eap_cons (ev_var rfl) eap_nil) (rn_repr (d := (PyData.list (r_298.1.map dat))) pa_dv ⟨_, .inl rfl⟩))) (fun (x_339 : Str) (y_340 : Str) => (r2_to (decide (x_339 = y_340)) (Γ' := fun r : Bool => [cIs v0, cIs v1, cIs v2, cV (PyData.str r_296.1.2), cV (PyData.tuple [(PyData.list (r_296.2.1.1.map dat)), (PyData.list (r_296.2.1.2.map dat))]), cV (PyData.list (r_298.1.map dat)), cV (PyData.list (r_298.2.map dat)), cAny]) (c := fun r : Bool => rV (PyData.bool r)) r2_eqS))) (ev_op (ev_reprL (ds := fun p_341 : Unit => [(PyData.list (begun_p.map dat)), (PyData.list (other_p.map dat)), (PyData.list (cards_p.map dat))]) (ea_pure (a := ()) (cs := fun _ => [rS 0, rS 1, rS 2]) (eap_cons (ev_slot (i := 0) rfl no_Is) (eap_cons (ev_slot (i := 1) rfl no_Is) (eap_cons (ev_slot (i := 2) rfl no_Is) eap_nil)))) (fun p_341 => (pars_cons (pa_D (pa_S (pa_bw rfl h0))) (pars_cons (pa_D (pa_S (pa_bw rfl h1))) (pars_cons (pa_D (pa_S (pa_bw rfl h2))) pars_nil))))) (fun (x_343 : (Unit × Str)) => (ev_pure (a := r_296.1.2) (cc := fun r : Str => rV (PyData.str r)) (ev_var rfl))) (fun (x_343 : (Unit × Str)) (y_344 : Str) => (r2_to (decide (x_343.2 = y_344)) (Γ' := fun r : Bool => [cIs v0, cIs v1, cIs v2, cV (PyData.str r_296.1.2), cV (PyData.tuple [(PyData.list (r_296.2.1.1.map dat)), (PyData.list (r_296.2.1.2.map dat))]), cV (PyData.list (r_298.1.map dat)), cV (PyData.list (r_298.2.map dat)), cAny]) (c := fun r : Bool => rV (PyData.bool r)) r2_eqS)))) (fun _ => rfl) (fun r_346 => (ret_le (.any (.any (.any (.any (.any (.any (.any (.same .nil)))))))))))))))))))
abbrev N_law : List Str := ["script", "k", "pool", "turn", "begun", "cards"]
theorem sc_law : FnScope N_law ["script"] (defScope s_law) := ⟨rfl, rfl, rfl, by decide +kernel, rfl, by decide +kernel, by decide +kernel⟩
def m_law (script_p : (List Int)) : Res Bool :=
  (Jn.sq ((rangeR 0 (max 1 (min 6 ((script_p).length : Int)))).bind fun a_347 => forR a_347 () fun s_349 x_348 => ((((m__law_cell_at script_p x_348).bind fun a_350 => ((Res.ok (x_348 : Int)).bind fun a_351 => (Res.ok ()).bind fun r_352 => Res.ok (a_351, r_352)).bind fun r_353 => Res.ok (a_350, r_353)).bind fun p_354 => m__law_pool p_354.1 p_354.2.1).bind fun r_355 => (Jn.sq ((rangeR 0 2).bind fun a_356 => forR a_356 r_355 fun s_358 x_357 => (((m__law_begun s_358 script_p).bind fun a_359 => ((m__law_cards a_359.2 script_p).bind fun a_360 => (Res.ok ()).bind fun r_361 => Res.ok (a_360, r_361)).bind fun r_362 => Res.ok (a_359, r_362)).bind fun r_364 => ((((Res.ok (r_364.1.1 : (List Int))).bind fun a_365 => ((m__law_mixed r_364.2.1.2 r_364.1.1).bind fun a_366 => ((Res.ok ()).bind fun a_367 => (Res.ok ()).bind fun r_368 => Res.ok (a_367, r_368)).bind fun r_369 => Res.ok (a_366, r_369)).bind fun r_370 => Res.ok (a_365, r_370)).bind fun p_371 => (m__law_right p_371.1 p_371.2.1.1 r_364.2.1.1).bind fun b_372 => Res.ok (p_371, b_372)).bind fun c_373 => if (!c_373.2) then (Res.ok (Lp.ret false)) else ((m__law_right r_364.1.1 (r_364.1.1.reverse) (r_364.2.1.1.reverse)).bind fun c_374 => if (!c_374) then (Res.ok (Lp.ret false)) else (Res.ok (Lp.next c_373.1.2.1.2)))))) (fun (j_375 : (List Int)) => (Res.ok (Lp.next ()))) fun b_376 => (Lp.ret b_376)))) (fun (j_377 : Unit) => (Res.ok true)) fun b_378 => b_378)
abbrev ps_law (K : PySem.W.Frag) (x : (List Int)) : List PP := [ppS K (x.map dat)]
abbrev c_law (b : Bool) : V → Asr := vA (PyData.bool b)
set_option maxHeartbeats 1600000 in
theorem ok_law (T : Txt K mg ad) : FnG P w K mg base (L2.CX P w) 6 ad.a_law ad.d_law ["script"] (Sp0 (ecOf ad) (ps_law K) (fun x => m_law x) c_law) := by
  have G__law_begun : FnG P w K mg base (L2.CX P w) 2 ad.a__law_begun ad.d__law_begun ["pool", "script"] (Sp1 (ecOf ad) (ps__law_begun K) (fun x : (List Int) × (List Int) => (x.1.map dat)) (fun x => m__law_begun x.1 x.2) (fun b => (b.2.map dat)) c__law_begun) := ok__law_begun T
  have G__law_cards : FnG P w K mg base (L2.CX P w) 2 ad.a__law_cards ad.d__law_cards ["pool", "script"] (Sp1 (ecOf ad) (ps__law_cards K) (fun x : (List Int) × (List Int) => (x.1.map dat)) (fun x => m__law_cards x.1 x.2) (fun b => (b.2.map dat)) c__law_cards) := ok__law_cards T
  have G__law_cell_at : FnG P w K mg base (L2.CX P w) 1 ad.a__law_cell_at ad.d__law_cell_at ["script", "k"] (Sp0 (ecOf ad) (ps__law_cell_at K) (fun x => m__law_cell_at x.1 x.2) c__law_cell_at) := ok__law_cell_at T
  have G__law_mixed : FnG P w K mg base (L2.CX P w) 2 ad.a__law_mixed ad.d__law_mixed ["pool", "things"] (Sp1 (ecOf ad) (ps__law_mixed K) (fun x : (List Int) × (List Int) => (x.1.map dat)) (fun x => m__law_mixed x.1 x.2) (fun b => (b.2.map dat)) c__law_mixed) := ok__law_mixed T
  have G__law_pool : FnG P w K mg base (L2.CX P w) 1 ad.a__law_pool ad.d__law_pool ["cell", "place"] (Sp0 (ecOf ad) (ps__law_pool K) (fun x => m__law_pool x.1 x.2) c__law_pool) := ok__law_pool T
  have G__law_right : FnG P w K mg base (L2.CX P w) 5 ad.a__law_right ad.d__law_right ["begun", "other", "cards"] (Sp0 (ecOf ad) (ps__law_right K) (fun x => m__law_right x.1 x.2.1 x.2.2) c__law_right) := ok__law_right T
  refine T.F_law.okX sc_law (fun vs H Q E h => sp0_go h fun x C hT hC hw => ?_) (fun cdv A outer s H vs Q E hr h => sp0_go h fun x C hT hC hw => ?_)
  · exact len_of hT hC
  · revert hT hC hw
    revert x
    intro script_p hT hC hw
    have hl : vs.length = 1 := len_of hT hC
    obtain ⟨v0, rfl⟩ := len1 hl
    have h0 : Bw (Ecf K E (ecOf ad) C) v0 (ppS K (script_p.map dat)) := fun F H o s c => (hC F H o s c).1
    have hU : (A.deeper (PyProof.Rows.envOfC "law" (defScope s_law) s.heap.objs.size ad.a_law cdv)).units + 64 < cLine := Nat.lt_of_le_of_lt (by omega) hr.un
    have tk : Takes (cxOf (L2.CX P w) P w K mg base N_law "law" (defScope s_law) ad.a_law cdv A outer s H E) (fun cls d _ H => E cls d H) := takes_of rfl rfl rfl rfl
    refine ⟨_, (pss_cons (ps_for (passes_of rfl) rfl (pi_range1 (by rfl) T.z_range (pa_cons (pe_callB (call_max2 rfl) (by rfl) T.z_max (by decide +kernel) (pa_cons pe_int (pa_cons (pe_callB (call_min2 rfl) (by rfl) T.z_min (by decide +kernel) (pa_cons pe_int (pa_cons (pe_callB (lenK K rfl) (by rfl) T.z_len PySem.boot_len (pa_cons (pv 0) pa_nil)) pa_nil))) pa_nil))) pa_nil)) (pg_name (i := 1) sc_law.nd rfl (Or.inl rfl)) (pss_cons (ps_set (i := 2) sc_law.nd rfl (Or.inl rfl) (pe_callG G__law_pool (hr.mono (by decide)) (by rfl) T.g__law_pool T.F__law_pool.kp T.b__law_pool (fun σ => passAt tk σ) (pa_cons (pe_callG G__law_cell_at (hr.mono (by decide)) (by rfl) T.g__law_cell_at T.F__law_cell_at.kp T.b__law_cell_at (fun σ => passAt tk σ) (pa_cons (pv 0) (pa_cons (pv 1) pa_nil))) (pa_cons (pv 1) pa_nil)))) (pss_cons (ps_for (passes_of rfl) rfl (pi_range1 (by rfl) T.z_range (pa_cons pe_int pa_nil)) (pg_name (i := 3) sc_law.nd rfl (Or.inl rfl)) (pss_cons (ps_par (i := 4) (j := 5) rfl sc_law.nd rfl rfl (by decide) rfl rfl (pa_cons (pe_callG G__law_begun (hr.mono (by decide)) (by rfl) T.g__law_begun T.F__law_begun.kp T.b__law_begun (fun σ => passAt tk σ) (pa_cons (pv 2) (pa_cons (pv 0) pa_nil))) (pa_cons (pe_callG G__law_cards (hr.mono (by decide)) (by rfl) T.g__law_cards T.F__law_cards.kp T.b__law_cards (fun σ => passAt tk σ) (pa_cons (pv 2) (pa_cons (pv 0) pa_nil))) pa_nil)) (by rfl)) (pss_cons (ps_if (pt_not (pt_val (pe_callG G__law_right (hr.mono (by decide)) (by rfl) T.g__law_right T.F__law_right.kp T.b__law_right (fun σ => passAt tk σ) (pa_cons (pv 4) (pa_cons (pe_callG G__law_mixed (hr.mono (by decide)) (by rfl) T.g__law_mixed T.F__law_mixed.kp T.b__law_mixed (fun σ => passAt tk σ) (pa_cons (pv 2) (pa_cons (pv 4) pa_nil))) (pa_cons (pv 5) pa_nil)))))) (pss_cons (ps_ret pe_bl) pss_nil) pss_nil) (pss_cons (ps_expr (pe_bm0 PySem.F.plainAttrs_list PySem.F.slot_list_reverse PySem.F.type_list_reverse mt_reverse (pv 5))) (pss_cons (ps_if (pt_not (pt_val (pe_callG G__law_right (hr.mono (by decide)) (by rfl) T.g__law_right T.F__law_right.kp T.b__law_right (fun σ => passAt tk σ) (pa_cons (pv 4) (pa_cons (pe_revL (pv 4)) (pa_cons (pv 5) pa_nil)))))) (pss_cons (ps_ret pe_bl) pss_nil) pss_nil) pss_nil))))) pss_nil))) (pss_cons (ps_ret pe_bl) pss_nil)), ?_⟩
    have hw : WP (m_law script_p) (fun b => ∀ v H', Top (sep C (c_law b v)) H' → Q v H') (fun k => ∀ H', Top C H' → E (ecOf ad k) none H') := hw
    refine fin0W (K := K) (Γ0 := [cIs v0, cAny, cAny, cAny, cAny, cAny]) (Γr := fun b : Bool => [cAny, cAny, cAny, cAny, cAny, cAny]) (c := c_law) hT (fun F o s c => ⟨fun _ => rfl, fun _ => trivial, fun _ => trivial, fun _ => trivial, fun _ => trivial, fun _ => trivial, trivial⟩) hw ?_
    exact (es_seqGJ (post0 := (fun b : Bool => .rt [cAny, cAny, cAny, cAny, cAny, cAny] fun _ => c_law b)) (fun b_378 => b_378) (fun _ => rfl) (es_for (xs := fun a_347 : (List Int) => a_347) (Γs := fun s_349 : Unit => [cIs v0, cAny, cAny, cAny, cAny, cAny]) (Γt := fun (s_349 : Unit) (x_348 : Int) => [cIs v0, cV (PyData.int x_348), cAny, cAny, cAny, cAny]) (s0 := fun a_347 => ()) (ei_range1 (eap_cons (evp_cb (eap_cons ev_int (eap_cons (evp_cb (eap_cons ev_int (eap_cons (evp_cb (eap_cons (ev_slot (i := 0) rfl no_Is) eap_nil) (rn_len (xs := script_p) (pa_bw rfl h0))) eap_nil)) rn_min2) eap_nil)) rn_max2) eap_nil)) (fun _ _ => trivial) (fun a_347 => (.same (.same (.same (.same (.same (.same .nil))))))) (fun s_349 x_348 => (eg_name (lt_len rfl))) (fun s_349 x_348 => by exact (es_seq (es_asg (ev_callSC (fun p_354 : (Int × Int × Unit) => (p_354.1, p_354.2.1)) (ea_cons (Γ1 := fun (a_350 : Int) => [cIs v0, cV (PyData.int x_348), cAny, cAny, cAny, cAny]) (evp_callS (script_p, x_348) (eap_cons (ev_slot (i := 0) rfl no_Is) (eap_cons (ev_var rfl) eap_nil)) (pars_cons (pa_bw rfl h0) (pars_cons pa_v pars_nil)) xok_emp) fun (a_350 : Int) => (ea_cons (Γ1 := fun (a_351 : Int) => [cIs v0, cV (PyData.int x_348), cAny, cAny, cAny, cAny]) (ev_pure (a := x_348) (cc := fun r : Int => rV (PyData.int r)) (ev_var rfl)) fun (a_351 : Int) => ea_nil)) rfl (fun p_354 => (pars_cons pa_v (pars_cons pa_v pars_nil))) xok_emp) (fun _ => sto_o) (fun _ => lt_len rfl)) fun (r_355 : (List Int)) => by exact EvS.is (Δ := [cIs v0, cV (PyData.int x_348), cO (r_355.map dat), cAny, cAny, cAny]) rfl (es_seqGJ (post0 := (fun b : Bool => .rt [cAny, cAny, cAny, cAny, cAny, cAny] fun _ => c_law b)) (fun b_376 => (Lp.ret b_376)) (fun _ => rfl) (es_for (xs := fun a_356 : (List Int) => a_356) (Γs := fun s_358 : (List Int) => [cIs v0, cV (PyData.int x_348), cO (s_358.map dat), cAny, cAny, cAny]) (Γt := fun (s_358 : (List Int)) (x_357 : Int) => [cIs v0, cV (PyData.int x_348), cO (s_358.map dat), cV (PyData.int x_357), cAny, cAny]) (s0 := fun a_356 => r_355) (ei_range1 (eap_cons ev_int eap_nil)) (fun _ _ => trivial) (fun a_356 => (.same (.same (.same (.same (.same (.same .nil))))))) (fun s_358 x_357 => (eg_name (lt_len rfl))) (fun s_358 x_357 => by exact (es_seq (es_parC (c1 := fun p_363 : (((List Int) × List Int) × ((List Int) × List Int) × Unit) => rO (p_363.1.1.map dat)) (c2 := fun p_363 : (((List Int) × List Int) × ((List Int) × List Int) × Unit) => rO (p_363.2.1.1.map dat)) (ea_cons (Γ1 := fun (a_359 : ((List Int) × List Int)) => [cIs v0, cV (PyData.int x_348), cO (a_359.2.map dat), cV (PyData.int x_357), cAny, cAny]) (evp_callS1 (i := 2) (s_358, script_p) own_O (eap_cons (ev_slot (i := 2) rfl no_O) (eap_cons (ev_slot (i := 0) rfl no_Is) eap_nil)) rfl (fun _ => (pars_cons pa_at (pars_cons (pa_bw rfl h0) pars_nil))) xok_emp) fun (a_359 : ((List Int) × List Int)) => (ea_cons (Γ1 := fun (a_360 : ((List Int) × List Int)) => [cIs v0, cV (PyData.int x_348), cO (a_360.2.map dat), cV (PyData.int x_357), cAny, cAny]) (evp_callS1 (i := 2) (a_359.2, script_p) own_O (eap_cons (ev_slot (i := 2) rfl no_O) (eap_cons (ev_slot (i := 0) rfl no_Is) eap_nil)) rfl (fun _ => (pars_cons pa_at (pars_cons (pa_bw rfl h0) pars_nil))) xok_emp) fun (a_360 : ((List Int) × List Int)) => ea_nil)) rfl (fun _ => sto_f) (fun _ => sto_o) (fun _ => fl_o) (fun _ => lt_len rfl) (fun _ => lt_len rfl)) fun (r_364 : (((List Int) × List Int) × ((List Int) × List Int) × Unit)) => by exact EvS.is (Δ := [cIs v0, cV (PyData.int x_348), cO (r_364.2.1.2.map dat), cV (PyData.int x_357), cV (PyData.list (r_364.1.1.map dat)), cO (r_364.2.1.1.map dat)]) rfl (es_ifTM (b := fun c_373 : (((List Int) × ((List Int) × List Int) × Unit × Unit) × Bool) => (!c_373.2)) (et_not (b := fun r : (((List Int) × ((List Int) × List Int) × Unit × Unit) × Bool) => r.2) (et_val (b := fun r : (((List Int) × ((List Int) × List Int) × Unit × Unit) × Bool) => r.2) (ev_callS (fun p_371 : ((List Int) × ((List Int) × List Int) × Unit × Unit) => (p_371.1, p_371.2.1.1, r_364.2.1.1)) (ea_cons (Γ1 := fun (a_365 : (List Int)) => [cIs v0, cV (PyData.int x_348), cO (r_364.2.1.2.map dat), cV (PyData.int x_357), cV (PyData.list (r_364.1.1.map dat)), cO (r_364.2.1.1.map dat)]) (ev_pure (a := r_364.1.1) (cc := fun r : (List Int) => rV (PyData.list (r.map dat))) (ev_var rfl)) fun (a_365 : (List Int)) => (ea_cons (Γ1 := fun (a_366 : ((List Int) × List Int)) => [cIs v0, cV (PyData.int x_348), cO (a_366.2.map dat), cV (PyData.int x_357), cV (PyData.list (r_364.1.1.map dat)), cO (r_364.2.1.1.map dat)]) (evp_callS1 (i := 2) (r_364.2.1.2, r_364.1.1) own_O (eap_cons (ev_slot (i := 2) rfl no_O) (eap_cons (ev_var rfl) eap_nil)) rfl (fun _ => (pars_cons pa_at (pars_cons pa_lv pars_nil))) xok_emp) fun (a_366 : ((List Int) × List Int)) => (ea_cons (Γ1 := fun (a_367 : Unit) => [cIs v0, cV (PyData.int x_348), cO (a_366.2.map dat), cV (PyData.int x_357), cV (PyData.list (r_364.1.1.map dat)), cO (r_364.2.1.1.map dat)]) (ev_pure (a := ()) (cc := fun _ => rS 5) (ev_slot (i := 5) rfl no_O)) fun (a_367 : Unit) => ea_nil))) (fun p_371 => (pars_cons pa_lv (pars_cons pa_lo (pars_cons (pa_own own_O rfl) pars_nil)))) (fun _ => xok_emp)))) (fun c_373 => by exact (es_retP (b := (Lp.ret false)) ev_bl rfl (ret_le (.any (.any (.any (.any (.any (.any (.nil)))))))))) (fun c_373 => by exact (es_seqP (es_reverseT (xs := r_364.2.1.1) own_O rfl) (by exact EvS.is (Δ := [cIs v0, cV (PyData.int x_348), cO (c_373.1.2.1.2.map dat), cV (PyData.int x_357), cV (PyData.list (r_364.1.1.map dat)), cO ((r_364.2.1.1.reverse).map dat)]) rfl (es_ifTM (b := fun c_374 : Bool => (!c_374)) (et_not (b := fun r : Bool => r) (et_val (b := fun r : Bool => r) (evp_callS (r_364.1.1, (r_364.1.1.reverse), (r_364.2.1.1.reverse)) (eap_cons (ev_var rfl) (eap_cons (evp_rev (ev_var rfl) (pa_S pa_lv)) (eap_cons (ev_slot (i := 5) rfl no_O) eap_nil))) (pars_cons pa_lv (pars_cons pa_lo (pars_cons (pa_own own_O rfl) pars_nil))) xok_emp))) (fun c_374 => by exact (es_retP (b := (Lp.ret false)) ev_bl rfl (ret_le (.any (.any (.any (.any (.any (.any (.nil)))))))))) (fun c_374 => by exact (es_endL (b := (Lp.next c_373.1.2.1.2)) rfl (.same (.same (.same (.any (.any (.any (.nil)))))))))))))))) (fun _ => ⟨nofun, nofun, nofun⟩)) fun (j_375 : (List Int)) => by exact EvS.is (Δ := [cIs v0, cV (PyData.int x_348), cO (j_375.map dat), cAny, cAny, cAny]) rfl (es_endL (b := (Lp.next ())) rfl (.same (.any (.any (.same (.same (.same .nil)))))))))) (fun _ => ⟨nofun, nofun, nofun⟩)) fun (j_377 : Unit) => by exact EvS.is (Δ := [cIs v0, cAny, cAny, cAny, cAny, cAny]) rfl (es_retP (b := true) ev_bl rfl (ret_le (.any (.same (.same (.same (.same (.same .nil)))))))))
end
theorem powA2_ok {i : Int} (h : i.natAbs < 2 ^ 1000) : powA i 2 = .ok (i ^ 2) := Res.need_of ⟨by decide, by
  unfold Builtin.Int.intBits
  have := log2_lt h
  split <;> omega⟩
/-- a pool: the digits left, the seed, how often it was drawn from -/
def Pl (k : Nat) (s : List Int) : Prop := ∃ a b c : Int, s = [a, b, c] ∧ 0 ≤ a ∧ 0 ≤ b ∧ b < 2147483629 ∧ 0 ≤ c ∧ c ≤ k
theorem Pl.le {k n : Nat} {s : List Int} (h : Pl k s) (e : k ≤ n) : Pl n s := by
  obtain ⟨a, b, c, rfl, h1, h2, h3, h4, h5⟩ := h
  exact ⟨a, b, c, rfl, h1, h2, h3, h4, by omega⟩
theorem getI3_0 (a b c : Int) : getI [a, b, c] 0 = .ok a := rfl
theorem getI3_1 (a b c : Int) : getI [a, b, c] 1 = .ok b := rfl
theorem getI3_2 (a b c : Int) : getI [a, b, c] 2 = .ok c := rfl
theorem setR3_0 (a b c d : Int) : setR [a, b, c] 0 d = .ok [d, b, c] := rfl
theorem setR3_1 (a b c d : Int) : setR [a, b, c] 1 d = .ok [a, d, c] := rfl
theorem setR3_2 (a b c d : Int) : setR [a, b, c] 2 d = .ok [a, b, d] := rfl
theorem draw_ok {k : Nat} {s : List Int} {n : Int} (h : Pl k s) (hk : k < 2 ^ 40) (hn : 1 ≤ n) (hn2 : n < 2 ^ 300) : Ok (m__law_draw s n) fun r => 0 ≤ r.1 ∧ r.1 < n ∧ Pl (k + 1) r.2 := by
  obtain ⟨a, b, c, rfl, h1, h2, h3, h4, h5⟩ := h
  unfold m__law_draw
  refine Ok.noErr ?_
  rw [getI3_2]
  simp only [Res.bind_ok]
  rw [setR3_2]
  simp only [Res.bind_ok]
  rw [getI3_1, getI3_2]
  simp only [Res.bind_ok]
  rw [mulA_okL (by decide) (by decide)]
  simp only [Res.bind_ok]
  rw [mulA_okR (by omega) (by omega)]
  simp only [Res.bind_ok]
  have e1 : 7 * (c + 1) * (c + 1) ≤ 7 * 2 ^ 41 * 2 ^ 41 := Int.mul_le_mul (Int.mul_le_mul_of_nonneg_left (by omega) (by decide)) (by omega) (by omega) (by decide)
  have e2 : 0 ≤ 7 * (c + 1) * (c + 1) := Int.mul_nonneg (Int.mul_nonneg (by decide) (by omega)) (by omega)
  rw [powA2_ok (by omega)]
  simp only [Res.bind_ok]
  rw [modR_ok (by decide)]
  simp only [Res.bind_ok]
  rw [mulA_okR (by decide) (by decide)]
  simp only [Res.bind_ok]
  rw [mulA_okL (by decide) (by decide)]
  simp only [Res.bind_ok]
  rw [modR_ok (by decide)]
  simp only [Res.bind_ok]
  rw [setR3_1]
  simp only [Res.bind_ok]
  rw [getI3_1, getI3_0]
  simp only [Res.bind_ok]
  generalize hx : ((b + 7 * (c + 1) * (c + 1) + 1) ^ 2 % 2147483587 * 69621 + 40692 * (c + 1)) % 2147483629 = x
  have x0 : 0 ≤ x := hx ▸ Int.emod_nonneg _ (by decide)
  have x1 : x < 2147483629 := hx ▸ Int.emod_lt_of_pos _ (by decide)
  rw [divR_ok (by decide) (by decide)]
  simp only [Res.bind_ok]
  rw [modR_ok (by omega)]
  simp only [Res.bind_ok]
  by_cases ha : 0 < a
  · rw [if_pos (by simpa using ha), modR_ok (by omega), divR_ok (by omega) hn2]
    simp only [Res.bind_ok]
    rw [setR3_0]
    simp only [Res.bind_ok]
    exact Ok.pure ⟨Int.emod_nonneg _ (by omega), Int.emod_lt_of_pos _ (by omega), a / n, x, c + 1, rfl, Int.ediv_nonneg h1 (by omega), x0, x1, by omega, by push_cast; omega⟩
  · rw [if_neg (by simpa using ha)]
    simp only [Res.bind_ok]
    exact Ok.pure ⟨Int.emod_nonneg _ (by omega), Int.emod_lt_of_pos _ (by omega), a, x, c + 1, rfl, h1, x0, x1, by omega, by push_cast; omega⟩
theorem pool_ok (cell place : Int) (h1 : -(2 ^ 64) < place) (h2 : place < 2 ^ 64) : Ok (m__law_pool cell place) (Pl 0) := by
  unfold m__law_pool
  simp only [Res.bind_assoc, Res.bind_ok]
  rw [modR_ok (by decide)]
  simp only [Res.bind_ok]
  rw [mulA_okL (by decide) (by decide)]
  simp only [Res.bind_ok]
  rw [modR_ok (by decide)]
  simp only [Res.bind_ok]
  exact Ok.pure ⟨_, _, _, rfl, Int.le_max_right _ _, Int.emod_nonneg _ (by decide), Int.emod_lt_of_pos _ (by decide), by decide, by decide⟩
theorem cell_ok (script : List Int) (k : Int) (hk : 0 ≤ k) : Ok (m__law_cell_at script k) fun _ => True := by
  unfold m__law_cell_at
  split
  · rename_i h
    exact Ok.bind (getI_ok hk (by simpa using h)) fun a _ => Ok.pure trivial
  · exact Ok.pure trivial
def GS (s : List Int) : Prop := 1 ≤ s.length ∧ s.length ≤ 30 ∧ ∀ n ∈ s, 0 ≤ n ∧ n ≤ 1000000000000000000000000000000
def GC (c : List Int) : Prop := c.length ≤ 200 ∧ ∀ n ∈ c, 1 ≤ n ∧ n ≤ 1000000000000000000000000000000
theorem eqD_nil : eqD ([] : List Int) ([] : List Int) = true := by
  unfold eqD
  rfl
/-- a list of draws -/
theorem draws_ok {k : Nat} {s : List Int} {n w : Int} {f : List Int → Int → Res (Option Int × List Int)} (d : Int) (hf : ∀ s x, f s x = (m__law_draw s w).bind fun r => .ok (some (d + r.1), r.2)) (h : Pl k s) (hk : k < 2 ^ 39) (hn : 0 ≤ n) (hn2 : n ≤ 1000) (hw : 1 ≤ w) (hw2 : w < 2 ^ 300) :
    Ok (compR (rangeL 0 n) s [] f) fun r => r.1.length = n.toNat ∧ (∀ m ∈ r.1, d ≤ m ∧ m < d + w) ∧ Pl (k + 1000) r.2 := by
  have len : (rangeL 0 n).length = n.toNat := by rw [rangeL_len, Int.sub_zero]
  refine (compR_ok (fun i (acc : List Int) (st : List Int) => Pl (k + i) st ∧ acc.length = i ∧ ∀ m ∈ acc, d ≤ m ∧ m < d + w) (rangeL 0 n) s [] 0 ⟨h, rfl, nofun⟩ (by show 0 + (rangeL 0 n).length ≤ 16000000; omega) fun i st acc x hx _ hi ⟨s1, s2, s3⟩ => ?_).imp fun r ⟨r1, r2, r3⟩ => ⟨by omega, r3, r1.le (by omega)⟩
  rw [hf]
  refine Ok.bind (draw_ok s1 (by omega) hw hw2) fun a ⟨a1, a2, a3⟩ => ?_
  refine Ok.pure ⟨a3.le (by omega), by simp [s2], fun m hm => ?_⟩
  rcases List.mem_append.mp hm with hm | hm
  · exact s3 m hm
  · simp at hm
    omega
theorem begun_ok {k : Nat} {s : List Int} (script : List Int) (h : Pl k s) (hk : k < 2 ^ 38) : Ok (m__law_begun s script) fun r => GS r.1 ∧ Pl (k + 1010) r.2 := by
  unfold m__law_begun
  refine Ok.noErr ?_
  split
  · rw [rangeR_ok (by omega) (by omega) (by omega) (by omega)]
    simp only [Res.bind_assoc, Res.bind_ok]
    refine Ok.bind (draws_ok (n := 3) (w := 3) 0 (fun s x => by simp only [Int.zero_add]) h (by omega) (by decide) (by decide) (by decide) (by decide)) fun r ⟨r1, r2, r3⟩ => ?_
    exact Ok.pure ⟨⟨by show 1 ≤ r.1.length; omega, by show r.1.length ≤ 30; omega, fun m hm => by have := r2 m hm; omega⟩, r3.le (by omega)⟩
  · simp only [Res.bind_assoc, Res.bind_ok]
    refine Ok.bind (draw_ok h (by omega) (by decide) (by decide)) fun a ⟨a1, a2, a3⟩ => ?_
    refine Ok.bind (draw_ok a3 (by omega) (by decide) (by decide)) fun b ⟨b1, b2, b3⟩ => ?_
    refine Ok.bind (draw_ok b3 (by omega) (by decide) (by decide)) fun d ⟨d1, d2, d3⟩ => ?_
    refine Ok.bind (getI_ok d1 d2) fun z hz => ?_
    have z0 : 1 ≤ z ∧ z ≤ 30 := by
      simp at hz
      rcases hz with e | e | e <;> omega
    refine Ok.bind (draw_ok d3 (by omega) (by decide) (by decide)) fun y ⟨y1, y2, y3⟩ => ?_
    refine Ok.bind (getI_ok y1 y2) fun v hv => ?_
    have v0 : 1 ≤ v ∧ v ≤ 1000000000000000000000000000001 := by
      simp at hv
      rcases hv with e | e | e | e <;> omega
    rw [rangeR_ok (by omega) (by omega) (by omega) (by omega)]
    simp only [Res.bind_ok]
    refine Ok.bind (draws_ok (n := z) (w := v) 0 (fun s x => by simp only [Int.zero_add]) y3 (by omega) (by omega) (by omega) (by omega) (by omega)) fun r ⟨r1, r2, r3⟩ => ?_
    exact Ok.pure ⟨⟨by show 1 ≤ r.1.length; omega, by show r.1.length ≤ 30; omega, fun m hm => by have := r2 m hm; omega⟩, r3.le (by omega)⟩
theorem cards_ok {k : Nat} {s : List Int} (script : List Int) (h : Pl k s) (hk : k < 2 ^ 38) : Ok (m__law_cards s script) fun r => GC r.1 ∧ Pl (k + 1010) r.2 := by
  unfold m__law_cards
  refine Ok.noErr ?_
  split
  · rw [rangeR_ok (by omega) (by omega) (by omega) (by omega)]
    simp only [Res.bind_assoc, Res.bind_ok]
    refine Ok.bind (draws_ok (n := 5) (w := 4) 1 (fun s x => rfl) h (by omega) (by decide) (by decide) (by decide) (by decide)) fun r ⟨r1, r2, r3⟩ => ?_
    exact Ok.pure ⟨⟨by show r.1.length ≤ 200; omega, fun m hm => by have := r2 m hm; omega⟩, r3.le (by omega)⟩
  · simp only [Res.bind_assoc, Res.bind_ok]
    refine Ok.bind (draw_ok h (by omega) (by decide) (by decide)) fun a ⟨a1, a2, a3⟩ => ?_
    refine Ok.bind (draw_ok a3 (by omega) (by decide) (by decide)) fun b ⟨b1, b2, b3⟩ => ?_
    refine Ok.bind (draw_ok b3 (by omega) (by decide) (by decide)) fun d ⟨d1, d2, d3⟩ => ?_
    refine Ok.bind (getI_ok d1 d2) fun z hz => ?_
    have z0 : 0 ≤ z ∧ z ≤ 200 := by
      simp at hz
      rcases hz with e | e | e <;> omega
    refine Ok.bind (draw_ok d3 (by omega) (by decide) (by decide)) fun y ⟨y1, y2, y3⟩ => ?_
    refine Ok.bind (getI_ok y1 y2) fun v hv => ?_
    have v0 : 1 ≤ v ∧ v ≤ 1000000000000000000000000000000 := by
      simp at hv
      rcases hv with e | e | e | e | e <;> omega
    rw [rangeR_ok (by omega) (by omega) (by omega) (by omega)]
    simp only [Res.bind_ok]
    refine Ok.bind (draws_ok (n := z) (w := v) 1 (fun s x => rfl) y3 (by omega) (by omega) (by omega) (by omega) (by omega)) fun r ⟨r1, r2, r3⟩ => ?_
    refine Ok.bind (draw_ok r3 (by omega) (by decide) (by decide)) fun t ⟨t1, t2, t3⟩ => ?_
    have hr : ∀ m ∈ r.1, 1 ≤ m ∧ m ≤ 1000000000000000000000000000000 := fun m hm => by have := r2 m hm; omega
    by_cases hc : ((!eqD (r.1 : List Int) ([] : List Int)) && decide (t.1 = 1)) = true
    · rw [if_pos hc]
      have hne : r.1 ≠ [] := fun e => by
        rw [e] at hc
        simp [eqD_nil] at hc
      have hl := List.length_pos_iff.mpr hne
      simp only [Res.bind_assoc, Res.bind_ok]
      refine Ok.bind (draw_ok t3 (by omega) (by decide) (by decide)) fun g ⟨g1, g2, g3⟩ => ?_
      refine Ok.bind (draw_ok g3 (by omega) (by omega) (by omega)) fun i ⟨i1, i2, i3⟩ => ?_
      rw [setR_pos i1 (by omega)]
      simp only [Res.bind_ok]
      refine Ok.pure ⟨⟨?_, fun m hm => ?_⟩, i3.le (by omega)⟩
      · show (r.1.set i.1.toNat (1 + g.1)).length ≤ 200
        rw [List.length_set]
        omega
      · rcases List.mem_or_eq_of_mem_set hm with hm | hm
        · exact hr m hm
        · omega
    · rw [if_neg hc]
      simp only [Res.bind_ok]
      exact Ok.pure ⟨⟨by show r.1.length ≤ 200; omega, hr⟩, t3.le (by omega)⟩
theorem isStart_ok {s : List Int} (h : GS s) : isStartD (.list (s.map PyData.int)) = true := by
  obtain ⟨h1, h2, h3⟩ := h
  unfold isStartD
  simp only [List.length_map, List.all_map, Bool.and_eq_true, decide_eq_true_eq, List.all_eq_true]
  exact ⟨⟨h1, h2⟩, fun x hx => by
    show (decide ((0 : Int) ≤ x) && decide (x ≤ 1000000000000000000000000000000)) = true
    simpa using h3 x hx⟩
theorem isCards_ok {s : List Int} (h : GC s) : isCardsD (.list (s.map PyData.int)) = true := by
  obtain ⟨h2, h3⟩ := h
  unfold isCardsD
  simp only [List.length_map, List.all_map, Bool.and_eq_true, decide_eq_true_eq, List.all_eq_true]
  exact ⟨h2, fun x hx => by
    show (decide ((1 : Int) ≤ x) && decide (x ≤ 1000000000000000000000000000000)) = true
    simpa using h3 x hx⟩
theorem check_start_ok {s : List Int} (h : GS s) : m_check_start (.list (s.map dat)) = .ok () := by
  unfold m_check_start m_is_start
  rw [ints_dat, isStart_ok h]
  rfl
theorem check_cards_ok {s : List Int} (h : GC s) : m_check_cards (.list (s.map dat)) = .ok () := by
  unfold m_check_cards m_is_cards
  rw [ints_dat, isCards_ok h]
  rfl
theorem repr_two {s c : List Int} (h : GS s) (g : GC c) : ∃ t, reprR (.list [(PyData.list (s.map dat)), (PyData.list (c.map dat))]) = .ok t := by
  have h1 := RpAll'.ints (xs := s) (m := 30) (fun x hx => by have := h.2.2 x hx; omega) h.2.1
  have h2 := RpAll'.ints (xs := c) (m := 200) (fun x hx => by have := g.2 x hx; omega) g.1
  exact ⟨_, (RpAll'.list (.cons h1.list (.cons h2.list .nil))).ok (by decide) (by decide)⟩
/-! min of pairs -/
def leP (a b : Int × Int) : Prop := a.1 < b.1 ∨ (a.1 = b.1 ∧ a.2 ≤ b.2)
theorem minP_fold : ∀ (xs : List (Int × Int)) (x : Int × Int), (xs.foldl (fun a y => if ltPr y a then y else a) x = x ∨ xs.foldl (fun a y => if ltPr y a then y else a) x ∈ xs) ∧
    leP (xs.foldl (fun a y => if ltPr y a then y else a) x) x ∧ ∀ q ∈ xs, leP (xs.foldl (fun a y => if ltPr y a then y else a) x) q
  | [], x => ⟨.inl rfl, .inr ⟨rfl, Int.le_refl _⟩, nofun⟩
  | y :: ys, x => by
    rw [List.foldl_cons]
    obtain ⟨h1, h2, h3⟩ := minP_fold ys (if ltPr y x then y else x)
    have ht : ∀ a b c : Int × Int, leP a b → leP b c → leP a c := by
      intro a b c h k
      unfold leP at *
      omega
    by_cases hb : ltPr y x = true
    · rw [if_pos hb] at h1 h2 h3 ⊢
      have e : y.1 < x.1 ∨ (y.1 = x.1 ∧ y.2 < x.2) := by simpa [ltPr] using hb
      refine ⟨.inr ?_, ht _ _ _ h2 (by unfold leP; omega), fun q hq => ?_⟩
      · rcases h1 with h1 | h1
        · rw [h1]; exact List.mem_cons_self
        · exact List.mem_cons_of_mem _ h1
      · rcases List.mem_cons.mp hq with rfl | hq
        · exact h2
        · exact h3 q hq
    · rw [if_neg hb] at h1 h2 h3 ⊢
      have e : ¬ (y.1 < x.1 ∨ (y.1 = x.1 ∧ y.2 < x.2)) := by simpa [ltPr] using hb
      refine ⟨h1.imp id (List.mem_cons_of_mem _), h2, fun q hq => ?_⟩
      rcases List.mem_cons.mp hq with rfl | hq
      · exact ht _ _ _ h2 (by unfold leP; omega)
      · exact h3 q hq
theorem minP_ok {ps : List (Int × Int)} (h : ps ≠ []) : Ok (minP ps) fun r => r ∈ ps ∧ ∀ q ∈ ps, leP r q := by
  cases ps with
  | nil => exact (h rfl).elim
  | cons x xs =>
    obtain ⟨h1, h2, h3⟩ := minP_fold xs x
    refine ⟨_, rfl, ?_, fun q hq => ?_⟩
    · rcases h1 with h1 | h1
      · rw [h1]; exact List.mem_cons_self
      · exact List.mem_cons_of_mem _ h1
    · rcases List.mem_cons.mp hq with rfl | hq
      · exact h2
      · exact h3 q hq
theorem foldR_at {α σ : Type} {f : σ → α → Res σ} : ∀ (xs : List α) (I : Nat → σ → Prop) (s : σ), I 0 s → (∀ i s a, xs[i]? = some a → I i s → Ok (f s a) (I (i + 1))) → Ok (foldR xs s f) (I xs.length)
  | [], I, s, h, _ => ⟨s, rfl, h⟩
  | a :: l, I, s, h, k => by
    unfold foldR
    refine Ok.bind (k 0 s a rfl h) fun s' h' => ?_
    exact foldR_at l (fun i => I (i + 1)) s' h' fun i s b hb hi => k (i + 1) s b hb hi
theorem enumL_mem {xs : List Int} {p : Int × Int} (h : p ∈ enumL xs) : 0 ≤ p.1 ∧ p.1 < xs.length ∧ xs[p.1.toNat]? = some p.2 := by
  obtain ⟨i, hi⟩ := List.mem_iff_getElem?.mp h
  rw [enumL_get] at hi
  cases e : xs[i]? with
  | none => rw [e] at hi; simp at hi
  | some a =>
    rw [e] at hi
    simp at hi
    subst hi
    have := (List.getElem?_eq_some_iff.mp e).1
    exact ⟨by simp, by simp; omega, by simpa using e⟩
theorem enumL_of {xs : List Int} {i : Nat} {a : Int} (h : xs[i]? = some a) : ((i : Int), a) ∈ enumL xs := by
  refine List.mem_iff_getElem?.mpr ⟨i, ?_⟩
  rw [enumL_get, h]
  rfl
/-- the column that is played: its height, its number with the side's sign -/
structure Lowest (side : Int) (rest : List Int) (r : Int × Int) (i : Nat) : Prop where
  lt : i < rest.length
  eq : r = (minL rest, side * i)
  at_ : rest[i]? = some (minL rest)
  least : ∀ j : Nat, rest[j]? = some (minL rest) → side * i ≤ side * j
theorem lowest_of {side : Int} {rest : List Int} (h : rest ≠ []) : Ok (minP ((enumL rest).map fun x => (x.2, side * x.1))) fun r => ∃ i, Lowest side rest r i := by
  have hne : (enumL rest).map (fun x : Int × Int => (x.2, side * x.1)) ≠ [] := by
    obtain ⟨i, hi⟩ := List.mem_iff_getElem?.mp (minL_mem h)
    exact List.ne_nil_of_mem (List.mem_map.mpr ⟨_, enumL_of hi, rfl⟩)
  refine (minP_ok hne).imp fun r ⟨hr, hl⟩ => ?_
  obtain ⟨p, hp, rfl⟩ := List.mem_map.mp hr
  obtain ⟨p0, p1, p2⟩ := enumL_mem hp
  have le : ∀ (j : Nat) (a : Int), rest[j]? = some a → leP (p.2, side * p.1) (a, side * j) := fun j a hj => hl _ (List.mem_map.mpr ⟨_, enumL_of hj, rfl⟩)
  have e1 : p.2 = minL rest := by
    obtain ⟨j, hj⟩ := List.mem_iff_getElem?.mp (minL_mem h)
    have h1 : minL rest ≤ p.2 := minL_le (List.mem_of_getElem? p2)
    have h2 := le j _ hj
    unfold leP at h2
    dsimp only at h2
    omega
  have e2 : ((p.1.toNat : Nat) : Int) = p.1 := Int.toNat_of_nonneg p0
  refine ⟨p.1.toNat, by omega, by rw [e1, e2], e1 ▸ p2, fun j hj => ?_⟩
  have h2 := le j _ hj
  unfold leP at h2
  dsimp only at h2
  rw [e2]
  omega
theorem side_cancel {side : Int} (hs : side = 1 ∨ side = -1) (i : Int) : side * (side * i) = i := by
  rcases hs with rfl | rfl <;> omega
theorem sum_set : ∀ (l : List Int) (i : Nat) (a v : Int), l[i]? = some a → (l.set i v).sum = l.sum - a + v
  | [], i, a, v, h => by simp at h
  | x :: l, 0, a, v, h => by
    simp at h
    subst h
    simp
    omega
  | x :: l, i + 1, a, v, h => by
    have ih := sum_set l i a v (by simpa using h)
    simp only [List.set_cons_succ, List.sum_cons]
    omega
theorem sum_take_succ {l : List Int} {n : Nat} {a : Int} (h : l[n]? = some a) : (l.take (n + 1)).sum = (l.take n).sum + a := by
  rw [List.take_add_one, h]
  simp
/-! the layout, told by a relation -/
structure IsLow (right : Bool) (cols : List Int) (i : Nat) : Prop where
  at_ : cols[i]? = some (minL cols)
  ord : ∀ j : Nat, cols[j]? = some (minL cols) → if right then j ≤ i else i ≤ j
theorem IsLow.det {right : Bool} {cols : List Int} {i j : Nat} (h : IsLow right cols i) (k : IsLow right cols j) : i = j := by
  have h1 := h.ord j k.at_
  have h2 := k.ord i h.at_
  cases right <;> simp at h1 h2 <;> omega
inductive Lay (right : Bool) : List Int → List Int → List (Int × Int) → List Int → Prop
  | nil {cols : List Int} : Lay right cols [] [] cols
  | cons {cols hs rest : List Int} {f : List (Int × Int)} {h : Int} {i : Nat} : IsLow right cols i → Lay right (cols.set i (minL cols + h)) hs f rest → Lay right cols (h :: hs) (((i : Int), minL cols) :: f) rest
theorem Lay.det {right : Bool} : ∀ {cols hs : List Int} {f f' : List (Int × Int)} {r r' : List Int}, Lay right cols hs f r → Lay right cols hs f' r' → f = f' ∧ r = r'
  | _, _, _, _, _, _, .nil, .nil => ⟨rfl, rfl⟩
  | _, _, _, _, _, _, .cons h t, .cons h' t' => by
    have e := h.det h'
    subst e
    obtain ⟨e1, e2⟩ := Lay.det t t'
    exact ⟨by rw [e1], e2⟩
theorem Lay.snoc {right : Bool} : ∀ {cols hs : List Int} {f : List (Int × Int)} {r : List Int} {h : Int} {i : Nat}, Lay right cols hs f r → IsLow right r i → Lay right cols (hs ++ [h]) (f ++ [((i : Int), minL r)]) (r.set i (minL r + h))
  | _, _, _, _, h, i, .nil, k => .cons k .nil
  | _, _, _, _, h, i, .cons a t, k => .cons a (t.snoc k)
theorem Lay.len {right : Bool} : ∀ {cols hs : List Int} {f : List (Int × Int)} {r : List Int}, Lay right cols hs f r → f.length = hs.length ∧ r.length = cols.length
  | _, _, _, _, .nil => ⟨rfl, rfl⟩
  | _, _, _, _, .cons h t => by
    obtain ⟨e1, e2⟩ := t.len
    exact ⟨by simp [e1], by rw [e2, List.length_set]⟩
theorem Lay.place {right : Bool} : ∀ {cols hs : List Int} {f : List (Int × Int)} {r : List Int}, Lay right cols hs f r → ∀ p ∈ f, 0 ≤ p.1 ∧ p.1 < cols.length
  | _, _, _, _, .nil, p, hp => by cases hp
  | _, _, _, _, .cons h t, p, hp => by
    rcases List.mem_cons.mp hp with rfl | hp
    · have := (List.getElem?_eq_some_iff.mp h.at_).1
      dsimp only
      omega
    · have := t.place p hp
      rwa [List.length_set] at this
theorem take_succ_of {l : List Int} {n : Nat} {a : Int} (h : l[n]? = some a) : l.take (n + 1) = l.take n ++ [a] := by
  rw [List.take_add_one, h]
  rfl
/-- the program's lowest column -/
theorem lowest_is (right : Bool) {cols : List Int} (h : cols ≠ []) (hl : cols.length ≤ 1000) : Ok (m_lowest_in cols right) fun p => ∃ i : Nat, p = i ∧ IsLow right cols i := by
  unfold m_lowest_in minR
  rw [Res.need_of h]
  simp only [Res.bind_assoc, Res.bind_ok]
  rw [compR_filter (p := fun x : Int × Int => decide (x.2 = minL cols)) (g := fun x => x.1) (enumL cols) [] (fun a _ => rfl) (by
    have : (enumL cols).length = cols.length := enumL_len _
    show 0 + (enumL cols).length ≤ 16000000
    omega)]
  simp only [Res.bind_ok, List.nil_append]
  generalize hL : ((enumL cols).filter fun x : Int × Int => decide (x.2 = minL cols)).map (fun x => x.1) = L
  have hall : ∀ p ∈ L, ∃ i : Nat, p = i ∧ cols[i]? = some (minL cols) := by
    intro p hp
    rw [← hL] at hp
    obtain ⟨q, hq, rfl⟩ := List.mem_map.mp hp
    have z := enumL_mem (List.mem_filter.mp hq).1
    have hv : q.2 = minL cols := by simpa using (List.mem_filter.mp hq).2
    exact ⟨q.1.toNat, by omega, hv ▸ z.2.2⟩
  have hin : ∀ j : Nat, cols[j]? = some (minL cols) → (j : Int) ∈ L := fun j hj => by
    rw [← hL]
    exact List.mem_map.mpr ⟨_, List.mem_filter.mpr ⟨enumL_of hj, by simp⟩, rfl⟩
  have hsort : L.Pairwise (· < ·) := by
    rw [← hL]
    refine List.Pairwise.map _ (fun a b h => h) (List.Pairwise.filter _ (R := fun a b : Int × Int => a.1 < b.1) ?_)
    rw [List.pairwise_iff_getElem]
    intro i j hi hj hij
    have e1 : (enumL cols)[i]? = some (enumL cols)[i] := List.getElem?_eq_getElem hi
    have e2 : (enumL cols)[j]? = some (enumL cols)[j] := List.getElem?_eq_getElem hj
    rw [enumL_get] at e1 e2
    cases f1 : cols[i]? with
    | none => rw [f1] at e1; simp at e1
    | some a =>
      cases f2 : cols[j]? with
      | none => rw [f2] at e2; simp at e2
      | some b =>
        rw [f1] at e1
        rw [f2] at e2
        simp only [Option.map_some, Option.some.injEq] at e1 e2
        rw [← e1, ← e2]
        show (i : Int) < j
        omega
  obtain ⟨i0, hi0⟩ := List.mem_iff_getElem?.mp (minL_mem h)
  have hne : L ≠ [] := List.ne_nil_of_mem (hin i0 hi0)
  have hpos := List.length_pos_iff.mpr hne
  cases right with
  | true =>
    have e : getI L (-1) = .ok (L[L.length - 1]'(by omega)) := by
      refine getI_some ?_
      unfold atI ixN
      rw [if_neg (by omega), if_pos (by omega)]
      have e : ((-1 : Int) + (L.length : Int)).toNat = L.length - 1 := by omega
      simp only [Option.bind_some]
      rw [e]
      simp
    rw [if_pos rfl, e]
    obtain ⟨i, ei, hi⟩ := hall _ (List.getElem_mem (show L.length - 1 < L.length by omega))
    refine Ok.pure ⟨i, ei, hi, fun j hj => ?_⟩
    obtain ⟨k, hk, ek⟩ := List.getElem_of_mem (hin j hj)
    rw [if_pos rfl]
    by_cases hkl : k = L.length - 1
    · subst hkl
      omega
    · have := List.pairwise_iff_getElem.mp hsort k (L.length - 1) hk (by omega) (by omega)
      omega
  | false =>
    have e : getI L 0 = .ok (L[0]'hpos) := getI_pos (Int.le_refl 0) (by omega)
    rw [if_neg (by decide), e]
    obtain ⟨i, ei, hi⟩ := hall _ (List.getElem_mem hpos)
    refine Ok.pure ⟨i, ei, hi, fun j hj => ?_⟩
    obtain ⟨k, hk, ek⟩ := List.getElem_of_mem (hin j hj)
    rw [if_neg (by decide)]
    by_cases hkl : k = 0
    · subst hkl
      omega
    · have := List.pairwise_iff_getElem.mp hsort 0 k hpos hk (by omega)
      omega
/-- the program's layout -/
theorem laid_lay (right : Bool) {s c : List Int} (hs : s ≠ []) (hs2 : s.length ≤ 1000) (hc : c.length ≤ 1000) : Ok (m_laid s c right 0) fun f => ∃ r, Lay right s c f r := by
  unfold m_laid
  simp only [Res.bind_assoc, Res.bind_ok]
  refine Ok.bind (foldR_at c (fun n (st : List Int × List (Int × Int)) => Lay right s (c.take n) st.2 st.1) _ .nil fun n st size hsz hI => ?_) fun st hI => Ok.pure ⟨st.1, by simpa using hI⟩
  obtain ⟨l1, l2⟩ := hI.len
  have hn : n < c.length := (List.getElem?_eq_some_iff.mp hsz).1
  rw [List.length_take] at l1
  have hne : st.1 ≠ [] := fun e => by
    rw [e] at l2
    exact hs (List.length_eq_zero_iff.mp l2.symm)
  refine Ok.bind (lowest_is right hne (by omega)) fun p ⟨i, e, L⟩ => ?_
  subst e
  rw [getI_nat L.at_]
  simp only [Res.bind_ok]
  refine Ok.bind (Ok.need (by show st.2.length < 16000000; omega) (Ok.of_eq rfl)) fun v e => ?_
  subst e
  have hi := (List.getElem?_eq_some_iff.mp L.at_).1
  rw [setR_pos (by omega) (by omega)]
  simp only [Res.bind_ok]
  refine Ok.pure ?_
  rw [take_succ_of hsz]
  have := Lay.snoc (h := size) hI L
  simpa using this
/-- the heights stay small -/
theorem Lay.bound {right : Bool} {M : Int} (hM : 0 ≤ M) : ∀ {cols hs : List Int} {f : List (Int × Int)} {r : List Int} {B : Int}, Lay right cols hs f r → (∀ x ∈ cols, 0 ≤ x ∧ x ≤ B) → (∀ h ∈ hs, 0 ≤ h ∧ h ≤ M) →
    (∀ p ∈ f, 0 ≤ p.2 ∧ p.2 ≤ B + M * hs.length) ∧ ∀ x ∈ r, 0 ≤ x ∧ x ≤ B + M * hs.length
  | _, _, _, _, B, .nil, hc, _ => ⟨nofun, fun x hx => by have := hc x hx; simp; exact this⟩
  | cols, h :: hs, _, r, B, .cons (i := i) hi t, hc, hh => by
    have hm := hc _ (List.mem_of_getElem? hi.at_)
    have h1 := hh h List.mem_cons_self
    have ih := Lay.bound hM (B := B + M) t (fun x hx => by
      rcases List.mem_or_eq_of_mem_set hx with hx | hx
      · have := hc x hx
        omega
      · omega) fun k hk => hh k (List.mem_cons_of_mem _ hk)
    have e : B + M * ((h :: hs).length : Int) = B + M + M * (hs.length : Int) := by
      rw [List.length_cons]
      push_cast
      rw [Int.mul_add, Int.mul_one]
      omega
    have h0 : 0 ≤ M * (hs.length : Int) := Int.mul_nonneg hM (by omega)
    rw [e]
    refine ⟨fun p hp => ?_, ih.2⟩
    rcases List.mem_cons.mp hp with rfl | hp
    · dsimp only
      omega
    · exact ih.1 p hp
theorem Lay.bnd {right : Bool} {s c : List Int} {f : List (Int × Int)} {r : List Int} (h : Lay right s c f r) (hs : GS s) (hc : GC c) :
    (∀ p ∈ f, 0 ≤ p.2 ∧ p.2 ≤ 1000000000000000000000000000000 * 201) ∧ ∀ x ∈ r, 0 ≤ x ∧ x ≤ 1000000000000000000000000000000 * 201 := by
  have z := h.bound (M := 1000000000000000000000000000000) (by decide) hs.2.2 fun x hx => by have := hc.2 x hx; omega
  have hl := hc.1
  have e : (1000000000000000000000000000000 : Int) * (c.length : Int) ≤ 1000000000000000000000000000000 * 200 := by omega
  exact ⟨fun p hp => by have := z.1 p hp; omega, fun x hx => by have := z.2 x hx; omega⟩
theorem GS.ne {s : List Int} (h : GS s) : s ≠ [] := fun e => by
  have := h.1
  rw [e] at this
  simp at this
theorem laid_ok (right : Bool) {s c : List Int} (h : GS s) (g : GC c) {f : List (Int × Int)} {r : List Int} (hL : Lay right s c f r) : m_laid s c right 0 = .ok f := by
  obtain ⟨f', hf, r', hr⟩ := laid_lay right h.ne (by have := h.2.1; omega) (by have := g.1; omega) (s := s) (c := c)
  obtain ⟨e1, _⟩ := hr.det hL
  subst e1
  exact hf
theorem lay_ex (right : Bool) {s c : List Int} (h : GS s) (g : GC c) : ∃ f r, Lay right s c f r := by
  obtain ⟨f', hf, r', hr⟩ := laid_lay right h.ne (by have := h.2.1; omega) (by have := g.1; omega) (s := s) (c := c)
  exact ⟨_, _, hr⟩
theorem pairs_rp {f : List (Int × Int)} {n : Nat} (h : ∀ p ∈ f, (-(2 ^ 400) < p.1 ∧ p.1 < 2 ^ 400) ∧ (-(2 ^ 400) < p.2 ∧ p.2 < 2 ^ 400)) (hl : f.length ≤ n) : Rp' (.list (f.map dat)) (3 * n + 1) 2 :=
  (RpAll'.map (n := 3) (k := 1) (fun p hp => by
    obtain ⟨⟨h1, h2⟩, h3, h4⟩ := h p hp
    exact RpAll'.tuple (.cons (Rp'.int h1 h2) (.cons (Rp'.int h3 h4) .nil))) hl).list
theorem Lay.rp {right : Bool} {s c : List Int} {f : List (Int × Int)} {r : List Int} (h : Lay right s c f r) (hs : GS s) (hc : GC c) : Rp' (.list (f.map dat)) 601 2 ∧ Rp' (.list (r.map dat)) 31 1 := by
  obtain ⟨b1, b2⟩ := h.bnd hs hc
  have l := h.len
  have hl := hc.1
  have hl2 := hs.2.1
  refine ⟨pairs_rp (n := 200) (fun p hp => ?_) (by omega), (RpAll'.ints (m := 30) (fun x hx => by have := b2 x hx; omega) (by omega)).list⟩
  have h1 := b1 p hp
  have h2 := h.place p hp
  omega
theorem end_fold {right : Bool} : ∀ {cols hs : List Int} {f : List (Int × Int)} {r : List Int}, Lay right cols hs f r → foldR (hs.zip f) cols (fun (s : List Int) (x : Int × (Int × Int)) => (setR s x.2.1 (x.2.2 + x.1)).bind fun r => Res.ok r) = .ok r
  | _, _, _, _, .nil => rfl
  | cols, h :: hs, _, r, .cons (i := i) hi t => by
    have hlt := (List.getElem?_eq_some_iff.mp hi.at_).1
    rw [List.zip_cons_cons]
    unfold foldR
    dsimp only
    rw [setR_pos (by omega) (by omega)]
    simp only [Res.bind_ok, Int.toNat_natCast]
    exact end_fold t
theorem end_in_ok {s c : List Int} (h : GS s) (g : GC c) {f : List (Int × Int)} {r : List Int} (hL : Lay false s c f r) : m_end_in s c = .ok r := by
  unfold m_end_in
  rw [laid_ok false h g hL]
  simp only [Res.bind_ok]
  rw [end_fold hL]
  rfl
theorem end_of_ok {s c : List Int} (h : GS s) (g : GC c) {f : List (Int × Int)} {r : List Int} (hL : Lay false s c f r) : m_end_of s c = .ok r := by
  unfold m_end_of
  rw [check_start_ok h, check_cards_ok g]
  simp only [Res.bind_ok]
  rw [end_in_ok h g hL]
  rfl
/-! the sorted columns -/
theorem sortL_congr {a b : List Int} (h : a.Perm b) : sortL a = sortL b := sort_uniq ((sortL_perm a).trans (h.trans (sortL_perm b).symm)) (sortL_sorted a) (sortL_sorted b)
theorem sortL_id {a : List Int} (h : a.Pairwise (· ≤ ·)) : sortL a = a := sort_uniq (sortL_perm a) (sortL_sorted a) h
theorem sortL_len (a : List Int) : (sortL a).length = a.length := (sortL_perm a).length_eq
theorem sortL_mem {a : List Int} {x : Int} : x ∈ sortL a ↔ x ∈ a := (sortL_perm a).mem_iff
theorem head_le {l : List Int} (h : l.Pairwise (· ≤ ·)) {x : Int} (hx : x ∈ l) : l.headD 0 ≤ x := by
  cases l with
  | nil => cases hx
  | cons a l =>
    rcases List.mem_cons.mp hx with rfl | hx
    · exact Int.le_refl _
    · exact (List.pairwise_cons.mp h).1 x hx
theorem sortL_head {cols : List Int} (h : cols ≠ []) : (sortL cols).headD 0 = minL cols := by
  have hne : sortL cols ≠ [] := fun e => h (List.length_eq_zero_iff.mp (by rw [← sortL_len, e]; rfl))
  have hm : (sortL cols).headD 0 ∈ sortL cols := by
    cases e : sortL cols with
    | nil => exact (hne e).elim
    | cons a l => exact List.mem_cons_self
  exact Int.le_antisymm (head_le (sortL_sorted cols) (sortL_mem.mpr (minL_mem h))) (minL_le (sortL_mem.mp hm))
theorem set_perm' : ∀ (l : List Int) (i : Nat) (v : Int), i < l.length → (l.set i v).Perm (v :: l.eraseIdx i)
  | [], i, v, h => by simp at h
  | x :: l, 0, v, h => List.Perm.refl _
  | x :: l, i + 1, v, h => by
    have ih := set_perm' l i v (by simpa using h)
    rw [List.set_cons_succ, List.eraseIdx_cons_succ]
    exact (List.Perm.cons x ih).trans (List.Perm.swap v x _)
def srtStep (l : List Int) (h : Int) : List Int := sortL ((l.headD 0 + h) :: l.tail)
def srt : List Int → List Int → List Int × List Int
  | l, [] => ([], l)
  | l, h :: hs => (l.headD 0 :: (srt (srtStep l h) hs).1, (srt (srtStep l h) hs).2)
theorem srtStep_len {l : List Int} {h : Int} (hl : l ≠ []) : (srtStep l h).length = l.length := by
  unfold srtStep
  rw [sortL_len]
  cases l with
  | nil => exact (hl rfl).elim
  | cons a l => simp
theorem srtStep_sorted (l : List Int) (h : Int) : (srtStep l h).Pairwise (· ≤ ·) := sortL_sorted _
theorem srtStep_of {cols : List Int} {i : Nat} (h : Int) (hi : cols[i]? = some (minL cols)) : srtStep (sortL cols) h = sortL (cols.set i (minL cols + h)) := by
  have hlt := (List.getElem?_eq_some_iff.mp hi).1
  have hne : cols ≠ [] := fun e => by rw [e] at hlt; simp at hlt
  unfold srtStep
  rw [sortL_head hne]
  refine sortL_congr (List.Perm.trans (List.Perm.cons _ ?_) (set_perm' cols i _ hlt).symm)
  have h1 : (minL cols :: cols.eraseIdx i).Perm (sortL cols) := by
    have h2 := set_perm' cols i (minL cols) hlt
    have e : cols.set i (minL cols) = cols := by
      have := (List.getElem?_eq_some_iff.mp hi).2
      rw [← this]
      exact List.set_getElem_self hlt
    rw [e] at h2
    exact h2.symm.trans (sortL_perm cols).symm
  have e : sortL cols = minL cols :: (sortL cols).tail := by
    have := sortL_head hne
    cases e : sortL cols with
    | nil => rw [e] at h1; exact absurd h1.length_eq (by simp)
    | cons a l =>
      rw [e] at this
      simp at this
      rw [this]
      rfl
  rw [e] at h1
  exact (List.Perm.cons_inv h1).symm
theorem lay_srt {right : Bool} : ∀ {cols hs : List Int} {f : List (Int × Int)} {r : List Int}, cols ≠ [] → Lay right cols hs f r → f.map (·.2) = (srt (sortL cols) hs).1 ∧ sortL r = (srt (sortL cols) hs).2
  | _, _, _, _, hne, .nil => ⟨rfl, rfl⟩
  | cols, h :: hs, _, _, hne, .cons (i := i) hi t => by
    have ih := lay_srt (fun e => hne (List.length_eq_zero_iff.mp (by have := congrArg List.length e; simpa using this))) t
    rw [← srtStep_of h hi.at_] at ih
    unfold srt
    refine ⟨?_, ih.2⟩
    rw [List.map_cons, ih.1, sortL_head hne]
theorem srt_snoc : ∀ (l hs : List Int) (h : Int), srt l (hs ++ [h]) = ((srt l hs).1 ++ [(srt l hs).2.headD 0], srtStep (srt l hs).2 h)
  | l, [], h => rfl
  | l, k :: hs, h => by
    have ih := srt_snoc (srtStep l k) hs h
    rw [List.cons_append]
    unfold srt
    rw [ih]
    rfl
theorem srt_len : ∀ {l hs : List Int}, l ≠ [] → (srt l hs).1.length = hs.length ∧ (srt l hs).2.length = l.length
  | l, [], _ => ⟨rfl, rfl⟩
  | l, h :: hs, hl => by
    have hne : srtStep l h ≠ [] := fun e => hl (List.length_eq_zero_iff.mp (by rw [← srtStep_len (h := h) hl, e]; rfl))
    have ih := srt_len (l := srtStep l h) (hs := hs) hne
    rw [srtStep_len hl] at ih
    unfold srt
    exact ⟨by simp [ih.1], ih.2⟩
theorem srt_sorted : ∀ {l hs : List Int}, l.Pairwise (· ≤ ·) → (srt l hs).2.Pairwise (· ≤ ·)
  | l, [], h => h
  | l, k :: hs, h => by
    unfold srt
    exact srt_sorted (srtStep_sorted l k)
theorem headD_mem {l : List Int} (h : l ≠ []) : l.headD 0 ∈ l := by
  cases l with
  | nil => exact (h rfl).elim
  | cons a l => exact List.mem_cons_self
theorem srt_tops : ∀ {l hs : List Int}, l ≠ [] → l.Pairwise (· ≤ ·) → (∀ h ∈ hs, 0 ≤ h) → (srt l hs).1.Pairwise (· ≤ ·) ∧ ∀ x ∈ (srt l hs).1, l.headD 0 ≤ x
  | l, [], _, _, _ => ⟨List.Pairwise.nil, nofun⟩
  | l, h :: hs, hl, hs2, hh => by
    have hne : srtStep l h ≠ [] := fun e => hl (List.length_eq_zero_iff.mp (by rw [← srtStep_len (h := h) hl, e]; rfl))
    have ih := srt_tops (l := srtStep l h) (hs := hs) hne (srtStep_sorted l h) fun k hk => hh k (List.mem_cons_of_mem _ hk)
    have h0 := hh h List.mem_cons_self
    have hle : l.headD 0 ≤ (srtStep l h).headD 0 := by
      have hm := headD_mem hne
      unfold srtStep at hm ⊢
      rw [sortL_mem] at hm
      rcases List.mem_cons.mp hm with e | e
      · rw [e]
        omega
      · exact head_le hs2 (List.mem_of_mem_tail e)
    unfold srt
    refine ⟨List.pairwise_cons.mpr ⟨fun x hx => Int.le_trans hle (ih.2 x hx), ih.1⟩, fun x hx => ?_⟩
    rcases List.mem_cons.mp hx with rfl | hx
    · exact Int.le_refl _
    · exact Int.le_trans hle (ih.2 x hx)
/-- a number put into a sorted list -/
theorem ins_sorted {tl : List Int} {x : Int} {m : Nat} (h : tl.Pairwise (· ≤ ·)) (h1 : ∀ y ∈ tl.take m, y ≤ x) (h2 : ∀ y ∈ tl.drop m, x ≤ y) : tl.take m ++ [x] ++ tl.drop m = sortL (x :: tl) := by
  refine (sort_uniq ((sortL_perm _).trans ?_) (sortL_sorted _) ?_).symm
  · have : (x :: tl).Perm (tl.take m ++ x :: tl.drop m) := by
      refine List.Perm.trans (List.Perm.cons x ?_) List.perm_middle.symm
      rw [List.take_append_drop]
    simpa using this
  · have e : tl.take m ++ tl.drop m = tl := List.take_append_drop m tl
    have hp : (tl.take m ++ tl.drop m).Pairwise (· ≤ ·) := by rw [e]; exact h
    rw [List.pairwise_append] at hp
    rw [List.append_assoc, List.pairwise_append]
    refine ⟨hp.1, ?_, fun a ha b hb => ?_⟩
    · exact List.pairwise_cons.mpr ⟨h2, hp.2.1⟩
    · rcases List.mem_append.mp hb with hb | hb
      · simp at hb
        subst hb
        exact h1 a ha
      · exact hp.2.2 a ha b hb
theorem whileR_ok {σ ρ : Type} {t : σ → Res Bool} {f : σ → Res (Lp σ ρ)} (I Q : σ → Prop) (μ : σ → Nat) (hs : ∀ s, I s → Ok (t s) fun b => if b then Ok (f s) (fun c => ∃ s', c = .next s' ∧ I s' ∧ μ s' < μ s) else Q s) :
    ∀ (n : Nat) (s : σ), I s → μ s < n → Ok (whileR n s t f) fun r => ∃ s', r = .go s' ∧ Q s'
  | 0, s, _, h => by omega
  | n + 1, s, hI, hm => by
    unfold whileR
    refine Ok.bind (hs s hI) fun b hb => ?_
    cases b with
    | false => exact Ok.pure ⟨s, rfl, hb⟩
    | true =>
      rw [if_pos rfl]
      refine Ok.bind hb fun c ⟨s', e, h1, h2⟩ => ?_
      subst e
      exact whileR_ok I Q μ hs n s' h1 (by omega)
theorem eqvAll_ints : ∀ l : List Int, PyData.eqvAll (l.map dat) (l.map dat) = true
  | [] => rfl
  | x :: l => by
    have ih := eqvAll_ints l
    simp only [List.map_cons, PySem.W.eqv_all_cons, ih, Bool.and_true]
    show PyData.eqv (.int x) (.int x) = true
    simp [PyData.eqv]
theorem eqD_same (l : List Int) : eqD l l = true := by
  unfold eqD
  show PyData.eqv (.list (l.map dat)) (.list (l.map dat)) = true
  rw [PyData.eqv]
  exact eqvAll_ints l
theorem eqD_two (a b : List Int) : eqD ([a, b] : List (List Int)) ([a, b] : List (List Int)) = true := by
  have h1 := eqD_same a
  have h2 := eqD_same b
  unfold eqD at h1 h2 ⊢
  show PyData.eqv (.list [dat a, dat b]) (.list [dat a, dat b]) = true
  rw [PyData.eqv, PySem.W.eqv_all_cons, PySem.W.eqv_all_cons, h1, h2]
  rfl
theorem GS.perm {s o : List Int} (h : GS s) (p : o.Perm s) : GS o := ⟨by rw [p.length_eq]; exact h.1, by rw [p.length_eq]; exact h.2.1, fun n hn => h.2.2 n (p.mem_iff.mp hn)⟩
/-- the same things in another order -/
theorem mixed_ok {k : Nat} {pool things : List Int} (h : Pl k pool) (hk : k < 2 ^ 38) (hl : things.length ≤ 1000) : Ok (m__law_mixed pool things) fun r => r.1.Perm things ∧ Pl (k + 1000) r.2 := by
  unfold m__law_mixed
  refine Ok.noErr ?_
  rw [rangeR_ok (by omega) (by omega) (by omega) (by omega)]
  simp only [Res.bind_assoc, Res.bind_ok]
  have len : (rangeL 0 (things.length : Int)).length = things.length := by rw [rangeL_len]; omega
  refine Ok.bind ((compR_ok (fun i (acc : List Int) (st : List Int × List Int) => Pl (k + i) st.1 ∧ (acc ++ st.2).Perm things ∧ acc.length = i) (rangeL 0 (things.length : Int)) (pool, things) [] 0 ⟨h, List.Perm.refl _, rfl⟩ (by
    show 0 + (rangeL 0 (things.length : Int)).length ≤ 16000000
    omega) fun i st acc x hx _ hi ⟨s1, s2, s3⟩ => ?_)) fun r ⟨r1, r2, r3⟩ => ?_
  · rw [len] at hi
    have hlen := s2.length_eq
    rw [List.length_append] at hlen
    refine Ok.bind (draw_ok s1 (by omega) (by omega) (by omega)) fun q ⟨q1, q2, q3⟩ => ?_
    have hq : q.1.toNat < st.2.length := by omega
    have hp : popR st.2 q.1 = .ok (st.2[q.1.toNat]'hq, st.2.eraseIdx q.1.toNat) := by
      unfold popR ixN
      rw [Res.need_of (by show st.2.length ≤ 16000000; omega), if_pos q1, if_pos (by omega)]
      dsimp only
      rw [List.getElem?_eq_getElem hq]
    rw [hp]
    simp only [Res.bind_ok]
    refine Ok.pure ⟨q3.le (by omega), ?_, by simp [s3]⟩
    refine List.Perm.trans ?_ s2
    rw [List.append_assoc]
    refine List.Perm.append_left _ ?_
    have h2 := set_perm' st.2 q.1.toNat (st.2[q.1.toNat]'hq) hq
    rw [List.set_getElem_self] at h2
    exact h2.symm
  · rw [len] at r1 r3
    refine Ok.pure ⟨?_, r1.le (by omega)⟩
    have hlen := r2.length_eq
    rw [List.length_append] at hlen
    have e : r.2.2 = [] := List.length_eq_zero_iff.mp (by omega)
    rw [e, List.append_nil] at r2
    exact r2
theorem sorted_ok {s c : List Int} (h : GS s) (g : GC c) : m__law_sorted s c = .ok (srt (sortL s) c) := by
  have hne := h.ne
  have hl2 := h.2.1
  have hc := g.1
  have hsne : sortL s ≠ [] := fun e => hne (List.length_eq_zero_iff.mp (by rw [← sortL_len, e]; rfl))
  refine Ok.eq ?_
  unfold m__law_sorted
  simp only [Res.bind_assoc, Res.bind_ok]
  refine Ok.bind (foldR_at c (fun n (st : List Int × List Int) => st.1 = (srt (sortL s) (c.take n)).2 ∧ st.2 = (srt (sortL s) (c.take n)).1) _ ⟨rfl, rfl⟩ fun n st size hsz ⟨i1, i2⟩ => ?_) fun st ⟨i1, i2⟩ => Ok.pure (by
    rw [List.take_length] at i1 i2
    rw [i1, i2])
  have hn : n < c.length := (List.getElem?_eq_some_iff.mp hsz).1
  obtain ⟨l1, l2⟩ := srt_len (l := sortL s) (hs := c.take n) hsne
  rw [← i2, List.length_take] at l1
  rw [← i1, sortL_len] at l2
  have hsort : st.1.Pairwise (· ≤ ·) := i1 ▸ srt_sorted (sortL_sorted s)
  have hstne : st.1 ≠ [] := fun e => by
    rw [e] at l2
    exact hne (List.length_eq_zero_iff.mp l2.symm)
  have hpos := List.length_pos_iff.mpr hstne
  obtain ⟨a, tl, est⟩ : ∃ a tl, st.1 = a :: tl := by
    cases e : st.1 with
    | nil => exact (hstne e).elim
    | cons a l => exact ⟨a, l, rfl⟩
  have hget : getI st.1 0 = .ok a := by
    rw [est]
    exact getI_nat (xs := a :: tl) (i := 0) rfl
  rw [hget]
  simp only [Res.bind_ok]
  rw [Res.need_of (by show st.2.length < 16000000; omega)]
  simp only [Res.bind_ok]
  have htl : tl.Pairwise (· ≤ ·) := by
    rw [est] at hsort
    exact (List.pairwise_cons.mp hsort).2
  have hlen : st.1.length = tl.length + 1 := by rw [est]; rfl
  refine sq_ok (whileR_ok (fun j : Int => 1 ≤ j ∧ j ≤ st.1.length ∧ ∀ y ∈ tl.take (j.toNat - 1), y ≤ a + size) (fun j : Int => 1 ≤ j ∧ j ≤ st.1.length ∧ (∀ y ∈ tl.take (j.toNat - 1), y ≤ a + size) ∧ ∀ y ∈ tl.drop (j.toNat - 1), a + size ≤ y) (fun j => st.1.length - j.toNat) (fun j ⟨j1, j2, j3⟩ => ?_) fuelN 1 ⟨by decide, by omega, by simp⟩ (by show _ < 100000; omega)) fun j ⟨j1, j2, j3, j4⟩ => ?_
  · by_cases hj : j < st.1.length
    · rw [if_pos (decide_eq_true hj), getI_pos (by omega) hj]
      simp only [Res.bind_ok]
      have hjt : j.toNat - 1 < tl.length := by omega
      have ej : st.1[j.toNat]'(by omega) = tl[j.toNat - 1]'hjt := by
        have : st.1[j.toNat]? = tl[j.toNat - 1]? := by
          rw [est]
          have e : j.toNat = (j.toNat - 1) + 1 := by omega
          rw [e, List.getElem?_cons_succ]
          simp
        rw [List.getElem?_eq_getElem (by omega), List.getElem?_eq_getElem hjt] at this
        exact Option.some.inj this
      rw [ej]
      refine Ok.pure ?_
      by_cases hb : tl[j.toNat - 1]'hjt < a + size
      · rw [if_pos (decide_eq_true hb)]
        refine Ok.pure ⟨_, rfl, ⟨by omega, by omega, fun y hy => ?_⟩, by omega⟩
        have e : (j + 1).toNat - 1 = (j.toNat - 1) + 1 := by omega
        rw [e, List.take_add_one, List.getElem?_eq_getElem hjt] at hy
        rcases List.mem_append.mp hy with hy | hy
        · exact j3 y hy
        · simp at hy
          omega
      · rw [if_neg (by simpa using hb)]
        refine ⟨j1, j2, j3, fun y hy => ?_⟩
        rw [List.drop_eq_getElem_cons hjt] at hy
        rcases List.mem_cons.mp hy with rfl | hy
        · omega
        · have hp : (tl.drop (j.toNat - 1)).Pairwise (· ≤ ·) := List.Pairwise.sublist (List.drop_sublist _ _) htl
          rw [List.drop_eq_getElem_cons hjt] at hp
          have := (List.pairwise_cons.mp hp).1 y hy
          omega
    · rw [if_neg (by simpa using hj)]
      refine Ok.pure ?_
      rw [if_neg (by decide)]
      refine ⟨j1, j2, j3, fun y hy => ?_⟩
      rw [List.drop_of_length_le (by omega)] at hy
      cases hy
  · rw [cutL_mid st.1 (by decide) j1, cutL_from st.1 (by omega)]
    have e1 : (st.1.drop (1 : Int).toNat).take (j.toNat - (1 : Int).toNat) = tl.take (j.toNat - 1) := by
      rw [est]
      rfl
    have e2 : st.1.drop j.toNat = tl.drop (j.toNat - 1) := by
      rw [est]
      have e : j.toNat = (j.toNat - 1) + 1 := by omega
      rw [e, List.drop_succ_cons]
      simp
    rw [e1, e2]
    have t1 : (tl.take (j.toNat - 1)).length ≤ tl.length := by rw [List.length_take]; omega
    have t2 : (tl.drop (j.toNat - 1)).length ≤ tl.length := by rw [List.length_drop]; omega
    rw [catR_ok (by show (tl.take (j.toNat - 1)).length + 1 ≤ 16000000; omega)]
    simp only [Res.bind_ok]
    rw [catR_ok (by rw [List.length_append]; show (tl.take (j.toNat - 1)).length + 1 + (tl.drop (j.toNat - 1)).length ≤ 16000000; omega)]
    simp only [Res.bind_ok]
    refine Ok.pure ?_
    rw [take_succ_of hsz, srt_snoc, ← i1, ← i2]
    refine ⟨?_, ?_⟩
    · show tl.take (j.toNat - 1) ++ [a + size] ++ tl.drop (j.toNat - 1) = srtStep st.1 size
      rw [ins_sorted htl j3 j4]
      unfold srtStep
      rw [est]
      rfl
    · show st.2 ++ [a] = st.2 ++ [st.1.headD 0]
      rw [est]
      rfl
theorem tops_of_ok {s c : List Int} (h : GS s) (g : GC c) : m_tops_of s c = .ok (srt (sortL s) c).1 := by
  obtain ⟨f, r, L⟩ := lay_ex false h g
  have hf := L.len
  have hc := g.1
  unfold m_tops_of m_tops_in
  rw [check_start_ok h, check_cards_ok g]
  simp only [Res.bind_ok]
  rw [laid_ok false h g L]
  simp only [Res.bind_ok]
  rw [compR_map (g := fun x : Int × Int => x.2) f [] (fun _ _ => rfl) (by show 0 + f.length ≤ 16000000; omega)]
  simp only [Res.bind_ok, List.nil_append]
  rw [← (lay_srt h.ne L).1]
theorem end_of_srt {s c : List Int} (h : GS s) (g : GC c) : ∃ r, m_end_of s c = .ok r ∧ sortL r = (srt (sortL s) c).2 := by
  obtain ⟨f, r, L⟩ := lay_ex false h g
  exact ⟨r, end_of_ok h g L, (lay_srt h.ne L).2⟩
theorem poke_ok (T : List Int) (h : T.length ≤ 200) : pokeIx ([(T.map dat), (T.map dat)] : List (List PyData)) 0 = .ok () := by
  unfold pokeIx
  rw [List.getElem?_cons_zero]
  refine Res.need_of ?_
  rw [List.length_map]
  show T.length < 16000000
  omega
theorem right_true {s o c : List Int} (h : GS s) (p : o.Perm s) (g : GC c) : m__law_right s o c = .ok true := by
  have ho := h.perm p
  have hc := g.1
  have hso : sortL o = sortL s := sortL_congr p
  have h1 := RpAll'.ints (xs := s) (m := 30) (fun x hx => by have := h.2.2 x hx; omega) h.2.1
  have h2 := RpAll'.ints (xs := o) (m := 30) (fun x hx => by have := ho.2.2 x hx; omega) ho.2.1
  have h3 := RpAll'.ints (xs := c) (m := 200) (fun x hx => by have := g.2 x hx; omega) g.1
  obtain ⟨t, ht⟩ : ∃ t, reprR (.list [(PyData.list (s.map dat)), (PyData.list (o.map dat)), (PyData.list (c.map dat))]) = .ok t := ⟨_, (RpAll'.list (.cons h1.list (.cons h2.list (.cons h3.list .nil)))).ok (by decide) (by decide)⟩
  obtain ⟨r1, e1, q1⟩ := end_of_srt h g
  obtain ⟨r2, e2, q2⟩ := end_of_srt ho g
  have t1 := tops_of_ok h g
  have t2 := tops_of_ok ho g
  rw [hso] at t2 q2
  have hsne : sortL s ≠ [] := fun e => h.ne (List.length_eq_zero_iff.mp (by rw [← sortL_len, e]; rfl))
  have hl := (srt_len (l := sortL s) (hs := c) hsne).1
  have hs := (srt_tops (hs := c) hsne (sortL_sorted s) fun x hx => by have := g.2 x hx; omega).1
  have hsd := sorted_ok h g
  obtain ⟨f, r, L⟩ := lay_ex false h g
  have hb := L.bnd h g
  have htop : ∀ x ∈ (srt (sortL s) c).1, 0 ≤ x ∧ x ≤ 1000000000000000000000000000000 * 201 := fun x hx => by
    rw [← (lay_srt h.ne L).1] at hx
    obtain ⟨q, hq, rfl⟩ := List.mem_map.mp hx
    exact hb.1 q hq
  generalize hT : (srt (sortL s) c).1 = T at *
  generalize hE : (srt (sortL s) c).2 = Ed at *
  have hpair : srt (sortL s) c = (T, Ed) := by rw [← hT, ← hE]
  have h4 := RpAll'.ints (xs := T) (m := 200) (fun x hx => by have := htop x hx; omega) (by omega)
  obtain ⟨u, hu⟩ : ∃ u, reprR (.list [(PyData.list (T.map dat)), (PyData.list (T.map dat))]) = .ok u := ⟨_, (RpAll'.list (.cons h4.list (.cons h4.list .nil))).ok (by decide) (by decide)⟩
  obtain ⟨v, hv⟩ : ∃ v, reprR (PyData.list (T.map dat)) = .ok v := ⟨_, h4.list.ok (by decide) (by decide)⟩
  refine Ok.eq ?_
  unfold m__law_right m_tops_of_s1
  rw [ht, hsd, hpair, t1, t2, e1, e2]
  (repeat (with_reducible first | refine Ok.assoc ?_ | refine Ok.okb ?_); try dsimp only)
  refine Ok.bind (Ok.of_eq hu) fun w e => ?_
  subst e
  (repeat (with_reducible first | refine Ok.assoc ?_ | refine Ok.okb ?_); try dsimp only)
  refine Ok.bind (Ok.of_eq hu) fun w e => ?_
  subst e
  (repeat (with_reducible first | refine Ok.assoc ?_ | refine Ok.okb ?_); try dsimp only)
  rw [if_neg (by simp)]
  (repeat (with_reducible first | refine Ok.assoc ?_ | refine Ok.okb ?_); try dsimp only)
  rw [sortL_id hs, eqD_same, if_neg (by decide)]
  rw [poke_ok T (by omega)]
  (repeat (with_reducible first | refine Ok.assoc ?_ | refine Ok.okb ?_); try dsimp only)
  rw [q1, q2, eqD_two, if_neg (by decide)]
  (repeat (with_reducible first | refine Ok.assoc ?_ | refine Ok.okb ?_); try dsimp only)
  refine Ok.bind (Ok.of_eq hv) fun w e => ?_
  subst e
  (repeat (with_reducible first | refine Ok.assoc ?_ | refine Ok.okb ?_); try dsimp only)
  refine Ok.bind (Ok.of_eq hv) fun w e => ?_
  subst e
  (repeat (with_reducible first | refine Ok.assoc ?_ | refine Ok.okb ?_); try dsimp only)
  rw [if_pos (decide_eq_true rfl)]
  (repeat (with_reducible first | refine Ok.assoc ?_ | refine Ok.okb ?_); try dsimp only)
  exact Ok.pure (decide_eq_true rfl)
theorem law_true (ns : List Int) (h : ns.length ≤ 63) : m_law ns = .ok true := by
  refine Ok.eq ?_
  unfold m_law
  rw [rangeR_ok (by omega) (by omega) (by omega) (by omega)]
  refine sq_ok (P := fun _ => True) (Ok.okb (forR_ok (fun _ => True) _ _ trivial fun _ k hk _ => ?_)) fun _ _ => Ok.pure rfl
  obtain ⟨k0, k1⟩ := mem_range hk
  (repeat (with_reducible first | refine Ok.assoc ?_ | refine Ok.okb ?_); try dsimp only)
  refine Ok.bind (cell_ok ns k k0) fun cell _ => ?_
  (repeat (with_reducible first | refine Ok.assoc ?_ | refine Ok.okb ?_); try dsimp only)
  refine Ok.bind (pool_ok cell k (by omega) (by omega)) fun pool hp => ?_
  rw [rangeR_ok (by omega) (by omega) (by omega) (by omega)]
  refine sq_ok (P := fun _ => True) (Ok.okb ((forR_idx (fun i s => Pl (3100 * i) s) (rangeL 0 2) pool 0 (hp.le (by omega)) fun i s a hi hs => ?_).imp fun r ⟨s, e, _⟩ => ⟨s, e, trivial⟩)) fun s _ => Ok.pure ⟨_, rfl, trivial⟩
  have len : (rangeL 0 2).length = 2 := rfl
  rw [len] at hi
  (repeat (with_reducible first | refine Ok.assoc ?_ | refine Ok.okb ?_); try dsimp only)
  refine Ok.bind (begun_ok ns hs (by omega)) fun b ⟨hb, hb2⟩ => ?_
  (repeat (with_reducible first | refine Ok.assoc ?_ | refine Ok.okb ?_); try dsimp only)
  refine Ok.bind (cards_ok ns hb2 (by omega)) fun c ⟨hc, hc2⟩ => ?_
  (repeat (with_reducible first | refine Ok.assoc ?_ | refine Ok.okb ?_); try dsimp only)
  have hbl := hb.2.1
  refine Ok.bind (mixed_ok hc2 (by omega) (by omega)) fun o ⟨ho, ho2⟩ => ?_
  (repeat (with_reducible first | refine Ok.assoc ?_ | refine Ok.okb ?_); try dsimp only)
  rw [right_true hb ho hc]
  (repeat (with_reducible first | refine Ok.assoc ?_ | refine Ok.okb ?_); try dsimp only)
  simp only [Bool.not_true, Bool.false_eq_true, if_false]
  have hrev : GC c.1.reverse := ⟨by rw [List.length_reverse]; exact hc.1, fun n hn => hc.2 n (List.mem_reverse.mp hn)⟩
  rw [right_true hb (List.reverse_perm _) hrev]
  (repeat (with_reducible first | refine Ok.assoc ?_ | refine Ok.okb ?_); try dsimp only)
  simp only [Bool.not_true, Bool.false_eq_true, if_false]
  exact Ok.pure ⟨_, rfl, ho2.le (by omega)⟩
section
theorem all_mk {l : PySem.W.OpenLaw} {w : World} {K : PySem.W.Frag} {h : Heap} {mg : Str → Option Value} {fa f_is_integer f_is_start f_is_cards f_check_start f_check_cards f_lowest_in f_laid f_tops_in f_end_in f_tops_of f_end_of f__law_cell_at f__law_pool f__law_draw f__law_begun f__law_cards f__law_mixed f__law_sorted f__law_right f_law : Addr} (X : K.In h) (G : h.Ns mainGlobals mg) (hfa : mg "law" = some (.ref fa))
    (hm : ∀ ns : List Int, ns.length ≤ 63 → m_law ns = .ok true)
    {od_is_integer an_is_integer : Option Addr} {sl_is_integer : Array (Option Value)} {oc_is_integer kV_is_integer dc_is_integer pm_is_integer cd_is_integer ct_is_integer : Value}
    {od_is_start an_is_start : Option Addr} {sl_is_start : Array (Option Value)} {oc_is_start kV_is_start dc_is_start pm_is_start cd_is_start ct_is_start : Value}
    {od_is_cards an_is_cards : Option Addr} {sl_is_cards : Array (Option Value)} {oc_is_cards kV_is_cards dc_is_cards pm_is_cards cd_is_cards ct_is_cards : Value}
    {od_check_start an_check_start : Option Addr} {sl_check_start : Array (Option Value)} {oc_check_start kV_check_start dc_check_start pm_check_start cd_check_start ct_check_start : Value}
    {od_check_cards an_check_cards : Option Addr} {sl_check_cards : Array (Option Value)} {oc_check_cards kV_check_cards dc_check_cards pm_check_cards cd_check_cards ct_check_cards : Value}
    {od_lowest_in an_lowest_in : Option Addr} {sl_lowest_in : Array (Option Value)} {oc_lowest_in kV_lowest_in dc_lowest_in pm_lowest_in cd_lowest_in ct_lowest_in : Value}
    {od_laid an_laid : Option Addr} {sl_laid : Array (Option Value)} {oc_laid kV_laid dc_laid pm_laid cd_laid ct_laid : Value}
    {od_tops_in an_tops_in : Option Addr} {sl_tops_in : Array (Option Value)} {oc_tops_in kV_tops_in dc_tops_in pm_tops_in cd_tops_in ct_tops_in : Value}
    {od_end_in an_end_in : Option Addr} {sl_end_in : Array (Option Value)} {oc_end_in kV_end_in dc_end_in pm_end_in cd_end_in ct_end_in : Value}
    {od_tops_of an_tops_of : Option Addr} {sl_tops_of : Array (Option Value)} {oc_tops_of kV_tops_of dc_tops_of pm_tops_of cd_tops_of ct_tops_of : Value}
    {od_end_of an_end_of : Option Addr} {sl_end_of : Array (Option Value)} {oc_end_of kV_end_of dc_end_of pm_end_of cd_end_of ct_end_of : Value}
    {od__law_cell_at an__law_cell_at : Option Addr} {sl__law_cell_at : Array (Option Value)} {oc__law_cell_at kV__law_cell_at dc__law_cell_at pm__law_cell_at cd__law_cell_at ct__law_cell_at : Value}
    {od__law_pool an__law_pool : Option Addr} {sl__law_pool : Array (Option Value)} {oc__law_pool kV__law_pool dc__law_pool pm__law_pool cd__law_pool ct__law_pool : Value}
    {od__law_draw an__law_draw : Option Addr} {sl__law_draw : Array (Option Value)} {oc__law_draw kV__law_draw dc__law_draw pm__law_draw cd__law_draw ct__law_draw : Value}
    {od__law_begun an__law_begun : Option Addr} {sl__law_begun : Array (Option Value)} {oc__law_begun kV__law_begun dc__law_begun pm__law_begun cd__law_begun ct__law_begun : Value}
    {od__law_cards an__law_cards : Option Addr} {sl__law_cards : Array (Option Value)} {oc__law_cards kV__law_cards dc__law_cards pm__law_cards cd__law_cards ct__law_cards : Value}
    {od__law_mixed an__law_mixed : Option Addr} {sl__law_mixed : Array (Option Value)} {oc__law_mixed kV__law_mixed dc__law_mixed pm__law_mixed cd__law_mixed ct__law_mixed : Value}
    {od__law_sorted an__law_sorted : Option Addr} {sl__law_sorted : Array (Option Value)} {oc__law_sorted kV__law_sorted dc__law_sorted pm__law_sorted cd__law_sorted ct__law_sorted : Value}
    {od__law_right an__law_right : Option Addr} {sl__law_right : Array (Option Value)} {oc__law_right kV__law_right dc__law_right pm__law_right cd__law_right ct__law_right : Value}
    {od_law an_law : Option Addr} {sl_law : Array (Option Value)} {oc_law kV_law dc_law pm_law cd_law ct_law : Value}
    (a_is_integer : PySem.W.nsIn K mainGlobals "is_integer" = some (some (.ref f_is_integer))) (l_is_integer : K.lookup f_is_integer = some ⟨oc_is_integer, od_is_integer, .func (PySem.W.fnOf "is_integer" "is_integer" (defArgs s_is_integer) (defBody s_is_integer) (defScope s_is_integer) .none kV_is_integer dc_is_integer pm_is_integer an_is_integer cd_is_integer ct_is_integer), sl_is_integer⟩) (c_is_integer : PySem.W.codeIn K cd_is_integer "is_integer" = true) (k_is_integer : PySem.W.keepIn K (.ref f_is_integer) = true)
    (a_is_start : PySem.W.nsIn K mainGlobals "is_start" = some (some (.ref f_is_start))) (l_is_start : K.lookup f_is_start = some ⟨oc_is_start, od_is_start, .func (PySem.W.fnOf "is_start" "is_start" (defArgs s_is_start) (defBody s_is_start) (defScope s_is_start) .none kV_is_start dc_is_start pm_is_start an_is_start cd_is_start ct_is_start), sl_is_start⟩) (c_is_start : PySem.W.codeIn K cd_is_start "is_start" = true) (k_is_start : PySem.W.keepIn K (.ref f_is_start) = true)
    (a_is_cards : PySem.W.nsIn K mainGlobals "is_cards" = some (some (.ref f_is_cards))) (l_is_cards : K.lookup f_is_cards = some ⟨oc_is_cards, od_is_cards, .func (PySem.W.fnOf "is_cards" "is_cards" (defArgs s_is_cards) (defBody s_is_cards) (defScope s_is_cards) .none kV_is_cards dc_is_cards pm_is_cards an_is_cards cd_is_cards ct_is_cards), sl_is_cards⟩) (c_is_cards : PySem.W.codeIn K cd_is_cards "is_cards" = true) (k_is_cards : PySem.W.keepIn K (.ref f_is_cards) = true)
    (a_check_start : PySem.W.nsIn K mainGlobals "check_start" = some (some (.ref f_check_start))) (l_check_start : K.lookup f_check_start = some ⟨oc_check_start, od_check_start, .func (PySem.W.fnOf "check_start" "check_start" (defArgs s_check_start) (defBody s_check_start) (defScope s_check_start) .none kV_check_start dc_check_start pm_check_start an_check_start cd_check_start ct_check_start), sl_check_start⟩) (c_check_start : PySem.W.codeIn K cd_check_start "check_start" = true) (k_check_start : PySem.W.keepIn K (.ref f_check_start) = true)
    (a_check_cards : PySem.W.nsIn K mainGlobals "check_cards" = some (some (.ref f_check_cards))) (l_check_cards : K.lookup f_check_cards = some ⟨oc_check_cards, od_check_cards, .func (PySem.W.fnOf "check_cards" "check_cards" (defArgs s_check_cards) (defBody s_check_cards) (defScope s_check_cards) .none kV_check_cards dc_check_cards pm_check_cards an_check_cards cd_check_cards ct_check_cards), sl_check_cards⟩) (c_check_cards : PySem.W.codeIn K cd_check_cards "check_cards" = true) (k_check_cards : PySem.W.keepIn K (.ref f_check_cards) = true)
    (a_lowest_in : PySem.W.nsIn K mainGlobals "lowest_in" = some (some (.ref f_lowest_in))) (l_lowest_in : K.lookup f_lowest_in = some ⟨oc_lowest_in, od_lowest_in, .func (PySem.W.fnOf "lowest_in" "lowest_in" (defArgs s_lowest_in) (defBody s_lowest_in) (defScope s_lowest_in) .none kV_lowest_in dc_lowest_in pm_lowest_in an_lowest_in cd_lowest_in ct_lowest_in), sl_lowest_in⟩) (c_lowest_in : PySem.W.codeIn K cd_lowest_in "lowest_in" = true) (k_lowest_in : PySem.W.keepIn K (.ref f_lowest_in) = true)
    (a_laid : PySem.W.nsIn K mainGlobals "laid" = some (some (.ref f_laid))) (l_laid : K.lookup f_laid = some ⟨oc_laid, od_laid, .func (PySem.W.fnOf "laid" "laid" (defArgs s_laid) (defBody s_laid) (defScope s_laid) .none kV_laid dc_laid pm_laid an_laid cd_laid ct_laid), sl_laid⟩) (c_laid : PySem.W.codeIn K cd_laid "laid" = true) (k_laid : PySem.W.keepIn K (.ref f_laid) = true)
    (a_tops_in : PySem.W.nsIn K mainGlobals "tops_in" = some (some (.ref f_tops_in))) (l_tops_in : K.lookup f_tops_in = some ⟨oc_tops_in, od_tops_in, .func (PySem.W.fnOf "tops_in" "tops_in" (defArgs s_tops_in) (defBody s_tops_in) (defScope s_tops_in) .none kV_tops_in dc_tops_in pm_tops_in an_tops_in cd_tops_in ct_tops_in), sl_tops_in⟩) (c_tops_in : PySem.W.codeIn K cd_tops_in "tops_in" = true) (k_tops_in : PySem.W.keepIn K (.ref f_tops_in) = true)
    (a_end_in : PySem.W.nsIn K mainGlobals "end_in" = some (some (.ref f_end_in))) (l_end_in : K.lookup f_end_in = some ⟨oc_end_in, od_end_in, .func (PySem.W.fnOf "end_in" "end_in" (defArgs s_end_in) (defBody s_end_in) (defScope s_end_in) .none kV_end_in dc_end_in pm_end_in an_end_in cd_end_in ct_end_in), sl_end_in⟩) (c_end_in : PySem.W.codeIn K cd_end_in "end_in" = true) (k_end_in : PySem.W.keepIn K (.ref f_end_in) = true)
    (a_tops_of : PySem.W.nsIn K mainGlobals "tops_of" = some (some (.ref f_tops_of))) (l_tops_of : K.lookup f_tops_of = some ⟨oc_tops_of, od_tops_of, .func (PySem.W.fnOf "tops_of" "tops_of" (defArgs s_tops_of) (defBody s_tops_of) (defScope s_tops_of) .none kV_tops_of dc_tops_of pm_tops_of an_tops_of cd_tops_of ct_tops_of), sl_tops_of⟩) (c_tops_of : PySem.W.codeIn K cd_tops_of "tops_of" = true) (k_tops_of : PySem.W.keepIn K (.ref f_tops_of) = true)
    (a_end_of : PySem.W.nsIn K mainGlobals "end_of" = some (some (.ref f_end_of))) (l_end_of : K.lookup f_end_of = some ⟨oc_end_of, od_end_of, .func (PySem.W.fnOf "end_of" "end_of" (defArgs s_end_of) (defBody s_end_of) (defScope s_end_of) .none kV_end_of dc_end_of pm_end_of an_end_of cd_end_of ct_end_of), sl_end_of⟩) (c_end_of : PySem.W.codeIn K cd_end_of "end_of" = true) (k_end_of : PySem.W.keepIn K (.ref f_end_of) = true)
    (a__law_cell_at : PySem.W.nsIn K mainGlobals "_law_cell_at" = some (some (.ref f__law_cell_at))) (l__law_cell_at : K.lookup f__law_cell_at = some ⟨oc__law_cell_at, od__law_cell_at, .func (PySem.W.fnOf "_law_cell_at" "_law_cell_at" (defArgs s__law_cell_at) (defBody s__law_cell_at) (defScope s__law_cell_at) .none kV__law_cell_at dc__law_cell_at pm__law_cell_at an__law_cell_at cd__law_cell_at ct__law_cell_at), sl__law_cell_at⟩) (c__law_cell_at : PySem.W.codeIn K cd__law_cell_at "_law_cell_at" = true) (k__law_cell_at : PySem.W.keepIn K (.ref f__law_cell_at) = true)
    (a__law_pool : PySem.W.nsIn K mainGlobals "_law_pool" = some (some (.ref f__law_pool))) (l__law_pool : K.lookup f__law_pool = some ⟨oc__law_pool, od__law_pool, .func (PySem.W.fnOf "_law_pool" "_law_pool" (defArgs s__law_pool) (defBody s__law_pool) (defScope s__law_pool) .none kV__law_pool dc__law_pool pm__law_pool an__law_pool cd__law_pool ct__law_pool), sl__law_pool⟩) (c__law_pool : PySem.W.codeIn K cd__law_pool "_law_pool" = true) (k__law_pool : PySem.W.keepIn K (.ref f__law_pool) = true)
    (a__law_draw : PySem.W.nsIn K mainGlobals "_law_draw" = some (some (.ref f__law_draw))) (l__law_draw : K.lookup f__law_draw = some ⟨oc__law_draw, od__law_draw, .func (PySem.W.fnOf "_law_draw" "_law_draw" (defArgs s__law_draw) (defBody s__law_draw) (defScope s__law_draw) .none kV__law_draw dc__law_draw pm__law_draw an__law_draw cd__law_draw ct__law_draw), sl__law_draw⟩) (c__law_draw : PySem.W.codeIn K cd__law_draw "_law_draw" = true) (k__law_draw : PySem.W.keepIn K (.ref f__law_draw) = true)
    (a__law_begun : PySem.W.nsIn K mainGlobals "_law_begun" = some (some (.ref f__law_begun))) (l__law_begun : K.lookup f__law_begun = some ⟨oc__law_begun, od__law_begun, .func (PySem.W.fnOf "_law_begun" "_law_begun" (defArgs s__law_begun) (defBody s__law_begun) (defScope s__law_begun) .none kV__law_begun dc__law_begun pm__law_begun an__law_begun cd__law_begun ct__law_begun), sl__law_begun⟩) (c__law_begun : PySem.W.codeIn K cd__law_begun "_law_begun" = true) (k__law_begun : PySem.W.keepIn K (.ref f__law_begun) = true)
    (a__law_cards : PySem.W.nsIn K mainGlobals "_law_cards" = some (some (.ref f__law_cards))) (l__law_cards : K.lookup f__law_cards = some ⟨oc__law_cards, od__law_cards, .func (PySem.W.fnOf "_law_cards" "_law_cards" (defArgs s__law_cards) (defBody s__law_cards) (defScope s__law_cards) .none kV__law_cards dc__law_cards pm__law_cards an__law_cards cd__law_cards ct__law_cards), sl__law_cards⟩) (c__law_cards : PySem.W.codeIn K cd__law_cards "_law_cards" = true) (k__law_cards : PySem.W.keepIn K (.ref f__law_cards) = true)
    (a__law_mixed : PySem.W.nsIn K mainGlobals "_law_mixed" = some (some (.ref f__law_mixed))) (l__law_mixed : K.lookup f__law_mixed = some ⟨oc__law_mixed, od__law_mixed, .func (PySem.W.fnOf "_law_mixed" "_law_mixed" (defArgs s__law_mixed) (defBody s__law_mixed) (defScope s__law_mixed) .none kV__law_mixed dc__law_mixed pm__law_mixed an__law_mixed cd__law_mixed ct__law_mixed), sl__law_mixed⟩) (c__law_mixed : PySem.W.codeIn K cd__law_mixed "_law_mixed" = true) (k__law_mixed : PySem.W.keepIn K (.ref f__law_mixed) = true)
    (a__law_sorted : PySem.W.nsIn K mainGlobals "_law_sorted" = some (some (.ref f__law_sorted))) (l__law_sorted : K.lookup f__law_sorted = some ⟨oc__law_sorted, od__law_sorted, .func (PySem.W.fnOf "_law_sorted" "_law_sorted" (defArgs s__law_sorted) (defBody s__law_sorted) (defScope s__law_sorted) .none kV__law_sorted dc__law_sorted pm__law_sorted an__law_sorted cd__law_sorted ct__law_sorted), sl__law_sorted⟩) (c__law_sorted : PySem.W.codeIn K cd__law_sorted "_law_sorted" = true) (k__law_sorted : PySem.W.keepIn K (.ref f__law_sorted) = true)
    (a__law_right : PySem.W.nsIn K mainGlobals "_law_right" = some (some (.ref f__law_right))) (l__law_right : K.lookup f__law_right = some ⟨oc__law_right, od__law_right, .func (PySem.W.fnOf "_law_right" "_law_right" (defArgs s__law_right) (defBody s__law_right) (defScope s__law_right) .none kV__law_right dc__law_right pm__law_right an__law_right cd__law_right ct__law_right), sl__law_right⟩) (c__law_right : PySem.W.codeIn K cd__law_right "_law_right" = true) (k__law_right : PySem.W.keepIn K (.ref f__law_right) = true)
    (a_law : PySem.W.nsIn K mainGlobals "law" = some (some (.ref f_law))) (l_law : K.lookup f_law = some ⟨oc_law, od_law, .func (PySem.W.fnOf "law" "law" (defArgs s_law) (defBody s_law) (defScope s_law) .none kV_law dc_law pm_law an_law cd_law ct_law), sl_law⟩) (c_law : PySem.W.codeIn K cd_law "law" = true) (k_law : PySem.W.keepIn K (.ref f_law) = true)
    {t_MOST_CARDS : Tok} (v_MOST_CARDS : PySem.W.nsIn K mainGlobals "MOST_CARDS" = some (some (.int 200 t_MOST_CARDS)))
    {t_MOST_COLUMNS : Tok} (v_MOST_COLUMNS : PySem.W.nsIn K mainGlobals "MOST_COLUMNS" = some (some (.int 30 t_MOST_COLUMNS)))
    {t_MOST_HEIGHT : Tok} (v_MOST_HEIGHT : PySem.W.nsIn K mainGlobals "MOST_HEIGHT" = some (some (.int 1000000000000000000000000000000 t_MOST_HEIGHT)))
    (z_all : PySem.W.nsIn K mainGlobals "all" = some none)
    (z_bool : PySem.W.nsIn K mainGlobals "bool" = some none)
    (z_enumerate : PySem.W.nsIn K mainGlobals "enumerate" = some none)
    (z_int : PySem.W.nsIn K mainGlobals "int" = some none)
    (z_isinstance : PySem.W.nsIn K mainGlobals "isinstance" = some none)
    (z_len : PySem.W.nsIn K mainGlobals "len" = some none)
    (z_list : PySem.W.nsIn K mainGlobals "list" = some none)
    (z_max : PySem.W.nsIn K mainGlobals "max" = some none)
    (z_min : PySem.W.nsIn K mainGlobals "min" = some none)
    (z_range : PySem.W.nsIn K mainGlobals "range" = some none)
    (z_repr : PySem.W.nsIn K mainGlobals "repr" = some none)
    (z_sorted : PySem.W.nsIn K mainGlobals "sorted" = some none)
    (z_zip : PySem.W.nsIn K mainGlobals "zip" = some none)
    : ∃ fd : FuncData, (∀ (s : Shared) (v : Value), BindsTo s fd ⟨[v], []⟩ [("script", v)]) ∧ ∀ base : Heap, K.In base → base.Ns mainGlobals mg → FnG l.prog w K mg base (L2.CX l.prog w) 6 fa fd ["script"] (spLaw K) := by
  have e := hfa.symm.trans (PySem.W.mg_of X G a_law)
  cases e
  have F_is_integer := fun_mkG (st := s_is_integer) l_is_integer c_is_integer k_is_integer
  have B_is_integer := F_is_integer.bindsAll (ps := ["value", "least", "most"]) fun us hl => match us, hl with | [_, _, _], _ => rfl
  have F_is_start := fun_mkG (st := s_is_start) l_is_start c_is_start k_is_start
  have B_is_start := F_is_start.bindsAll (ps := ["value"]) fun us hl => match us, hl with | [_], _ => rfl
  have F_is_cards := fun_mkG (st := s_is_cards) l_is_cards c_is_cards k_is_cards
  have B_is_cards := F_is_cards.bindsAll (ps := ["value"]) fun us hl => match us, hl with | [_], _ => rfl
  have F_check_start := fun_mkG (st := s_check_start) l_check_start c_check_start k_check_start
  have B_check_start := F_check_start.bindsAll (ps := ["start"]) fun us hl => match us, hl with | [_], _ => rfl
  have F_check_cards := fun_mkG (st := s_check_cards) l_check_cards c_check_cards k_check_cards
  have B_check_cards := F_check_cards.bindsAll (ps := ["heights"]) fun us hl => match us, hl with | [_], _ => rfl
  have F_lowest_in := fun_mkG (st := s_lowest_in) l_lowest_in c_lowest_in k_lowest_in
  have B_lowest_in := F_lowest_in.bindsAll (ps := ["columns", "right"]) fun us hl => match us, hl with | [_, _], _ => rfl
  have F_laid := fun_mkG (st := s_laid) l_laid c_laid k_laid
  have B_laid := F_laid.bindsAll (ps := ["start", "heights", "right", "gap"]) fun us hl => match us, hl with | [_, _, _, _], _ => rfl
  have F_tops_in := fun_mkG (st := s_tops_in) l_tops_in c_tops_in k_tops_in
  have B_tops_in := F_tops_in.bindsAll (ps := ["start", "heights"]) fun us hl => match us, hl with | [_, _], _ => rfl
  have F_end_in := fun_mkG (st := s_end_in) l_end_in c_end_in k_end_in
  have B_end_in := F_end_in.bindsAll (ps := ["start", "heights"]) fun us hl => match us, hl with | [_, _], _ => rfl
  have F_tops_of := fun_mkG (st := s_tops_of) l_tops_of c_tops_of k_tops_of
  have B_tops_of := F_tops_of.bindsAll (ps := ["start", "heights"]) fun us hl => match us, hl with | [_, _], _ => rfl
  have F_end_of := fun_mkG (st := s_end_of) l_end_of c_end_of k_end_of
  have B_end_of := F_end_of.bindsAll (ps := ["start", "heights"]) fun us hl => match us, hl with | [_, _], _ => rfl
  have F__law_cell_at := fun_mkG (st := s__law_cell_at) l__law_cell_at c__law_cell_at k__law_cell_at
  have B__law_cell_at := F__law_cell_at.bindsAll (ps := ["script", "k"]) fun us hl => match us, hl with | [_, _], _ => rfl
  have F__law_pool := fun_mkG (st := s__law_pool) l__law_pool c__law_pool k__law_pool
  have B__law_pool := F__law_pool.bindsAll (ps := ["cell", "place"]) fun us hl => match us, hl with | [_, _], _ => rfl
  have F__law_draw := fun_mkG (st := s__law_draw) l__law_draw c__law_draw k__law_draw
  have B__law_draw := F__law_draw.bindsAll (ps := ["pool", "many"]) fun us hl => match us, hl with | [_, _], _ => rfl
  have F__law_begun := fun_mkG (st := s__law_begun) l__law_begun c__law_begun k__law_begun
  have B__law_begun := F__law_begun.bindsAll (ps := ["pool", "script"]) fun us hl => match us, hl with | [_, _], _ => rfl
  have F__law_cards := fun_mkG (st := s__law_cards) l__law_cards c__law_cards k__law_cards
  have B__law_cards := F__law_cards.bindsAll (ps := ["pool", "script"]) fun us hl => match us, hl with | [_, _], _ => rfl
  have F__law_mixed := fun_mkG (st := s__law_mixed) l__law_mixed c__law_mixed k__law_mixed
  have B__law_mixed := F__law_mixed.bindsAll (ps := ["pool", "things"]) fun us hl => match us, hl with | [_, _], _ => rfl
  have F__law_sorted := fun_mkG (st := s__law_sorted) l__law_sorted c__law_sorted k__law_sorted
  have B__law_sorted := F__law_sorted.bindsAll (ps := ["begun", "cards"]) fun us hl => match us, hl with | [_, _], _ => rfl
  have F__law_right := fun_mkG (st := s__law_right) l__law_right c__law_right k__law_right
  have B__law_right := F__law_right.bindsAll (ps := ["begun", "other", "cards"]) fun us hl => match us, hl with | [_, _, _], _ => rfl
  have F_law := fun_mkG (st := s_law) l_law c_law k_law
  have B_law := F_law.bindsAll (ps := ["script"]) fun us hl => match us, hl with | [_], _ => rfl
  have k_tops_of_s1 := F_tops_of.kb (ps := ["start", "heights"]) (n := 0) (ks := ["heights", "start"]) (is := [1, 0]) (du := []) fun us ws h1 h2 => match us, ws, h1, h2 with | [], [_, _], _, _ => rfl
  have T : Txt K mg (Ad.mk f_is_integer _ f_is_start _ f_is_cards _ f_check_start _ f_check_cards _ f_lowest_in _ f_laid _ f_tops_in _ f_end_in _ f_tops_of _ f_end_of _ f__law_cell_at _ f__law_pool _ f__law_draw _ f__law_begun _ f__law_cards _ f__law_mixed _ f__law_sorted _ f__law_right _ fa _ t_MOST_CARDS t_MOST_COLUMNS t_MOST_HEIGHT) := { F_is_integer := F_is_integer, g_is_integer := PySem.W.mg_of X G a_is_integer, b_is_integer := B_is_integer, F_is_start := F_is_start, g_is_start := PySem.W.mg_of X G a_is_start, b_is_start := B_is_start, F_is_cards := F_is_cards, g_is_cards := PySem.W.mg_of X G a_is_cards, b_is_cards := B_is_cards, F_check_start := F_check_start, g_check_start := PySem.W.mg_of X G a_check_start, b_check_start := B_check_start, F_check_cards := F_check_cards, g_check_cards := PySem.W.mg_of X G a_check_cards, b_check_cards := B_check_cards, F_lowest_in := F_lowest_in, g_lowest_in := PySem.W.mg_of X G a_lowest_in, b_lowest_in := B_lowest_in, F_laid := F_laid, g_laid := PySem.W.mg_of X G a_laid, b_laid := B_laid, F_tops_in := F_tops_in, g_tops_in := PySem.W.mg_of X G a_tops_in, b_tops_in := B_tops_in, F_end_in := F_end_in, g_end_in := PySem.W.mg_of X G a_end_in, b_end_in := B_end_in, F_tops_of := F_tops_of, g_tops_of := PySem.W.mg_of X G a_tops_of, b_tops_of := B_tops_of, F_end_of := F_end_of, g_end_of := PySem.W.mg_of X G a_end_of, b_end_of := B_end_of, F__law_cell_at := F__law_cell_at, g__law_cell_at := PySem.W.mg_of X G a__law_cell_at, b__law_cell_at := B__law_cell_at, F__law_pool := F__law_pool, g__law_pool := PySem.W.mg_of X G a__law_pool, b__law_pool := B__law_pool, F__law_draw := F__law_draw, g__law_draw := PySem.W.mg_of X G a__law_draw, b__law_draw := B__law_draw, F__law_begun := F__law_begun, g__law_begun := PySem.W.mg_of X G a__law_begun, b__law_begun := B__law_begun, F__law_cards := F__law_cards, g__law_cards := PySem.W.mg_of X G a__law_cards, b__law_cards := B__law_cards, F__law_mixed := F__law_mixed, g__law_mixed := PySem.W.mg_of X G a__law_mixed, b__law_mixed := B__law_mixed, F__law_sorted := F__law_sorted, g__law_sorted := PySem.W.mg_of X G a__law_sorted, b__law_sorted := B__law_sorted, F__law_right := F__law_right, g__law_right := PySem.W.mg_of X G a__law_right, b__law_right := B__law_right, F_law := F_law, g_law := PySem.W.mg_of X G a_law, b_law := B_law, k_tops_of_s1 := k_tops_of_s1, c_MOST_CARDS := PySem.W.mg_of X G v_MOST_CARDS, c_MOST_COLUMNS := PySem.W.mg_of X G v_MOST_COLUMNS, c_MOST_HEIGHT := PySem.W.mg_of X G v_MOST_HEIGHT, z_all := PySem.W.mg_none_of X G z_all, z_bool := PySem.W.mg_none_of X G z_bool, z_enumerate := PySem.W.mg_none_of X G z_enumerate, z_int := PySem.W.mg_none_of X G z_int, z_isinstance := PySem.W.mg_none_of X G z_isinstance, z_len := PySem.W.mg_none_of X G z_len, z_list := PySem.W.mg_none_of X G z_list, z_max := PySem.W.mg_none_of X G z_max, z_min := PySem.W.mg_none_of X G z_min, z_range := PySem.W.mg_none_of X G z_range, z_repr := PySem.W.mg_none_of X G z_repr, z_sorted := PySem.W.mg_none_of X G z_sorted, z_zip := PySem.W.mg_none_of X G z_zip }
  exact ⟨_, fun s v => .of_eq rfl, fun base _ _ => (ok_law T).imp fun vs H Q E q => law_sp hm vs H Q E q⟩
end
end Lw
open PySem PySem.W PyProof.Rows in
set_option maxRecDepth 100000 in
set_option maxHeartbeats 0 in
theorem PySem.Challenge.cw_lowcolumns_k70_tops_by_sorted_columns_holds : PySem.Challenge.rw_lowcolumns_k70_tops_by_sorted_columns.Holds := by
  w_on; o_law; k_head; (case hw => w_witness2)
  k_fill
  refine Lc.walkG (k := 6) (l := PySem.Challenge.rw_lowcolumns_k70_tops_by_sorted_columns) rfl rfl ⟨rfl, by decide, by decide⟩ (fun w h Y => PySem.W.kIn_of Y) ?F
  case F =>
    intro w mg fa h KX G hmg
    refine' Lw.all_mk KX G hmg Lw.law_true ?a_is_integer ?l_is_integer ?c_is_integer ?k_is_integer ?a_is_start ?l_is_start ?c_is_start ?k_is_start ?a_is_cards ?l_is_cards ?c_is_cards ?k_is_cards ?a_check_start ?l_check_start ?c_check_start ?k_check_start ?a_check_cards ?l_check_cards ?c_check_cards ?k_check_cards ?a_lowest_in ?l_lowest_in ?c_lowest_in ?k_lowest_in ?a_laid ?l_laid ?c_laid ?k_laid ?a_tops_in ?l_tops_in ?c_tops_in ?k_tops_in ?a_end_in ?l_end_in ?c_end_in ?k_end_in ?a_tops_of ?l_tops_of ?c_tops_of ?k_tops_of ?a_end_of ?l_end_of ?c_end_of ?k_end_of ?a__law_cell_at ?l__law_cell_at ?c__law_cell_at ?k__law_cell_at ?a__law_pool ?l__law_pool ?c__law_pool ?k__law_pool ?a__law_draw ?l__law_draw ?c__law_draw ?k__law_draw ?a__law_begun ?l__law_begun ?c__law_begun ?k__law_begun ?a__law_cards ?l__law_cards ?c__law_cards ?k__law_cards ?a__law_mixed ?l__law_mixed ?c__law_mixed ?k__law_mixed ?a__law_sorted ?l__law_sorted ?c__law_sorted ?k__law_sorted ?a__law_right ?l__law_right ?c__law_right ?k__law_right ?a_law ?l_law ?c_law ?k_law ?v_MOST_CARDS ?v_MOST_COLUMNS ?v_MOST_HEIGHT ?z_all ?z_bool ?z_enumerate ?z_int ?z_isinstance ?z_len ?z_list ?z_max ?z_min ?z_range ?z_repr ?z_sorted ?z_zip
    (case a_is_integer => k_is)
    (case l_is_integer => k_is)
    (case c_is_integer => k_is)
    (case k_is_integer => k_is)
    (case a_is_start => k_is)
    (case l_is_start => k_is)
    (case c_is_start => k_is)
    (case k_is_start => k_is)
    (case a_is_cards => k_is)
    (case l_is_cards => k_is)
    (case c_is_cards => k_is)
    (case k_is_cards => k_is)
    (case a_check_start => k_is)
    (case l_check_start => k_is)
    (case c_check_start => k_is)
    (case k_check_start => k_is)
    (case a_check_cards => k_is)
    (case l_check_cards => k_is)
    (case c_check_cards => k_is)
    (case k_check_cards => k_is)
    (case a_lowest_in => k_is)
    (case l_lowest_in => k_is)
    (case c_lowest_in => k_is)
    (case k_lowest_in => k_is)
    (case a_laid => k_is)
    (case l_laid => k_is)
    (case c_laid => k_is)
    (case k_laid => k_is)
    (case a_tops_in => k_is)
    (case l_tops_in => k_is)
    (case c_tops_in => k_is)
    (case k_tops_in => k_is)
    (case a_end_in => k_is)
    (case l_end_in => k_is)
    (case c_end_in => k_is)
    (case k_end_in => k_is)
    (case a_tops_of => k_is)
    (case l_tops_of => k_is)
    (case c_tops_of => k_is)
    (case k_tops_of => k_is)
    (case a_end_of => k_is)
    (case l_end_of => k_is)
    (case c_end_of => k_is)
    (case k_end_of => k_is)
    (case a__law_cell_at => k_is)
    (case l__law_cell_at => k_is)
    (case c__law_cell_at => k_is)
    (case k__law_cell_at => k_is)
    (case a__law_pool => k_is)
    (case l__law_pool => k_is)
    (case c__law_pool => k_is)
    (case k__law_pool => k_is)
    (case a__law_draw => k_is)
    (case l__law_draw => k_is)
    (case c__law_draw => k_is)
    (case k__law_draw => k_is)
    (case a__law_begun => k_is)
    (case l__law_begun => k_is)
    (case c__law_begun => k_is)
    (case k__law_begun => k_is)
    (case a__law_cards => k_is)
    (case l__law_cards => k_is)
    (case c__law_cards => k_is)
    (case k__law_cards => k_is)
    (case a__law_mixed => k_is)
    (case l__law_mixed => k_is)
    (case c__law_mixed => k_is)
    (case k__law_mixed => k_is)
    (case a__law_sorted => k_is)
    (case l__law_sorted => k_is)
    (case c__law_sorted => k_is)
    (case k__law_sorted => k_is)
    (case a__law_right => k_is)
    (case l__law_right => k_is)
    (case c__law_right => k_is)
    (case k__law_right => k_is)
    (case a_law => k_is)
    (case l_law => k_is)
    (case c_law => k_is)
    (case k_law => k_is)
    (case v_MOST_CARDS => k_is)
    (case v_MOST_COLUMNS => k_is)
    (case v_MOST_HEIGHT => k_is)
    (case z_all => k_is)
    (case z_bool => k_is)
    (case z_enumerate => k_is)
    (case z_int => k_is)
    (case z_isinstance => k_is)
    (case z_len => k_is)
    (case z_list => k_is)
    (case z_max => k_is)
    (case z_min => k_is)
    (case z_range => k_is)
    (case z_repr => k_is)
    (case z_sorted => k_is)
    (case z_zip => k_is)
#print axioms PySem.Challenge.cw_lowcolumns_k70_tops_by_sorted_columns_holds
