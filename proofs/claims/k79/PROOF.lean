import PyProof.Rows.All
import Wide.All
import OpenK.AllK
import Wide.FinOn
import HandS.ForMost
import HandS.Exc
import HandS.TryOnly
import HandS.ExcOwn
import HandS.WordsExc
import HandS.Wide
import HandS.Walk
import HandS.IsInst
import HandS.Style
import HandS.Conv
import HandS.NoneIn
import HandS.SortInts
import PyProof.ReprRoads
import PyProof.ReprLen
import HandS.Star
import KE.DataMinMax
import KE.SortData
import HandS.Defaults
import HandS.Sort
import HandS.RaiseMore
import KE.KDictList
import HandS.WideBits
import HandS.Zip
import HandS.More
import HandS.GenList
import PySem.Challenge.RW_lowcolumns_k79_whole_layouts_turned_and
set_option Elab.async false
set_option linter.unusedVariables false
set_option maxRecDepth 100000
/-! Lc: a layer over the readings: mirrors in a small monad, assertions with footprints, judgements -/
namespace Lc
open PySem L2

/-! ### results of mirrors -/
inductive Res (α : Type) where
  | ok (a : α) | err (k : Nat) | bad
namespace Res
variable {α β γ : Type}
def bind (m : Res α) (f : α → Res β) : Res β := match m with
  | .ok a => f a
  | .err k => .err k
  | .bad => .bad
def wp (m : Res α) (Q : α → Prop) (E : Nat → Prop) : Prop := match m with
  | .ok a => Q a
  | .err k => E k
  | .bad => False
@[simp] theorem bind_ok (a : α) (f : α → Res β) : (Res.ok a).bind f = f a := rfl
@[simp] theorem bind_err (k : Nat) (f : α → Res β) : (Res.err k : Res α).bind f = .err k := rfl
@[simp] theorem bind_bad (f : α → Res β) : (Res.bad : Res α).bind f = .bad := rfl
theorem bind_assoc (m : Res α) (f : α → Res β) (g : β → Res γ) : (m.bind f).bind g = m.bind fun a => (f a).bind g := by cases m <;> rfl
theorem wp_bind {m : Res α} {f : α → Res β} {Q : β → Prop} {E : Nat → Prop} : (m.bind f).wp Q E ↔ m.wp (fun a => (f a).wp Q E) E := by cases m <;> exact Iff.rfl
theorem wp_mono {m : Res α} {Q Q' : α → Prop} {E E' : Nat → Prop} (h : m.wp Q E) (hq : ∀ a, m = .ok a → Q a → Q' a) (he : ∀ k, E k → E' k) : m.wp Q' E' := by
  cases m with
  | ok a => exact hq a rfl h
  | err k => exact he k h
  | bad => exact h
/-- a side condition -/
def need (c : Prop) [Decidable c] (m : Res α) : Res α := if c then m else .bad
theorem need_of {c : Prop} [Decidable c] {m : Res α} (h : c) : need c m = m := if_pos h
theorem wp_need {c : Prop} [Decidable c] {m : Res α} {Q : α → Prop} {E : Nat → Prop} (h : (need c m).wp Q E) : c ∧ m.wp Q E := by
  unfold need at h
  by_cases hc : c
  · rw [if_pos hc] at h
    exact ⟨hc, h⟩
  · rw [if_neg hc] at h
    exact h.elim
end Res

/-! ### frozen data -/
mutual
inductive Rp (F : Hp) : V → PyData → Prop
  | non : Rp F .non .none
  | bl (b : Bool) : Rp F (.bl b) (.bool b)
  | int (i : Int) : Rp F (.int i) (.int i)
  | str (x : Str) : Rp F (.str x) (.str x)
  | lst {a : Addr} {xs : List V} {ds : List PyData} : F a = some (.lst xs) → RpAll F xs ds → Rp F (.ref a) (.list ds)
  | tup {a : Addr} {xs : List V} {ds : List PyData} : F a = some (.tup xs) → RpAll F xs ds → Rp F (.ref a) (.tuple ds)
inductive RpAll (F : Hp) : List V → List PyData → Prop
  | nil : RpAll F [] []
  | cons {v : V} {vs : List V} {d : PyData} {ds : List PyData} : Rp F v d → RpAll F vs ds → RpAll F (v :: vs) (d :: ds)
end
section
variable {F G H : Hp} {v : V} {vs : List V} {d : PyData} {ds : List PyData}
mutual
theorem Rp.mono {F G : Hp} (s : Same F G) : ∀ {v : V} {d : PyData}, Rp F v d → Rp G v d
  | _, _, .non => .non
  | _, _, .bl b => .bl b
  | _, _, .int i => .int i
  | _, _, .str x => .str x
  | _, _, .lst h r => .lst (s _ _ h) (RpAll.mono s r)
  | _, _, .tup h r => .tup (s _ _ h) (RpAll.mono s r)
theorem RpAll.mono {F G : Hp} (s : Same F G) : ∀ {vs : List V} {ds : List PyData}, RpAll F vs ds → RpAll G vs ds
  | _, _, .nil => .nil
  | _, _, .cons h r => .cons (Rp.mono s h) (RpAll.mono s r)
end
mutual
theorem Rp.dp {F H : Hp} {K : PySem.W.Frag} (s : Same F H) : ∀ {v : V} {d : PyData}, Rp F v d → Dp K H v d
  | _, _, .non => .non
  | _, _, .bl b => .bl b
  | _, _, .int i => .int i
  | _, _, .str x => .str x
  | _, _, .lst h r => .lst (SqL.of (s _ _ h)) (RpAll.dp s r)
  | _, _, .tup h r => .tup (SqT.of (s _ _ h)) (RpAll.dp s r)
theorem RpAll.dp {F H : Hp} {K : PySem.W.Frag} (s : Same F H) : ∀ {vs : List V} {ds : List PyData}, RpAll F vs ds → DpAll K H vs ds
  | _, _, .nil => .nil
  | _, _, .cons h r => .cons (Rp.dp s h) (RpAll.dp s r)
end
theorem RpAll.len : ∀ {vs : List V} {ds : List PyData}, RpAll F vs ds → vs.length = ds.length
  | _, _, .nil => rfl
  | _, _, .cons _ r => by rw [List.length_cons, List.length_cons, RpAll.len r]
theorem RpAll.get : ∀ {vs : List V} {ds : List PyData} {i : Nat} {d : PyData}, RpAll F vs ds → ds[i]? = some d → ∃ v, vs[i]? = some v ∧ Rp F v d
  | _, _, i, d, .nil, e => by simp at e
  | _, _, 0, d, .cons h _, e => by
    simp at e
    exact ⟨_, rfl, e ▸ h⟩
  | _, _, i + 1, d, .cons _ r, e => by
    obtain ⟨v, h1, h2⟩ := RpAll.get (i := i) (d := d) r (by simpa using e)
    exact ⟨v, by simpa using h1, h2⟩
theorem RpAll.getV : ∀ {vs : List V} {ds : List PyData} {i : Nat} {v : V}, RpAll F vs ds → vs[i]? = some v → ∃ d, ds[i]? = some d ∧ Rp F v d
  | _, _, i, d, .nil, e => by simp at e
  | _, _, 0, d, .cons h _, e => by
    simp at e
    exact ⟨_, rfl, e ▸ h⟩
  | _, _, i + 1, v, .cons _ r, e => by
    obtain ⟨d, h1, h2⟩ := RpAll.getV (i := i) (v := v) r (by simpa using e)
    exact ⟨d, by simpa using h1, h2⟩
theorem RpAll.append : ∀ {vs ws : List V} {ds es : List PyData}, RpAll F vs ds → RpAll F ws es → RpAll F (vs ++ ws) (ds ++ es)
  | _, _, _, _, .nil, s => s
  | _, _, _, _, .cons r t, s => .cons r (RpAll.append t s)
theorem RpAll.set {v : V} {d : PyData} (h : Rp F v d) : ∀ {vs : List V} {ds : List PyData} (i : Nat), RpAll F vs ds → RpAll F (vs.set i v) (ds.set i d)
  | _, _, _, .nil => .nil
  | _, _, 0, .cons _ t => .cons h t
  | _, _, i + 1, .cons q t => .cons q (RpAll.set h i t)
theorem RpAll.take : ∀ {vs : List V} {ds : List PyData} (n : Nat), RpAll F vs ds → RpAll F (vs.take n) (ds.take n)
  | _, _, 0, _ => .nil
  | _, _, _ + 1, .nil => .nil
  | _, _, n + 1, .cons r t => .cons r (RpAll.take n t)
theorem RpAll.drop : ∀ {vs : List V} {ds : List PyData} (n : Nat), RpAll F vs ds → RpAll F (vs.drop n) (ds.drop n)
  | _, _, 0, r => r
  | _, _, _ + 1, .nil => .nil
  | _, _, n + 1, .cons _ t => RpAll.drop n t
theorem RpAll.one {v : V} {d : PyData} (h : Rp F v d) : RpAll F [v] [d] := .cons h .nil
theorem RpAll.reverse : ∀ {vs : List V} {ds : List PyData}, RpAll F vs ds → RpAll F vs.reverse ds.reverse
  | _, _, .nil => .nil
  | _, _, .cons h r => by
    rw [List.reverse_cons, List.reverse_cons]
    exact (RpAll.reverse r).append (.one h)
theorem RpAll.ints : ∀ {vs : List V} {ns : List Int}, RpAll F vs (ns.map PyData.int) → vs = ns.map V.int
  | [], [], _ => rfl
  | _ :: _, n :: ns, .cons h r => by
    cases h
    rw [List.map_cons, RpAll.ints r]
theorem RpAll.of_ints : ∀ (ns : List Int), RpAll F (ns.map V.int) (ns.map PyData.int)
  | [] => .nil
  | n :: ns => .cons (.int n) (RpAll.of_ints ns)
theorem RpAll.bools : ∀ {vs : List V} {ns : List Bool}, RpAll F vs (ns.map PyData.bool) → vs = ns.map V.bl
  | [], [], _ => rfl
  | _ :: _, n :: ns, .cons h r => by
    cases h
    rw [List.map_cons, RpAll.bools r]
end

/-! ### typed data -/
class Dat (α : Type) where
  dat : α → PyData
abbrev dat {α : Type} [Dat α] (a : α) : PyData := Dat.dat a
instance : Dat Int := ⟨.int⟩
instance : Dat Bool := ⟨.bool⟩
instance : Dat Str := ⟨.str⟩
instance : Dat Unit := ⟨fun _ => .none⟩
instance : Dat PyData := ⟨id⟩
instance {α β : Type} [Dat α] [Dat β] : Dat (α × β) := ⟨fun p => .tuple [dat p.1, dat p.2]⟩
/-- a triple as a tuple of three -/
structure T3 (α β γ : Type) where
  a : α
  b : β
  c : γ
instance {α β γ : Type} [Dat α] [Dat β] [Dat γ] : Dat (T3 α β γ) := ⟨fun p => .tuple [dat p.a, dat p.b, dat p.c]⟩
instance {α : Type} [Dat α] : Dat (List α) := ⟨fun l => .list (l.map dat)⟩
instance {α : Type} [Dat α] : Dat (Option α) := ⟨fun o => match o with | some a => dat a | none => .none⟩
/-- a tuple of any length, items of one kind -/
structure Tu (α : Type) where
  l : List α
instance {α : Type} [Dat α] : Dat (Tu α) := ⟨fun t => .tuple (t.l.map dat)⟩

/-! ### assertions -/
structure Asr where
  P : Hp → Hp → (Addr → Prop) → Prop
  st : ∀ {F F' H H' : Hp} {o : Addr → Prop}, Same F F' → (∀ p, o p → H' p = H p) → P F H o → P F' H' o
  up : ∀ {F H : Hp} {o o' : Addr → Prop}, (∀ p, o p → o' p) → P F H o → P F H o'
def emp : Asr := ⟨fun _ _ _ => True, fun _ _ h => h, fun _ h => h⟩
def bot : Asr := ⟨fun _ _ _ => False, fun _ _ h => h, fun _ h => h⟩
def pur (φ : Prop) : Asr := ⟨fun _ _ _ => φ, fun _ _ h => h, fun _ h => h⟩
def sep (A B : Asr) : Asr where
  P := fun F H o => ∃ o1 o2 : Addr → Prop, (∀ p, o1 p → o p) ∧ (∀ p, o2 p → o p) ∧ (∀ p, o1 p → ¬ o2 p) ∧ A.P F H o1 ∧ B.P F H o2
  st := fun s k ⟨o1, o2, h1, h2, d, a, b⟩ => ⟨o1, o2, h1, h2, d, A.st s (fun p q => k p (h1 p q)) a, B.st s (fun p q => k p (h2 p q)) b⟩
  up := fun u ⟨o1, o2, h1, h2, d, a, b⟩ => ⟨o1, o2, fun p q => u p (h1 p q), fun p q => u p (h2 p q), d, a, b⟩
/-- a value that stands for frozen data -/
def vA (d : PyData) (v : V) : Asr := ⟨fun F _ _ => Rp F v d, fun s _ h => h.mono s, fun _ h => h⟩
/-- an owned list, its address -/
def oA (p : Addr) (ds : List PyData) : Asr where
  P := fun F H o => o p ∧ ∃ vs, H p = some (.lst vs) ∧ RpAll F vs ds
  st := fun s k ⟨h, vs, e, r⟩ => ⟨h, vs, (k p h).trans e, r.mono s⟩
  up := fun u ⟨h, r⟩ => ⟨u p h, r⟩
def oV (ds : List PyData) (v : V) : Asr where
  P := fun F H o => ∃ p, v = .ref p ∧ (oA p ds).P F H o
  st := fun s k ⟨p, e, h⟩ => ⟨p, e, (oA p ds).st s k h⟩
  up := fun u ⟨p, e, h⟩ => ⟨p, e, (oA p ds).up u h⟩
def Ent (A B : Asr) : Prop := ∀ F H o, Same F H → A.P F H o → B.P F H o
def Top (A : Asr) (H : Hp) : Prop := ∃ F o, Same F H ∧ (∀ p, o p → F p = none ∧ H p ≠ none) ∧ A.P F H o

section
variable {A A' B B' C R : Asr} {H : Hp}
theorem Ent.refl (A : Asr) : Ent A A := fun _ _ _ _ h => h
theorem Ent.trans (h : Ent A B) (k : Ent B C) : Ent A C := fun F H o s a => k F H o s (h F H o s a)
theorem Ent.emp : Ent A emp := fun _ _ _ _ _ => trivial
theorem Ent.sep (h : Ent A A') (k : Ent B B') : Ent (sep A B) (sep A' B') := fun F H o s ⟨o1, o2, h1, h2, d, a, b⟩ => ⟨o1, o2, h1, h2, d, h F H o1 s a, k F H o2 s b⟩
theorem Ent.sepL (h : Ent A A') : Ent (Lc.sep A B) (Lc.sep A' B) := Ent.sep h (Ent.refl B)
theorem Ent.sepR (h : Ent B B') : Ent (Lc.sep A B) (Lc.sep A B') := Ent.sep (Ent.refl A) h
theorem Ent.comm : Ent (Lc.sep A B) (Lc.sep B A) := fun _ _ _ _ ⟨o1, o2, h1, h2, d, a, b⟩ => ⟨o2, o1, h2, h1, fun p q r => d p r q, b, a⟩
theorem Ent.left : Ent (Lc.sep A B) A := fun _ _ _ _ ⟨_, _, h1, _, _, a, _⟩ => A.up h1 a
theorem Ent.right : Ent (Lc.sep A B) B := fun _ _ _ _ ⟨_, _, _, h2, _, _, b⟩ => B.up h2 b
theorem Ent.assoc : Ent (Lc.sep (Lc.sep A B) C) (Lc.sep A (Lc.sep B C)) := fun _ _ _ _ ⟨o12, o3, h12, h3, d, ⟨o1, o2, h1, h2, e, a, b⟩, c⟩ =>
  ⟨o1, fun p => o2 p ∨ o3 p, fun p q => h12 p (h1 p q), fun p q => q.elim (fun q => h12 p (h2 p q)) (h3 p), fun p q r => r.elim (e p q) (d p (h1 p q)), a,
    o2, o3, fun _ q => .inl q, fun _ q => .inr q, fun p q => d p (h2 p q), b, c⟩
theorem Ent.assoc' : Ent (Lc.sep A (Lc.sep B C)) (Lc.sep (Lc.sep A B) C) := (Ent.comm.trans (Ent.sepL Ent.comm)).trans (Ent.assoc.trans (Ent.comm.trans (Ent.sepL Ent.comm)))
theorem Top.ent (t : Top A H) (h : Ent A B) : Top B H := by
  obtain ⟨F, o, s, k, a⟩ := t
  exact ⟨F, o, s, k, h F H o s a⟩
/-- a fact is read off -/
theorem Top.fact {φ : Prop} (t : Top A H) (h : ∀ F o, Same F H → A.P F H o → φ) : φ := by
  obtain ⟨F, o, s, _, a⟩ := t
  exact h F o s a
/-- a persistent fact is kept beside -/
theorem Top.addV {d : PyData} {v : V} (t : Top A H) (h : ∀ F o, Same F H → A.P F H o → Rp F v d) : Top (sep (vA d v) A) H := by
  obtain ⟨F, o, s, k, a⟩ := t
  exact ⟨F, o, s, k, fun _ => False, o, fun _ z => z.elim, fun _ z => z, fun _ z => z.elim, h F o s a, a⟩
theorem Top.addP {φ : Prop} (t : Top A H) (h : φ) : Top (sep (pur φ) A) H := by
  obtain ⟨F, o, s, k, a⟩ := t
  exact ⟨F, o, s, k, fun _ => False, o, fun _ z => z.elim, fun _ z => z, fun _ z => z.elim, h, a⟩
theorem sep_pers {F H : Hp} {o : Addr → Prop} (h : ∀ o, A.P F H o) (b : B.P F H o) : (sep A B).P F H o := ⟨fun _ => False, o, fun _ z => z.elim, fun _ z => z, fun _ z => z.elim, h _, b⟩
/-- a new owned list -/
theorem Top.alloc {p : Addr} {vs : List V} {ds : List PyData} (t : Top A H) (hp : H p = none) (r : ∀ F o, Same F H → A.P F H o → RpAll F vs ds) : Top (sep (oA p ds) A) (upd H p (.lst vs)) := by
  obtain ⟨F, o, s, k, a⟩ := t
  have ne : ∀ q, o q → q ≠ p := fun q hq e => (k q hq).2 (e ▸ hp)
  have fp : F p = none := by
    cases e : F p with
    | none => rfl
    | some u => rw [s p u e] at hp; cases hp
  refine ⟨F, fun q => q = p ∨ o q, fun b u e => ?_, fun q hq => ?_, (fun q => q = p), o, fun _ z => .inl z, fun _ z => .inr z, fun q e hq => ne q hq e, ⟨rfl, vs, upd_same, r F o s a⟩, A.st (Same.refl F) (fun q hq => upd_ne (ne q hq)) a⟩
  · rw [upd_ne (fun z => by rw [z, fp] at e; cases e)]
    exact s b u e
  · rcases hq with hq | hq
    · rw [hq]
      exact ⟨fp, by rw [upd_same]; exact fun z => by cases z⟩
    · exact ⟨(k q hq).1, by rw [upd_ne (ne q hq)]; exact (k q hq).2⟩
/-- a new tuple (or list), frozen at once -/
theorem Top.allocF {p : Addr} {ob : HO} {d : PyData} (t : Top A H) (hp : H p = none) (r : ∀ F o, Same F H → F p = none → A.P F H o → Rp (upd F p ob) (.ref p) d) : Top (sep (vA d (.ref p)) A) (upd H p ob) := by
  obtain ⟨F, o, s, k, a⟩ := t
  have ne : ∀ q, o q → q ≠ p := fun q hq e => (k q hq).2 (e ▸ hp)
  have fp : F p = none := by
    cases e : F p with
    | none => rfl
    | some u => rw [s p u e] at hp; cases hp
  have sF : Same F (upd F p ob) := fun b u e => by
    rw [upd_ne (fun z => by rw [z, fp] at e; cases e)]
    exact e
  refine ⟨upd F p ob, o, fun b u e => ?_, fun q hq => ?_, sep_pers (fun _ => r F o s fp a) (A.st sF (fun q hq => upd_ne (ne q hq)) a)⟩
  · by_cases hb : b = p
    · subst hb
      rw [upd_same] at e ⊢
      exact e
    · rw [upd_ne hb] at e ⊢
      exact s b u e
  · rw [upd_ne (ne q hq), upd_ne (ne q hq)]
    exact k q hq
theorem Top.allocT {p : Addr} {vs : List V} {ds : List PyData} (t : Top A H) (hp : H p = none) (r : ∀ F o, Same F H → A.P F H o → RpAll F vs ds) : Top (sep (vA (.tuple ds) (.ref p)) A) (upd H p (.tup vs)) :=
  t.allocF hp fun F o s fp a => .tup upd_same ((r F o s a).mono fun b u e => by
    rw [upd_ne (fun z => by rw [z, fp] at e; cases e)]
    exact e)
/-- an owned list is frozen -/
theorem Top.freeze {p : Addr} {ds : List PyData} (t : Top (sep (oA p ds) A) H) : Top (sep (vA (.list ds) (.ref p)) A) H := by
  obtain ⟨F, o, s, k, o1, o2, h1, h2, d, ⟨hp, vs, e, r⟩, a⟩ := t
  have fp : F p = none := (k p (h1 p hp)).1
  have sF : Same F (upd F p (.lst vs)) := fun b u e' => by
    rw [upd_ne (fun z => by rw [z, fp] at e'; cases e')]
    exact e'
  refine ⟨upd F p (.lst vs), o2, fun b u e' => ?_, fun q hq => ?_, sep_pers (fun _ => .lst upd_same (r.mono sF)) (A.st sF (fun _ _ => rfl) a)⟩
  · by_cases hb : b = p
    · subst hb
      rw [upd_same] at e'
      rw [← e']
      exact e
    · rw [upd_ne hb] at e'
      exact s b u e'
  · have ne : q ≠ p := fun z => d p hp (z ▸ hq)
    rw [upd_ne ne]
    exact k q (h2 q hq)
/-- an owned list is written -/
theorem Top.write {p : Addr} {ds es : List PyData} {ws : List V} (t : Top (sep (oA p ds) A) H) (r : ∀ F o vs, Same F H → A.P F H o → H p = some (.lst vs) → RpAll F vs ds → RpAll F ws es) : Top (sep (oA p es) A) (upd H p (.lst ws)) := by
  obtain ⟨F, o, s, k, o1, o2, h1, h2, d, ⟨hp, vs, e, rv⟩, a⟩ := t
  have fp : F p = none := (k p (h1 p hp)).1
  refine ⟨F, o, fun b u e' => ?_, fun q hq => ?_, o1, o2, h1, h2, d, ⟨hp, ws, upd_same, r F o2 vs s a e rv⟩, A.st (Same.refl F) (fun q hq => upd_ne fun z => d p hp (z ▸ hq)) a⟩
  · rw [upd_ne (fun z => by rw [z, fp] at e'; cases e')]
    exact s b u e'
  · by_cases hb : q = p
    · rw [hb]
      exact ⟨fp, by rw [upd_same]; exact fun z => by cases z⟩
    · rw [upd_ne hb]
      exact k q hq
end
end Lc
/-! Lc: slots, judgements, structural rules -/
namespace Lc
open PySem L2

/-! ### slots -/
abbrev Cell := Option V → Asr
def cAny : Cell := fun _ => emp
def cV (d : PyData) : Cell := fun o => match o with | some v => vA d v | none => bot
def cO (ds : List PyData) : Cell := fun o => match o with | some v => oV ds v | none => bot
def cAt (p : Addr) (ds : List PyData) : Cell := fun o => sep (pur (o = some (.ref p))) (oA p ds)
def cIs (v : V) : Cell := fun o => pur (o = some v)
def sl : St → List Cell → Asr
  | [], [] => emp
  | o :: σ, c :: Γ => sep (c o) (sl σ Γ)
  | _, _ => bot
section
variable {F H : Hp} {o : Addr → Prop}
theorem sl_len : ∀ {σ : St} {Γ : List Cell}, (∃ F H o, (sl σ Γ).P F H o) → σ.length = Γ.length
  | [], [], _ => rfl
  | _ :: σ, _ :: Γ, ⟨F, H, o, _, _, _, _, _, _, h⟩ => by rw [List.length_cons, List.length_cons, sl_len (σ := σ) (Γ := Γ) ⟨_, _, _, h⟩]
  | [], _ :: _, ⟨_, _, _, h⟩ => (show False from h).elim
  | _ :: _, [], ⟨_, _, _, h⟩ => (show False from h).elim
theorem sl_take : ∀ {σ : St} {Γ : List Cell} {i : Nat} {c : Cell} {o : Addr → Prop}, Γ[i]? = some c → (sl σ Γ).P F H o → ∃ x, σ[i]? = some x ∧ (sep (c x) (sl σ (Γ.set i cAny))).P F H o
  | [], [], i, c, o, e, _ => by simp at e
  | [], _ :: _, _, _, _, _, h => (show False from h).elim
  | _ :: _, [], _, _, _, _, h => (show False from h).elim
  | x :: σ, c0 :: Γ, 0, c, o, e, ⟨o1, o2, h1, h2, d, a, b⟩ => by
    have e' : c0 = c := by simpa using e
    subst e'
    exact ⟨x, rfl, o1, o2, h1, h2, d, a, ⟨fun _ => False, o2, fun _ z => z.elim, fun _ z => z, fun _ z => z.elim, trivial, b⟩⟩
  | x :: σ, c0 :: Γ, i + 1, c, o, e, ⟨o1, o2, h1, h2, d, a, b⟩ => by
    obtain ⟨y, ey, o3, o4, h3, h4, d', a', b'⟩ := sl_take (σ := σ) (Γ := Γ) (i := i) (c := c) (by simpa using e) b
    exact ⟨y, by simpa using ey, o3, fun p => o1 p ∨ o4 p, fun p q => h2 p (h3 p q), fun p q => q.elim (h1 p) fun z => h2 p (h4 p z), fun p q r => r.elim (fun z => d p z (h3 p q)) (d' p q), a',
      o1, o4, fun _ z => .inl z, fun _ z => .inr z, fun p q r => d p q (h4 p r), a, b'⟩
theorem sl_put : ∀ {σ : St} {Γ : List Cell} {i : Nat} {c : Cell} {x : Option V} {o : Addr → Prop}, i < Γ.length → σ[i]? = some x → (sep (c x) (sl σ (Γ.set i cAny))).P F H o → (sl σ (Γ.set i c)).P F H o
  | [], [], _, _, _, _, hi, _, _ => by simp at hi
  | [], _ :: _, 0, _, _, _, _, e, _ => by simp at e
  | [], _ :: _, _ + 1, _, _, _, _, e, _ => by simp at e
  | _ :: _, [], _, _, _, _, hi, _, _ => by simp at hi
  | y :: σ, c0 :: Γ, 0, c, x, o, _, e, ⟨o1, o2, h1, h2, d, a, ⟨o3, o4, h3, h4, d', a', b⟩⟩ => by
    have e' : y = x := by simpa using e
    subst e'
    exact ⟨o1, o4, h1, fun p q => h2 p (h4 p q), fun p q r => d p q (h4 p r), a, b⟩
  | y :: σ, c0 :: Γ, i + 1, c, x, o, hi, e, ⟨o1, o2, h1, h2, d, a, ⟨o3, o4, h3, h4, d', a', b⟩⟩ => by
    refine ⟨o3, fun p => o1 p ∨ o4 p, fun p q => h2 p (h3 p q), fun p q => q.elim (h1 p) fun z => h2 p (h4 p z), fun p q r => r.elim (fun z => d p z (h3 p q)) (d' p q), a', ?_⟩
    exact sl_put (σ := σ) (Γ := Γ) (i := i) (c := c) (x := x) (by simpa using hi) (by simpa using e) ⟨o1, o4, fun _ z => .inl z, fun _ z => .inr z, fun p q r => d p q (h4 p r), a, b⟩
theorem sl_set : ∀ {σ : St} {Γ : List Cell} {i : Nat} {c : Cell} {x : Option V} {o : Addr → Prop}, i < Γ.length → (sep (c x) (sl σ Γ)).P F H o → (sl (σ.set i x) (Γ.set i c)).P F H o
  | [], [], _, _, _, _, hi, _ => by simp at hi
  | [], _ :: _, _, _, _, _, _, ⟨_, _, _, _, _, _, h⟩ => (show False from h).elim
  | _ :: _, [], _, _, _, _, hi, _ => by simp at hi
  | y :: σ, c0 :: Γ, 0, c, x, o, _, ⟨o1, o2, h1, h2, d, a, ⟨o3, o4, h3, h4, d', a', b⟩⟩ => ⟨o1, o4, h1, fun p q => h2 p (h4 p q), fun p q r => d p q (h4 p r), a, b⟩
  | y :: σ, c0 :: Γ, i + 1, c, x, o, hi, ⟨o1, o2, h1, h2, d, a, ⟨o3, o4, h3, h4, d', a', b⟩⟩ => by
    refine ⟨o3, fun p => o1 p ∨ o4 p, fun p q => h2 p (h3 p q), fun p q => q.elim (h1 p) fun z => h2 p (h4 p z), fun p q r => r.elim (fun z => d p z (h3 p q)) (d' p q), a', ?_⟩
    exact sl_set (σ := σ) (Γ := Γ) (i := i) (c := c) (x := x) (by simpa using hi) ⟨o1, o4, fun _ z => .inl z, fun _ z => .inr z, fun p q r => d p q (h4 p r), a, b⟩
/-- the cell of slot i, read -/
theorem sl_get {σ : St} {Γ : List Cell} {i : Nat} {c : Cell} (e : Γ[i]? = some c) (h : (sl σ Γ).P F H o) : ∃ x, σ[i]? = some x ∧ (c x).P F H o := by
  obtain ⟨x, ex, o1, o2, h1, _, _, a, _⟩ := sl_take e h
  exact ⟨x, ex, (c x).up h1 a⟩
/-- weaker cells -/
inductive Le : List Cell → List Cell → Prop
  | nil : Le [] []
  | same {c : Cell} {Γ Δ : List Cell} : Le Γ Δ → Le (c :: Γ) (c :: Δ)
  | any {c : Cell} {Γ Δ : List Cell} : Le Γ Δ → Le (c :: Γ) (cAny :: Δ)
  | of {c c' : Cell} {Γ Δ : List Cell} : (∀ x, Ent (c x) (c' x)) → Le Γ Δ → Le (c :: Γ) (c' :: Δ)
theorem Le.refl : ∀ Γ : List Cell, Le Γ Γ
  | [] => .nil
  | _ :: Γ => .same (Le.refl Γ)
theorem Le.ent : ∀ {Γ Δ : List Cell} {σ : St}, Le Γ Δ → Ent (sl σ Γ) (sl σ Δ)
  | _, _, [], .nil => Ent.refl _
  | _, _, _ :: _, .nil => Ent.refl _
  | _, _, [], .same _ => fun _ _ _ _ h => (show False from h).elim
  | _, _, _ :: σ, .same l => Ent.sepR (Le.ent (σ := σ) l)
  | _, _, [], .any _ => fun _ _ _ _ h => (show False from h).elim
  | _, _, _ :: σ, .any l => Ent.sep Ent.emp (Le.ent (σ := σ) l)
  | _, _, [], .of _ _ => fun _ _ _ _ h => (show False from h).elim
  | _, _, _ :: σ, .of k l => Ent.sep (k _) (Le.ent (σ := σ) l)
theorem at_own (p : Addr) (ds : List PyData) (x : Option V) : Ent (cAt p ds x) (cO ds x) := fun F H o s ⟨o1, o2, h1, h2, d, a, b⟩ => by
  have a' : x = some (.ref p) := a
  subst a'
  exact ⟨p, rfl, (oA p ds).up h2 b⟩
end

/-! ### judgements -/
structure Ec where
  K : PySem.W.Frag
  W : WX
  ec : Nat → Value
  X : St → Asr
  C : Asr
abbrev RC := St → V → Asr
def rV (d : PyData) : RC := fun _ v => vA d v
def rO (ds : List PyData) : RC := fun _ v => oV ds v
def rS (i : Nat) : RC := fun σ v => pur (σ[i]? = some (some v))
def base (E : Ec) (σ : St) (Γ : List Cell) : Asr := sep (sl σ Γ) E.C
def Exn (E : Ec) (R : Asr) (σ : St) (k : Nat) : Prop := ∀ H, Top (sep (sep (E.X σ) E.C) R) H → E.W (E.ec k) none σ H
def ExnS (E : Ec) (R : Asr) (k : Nat) : Prop := ∀ σ, Exn E R σ k
section
variable {E : Ec} {R R' : Asr} {σ : St} {k : Nat}
theorem Exn.imp (h : Exn E R σ k) (r : Ent R' R) : Exn E R' σ k := fun H t => h H (t.ent (Ent.sepR r))
theorem Exn.drop {A : Asr} (h : Exn E R σ k) : Exn E (sep A R) σ k := h.imp Ent.right
end
section
variable (E : Ec)
def EvJ (t : TE) (Γ : List Cell) {α : Type} (m : Res α) (Γ' : α → List Cell) (c : α → RC) : Prop :=
  ∀ (σ : St) (H : Hp) (R : Asr) (Q : VK), Top (sep (base E σ Γ) R) H → m.wp (fun a => ∀ v H', Top (sep (base E σ (Γ' a)) (sep (c a σ v) R)) H' → Q v H') (Exn E R σ) → t σ H Q
/-- an expression that changes nothing, and cannot fail -/
abbrev EvP (t : TE) (Γ : List Cell) (c : RC) : Prop := EvJ E t Γ (.ok ()) (fun _ => Γ) (fun _ => c)
def EvT (t : TT) (Γ : List Cell) {α : Type} (m : Res α) (Γ' : α → List Cell) (b : α → Bool) : Prop :=
  ∀ (σ : St) (H : Hp) (R : Asr) (Q : Bool → Hp → Prop), Top (sep (base E σ Γ) R) H → m.wp (fun a => ∀ H', Top (sep (base E σ (Γ' a)) R) H' → Q (b a) H') (Exn E R σ) → t σ H Q
abbrev EvTP (t : TT) (Γ : List Cell) (b : Bool) : Prop := EvT E t Γ (.ok ()) (fun _ => Γ) (fun _ => b)
/-- the cells of several values -/
def csA : List RC → St → List V → Asr
  | [], _, [] => emp
  | c :: cs, σ, v :: vs => sep (c σ v) (csA cs σ vs)
  | _, _, _ => bot
def EvA (t : TA) (Γ : List Cell) {α : Type} (m : Res α) (Γ' : α → List Cell) (cs : α → List RC) : Prop :=
  ∀ (σ : St) (H : Hp) (R : Asr) (Q : List V → Hp → Prop), Top (sep (base E σ Γ) R) H → m.wp (fun a => ∀ vs H', Top (sep (base E σ (Γ' a)) (sep (csA (cs a) σ vs) R)) H' → Q vs H') (Exn E R σ) → t σ H Q
abbrev EvAP (t : TA) (Γ : List Cell) (cs : List RC) : Prop := EvA E t Γ (.ok ()) (fun _ => Γ) (fun _ => cs)
def R2J (r : R2) (cx cy : RC) (Γ : List Cell) {α : Type} (m : Res α) (Γ' : α → List Cell) (c : α → RC) : Prop :=
  ∀ (σ : St) (H : Hp) (R : Asr) (Q : VK) (x y : V), Top (sep (base E σ Γ) (sep (cx σ x) (sep (cy σ y) R))) H → m.wp (fun a => ∀ v H', Top (sep (base E σ (Γ' a)) (sep (c a σ v) R)) H' → Q v H') (Exn E R σ) → r x y H Q
abbrev R2P (r : R2) (cx cy : RC) (Γ : List Cell) (c : RC) : Prop := R2J E r cx cy Γ (.ok ()) (fun _ => Γ) (fun _ => c)
def R1J (r : V → Hp → VK → Prop) (cx : RC) (Γ : List Cell) {α : Type} (m : Res α) (Γ' : α → List Cell) (c : α → RC) : Prop :=
  ∀ (σ : St) (H : Hp) (R : Asr) (Q : VK) (x : V), Top (sep (base E σ Γ) (sep (cx σ x) R)) H → m.wp (fun a => ∀ v H', Top (sep (base E σ (Γ' a)) (sep (c a σ v) R)) H' → Q v H') (Exn E R σ) → r x H Q
abbrev R1P (r : V → Hp → VK → Prop) (cx : RC) (Γ : List Cell) (c : RC) : Prop := R1J E r cx Γ (.ok ()) (fun _ => Γ) (fun _ => c)
/-- an operation on several values -/
def RnJ (r : List V → Hp → VK → Prop) (cs : List RC) (Γ : List Cell) {α : Type} (m : Res α) (Γ' : α → List Cell) (c : α → RC) : Prop :=
  ∀ (σ : St) (H : Hp) (R : Asr) (Q : VK) (vs : List V), Top (sep (base E σ Γ) (sep (csA cs σ vs) R)) H → m.wp (fun a => ∀ v H', Top (sep (base E σ (Γ' a)) (sep (c a σ v) R)) H' → Q v H') (Exn E R σ) → r vs H Q
abbrev RnP (r : List V → Hp → VK → Prop) (cs : List RC) (Γ : List Cell) (c : RC) : Prop := RnJ E r cs Γ (.ok ()) (fun _ => Γ) (fun _ => c)
end

/-! ### structural rules -/
section
variable {E : Ec} {ta tb te : TE} {tt tu : TT} {tr : TA} {Γ : List Cell} {α β γ δ : Type} {ma : Res α} {mb : α → Res β} {Γ1 : α → List Cell} {Γ2 : α → β → List Cell} {ca : α → RC} {cb : α → β → RC}
  {m : Res γ} {k : α → β → Res γ} {Γ' : γ → List Cell} {c : γ → RC} {r : R2} {cx cy : RC}
open Res
/-- a pure expression as a computing one -/
theorem ev_pure {a : α} {cc : α → RC} (h : EvP E te Γ (cc a)) : EvJ E te Γ (.ok a) (fun _ => Γ) cc := fun σ H R Q t q => h σ H R Q t q
theorem ev_c {v : V} {d : PyData} (h : ∀ F, Rp F v d) : EvP E (tC v) Γ (rV d) := fun σ H R Q t q => by
  refine q v H (t.addV (v := v) (fun F _ _ _ => h F) |>.ent (fun F H o s ⟨o1, o2, h1, h2, e, a, b⟩ => ?_))
  obtain ⟨o3, o4, h3, h4, e', b1, b2⟩ := b
  exact ⟨o3, o4, fun p z => h2 p (h3 p z), fun p z => h2 p (h4 p z), e', b1, sep_pers (fun _ => a) b2⟩
theorem ev_int {i : Int} : EvP E (tC (.int i)) Γ (rV (.int i)) := ev_c fun _ => .int i
theorem ev_bl {b : Bool} : EvP E (tC (.bl b)) Γ (rV (.bool b)) := ev_c fun _ => .bl b
theorem ev_non : EvP E (tC .non) Γ (rV .none) := ev_c fun _ => .non
theorem ev_str {x : Str} : EvP E (tC (.str x)) Γ (rV (.str x)) := ev_c fun _ => .str x
/-- the name of a frozen value -/
theorem ev_var {i : Nat} {d : PyData} (h : Γ[i]? = some (cV d)) : EvP E (tVar i) Γ (rV d) := fun σ H R Q t q => by
  obtain ⟨F, o, s, kk, o1, o2, h1, h2, e, ⟨o3, o4, h3, h4, e', a, b⟩, b2⟩ := t
  obtain ⟨x, ex, hx⟩ := sl_get h a
  cases x with
  | none => exact (show False from hx).elim
  | some v =>
    refine ⟨v, ex, q v H ⟨F, o, s, kk, o1, o2, h1, h2, e, ⟨o3, o4, h3, h4, e', a, b⟩, sep_pers (fun _ => hx) b2⟩⟩
/-- the name of a slot: it is that slot's value -/
theorem ev_slot {i : Nat} {cl : Cell} (h : Γ[i]? = some cl) (hc : ∀ F H o, ¬ (cl none).P F H o) : EvP E (tVar i) Γ (rS i) := fun σ H R Q t q => by
  obtain ⟨F, o, s, kk, o1, o2, h1, h2, e, ⟨o3, o4, h3, h4, e', a, b⟩, b2⟩ := t
  obtain ⟨x, ex, hx⟩ := sl_get h a
  cases x with
  | none => exact (hc _ _ _ hx).elim
  | some v => exact ⟨v, ex, q v H ⟨F, o, s, kk, o1, o2, h1, h2, e, ⟨o3, o4, h3, h4, e', a, b⟩, sep_pers (fun _ => ex) b2⟩⟩
theorem no_O {ds : List PyData} : ∀ F H o, ¬ (cO ds none).P F H o := fun _ _ _ h => h
theorem no_At {p : Addr} {ds : List PyData} : ∀ F H o, ¬ (cAt p ds none).P F H o := fun _ _ _ ⟨_, _, _, _, _, a, _⟩ => by cases (show (none : Option V) = some (.ref p) from a)
theorem no_Is {v : V} : ∀ F H o, ¬ (cIs v none).P F H o := fun _ _ _ h => by cases (show (none : Option V) = some v from h)
theorem no_V {d : PyData} : ∀ F H o, ¬ (cV d none).P F H o := fun _ _ _ h => h

/-- base ∗ (c ∗ R) with something more kept beside -/
theorem top_rot {A B C' R : Asr} {H : Hp} (t : Top (sep A (sep B (sep C' R))) H) : Top (sep A (sep C' (sep B R))) H :=
  t.ent (Ent.sepR ((Ent.assoc'.trans (Ent.sepL Ent.comm)).trans Ent.assoc))
theorem ev_op (ha : EvJ E ta Γ ma Γ1 ca) (hb : ∀ a, EvJ E tb (Γ1 a) (mb a) (Γ2 a) (cb a)) (hr : ∀ a b, R2J E r (ca a) (cb a b) (Γ2 a b) (k a b) Γ' c) :
    EvJ E (tOp r ta tb) Γ (ma.bind fun a => (mb a).bind fun b => k a b) Γ' c := fun σ H R Q t hm =>
  ha σ H R _ t (wp_mono (wp_bind.mp hm) (fun a _ h v H1 t1 => hb a σ H1 (sep (ca a σ v) R) _ t1 (wp_mono (wp_bind.mp h) (fun b _ h2 w H2 t2 =>
    hr a b σ H2 R Q v w (top_rot t2) h2) fun _ x => x.drop)) fun _ x => x)
theorem evp_op (ha : EvP E ta Γ cx) (hb : EvP E tb Γ cy) (hr : R2J E r cx cy Γ m Γ' c) : EvJ E (tOp r ta tb) Γ m Γ' c := fun σ H R Q t hm =>
  ha σ H R _ t fun v H1 t1 => hb σ H1 (sep (cx σ v) R) _ t1 fun w H2 t2 => hr σ H2 R Q v w (top_rot t2) hm
theorem evp_un {r : V → Hp → VK → Prop} (ha : EvP E ta Γ cx) (hr : R1J E r cx Γ m Γ' c) : EvJ E (tUn r ta) Γ m Γ' c := fun σ H R Q t hm =>
  ha σ H R _ t fun v H1 t1 => hr σ H1 R Q v t1 hm
theorem ev_un {r : V → Hp → VK → Prop} {k : α → Res γ} (ha : EvJ E ta Γ ma Γ1 ca) (hr : ∀ a, R1J E r (ca a) (Γ1 a) (k a) Γ' c) : EvJ E (tUn r ta) Γ (ma.bind k) Γ' c := fun σ H R Q t hm =>
  ha σ H R _ t (wp_mono (wp_bind.mp hm) (fun a _ h v H1 t1 => hr a σ H1 R Q v t1 h) fun _ x => x)
/-- the result is told otherwise -/
theorem EvJ.imp {c' : γ → RC} (h : EvJ E te Γ m Γ' c) (i : ∀ a σ v A H, Top (sep (c a σ v) A) H → Top (sep (c' a σ v) A) H) : EvJ E te Γ m Γ' c' := fun σ H R Q t hm =>
  h σ H R Q t (wp_mono hm (fun a _ q v H' t' => q v H' (by
    have t1 : Top (sep (c a σ v) (sep (base E σ (Γ' a)) R)) H' := t'.ent ((Ent.assoc'.trans (Ent.sepL Ent.comm)).trans Ent.assoc)
    exact (i a σ v _ H' t1).ent ((Ent.assoc'.trans (Ent.sepL Ent.comm)).trans Ent.assoc))) fun _ x => x)
theorem oV_freeze {ds : List PyData} {v : V} {A : Asr} {H : Hp} (t : Top (sep (oV ds v) A) H) : Top (sep (vA (.list ds) v) A) H := by
  obtain ⟨F, o, s, kk, o1, o2, h1, h2, e, ⟨p, rfl, a⟩, b⟩ := t
  exact Top.freeze ⟨F, o, s, kk, o1, o2, h1, h2, e, a, b⟩
theorem EvJ.freeze {ds : γ → List PyData} (h : EvJ E te Γ m Γ' fun a => rO (ds a)) : EvJ E te Γ m Γ' fun a => rV (.list (ds a)) := h.imp fun _ _ _ _ _ t => oV_freeze t
theorem EvJ.wk {Δ : γ → List Cell} (h : EvJ E te Γ m Γ' c) (l : ∀ a, Le (Γ' a) (Δ a)) : EvJ E te Γ m Δ c := fun σ H R Q t hm =>
  h σ H R Q t (wp_mono hm (fun a _ q v H' t' => q v H' (t'.ent (Ent.sepL (Ent.sepL (l a).ent)))) fun _ x => x)
/-- the mirror is told otherwise -/
theorem EvJ.eq {m' : Res γ} (h : EvJ E te Γ m Γ' c) (e : m = m') : EvJ E te Γ m' Γ' c := e ▸ h

/-! tests -/
theorem et_val {b : γ → Bool} (h : EvJ E te Γ m Γ' fun a => rV (.bool (b a))) : EvT E (tB te) Γ m Γ' b := fun σ H R Q t hm =>
  h σ H R _ t (wp_mono hm (fun a _ q v H' t' => by
    have e : v = .bl (b a) := t'.fact fun F o s ⟨_, _, _, _, _, _, ⟨_, _, _, _, _, x, _⟩⟩ => by cases (show Rp F v (.bool (b a)) from x); rfl
    exact ⟨b a, e, q H' (t'.ent (Ent.sepR Ent.right))⟩) fun _ x => x)
theorem et_test {b : γ → Bool} (h : EvJ E te Γ m Γ' fun a => rV (.bool (b a))) : EvT E (tTest te) Γ m Γ' b := et_val h
theorem et_pure {a : α} {b : α → Bool} (h : EvTP E tt Γ (b a)) : EvT E tt Γ (.ok a) (fun _ => Γ) b := fun σ H R Q t q => h σ H R Q t q
theorem etp_not {b : Bool} (h : EvTP E tt Γ b) : EvTP E (tNot tt) Γ (!b) := fun σ H R Q t q => h σ H R _ t q
theorem et_not {b : γ → Bool} (h : EvT E tt Γ m Γ' b) : EvT E (tNot tt) Γ m Γ' fun a => !b a := fun σ H R Q t q => h σ H R _ t q
theorem etp_and {a b : Bool} (h : EvTP E tt Γ a) (h2 : EvTP E tu Γ b) : EvTP E (tAnd tt tu) Γ (a && b) := fun σ H R Q t q => h σ H R _ t fun H1 t1 => by
  cases a with
  | true => exact h2 σ H1 R Q t1 q
  | false => exact q H1 t1
theorem etp_or {a b : Bool} (h : EvTP E tt Γ a) (h2 : EvTP E tu Γ b) : EvTP E (tOr tt tu) Γ (a || b) := fun σ H R Q t q => h σ H R _ t fun H1 t1 => by
  cases a with
  | true => exact q H1 t1
  | false => exact h2 σ H1 R Q t1 q
/-- the second one may fail: it is looked at only where the first leaves it open; no state changes -/
theorem et_and {ma mb : Res Bool} (h : EvT E tt Γ ma (fun _ => Γ) id) (h2 : EvT E tu Γ mb (fun _ => Γ) id) : EvT E (tAnd tt tu) Γ (ma.bind fun a => if a then mb else .ok false) (fun _ => Γ) id := fun σ H R Q t q =>
  h σ H R _ t (wp_mono (wp_bind.mp q) (fun a _ q1 H1 t1 => by
    cases a with
    | true => exact h2 σ H1 R Q t1 q1
    | false => exact q1 H1 t1) fun _ x => x)
theorem et_or {ma mb : Res Bool} (h : EvT E tt Γ ma (fun _ => Γ) id) (h2 : EvT E tu Γ mb (fun _ => Γ) id) : EvT E (tOr tt tu) Γ (ma.bind fun a => if a then .ok true else mb) (fun _ => Γ) id := fun σ H R Q t q =>
  h σ H R _ t (wp_mono (wp_bind.mp q) (fun a _ q1 H1 t1 => by
    cases a with
    | true => exact q1 H1 t1
    | false => exact h2 σ H1 R Q t1 q1) fun _ x => x)
/-! .. as values -/
theorem bl_of {b : Bool} {A R : Asr} {v : V} {H : Hp} (t : Top (sep A (sep (vA (.bool b) v) R)) H) : v = .bl b :=
  t.fact fun F o s ⟨_, _, _, _, _, _, ⟨_, _, _, _, _, x, _⟩⟩ => by cases (show Rp F v (.bool b) from x); rfl
theorem evp_and {a b : Bool} (h : EvP E ta Γ (rV (.bool a))) (h2 : EvP E tb Γ (rV (.bool b))) : EvP E (tAndV ta tb) Γ (rV (.bool (a && b))) := fun σ H R Q t q => h σ H R _ t fun v H1 t1 => ⟨a, bl_of t1, by
  cases a with
  | true => exact h2 σ H1 R Q (t1.ent (Ent.sepR Ent.right)) q
  | false => exact q (.bl false) H1 (bl_of t1 ▸ t1)⟩
theorem evp_or {a b : Bool} (h : EvP E ta Γ (rV (.bool a))) (h2 : EvP E tb Γ (rV (.bool b))) : EvP E (tOrV ta tb) Γ (rV (.bool (a || b))) := fun σ H R Q t q => h σ H R _ t fun v H1 t1 => ⟨a, bl_of t1, by
  cases a with
  | true => exact q (.bl true) H1 (bl_of t1 ▸ t1)
  | false => exact h2 σ H1 R Q (t1.ent (Ent.sepR Ent.right)) q⟩
theorem ev_and {ma mb : Res Bool} (h : EvJ E ta Γ ma (fun _ => Γ) fun a => rV (.bool a)) (h2 : EvJ E tb Γ mb (fun _ => Γ) fun a => rV (.bool a)) :
    EvJ E (tAndV ta tb) Γ (ma.bind fun a => if a then mb else .ok false) (fun _ => Γ) fun a => rV (.bool a) := fun σ H R Q t q =>
  h σ H R _ t (wp_mono (wp_bind.mp q) (fun a _ q1 v H1 t1 => ⟨a, bl_of t1, by
    cases a with
    | true => exact h2 σ H1 R Q (t1.ent (Ent.sepR Ent.right)) q1
    | false => exact q1 (.bl false) H1 (bl_of t1 ▸ t1)⟩) fun _ x => x)
theorem ev_or {ma mb : Res Bool} (h : EvJ E ta Γ ma (fun _ => Γ) fun a => rV (.bool a)) (h2 : EvJ E tb Γ mb (fun _ => Γ) fun a => rV (.bool a)) :
    EvJ E (tOrV ta tb) Γ (ma.bind fun a => if a then .ok true else mb) (fun _ => Γ) fun a => rV (.bool a) := fun σ H R Q t q =>
  h σ H R _ t (wp_mono (wp_bind.mp q) (fun a _ q1 v H1 t1 => ⟨a, bl_of t1, by
    cases a with
    | true => exact q1 (.bl true) H1 (bl_of t1 ▸ t1)
    | false => exact h2 σ H1 R Q (t1.ent (Ent.sepR Ent.right)) q1⟩) fun _ x => x)
theorem evp_not {a : Bool} (h : EvP E ta Γ (rV (.bool a))) : EvP E (tNotV ta) Γ (rV (.bool (!a))) := fun σ H R Q t q => h σ H R _ t fun v H1 t1 => ⟨a, bl_of t1, by
  have t2 := t1.ent (Ent.sepR (B' := R) Ent.right)
  have t3 := t2.addV (v := .bl (!a)) (d := .bool (!a)) fun F _ _ _ => .bl _
  exact q _ H1 (t3.ent ((Ent.assoc'.trans (Ent.sepL Ent.comm)).trans Ent.assoc))⟩
theorem ev_not {b : γ → Bool} (h : EvJ E ta Γ m Γ' fun a => rV (.bool (b a))) : EvJ E (tNotV ta) Γ m Γ' fun a => rV (.bool (!b a)) := fun σ H R Q t hm => h σ H R _ t (wp_mono hm (fun a _ q v H1 t1 => ⟨b a, bl_of t1, by
  have t2 := t1.ent (Ent.sepR (B' := R) Ent.right)
  have t3 := t2.addV (v := .bl (!b a)) (d := .bool (!b a)) fun F _ _ _ => .bl _
  exact q _ H1 (t3.ent ((Ent.assoc'.trans (Ent.sepL Ent.comm)).trans Ent.assoc))⟩) fun _ x => x)
/-- a if t else b -/
theorem evp_if {b : Bool} {mA mB : Res γ} (h : EvTP E tt Γ b) (h1 : EvJ E ta Γ mA Γ' c) (h2 : EvJ E tb Γ mB Γ' c) : EvJ E (tIf tt ta tb) Γ (if b then mA else mB) Γ' c := fun σ H R Q t q => h σ H R _ t fun H1 t1 => by
  cases b with
  | true => exact h1 σ H1 R Q t1 q
  | false => exact h2 σ H1 R Q t1 q
theorem evpp_if {b : Bool} {T : Type} {x y : T} {cc : T → RC} (h : EvTP E tt Γ b) (h1 : EvP E ta Γ (cc x)) (h2 : EvP E tb Γ (cc y)) : EvP E (tIf tt ta tb) Γ (cc (if b then x else y)) := fun σ H R Q t q => h σ H R _ t fun H1 t1 => by
  cases b with
  | true => exact h1 σ H1 R Q t1 q
  | false => exact h2 σ H1 R Q t1 q
theorem ev_if {bt : α → Bool} {mA mB : α → Res γ} (h : EvT E tt Γ ma Γ1 bt) (h1 : ∀ a, bt a = true → EvJ E ta (Γ1 a) (mA a) Γ' c) (h2 : ∀ a, bt a = false → EvJ E tb (Γ1 a) (mB a) Γ' c) :
    EvJ E (tIf tt ta tb) Γ (ma.bind fun a => if bt a then mA a else mB a) Γ' c := fun σ H R Q t q => h σ H R _ t (wp_mono (wp_bind.mp q) (fun a _ q1 H1 t1 => by
  cases e : bt a with
  | true =>
    rw [if_pos e] at q1
    exact h1 a e σ H1 R Q t1 q1
  | false =>
    rw [if_neg (by rw [e]; decide)] at q1
    exact h2 a e σ H1 R Q t1 q1) fun _ x => x)

/-! arguments -/
theorem eap_nil : EvAP E tNil Γ [] := fun σ H R Q t q => q [] H (t.ent (Ent.sepR fun F H o s h => sep_pers (fun _ => trivial) h))
theorem eap_cons {cs : List RC} (h : EvP E te Γ cx) (h2 : EvAP E tr Γ cs) : EvAP E (tCons te tr) Γ (cx :: cs) := fun σ H R Q t q =>
  h σ H R _ t fun v H1 t1 => h2 σ H1 (sep (cx σ v) R) _ t1 fun vs H2 t2 => q (v :: vs) H2 ((top_rot t2).ent (Ent.sepR Ent.assoc'))
theorem ea_pure {a : α} {cs : α → List RC} (h : EvAP E tr Γ (cs a)) : EvA E tr Γ (.ok a) (fun _ => Γ) cs := fun σ H R Q t q => h σ H R Q t q
theorem ea_nil : EvA E tNil Γ (.ok ()) (fun _ => Γ) fun _ => [] := eap_nil
theorem ea_cons {mr : α → Res β} {cs : α → β → List RC} (h : EvJ E te Γ ma Γ1 ca) (h2 : ∀ a, EvA E tr (Γ1 a) (mr a) (Γ2 a) (cs a)) :
    EvA E (tCons te tr) Γ (ma.bind fun a => (mr a).bind fun b => .ok (a, b)) (fun p => Γ2 p.1 p.2) (fun p => ca p.1 :: cs p.1 p.2) := fun σ H R Q t q =>
  h σ H R _ t (wp_mono (wp_bind.mp q) (fun a _ q1 v H1 t1 => h2 a σ H1 (sep (ca a σ v) R) _ t1 (wp_mono (wp_bind.mp q1) (fun b _ q2 vs H2 t2 => q2 (v :: vs) H2 ((top_rot t2).ent (Ent.sepR Ent.assoc'))) fun _ x => x.drop)) fun _ x => x)
theorem evp_cb {rn : List V → Hp → VK → Prop} {cs : List RC} (h : EvAP E tr Γ cs) (hr : RnJ E rn cs Γ m Γ' c) : EvJ E (tCB rn tr) Γ m Γ' c := fun σ H R Q t q =>
  h σ H R _ t fun vs H1 t1 => hr σ H1 R Q vs t1 q
theorem ev_cb {rn : List V → Hp → VK → Prop} {cs : α → List RC} {k : α → Res γ} (h : EvA E tr Γ ma Γ1 cs) (hr : ∀ a, RnJ E rn (cs a) (Γ1 a) (k a) Γ' c) : EvJ E (tCB rn tr) Γ (ma.bind k) Γ' c := fun σ H R Q t q =>
  h σ H R _ t (wp_mono (wp_bind.mp q) (fun a _ q1 vs H1 t1 => hr a σ H1 R Q vs t1 q1) fun _ x => x)
def vAs (ds : List PyData) (vs : List V) : Asr := ⟨fun F _ _ => RpAll F vs ds, fun s _ h => h.mono s, fun _ h => h⟩
/-- cells that can be frozen as data -/
def Fz (c : RC) (d : PyData) : Prop := ∀ σ v A H, Top (sep (c σ v) A) H → Top (sep (vA d v) A) H
theorem fz_v {d : PyData} : Fz (rV d) d := fun _ _ _ _ t => t
theorem fz_o {ds : List PyData} : Fz (rO ds) (.list ds) := fun _ _ _ _ t => oV_freeze t
inductive FzAll : List RC → List PyData → Prop
  | nil : FzAll [] []
  | cons {c : RC} {cs : List RC} {d : PyData} {ds : List PyData} : Fz c d → FzAll cs ds → FzAll (c :: cs) (d :: ds)
theorem FzAll.top {σ : St} : ∀ {cs : List RC} {ds : List PyData} {vs : List V} {A : Asr} {H : Hp}, FzAll cs ds → Top (sep (csA cs σ vs) A) H → Top (sep (vAs ds vs) A) H
  | _, _, [], A, H, .nil, t => t.ent (Ent.sepL fun _ _ _ _ _ => .nil)
  | _, _, _ :: _, A, H, .nil, t => (t.fact (φ := False) fun _ _ _ ⟨_, _, _, _, _, a, _⟩ => a).elim
  | _, _, [], A, H, .cons _ _, t => (t.fact (φ := False) fun _ _ _ ⟨_, _, _, _, _, a, _⟩ => a).elim
  | _, _, v :: vs, A, H, .cons (d := d) (ds := ds) h hr, t => by
    have t1 := h σ v _ H (t.ent Ent.assoc)
    have t2 := t1.ent ((Ent.assoc'.trans (Ent.sepL Ent.comm)).trans Ent.assoc)
    refine (FzAll.top hr t2).ent fun F H o s ⟨o1, o2, h1, h2, dd, b, ⟨o3, o4, h3, h4, d', x, a⟩⟩ => ?_
    exact A.up (o := o4) (fun p z => h2 p (h4 p z)) a |> fun a => sep_pers (fun _ => RpAll.cons x b) a
end
end Lc
/-! Lc: calls, statements, loops, comprehensions -/
namespace Lc
open PySem L2

/-! ### what a def promises -/
abbrev PP := V → Hp → Hp → Prop
def ppV (d : PyData) : PP := fun v F _ => Rp F v d
/-- a list that is only read: frozen, or owned by the caller -/
def ppL (ds : List PyData) : PP := fun v F H => ∃ p vs, v = .ref p ∧ H p = some (.lst vs) ∧ RpAll F vs ds
/-- .. that may be locked or written (the script) -/
def ppS (K : PySem.W.Frag) (ds : List PyData) : PP := fun v F H => ∃ p vs, v = .ref p ∧ SqL K H p vs ∧ RpAll F vs ds
def ppAt (p : Addr) : PP := fun v _ _ => v = .ref p
def parOk : List PP → List V → Hp → Hp → Prop
  | [], [], _, _ => True
  | p :: ps, v :: vs, F, H => p v F H ∧ parOk ps vs F H
  | _, _, _, _ => False
theorem parOk_len : ∀ {ps : List PP} {vs : List V} {F H : Hp}, parOk ps vs F H → vs.length = ps.length
  | [], [], _, _, _ => rfl
  | _ :: _, _ :: _, _, _, h => by rw [List.length_cons, List.length_cons, parOk_len h.2]
  | [], _ :: _, _, _, h => (show False from h).elim
  | _ :: _, [], _, _, h => (show False from h).elim
/-- no list is changed -/
def Sp0 (ec : Nat → Value) {α β : Type} (ps : α → List PP) (m : α → Res β) (c : β → V → Asr) : Sp := fun vs H Q E => ∃ (x : α) (C : Asr), Top C H ∧ (∀ F H o, Same F H → C.P F H o → parOk (ps x) vs F H) ∧
  (m x).wp (fun b => ∀ v H', Top (sep C (c b v)) H' → Q v H') fun k => ∀ H', Top C H' → E (ec k) none H'
/-- one list is changed in place; on an error it is as it was -/
def Sp1 (ec : Nat → Value) {α β : Type} (ps : Addr → α → List PP) (i0 : α → List PyData) (m : α → Res β) (i1 : β → List PyData) (c : β → V → Asr) : Sp := fun vs H Q E => ∃ (p : Addr) (x : α) (C : Asr), Top (sep C (oA p (i0 x))) H ∧
  (∀ F H o, Same F H → C.P F H o → parOk (ps p x) vs F H) ∧
  (m x).wp (fun b => ∀ v H', Top (sep C (sep (oA p (i1 b)) (c b v))) H' → Q v H') fun k => ∀ H', Top (sep C (oA p (i0 x))) H' → E (ec k) none H'

section
variable {E : Ec} {te : TE} {tr : TA} {Γ : List Cell} {α β γ δ : Type} {c : γ → RC}
open Res
/-- what the cells of the arguments tell -/
def Pars (E : Ec) (Γ : List Cell) (Kn : St → Prop) (cs : List RC) (ps : List PP) : Prop := ∀ σ vs F H o, Kn σ → Same F H → (sep (base E σ Γ) (csA cs σ vs)).P F H o → parOk ps vs F H
abbrev K0 : St → Prop := fun _ => True
abbrev K1 (i : Nat) (p : Addr) : St → Prop := fun σ => σ[i]? = some (some (.ref p))
def PArg (E : Ec) (Γ : List Cell) (Kn : St → Prop) (c : RC) (p : PP) : Prop := ∀ σ v F H o, Kn σ → Same F H → (sep (base E σ Γ) (c σ v)).P F H o → p v F H
theorem pars_nil {Kn : St → Prop} : Pars E Γ Kn [] [] := fun σ vs F H o _ s ⟨_, _, _, _, _, _, h⟩ => by
  cases vs with
  | nil => trivial
  | cons v vs => exact (show False from h).elim
theorem pars_cons {Kn : St → Prop} {c : RC} {p : PP} {cs : List RC} {ps : List PP} (h : PArg E Γ Kn c p) (hr : Pars E Γ Kn cs ps) : Pars E Γ Kn (c :: cs) (p :: ps) := fun σ vs F H o kn s ⟨o1, o2, h1, h2, d, b, q⟩ => by
  cases vs with
  | nil => exact (show False from q).elim
  | cons v vs =>
    obtain ⟨o3, o4, h3, h4, e, x, y⟩ := q
    exact ⟨h σ v F H o kn s ⟨o1, o3, h1, fun p z => h2 p (h3 p z), fun p z w => d p z (h3 p w), b, x⟩, hr σ vs F H o kn s ⟨o1, o4, h1, fun p z => h2 p (h4 p z), fun p z w => d p z (h4 p w), b, y⟩⟩
theorem pa_v {Kn : St → Prop} {d : PyData} : PArg E Γ Kn (rV d) (ppV d) := fun _ _ _ _ _ _ _ ⟨_, _, _, _, _, _, x⟩ => x
theorem ppL_of {d : List PyData} {v : V} {F H : Hp} (s : Same F H) (h : Rp F v (.list d)) : ppL d v F H := by
  cases h with
  | lst e r => exact ⟨_, _, rfl, s _ _ e, r⟩
theorem pa_lv {Kn : St → Prop} {ds : List PyData} : PArg E Γ Kn (rV (.list ds)) (ppL ds) := fun _ _ _ _ _ _ s ⟨_, _, _, _, _, _, x⟩ => ppL_of s x
theorem pa_lo {Kn : St → Prop} {ds : List PyData} : PArg E Γ Kn (rO ds) (ppL ds) := fun _ _ _ _ _ _ s ⟨_, _, _, _, _, _, x⟩ => by
  obtain ⟨p, rfl, _, vs, e, r⟩ := x
  exact ⟨p, vs, rfl, e, r⟩
theorem ppS_of {K : PySem.W.Frag} {ds : List PyData} {v : V} {F H : Hp} (h : ppL ds v F H) : ppS K ds v F H := by
  obtain ⟨p, vs, e, e2, r⟩ := h
  exact ⟨p, vs, e, SqL.of e2, r⟩
/-- a parameter that is only read: its value is v0, what is known of it lies in E.C -/
def Bw (E : Ec) (v : V) (p : PP) : Prop := ∀ F H o, Same F H → E.C.P F H o → p v F H
theorem pa_bw {Kn : St → Prop} {i : Nat} {v : V} {p : PP} (hi : Γ[i]? = some (cIs v)) (h : Bw E v p) : PArg E Γ Kn (rS i) p := fun σ w F H o _ s ⟨_, _, _, _, _, ⟨_, _, _, _, _, a, c⟩, x⟩ => by
  obtain ⟨y, ey, hy⟩ := sl_get hi a
  have e1 : y = some v := hy
  have e2 : σ[i]? = some (some w) := x
  rw [ey, e1] at e2
  cases e2
  exact h F H _ s c
def XOk (E : Ec) (Γ : List Cell) : Prop := ∀ σ, Ent (sl σ Γ) (E.X σ)
/-- where no exception may leave (a comprehension's block): the wish is empty -/
def Calm (E : Ec) : Prop := ∀ cls d σ H, ¬ E.W cls d σ H

theorem call_core {cs : List RC} {ps : α → List PP} {m : α → Res β} {cb : β → V → Asr} {x : α} {Ex : XK} {σ : St} (hp : Pars E Γ K0 cs (ps x)) (hx : XOk E Γ) (hE : ∀ k H, E.W (E.ec k) none σ H → Ex (E.ec k) none H) {H : Hp} {R : Asr} {Q : VK} {vs : List V}
    (t : Top (sep (base E σ Γ) (sep (csA cs σ vs) R)) H) (q : (m x).wp (fun b => ∀ v H', Top (sep (base E σ Γ) (sep (cb b v) R)) H' → Q v H') (Exn E R σ)) : Sp0 E.ec ps m cb vs H Q Ex := by
  refine ⟨x, _, t, fun F H o s h => hp σ vs F H o trivial s (Ent.sepR Ent.left F H o s h), wp_mono q (fun b _ q1 v H' t' => q1 v H' (t'.ent ?_)) fun k q1 H' t' => hE k H' (q1 H' (t'.ent ?_))⟩
  · exact Ent.assoc.trans (Ent.sepR ((Ent.sepL Ent.right).trans Ent.comm))
  · exact Ent.sep (Ent.sepL (hx σ)) Ent.right
theorem evp_callS {cs : List RC} {ps : α → List PP} {m : α → Res β} {cb : β → V → Asr} (x : α) (h : EvAP E tr Γ cs) (hp : Pars E Γ K0 cs (ps x)) (hx : XOk E Γ) : EvJ E (tCallS (Sp0 E.ec ps m cb) (WE E.W) tr) Γ (m x) (fun _ => Γ) (fun b _ => cb b) := fun σ H R Q t q =>
  h σ H R _ t fun vs H1 t1 => call_core hp hx (fun k H z => z) t1 q
theorem ev_callS {ma : Res δ} {Γ1 : δ → List Cell} {cs : δ → List RC} {ps : α → List PP} {m : α → Res β} {cb : β → V → Asr} (x : δ → α) (h : EvA E tr Γ ma Γ1 cs) (hp : ∀ a, Pars E (Γ1 a) K0 (cs a) (ps (x a))) (hx : ∀ a, XOk E (Γ1 a)) :
    EvJ E (tCallS (Sp0 E.ec ps m cb) (WE E.W) tr) Γ (ma.bind fun a => (m (x a)).bind fun b => .ok (a, b)) (fun p => Γ1 p.1) (fun p _ => cb p.2) := fun σ H R Q t q =>
  h σ H R _ t (wp_mono (wp_bind.mp q) (fun a _ q1 vs H1 t1 => call_core (hp a) (hx a) (fun k H z => z) t1 (wp_mono (wp_bind.mp q1) (fun b _ q2 => q2) fun _ z => z)) fun _ z => z)
/-- .. inside a comprehension -/
theorem evp_call0 {cs : List RC} {ps : α → List PP} {m : α → Res β} {cb : β → V → Asr} (x : α) (h : EvAP E tr Γ cs) (hp : Pars E Γ K0 cs (ps x)) (hx : XOk E Γ) (hc : Calm E) : EvJ E (tCall (Sp0 E.ec ps m cb) [] E0 tr) Γ (m x) (fun _ => Γ) (fun b _ => cb b) := fun σ H R Q t q =>
  h σ H R _ t fun vs H1 t1 => by
    rw [List.append_nil]
    exact call_core hp hx (fun k H z => (hc _ _ _ _ z).elim) t1 q
/-- the cell of a slot that holds a list of one's own -/
def OwnC (mk : List PyData → Cell) : Prop := ∀ (x : Option V) (ds : List PyData) F H o, (mk ds x).P F H o → ∃ p, x = some (.ref p) ∧ (oA p ds).P F H o ∧ ∀ ds', Ent (oA p ds') (mk ds' x)
theorem own_O : OwnC cO := fun x ds F H o h => by
  cases x with
  | none => exact (show False from h).elim
  | some v =>
    obtain ⟨p, rfl, a⟩ := h
    exact ⟨p, rfl, a, fun ds' F H o s b => ⟨p, rfl, b⟩⟩
theorem own_At {q : Addr} : OwnC (cAt q) := fun x ds F H o ⟨o1, o2, h1, h2, d, a, b⟩ => by
  have a' : x = some (.ref q) := a
  subst a'
  exact ⟨q, rfl, (oA q ds).up h2 b, fun ds' F H o s z => sep_pers (fun _ => rfl) z⟩
/-- slot i's list, taken out of the state -/
theorem take_own {mk : List PyData → Cell} {i : Nat} {ds : List PyData} {σ : St} {A : Asr} {H : Hp} (hk : OwnC mk) (hi : Γ[i]? = some (mk ds)) (t : Top (sep (base E σ Γ) A) H) :
    ∃ p, σ[i]? = some (some (.ref p)) ∧ Top (sep (sep (base E σ (Γ.set i cAny)) A) (oA p ds)) H ∧ ∀ ds', Ent (sep (sep (base E σ (Γ.set i cAny)) A) (oA p ds')) (sep (base E σ (Γ.set i (mk ds'))) A) := by
  obtain ⟨F, o, s, kk, o1, o2, h1, h2, e, ⟨o3, o4, h3, h4, e', a, b⟩, r⟩ := t
  obtain ⟨x, ex, o5, o6, h5, h6, e2, cx, rest⟩ := sl_take hi a
  obtain ⟨p, rfl, op, back⟩ := hk x ds F H o5 cx
  have hlt : i < Γ.length := (List.getElem?_eq_some_iff.mp hi).1
  refine ⟨p, ex, ⟨F, o, s, kk, fun q => o6 q ∨ o4 q ∨ o2 q, o5, fun q z => ?_, fun q z => h1 q (h3 q (h5 q z)), fun q z w => ?_, ⟨fun q => o6 q ∨ o4 q, o2, fun q z => z.elim .inl fun z => .inr (.inl z), fun q z => .inr (.inr z), fun q z w => ?_, ⟨o6, o4, fun _ z => .inl z, fun _ z => .inr z, fun q z w => e' q (h6 q z) w, rest, b⟩, r⟩, op⟩, ?_⟩
  · rcases z with z | z | z
    · exact h1 q (h3 q (h6 q z))
    · exact h1 q (h4 q z)
    · exact h2 q z
  · rcases z with z | z | z
    · exact e2 q w z
    · exact e' q (h5 q w) z
    · exact e q (h3 q (h5 q w)) z
  · rcases z with z | z
    · exact e q (h3 q (h6 q z)) w
    · exact e q (h4 q z) w
  · intro ds' F H o s ⟨o1, o2, h1, h2, d, ⟨o3, o4, h3, h4, d', ⟨o5, o6, h5, h6, d2, a, cc⟩, r⟩, b⟩
    refine ⟨fun q => o2 q ∨ o5 q ∨ o6 q, o4, fun q z => ?_, fun q z => h1 q (h4 q z), fun q z w => ?_, ⟨fun q => o2 q ∨ o5 q, o6, fun q z => z.elim .inl fun z => .inr (.inl z), fun q z => .inr (.inr z), fun q z w => ?_,
      sl_put hlt ex ⟨o2, o5, fun _ z => .inl z, fun _ z => .inr z, fun q z w => d q (h3 q (h5 q w)) z, back ds' F H o2 s b, a⟩, cc⟩, r⟩
    · rcases z with z | z | z
      · exact h2 q z
      · exact h1 q (h3 q (h5 q z))
      · exact h1 q (h3 q (h6 q z))
    · rcases z with z | z | z
      · exact d q (h4 q w) z
      · exact d' q (h5 q z) w
      · exact d' q (h6 q z) w
    · rcases z with z | z
      · exact d q (h3 q (h6 q w)) z
      · exact d2 q z w
theorem pa_own {Kn : St → Prop} {mk : List PyData → Cell} {i : Nat} {ds : List PyData} (hk : OwnC mk) (hi : Γ[i]? = some (mk ds)) : PArg E Γ Kn (rS i) (ppL ds) := fun σ w F H o _ s ⟨_, _, _, _, _, ⟨_, _, _, _, _, a, _⟩, x⟩ => by
  obtain ⟨y, ey, hy⟩ := sl_get hi a
  obtain ⟨p, rfl, ⟨_, vs, e, r⟩, _⟩ := hk y ds F H _ hy
  have e2 : σ[i]? = some (some w) := x
  rw [ey] at e2
  cases e2
  exact ⟨p, vs, rfl, e, r⟩
theorem pa_at {i : Nat} {p : Addr} : PArg E Γ (K1 i p) (rS i) (ppAt p) := fun σ w F H o kn s ⟨_, _, _, _, _, _, x⟩ => by
  have e2 : σ[i]? = some (some w) := x
  rw [kn] at e2
  cases e2
  exact rfl
theorem call1_core {mk : List PyData → Cell} {i : Nat} {cs : List RC} {ps : Addr → α → List PP} {i0 : α → List PyData} {m : α → Res β} {i1 : β → List PyData} {cb : β → V → Asr} {x : α} {Ex : XK} {σ : St} (hk : OwnC mk) (hi : Γ[i]? = some (mk (i0 x)))
    (hp : ∀ p, Pars E (Γ.set i cAny) (K1 i p) cs (ps p x)) (hx : XOk E Γ) (hE : ∀ k H, E.W (E.ec k) none σ H → Ex (E.ec k) none H) {H : Hp} {R : Asr} {Q : VK} {vs : List V}
    (t : Top (sep (base E σ Γ) (sep (csA cs σ vs) R)) H) (q : (m x).wp (fun b => ∀ v H', Top (sep (base E σ (Γ.set i (mk (i1 b)))) (sep (cb b v) R)) H' → Q v H') (Exn E R σ)) : Sp1 E.ec ps i0 m i1 cb vs H Q Ex := by
  obtain ⟨p, hs, t2, back⟩ := take_own hk hi t
  refine ⟨p, x, _, t2, fun F H o s h => hp p σ vs F H o hs s (Ent.sepR Ent.left F H o s h), wp_mono q (fun b _ q1 v H' t' => q1 v H' ?_) fun k q1 H' t' => hE k H' (q1 H' ?_)⟩
  · have t3 := t'.ent Ent.assoc'
    have t4 := t3.ent (Ent.sepL (back (i1 b)))
    exact t4.ent (Ent.assoc.trans (Ent.sepR ((Ent.sepL Ent.right).trans Ent.comm)))
  · have t4 := t'.ent (back (i0 x))
    have e : Γ.set i (mk (i0 x)) = Γ := by
      obtain ⟨hl, e⟩ := List.getElem?_eq_some_iff.mp hi
      rw [← e, List.set_getElem_self]
    rw [e] at t4
    exact t4.ent (Ent.sep (Ent.sepL (hx σ)) Ent.right)
theorem evp_callS1 {mk : List PyData → Cell} {i : Nat} {cs : List RC} {ps : Addr → α → List PP} {i0 : α → List PyData} {m : α → Res β} {i1 : β → List PyData} {cb : β → V → Asr} (x : α) (hk : OwnC mk) (h : EvAP E tr Γ cs) (hi : Γ[i]? = some (mk (i0 x)))
    (hp : ∀ p, Pars E (Γ.set i cAny) (K1 i p) cs (ps p x)) (hx : XOk E Γ) : EvJ E (tCallS (Sp1 E.ec ps i0 m i1 cb) (WE E.W) tr) Γ (m x) (fun b => Γ.set i (mk (i1 b))) (fun b _ => cb b) := fun σ H R Q t q =>
  h σ H R _ t fun vs H1 t1 => call1_core hk hi hp hx (fun k H z => z) t1 q
theorem evp_call01 {mk : List PyData → Cell} {i : Nat} {cs : List RC} {ps : Addr → α → List PP} {i0 : α → List PyData} {m : α → Res β} {i1 : β → List PyData} {cb : β → V → Asr} (x : α) (hk : OwnC mk) (h : EvAP E tr Γ cs) (hi : Γ[i]? = some (mk (i0 x)))
    (hp : ∀ p, Pars E (Γ.set i cAny) (K1 i p) cs (ps p x)) (hx : XOk E Γ) (hc : Calm E) : EvJ E (tCall (Sp1 E.ec ps i0 m i1 cb) [] E0 tr) Γ (m x) (fun b => Γ.set i (mk (i1 b))) (fun b _ => cb b) := fun σ H R Q t q =>
  h σ H R _ t fun vs H1 t1 => by
    rw [List.append_nil]
    exact call1_core hk hi hp hx (fun k H z => (hc _ _ _ _ z).elim) t1 q
/-- arguments that compute, but change no state -/
theorem ev_callS' {ma : Res δ} {cs : δ → List RC} {ps : α → List PP} {m : α → Res β} {cb : β → V → Asr} (x : δ → α) (h : EvA E tr Γ ma (fun _ => Γ) cs) (hp : ∀ a, Pars E Γ K0 (cs a) (ps (x a))) (hx : XOk E Γ) :
    EvJ E (tCallS (Sp0 E.ec ps m cb) (WE E.W) tr) Γ (ma.bind fun a => m (x a)) (fun _ => Γ) (fun b _ => cb b) := fun σ H R Q t q =>
  h σ H R _ t (wp_mono (wp_bind.mp q) (fun a _ q1 vs H1 t1 => call_core (hp a) hx (fun k H z => z) t1 q1) fun _ z => z)
theorem ev_call0' {ma : Res δ} {cs : δ → List RC} {ps : α → List PP} {m : α → Res β} {cb : β → V → Asr} (x : δ → α) (h : EvA E tr Γ ma (fun _ => Γ) cs) (hp : ∀ a, Pars E Γ K0 (cs a) (ps (x a))) (hx : XOk E Γ) (hc : Calm E) :
    EvJ E (tCall (Sp0 E.ec ps m cb) [] E0 tr) Γ (ma.bind fun a => m (x a)) (fun _ => Γ) (fun b _ => cb b) := fun σ H R Q t q =>
  h σ H R _ t (wp_mono (wp_bind.mp q) (fun a _ q1 vs H1 t1 => by
    rw [List.append_nil]
    exact call_core (hp a) hx (fun k H z => (hc _ _ _ _ z).elim) t1 q1) fun _ z => z)
end

/-! ### statements -/
inductive Fin where
  | nx (Γ : List Cell) | lp (Γ : List Cell) | bk (Γ : List Cell) | ct (Γ : List Cell) | rt (Γ : List Cell) (c : RC) | no
def Fin.ok (E : Ec) (R : Asr) (D : Ends) : Fin → Prop
  | .nx Γ => ∀ σ H, Top (sep (base E σ Γ) R) H → D.nx σ H
  | .lp Γ => ∀ σ H, Top (sep (base E σ Γ) R) H → D.nx σ H ∧ D.ct σ H
  | .bk Γ => ∀ σ H, Top (sep (base E σ Γ) R) H → D.bk σ H
  | .ct Γ => ∀ σ H, Top (sep (base E σ Γ) R) H → D.ct σ H
  | .rt Γ c => ∀ σ v H, Top (sep (base E σ Γ) (sep (c σ v) R)) H → D.rt v H
  | .no => True
/-- .. of a part that does not go on behind its end -/
def Fin.out : Fin → Fin
  | .nx _ => .no
  | .lp Γ => .ct Γ
  | f => f
def EvS (E : Ec) (t : TS) (Γ : List Cell) {β : Type} (m : Res β) (post : β → Fin) : Prop :=
  ∀ (σ : St) (H : Hp) (R : Asr) (D : Ends), Top (sep (base E σ Γ) R) H → m.wp (fun b => (post b).ok E R D) (ExnS E R) → t D σ H
abbrev EvS1 (E : Ec) (t : TS) (Γ : List Cell) {β : Type} (m : Res β) (Γ' : β → List Cell) : Prop := EvS E t Γ m fun b => .nx (Γ' b)
/-- what ends a part: goes on, or is out -/
inductive Jn (β ρ : Type) where
  | go (b : β) | out (r : ρ)
def Jn.post {β ρ : Type} (Γ' : β → List Cell) (post : ρ → Fin) : Jn β ρ → Fin
  | .go b => .nx (Γ' b)
  | .out r => (post r).out
section
variable {E : Ec} {te : TE} {tt : TT} {t u : TS} {Γ Δ : List Cell} {α β γ ρ : Type} {m : Res β} {post : β → Fin}
open Res
theorem Fin.out_ok {R : Asr} {D : Ends} {nx : St → Hp → Prop} : ∀ {f : Fin}, f.ok E R D → f.out.ok E R { D with nx := nx }
  | .nx _, _ => trivial
  | .lp _, h => fun σ H t => (h σ H t).2
  | .bk _, h => h
  | .ct _, h => h
  | .rt _ _, h => h
  | .no, _ => trivial
theorem es_seq {m1 : Res α} {Γ1 : α → List Cell} {k : α → Res β} (h1 : EvS1 E t Γ m1 Γ1) (h2 : ∀ a, EvS E u (Γ1 a) (k a) post) : EvS E (tSeq t u) Γ (m1.bind k) post := fun σ H R D tt q =>
  h1 σ H R { D with nx := u D } tt (wp_mono (wp_bind.mp q) (fun a _ q1 σ' H' t' => h2 a σ' H' R D t' q1) fun _ x => x)
theorem es_seqP {a : α} {Γ1 : α → List Cell} (h1 : EvS1 E t Γ (.ok a) Γ1) (h2 : EvS E u (Γ1 a) m post) : EvS E (tSeq t u) Γ m post := fun σ H R D tt q =>
  h1 σ H R { D with nx := u D } tt fun σ' H' t' => h2 σ' H' R D t' q
/-- the part may also leave -/
theorem es_seqC {m1 : Res (Jn α β)} {Γ1 : α → List Cell} {k : α → Res β} (h1 : EvS E t Γ m1 (Jn.post Γ1 post)) (h2 : ∀ a, EvS E u (Γ1 a) (k a) post) :
    EvS E (tSeq t u) Γ (m1.bind fun j => match j with | .go a => k a | .out b => .ok b) post := fun σ H R D tt q =>
  h1 σ H R { D with nx := u D } tt (wp_mono (wp_bind.mp q) (fun j _ q1 => by
    cases j with
    | go a => exact fun σ' H' t' => h2 a σ' H' R D t' q1
    | out b => exact Fin.out_ok q1) fun _ x => x)
/-- what follows is never reached -/
theorem es_last (h1 : EvS E t Γ m fun b => (post b).out) : EvS E (tSeq t u) Γ m post := fun σ H R D tt q =>
  h1 σ H R { D with nx := u D } tt (wp_mono q (fun b _ q1 => Fin.out_ok q1) fun _ x => x)
theorem es_end {b : β} (hp : post b = .nx Δ) (l : Le Γ Δ) : EvS E tNext Γ (.ok b) post := fun σ H R D tt q => by
  have q' : (post b).ok E R D := q
  rw [hp] at q'
  exact q' σ H (tt.ent (Ent.sepL (Ent.sepL l.ent)))
theorem es_endL {b : β} (hp : post b = .lp Δ) (l : Le Γ Δ) : EvS E tNext Γ (.ok b) post := fun σ H R D tt q => by
  have q' : (post b).ok E R D := q
  rw [hp] at q'
  exact (q' σ H (tt.ent (Ent.sepL (Ent.sepL l.ent)))).1
theorem es_cont {b : β} (hp : post b = .lp Δ) (l : Le Γ Δ) : EvS E (tSeq tCont u) Γ (.ok b) post := fun σ H R D tt q => by
  have q' : (post b).ok E R D := q
  rw [hp] at q'
  exact (q' σ H (tt.ent (Ent.sepL (Ent.sepL l.ent)))).2
theorem es_contO {b : β} (hp : post b = .ct Δ) (l : Le Γ Δ) : EvS E (tSeq tCont u) Γ (.ok b) post := fun σ H R D tt q => by
  have q' : (post b).ok E R D := q
  rw [hp] at q'
  exact q' σ H (tt.ent (Ent.sepL (Ent.sepL l.ent)))
theorem es_break {b : β} (hp : post b = .bk Δ) (l : Le Γ Δ) : EvS E (tSeq tBreak u) Γ (.ok b) post := fun σ H R D tt q => by
  have q' : (post b).ok E R D := q
  rw [hp] at q'
  exact q' σ H (tt.ent (Ent.sepL (Ent.sepL l.ent)))
/-- what a return hands back, told as the end wants it -/
def RetJ (E : Ec) (Γ : List Cell) (c : RC) (Δ : List Cell) (c' : RC) : Prop := ∀ σ v R H, Top (sep (base E σ Γ) (sep (c σ v) R)) H → Top (sep (base E σ Δ) (sep (c' σ v) R)) H
theorem ret_le {c : RC} (l : Le Γ Δ) : RetJ E Γ c Δ c := fun σ v R H t => t.ent (Ent.sepL (Ent.sepL l.ent))
theorem ret_fz {ds : List PyData} (l : Le Γ Δ) : RetJ E Γ (rO ds) Δ (rV (.list ds)) := fun σ v R H t => by
  have t1 : Top (sep (oV ds v) (sep (base E σ Γ) R)) H := t.ent ((Ent.assoc'.trans (Ent.sepL Ent.comm)).trans Ent.assoc)
  exact ((oV_freeze t1).ent ((Ent.assoc'.trans (Ent.sepL Ent.comm)).trans Ent.assoc)).ent (Ent.sepL (Ent.sepL l.ent))
/-- a list of a slot is handed back -/
theorem ret_own {mk : List PyData → Cell} {i : Nat} {ds : List PyData} (hk : OwnC mk) (hi : Γ[i]? = some (mk ds)) (l : Le (Γ.set i cAny) Δ) : RetJ E Γ (rS i) Δ (rO ds) := fun σ v R H t => by
  obtain ⟨p, hs, t2, _⟩ := take_own hk hi t
  have e : v = .ref p := t.fact fun F o s ⟨_, _, _, _, _, _, ⟨_, _, _, _, _, x, _⟩⟩ => by
    have x' : σ[i]? = some (some v) := x
    rw [hs] at x'
    cases x'
    rfl
  subst e
  refine t2.ent ?_
  refine (Ent.sepL (Ent.sep (Ent.sepL l.ent) Ent.right)).trans (Ent.assoc.trans (Ent.sepR (Ent.comm.trans (Ent.sepL ?_))))
  exact fun F H o s a => ⟨p, rfl, a⟩
theorem RetJ.fz {Γ' : List Cell} {c : RC} {ds : List PyData} (h : RetJ E Γ c Γ' (rO ds)) : RetJ E Γ c Γ' (rV (.list ds)) := fun σ v R H t => ret_fz (Le.refl _) σ v R H (h σ v R H t)
theorem es_ret {m1 : Res α} {Γ1 : α → List Cell} {c : α → RC} {g : α → β} {Δ : α → List Cell} {c' : α → RC} (h : EvJ E te Γ m1 Γ1 c) (hp : ∀ a, post (g a) = .rt (Δ a) (c' a)) (hr : ∀ a, RetJ E (Γ1 a) (c a) (Δ a) (c' a)) :
    EvS E (tSeq (tRet te) u) Γ (m1.bind fun a => .ok (g a)) post := fun σ H R D tt q =>
  h σ H R _ tt (wp_mono (wp_bind.mp q) (fun a _ q1 v H' t' => by
    have q' : (post (g a)).ok E R D := q1
    rw [hp a] at q'
    exact q' σ v H' (hr a σ v R H' t')) fun _ x => x σ)
theorem es_retP {b : β} {c c' : RC} (h : EvP E te Γ c) (hp : post b = .rt Δ c') (hr : RetJ E Γ c Δ c') : EvS E (tSeq (tRet te) u) Γ (.ok b) post := fun σ H R D tt q =>
  h σ H R _ tt fun v H' t' => by
    have q' : (post b).ok E R D := q
    rw [hp] at q'
    exact q' σ v H' (hr σ v R H' t')
theorem es_retN {b : β} {c' : RC} (hp : post b = .rt Δ (rV .none)) (l : Le Γ Δ) : EvS E (tSeq tRetN u) Γ (.ok b) post := fun σ H R D tt q => by
  have q' : (post b).ok E R D := q
  rw [hp] at q'
  refine q' σ .non H ?_
  have t1 := tt.ent (Ent.sepL (B := R) (Ent.sepL (B := E.C) (l.ent (σ := σ))))
  exact (t1.addV (v := .non) (d := .none) fun F _ _ _ => .non).ent ((Ent.assoc'.trans (Ent.sepL Ent.comm)).trans Ent.assoc)
/-- raise C("..") -/
theorem es_raise {k : Nat} {C : Value} (hk : E.ec k = C) (hx : XOk E Γ) : EvS E (tSeq (fun _ σ H => E.W C none σ H) u) Γ (.err k) post := fun σ H R D tt q => by
  have q' := q σ H (tt.ent (Ent.sepL (Ent.sepL (hx σ))))
  rw [hk] at q'
  exact q'
/-! ifs -/
theorem es_if {a : Bool} {mA mB : Res β} (h : EvTP E tt Γ a) (h1 : EvS E t Γ mA post) (h2 : EvS E u Γ mB post) : EvS E (tIfS tt t u) Γ (if a then mA else mB) post := fun σ H R D t0 q =>
  h σ H R _ t0 fun H1 t1 => by
    cases a with
    | true => exact h1 σ H1 R D t1 q
    | false => exact h2 σ H1 R D t1 q
theorem es_ifM {m1 : Res α} {Γ1 : α → List Cell} {b : α → Bool} {mA mB : α → Res β} (h : EvT E tt Γ m1 Γ1 b) (h1 : ∀ a, EvS E t (Γ1 a) (mA a) post) (h2 : ∀ a, EvS E u (Γ1 a) (mB a) post) :
    EvS E (tIfS tt t u) Γ (m1.bind fun a => if b a then mA a else mB a) post := fun σ H R D t0 q =>
  h σ H R _ t0 (wp_mono (wp_bind.mp q) (fun a _ q1 H1 t1 => by
    cases e : b a with
    | true =>
      rw [if_pos e] at q1
      exact h1 a σ H1 R D t1 q1
    | false =>
      rw [if_neg (by rw [e]; decide)] at q1
      exact h2 a σ H1 R D t1 q1) fun _ x => x σ)
/-- the first branch ends the part; no else -/
theorem es_ifT {a : Bool} {mA mB : Res β} (h : EvTP E tt Γ a) (h1 : EvS E t Γ mA fun b => (post b).out) (h2 : EvS E u Γ mB post) : EvS E (tSeq (tIfS tt t tNext) u) Γ (if a then mA else mB) post := fun σ H R D t0 q =>
  h σ H R _ t0 fun H1 t1 => by
    cases a with
    | true => exact h1 σ H1 R { D with nx := u D } t1 (wp_mono q (fun b _ q1 => Fin.out_ok q1) fun _ x => x)
    | false => exact h2 σ H1 R D t1 q
theorem es_ifTM {m1 : Res α} {Γ1 : α → List Cell} {b : α → Bool} {mA mB : α → Res β} (h : EvT E tt Γ m1 Γ1 b) (h1 : ∀ a, EvS E t (Γ1 a) (mA a) fun b => (post b).out) (h2 : ∀ a, EvS E u (Γ1 a) (mB a) post) :
    EvS E (tSeq (tIfS tt t tNext) u) Γ (m1.bind fun a => if b a then mA a else mB a) post := fun σ H R D t0 q =>
  h σ H R _ t0 (wp_mono (wp_bind.mp q) (fun a _ q1 H1 t1 => by
    cases e : b a with
    | true =>
      rw [if_pos e] at q1
      exact h1 a σ H1 R { D with nx := u D } t1 (wp_mono q1 (fun b _ q1 => Fin.out_ok q1) fun _ x => x)
    | false =>
      rw [if_neg (by rw [e]; decide)] at q1
      exact h2 a σ H1 R D t1 q1) fun _ x => x σ)
/-! assignments -/
/-- a result is put into a slot -/
def Sto (c : RC) (cl : Cell) : Prop := ∀ σ v A H, Top (sep (c σ v) A) H → Top (sep (cl (some v)) A) H
theorem sto_v {d : PyData} : Sto (rV d) (cV d) := fun _ _ _ _ t => t
theorem sto_o {ds : List PyData} : Sto (rO ds) (cO ds) := fun _ _ _ _ t => t
theorem sto_f {ds : List PyData} : Sto (rO ds) (cV (.list ds)) := fun _ _ _ _ t => oV_freeze t
theorem sto_any {c : RC} : Sto c cAny := fun _ _ _ _ t => t.ent (Ent.sepL Ent.emp)
theorem put_slot {c : RC} {cl : Cell} {i : Nat} {σ : St} {v : V} {R : Asr} {H : Hp} (hs : Sto c cl) (hi : i < Γ.length) (t0 : Top (sep (base E σ Γ) (sep (c σ v) R)) H) : Top (sep (base E (σ.set i (some v)) (Γ.set i cl)) R) H := by
  have t1 : Top (sep (c σ v) (sep (base E σ Γ) R)) H := t0.ent ((Ent.assoc'.trans (Ent.sepL Ent.comm)).trans Ent.assoc)
  have t2 := hs σ v _ H t1
  have t3 : Top (sep (sep (cl (some v)) (sl σ Γ)) (sep E.C R)) H := t2.ent ((Ent.sepR Ent.assoc).trans Ent.assoc')
  exact (t3.ent (Ent.sepL fun F H o s h => sl_set hi h)).ent Ent.assoc'
theorem es_asg {m1 : Res α} {Γ1 : α → List Cell} {c : α → RC} {cl : α → Cell} {i : Nat} (h : EvJ E te Γ m1 Γ1 c) (hs : ∀ a, Sto (c a) (cl a)) (hi : ∀ a, i < (Γ1 a).length) : EvS1 E (tAsg te (gName i)) Γ m1 fun a => (Γ1 a).set i (cl a) := fun σ H R D t0 q =>
  h σ H R _ t0 (wp_mono q (fun a _ q1 v H' t' => q1 _ H' (put_slot (hs a) (hi a) t')) fun _ x => x σ)
theorem es_asgP {c : RC} {cl : Cell} {i : Nat} (h : EvP E te Γ c) (hs : Sto c cl) (hi : i < Γ.length) : EvS1 E (tAsg te (gName i)) Γ (.ok ()) fun _ => Γ.set i cl := es_asg h (fun _ => hs) fun _ => hi
theorem es_drop {m1 : Res α} {Γ1 : α → List Cell} {c : α → RC} (h : EvJ E te Γ m1 Γ1 c) : EvS1 E (tDrop te) Γ m1 Γ1 := fun σ H R D t0 q =>
  h σ H R _ t0 (wp_mono q (fun a _ q1 v H' t' => q1 σ H' (t'.ent (Ent.sepR Ent.right))) fun _ x => x σ)
/-- x += e, ints -/
theorem es_aug {i : Nat} {f : Int → Int → Int} {x : Int} {m1 : Res Int} {Γ1 : Int → List Cell} (h : EvJ E te Γ m1 Γ1 fun a => rV (.int a)) (h0 : Γ[i]? = some (cV (.int x))) (hi : ∀ a, i < (Γ1 a).length) :
    EvS1 E (tAug i te (ipI f)) Γ m1 fun a => (Γ1 a).set i (cV (.int (f x a))) := fun σ H R D t0 q => by
  have e : σ[i]? = some (some (.int x)) := t0.fact fun F o s ⟨_, _, _, _, _, ⟨_, _, _, _, _, a, _⟩, _⟩ => by
    obtain ⟨y, ey, hy⟩ := sl_get h0 a
    cases y with
    | none => exact (show False from hy).elim
    | some v =>
      cases (show Rp F v (.int x) from hy)
      exact ey
  refine ⟨.int x, e, h σ H R _ t0 (wp_mono q (fun a _ q1 v H' t' => ?_) fun _ x => x σ)⟩
  have ev : v = .int a := t'.fact fun F o s ⟨_, _, _, _, _, _, ⟨_, _, _, _, _, z, _⟩⟩ => by
    cases (show Rp F v (.int a) from z)
    rfl
  refine ⟨x, a, rfl, ev, q1 _ H' ?_⟩
  have t2 := t'.ent (Ent.sepR (B' := R) Ent.right)
  have t3 := (t2.addV (v := .int (f x a)) (d := .int (f x a)) fun F _ _ _ => .int _).ent ((Ent.assoc'.trans (Ent.sepL Ent.comm)).trans Ent.assoc)
  exact put_slot (c := rV (.int (f x a))) sto_v (hi a) t3
end
end Lc
/-! Lc: operations on values -/
namespace Lc
open PySem L2

/-! ### what data look like for == -/
class Shp (α : Type) [Dat α] where
  dep : Nat
  lay : ∀ a : α, (dat a).canLay0 = true
  low : ∀ a : α, (dat a).depth ≤ dep
theorem layAll {α : Type} [Dat α] [Shp α] : ∀ l : List α, PyData.canLayAll0 (l.map dat) = true
  | [] => rfl
  | a :: l => by
    show ((dat a).canLay0 && PyData.canLayAll0 (l.map dat)) = true
    rw [Shp.lay a, layAll l]; rfl
theorem lowAll {α : Type} [Dat α] [S : Shp α] : ∀ l : List α, PyData.depthAll (l.map dat) ≤ S.dep
  | [] => Nat.zero_le _
  | a :: l => by
    show max (dat a).depth (PyData.depthAll (l.map dat)) ≤ S.dep
    exact Nat.max_le.mpr ⟨Shp.low a, lowAll l⟩
instance : Shp Int := ⟨0, fun _ => rfl, fun _ => Nat.le_refl _⟩
instance : Shp Bool := ⟨0, fun _ => rfl, fun _ => Nat.le_refl _⟩
instance : Shp Unit := ⟨0, fun _ => rfl, fun _ => Nat.le_refl _⟩
instance {α : Type} [Dat α] [S : Shp α] : Shp (List α) := ⟨S.dep + 1, fun l => layAll l, fun l => Nat.succ_le_succ (lowAll l)⟩
instance {α : Type} [Dat α] [S : Shp α] : Shp (Tu α) := ⟨S.dep + 1, fun l => layAll l.l, fun l => Nat.succ_le_succ (lowAll l.l)⟩
instance {α : Type} [Dat α] [S : Shp α] : Shp (Option α) := ⟨S.dep, fun o => by cases o with | none => rfl | some a => exact Shp.lay a, fun o => by cases o with | none => exact Nat.zero_le _ | some a => exact Shp.low a⟩
instance {α β : Type} [Dat α] [Dat β] [S : Shp α] [T : Shp β] : Shp (α × β) := ⟨max S.dep T.dep + 1, fun p => by
    show (((dat p.1).canLay0 && ((dat p.2).canLay0 && true))) = true
    rw [Shp.lay, Shp.lay]; rfl, fun p => by
    show max (dat p.1).depth (max (dat p.2).depth 0) + 1 ≤ _
    have h1 := Shp.low p.1
    have h2 := Shp.low p.2
    omega⟩
instance {α β γ : Type} [Dat α] [Dat β] [Dat γ] [S : Shp α] [T : Shp β] [U : Shp γ] : Shp (T3 α β γ) := ⟨max S.dep (max T.dep U.dep) + 1, fun p => by
    show (((dat p.a).canLay0 && ((dat p.b).canLay0 && ((dat p.c).canLay0 && true)))) = true
    rw [Shp.lay, Shp.lay, Shp.lay]; rfl, fun p => by
    show max (dat p.a).depth (max (dat p.b).depth (max (dat p.c).depth 0)) + 1 ≤ _
    have h1 := Shp.low p.a
    have h2 := Shp.low p.b
    have h3 := Shp.low p.c
    omega⟩
theorem shp {α : Type} [Dat α] [S : Shp α] (h : S.dep ≤ 64 := by decide) (a : α) : SeqAt.shaped (dat a) = true := by
  unfold SeqAt.shaped
  rw [Shp.lay a, decide_eq_true (Nat.le_trans (Shp.low a) h)]
  rfl
/-- == of two data -/
def eqD {α β : Type} [Dat α] [Dat β] (a : α) (b : β) : Bool := PyData.eqv (dat a) (dat b)

/-! ### helpers -/
section
variable {E : Ec} {Γ : List Cell} {A B C' R : Asr} {H : Hp} {x y v : V} {d : PyData} {cx cy : RC} {α β γ : Type}
open Res
theorem top1 {d : PyData} (t : Top (sep A (sep (vA d x) R)) H) : ∃ F, Same F H ∧ Rp F x d := by
  obtain ⟨F, o, s, _, _, _, _, _, _, _, ⟨_, _, _, _, _, z, _⟩⟩ := t
  exact ⟨F, s, z⟩
theorem int1 {i : Int} (t : Top (sep A (sep (vA (.int i) x) R)) H) : x = .int i := by
  obtain ⟨F, _, z⟩ := top1 t
  cases z; rfl
theorem int2 {j : Int} (t : Top (sep A (sep B (sep (vA (.int j) y) R))) H) : y = .int j := int1 (t.ent Ent.assoc')
theorem res2 (t : Top (sep A (sep B (sep C' R))) H) (h : ∀ F, Rp F v d) : Top (sep A (sep (vA d v) R)) H :=
  ((t.ent (Ent.sepR (Ent.right.trans Ent.right))).addV (v := v) (d := d) fun F _ _ _ => h F).ent ((Ent.assoc'.trans (Ent.sepL Ent.comm)).trans Ent.assoc)
theorem res1 (t : Top (sep A (sep B R)) H) (h : ∀ F, Rp F v d) : Top (sep A (sep (vA d v) R)) H :=
  ((t.ent (Ent.sepR Ent.right)).addV (v := v) (d := d) fun F _ _ _ => h F).ent ((Ent.assoc'.trans (Ent.sepL Ent.comm)).trans Ent.assoc)
/-- a datum read off the state is a result -/
theorem res1' (t : Top (sep A (sep B R)) H) (h : ∀ F o, Same F H → (sep A (sep B R)).P F H o → Rp F v d) : Top (sep A (sep (vA d v) R)) H :=
  (t.addV h).ent ((Ent.sepR (Ent.sepR Ent.right)).trans ((Ent.assoc'.trans (Ent.sepL Ent.comm)).trans Ent.assoc))
end
section
variable {E : Ec} {Γ : List Cell} {A B C' R : Asr} {H : Hp} {x y v : V} {d : PyData} {cx cy : RC} {α β γ : Type}
open Res

/-! ### numbers -/
theorem r2_I0 {g : Int → Int → Int} {i j : Int} : R2P E (rI0 fun i j => .int (g i j)) (rV (.int i)) (rV (.int j)) Γ (rV (.int (g i j))) := fun σ H R Q x y t q =>
  ⟨i, j, int1 t, int2 t, q _ H (res2 t fun F => .int _)⟩
theorem r2_B0 {g : Int → Int → Bool} {i j : Int} : R2P E (rI0 fun i j => .bl (g i j)) (rV (.int i)) (rV (.int j)) Γ (rV (.bool (g i j))) := fun σ H R Q x y t q =>
  ⟨i, j, int1 t, int2 t, q _ H (res2 t fun F => .bl _)⟩
theorem r2_IP {C : Int → Int → Prop} {g : Int → Int → Int} {i j : Int} (h : C i j) : R2P E (rI C fun i j => .int (g i j)) (rV (.int i)) (rV (.int j)) Γ (rV (.int (g i j))) := fun σ H R Q x y t q =>
  ⟨i, j, int1 t, int2 t, h, q _ H (res2 t fun F => .int _)⟩
theorem r2_IN {C : Int → Int → Prop} {g : Int → Int → Int} {i j : Int} {D : Prop} [Decidable D] (h : D → C i j) : R2J E (rI C fun i j => .int (g i j)) (rV (.int i)) (rV (.int j)) Γ (need D (.ok (g i j))) (fun _ => Γ) fun a => rV (.int a) := fun σ H R Q x y t q => by
  obtain ⟨hd, q⟩ := wp_need q
  exact ⟨i, j, int1 t, int2 t, h hd, q _ H (res2 t fun F => .int _)⟩
/-- a constant power -/
theorem r2_pow {i j k : Int} (h : CPow i j) (e : i ^ j.toNat = k) : R2P E (rI CPow fun i j => .int (i ^ j.toNat)) (rV (.int i)) (rV (.int j)) Γ (rV (.int k)) := fun σ H R Q x y t q =>
  ⟨i, j, int1 t, int2 t, h, q _ H (res2 t fun F => by
    show Rp F (.int (i ^ j.toNat)) (.int k)
    rw [e]
    exact .int _)⟩
theorem r1_neg {i : Int} : R1P E (rU fun i => .int (-i)) (rV (.int i)) Γ (rV (.int (-i))) := fun σ H R Q x t q => ⟨i, int1 t, q _ H (res1 t fun F => .int _)⟩
def mulR (i j : Int) : Res Int := need (i.natAbs.log2 + j.natAbs.log2 < 1000000) (.ok (i * j))
def divR (i j : Int) : Res Int := need (0 < j ∧ j.natAbs.log2 < 9000) (.ok (i / j))
def modR (i j : Int) : Res Int := need (0 < j) (.ok (i % j))
theorem r2_mul {i j : Int} : R2J E (rI CMulW fun i j => .int (i * j)) (rV (.int i)) (rV (.int j)) Γ (mulR i j) (fun _ => Γ) fun a => rV (.int a) := r2_IN fun h => h
theorem r2_div {i j : Int} : R2J E (rI CDivW fun i j => .int (i / j)) (rV (.int i)) (rV (.int j)) Γ (divR i j) (fun _ => Γ) fun a => rV (.int a) := r2_IN fun h => h
theorem r2_mod {i j : Int} : R2J E (rI (fun _ j => 0 < j) fun i j => .int (i % j)) (rV (.int i)) (rV (.int j)) Γ (modR i j) (fun _ => Γ) fun a => rV (.int a) := r2_IN fun h => h

/-! ### reading: data, lists -/
def ppD (K : PySem.W.Frag) (d : PyData) : PP := fun v _ H => Dp K H v d
theorem pa_dv {Kn : St → Prop} {d : PyData} : PArg E Γ Kn (rV d) (ppD E.K d) := fun _ _ _ _ _ _ s ⟨_, _, _, _, _, _, x⟩ => Rp.dp s x
theorem pa_S {Kn : St → Prop} {c : RC} {ds : List PyData} (h : PArg E Γ Kn c (ppL ds)) : PArg E Γ Kn c (ppS E.K ds) := fun σ v F H o kn s q => ppS_of (h σ v F H o kn s q)
theorem pa_D {Kn : St → Prop} {c : RC} {ds : List PyData} (h : PArg E Γ Kn c (ppS E.K ds)) : PArg E Γ Kn c (ppD E.K (.list ds)) := fun σ v F H o kn s q => by
  obtain ⟨p, vs, rfl, e, r⟩ := h σ v F H o kn s q
  exact .lst e (r.dp s)
theorem par1 {σ : St} {c : RC} {p : PP} (h : PArg E Γ K0 c p) (t : Top (sep (base E σ Γ) (sep (c σ x) R)) H) : ∃ F, Same F H ∧ p x F H := by
  obtain ⟨F, o, s, _, a⟩ := t
  exact ⟨F, s, h σ x F H o trivial s (Ent.left F H o s (Ent.assoc' F H o s a))⟩
theorem par2 {σ : St} {c : RC} {p : PP} (h : PArg E Γ K0 c p) (t : Top (sep (base E σ Γ) (sep B (sep (c σ y) R))) H) : ∃ F, Same F H ∧ p y F H := par1 h (top_rot t)
theorem r2_eq {d e : PyData} (h1 : PArg E Γ K0 cx (ppD E.K d)) (h2 : PArg E Γ K0 cy (ppD E.K e)) (s1 : SeqAt.shaped d = true) (s2 : SeqAt.shaped e = true) : R2P E (rEqD E.K) cx cy Γ (rV (.bool (PyData.eqv d e))) := fun σ H R Q x y t q => by
  obtain ⟨_, _, z1⟩ := par1 h1 t
  obtain ⟨_, _, z2⟩ := par2 h2 t
  exact ⟨d, e, z1, z2, s1, s2, q _ H (res2 t fun F => .bl _)⟩
theorem r2_ne {d e : PyData} (h1 : PArg E Γ K0 cx (ppD E.K d)) (h2 : PArg E Γ K0 cy (ppD E.K e)) (s1 : SeqAt.shaped d = true) (s2 : SeqAt.shaped e = true) : R2P E (rNeD E.K) cx cy Γ (rV (.bool (!PyData.eqv d e))) := fun σ H R Q x y t q => by
  obtain ⟨_, _, z1⟩ := par1 h1 t
  obtain ⟨_, _, z2⟩ := par2 h2 t
  exact ⟨d, e, z1, z2, s1, s2, q _ H (res2 t fun F => .bl _)⟩
def eqR (d e : PyData) : Res Bool := need (SeqAt.shaped d = true ∧ SeqAt.shaped e = true) (.ok (PyData.eqv d e))
theorem r2_eqN {d e : PyData} (h1 : PArg E Γ K0 cx (ppD E.K d)) (h2 : PArg E Γ K0 cy (ppD E.K e)) : R2J E (rEqD E.K) cx cy Γ (eqR d e) (fun _ => Γ) fun a => rV (.bool a) := fun σ H R Q x y t q => by
  obtain ⟨⟨s1, s2⟩, q⟩ := wp_need q
  exact r2_eq h1 h2 s1 s2 σ H R Q x y t q
theorem r2_neN {d e : PyData} (h1 : PArg E Γ K0 cx (ppD E.K d)) (h2 : PArg E Γ K0 cy (ppD E.K e)) : R2J E (rNeD E.K) cx cy Γ ((eqR d e).bind fun a => .ok (!a)) (fun _ => Γ) fun a => rV (.bool a) := fun σ H R Q x y t q => by
  unfold eqR at q
  obtain ⟨⟨s1, s2⟩, q⟩ := wp_need (Res.wp_bind.mp q)
  exact r2_ne h1 h2 s1 s2 σ H R Q x y t q
def getI {α : Type} (xs : List α) (i : Int) : Res α := match atI xs i with
  | some a => .ok a
  | none => .bad
theorem atI_map {α β : Type} (f : α → β) (xs : List α) (i : Int) : atI (xs.map f) i = (atI xs i).map f := by
  unfold atI
  rw [List.length_map]
  cases ixN xs.length i with
  | none => rfl
  | some j => simp
theorem atI_rp {F : Hp} {vs : List V} {ds : List PyData} {i : Int} {d : PyData} (r : RpAll F vs ds) (h : atI ds i = some d) : ∃ v, atI vs i = some v ∧ Rp F v d := by
  unfold atI at h ⊢
  rw [r.len]
  cases e : ixN ds.length i with
  | none =>
    rw [e] at h
    cases h
  | some j =>
    rw [e] at h
    exact r.get h
theorem r2_ix [Dat α] {xs : List α} {i : Int} (h : PArg E Γ K0 cx (ppS E.K (xs.map dat))) : R2J E (rIxL E.K) cx (rV (.int i)) Γ (getI xs i) (fun _ => Γ) fun a => rV (dat a) := fun σ H R Q x y t q => by
  unfold getI at q
  cases e : atI xs i with
  | none =>
    rw [e] at q
    exact (show False from q).elim
  | some a =>
    rw [e] at q
    have q : ∀ v H', Top (sep (base E σ Γ) (sep (vA (dat a) v) R)) H' → Q v H' := q
    have ey := int2 t
    have em : atI (xs.map dat) i = some (dat a) := by rw [atI_map, e]; rfl
    obtain ⟨F, o, s, k, p⟩ := t
    obtain ⟨a0, vs, rfl, hs, r⟩ := h σ x F H o trivial s (Ent.left F H o s (Ent.assoc' F H o s p))
    obtain ⟨v, ev, rv⟩ := atI_rp r em
    refine ⟨a0, vs, i, v, rfl, ey, hs, ev, q v H ⟨F, o, s, k, ?_⟩⟩
    exact ((Ent.assoc'.trans (Ent.sepL Ent.comm)).trans Ent.assoc) F H o s (sep_pers (fun _ => rv) (Ent.sepR (Ent.right.trans Ent.right) F H o s p))
/-- an item of a tuple, its place written -/
theorem r2_ixT {ds : List PyData} {i : Int} (h : atI ds i = some d) : R2P E (rIxT E.K) (rV (.tuple ds)) (rV (.int i)) Γ (rV d) := fun σ H R Q x y t q => by
  have ey := int2 t
  obtain ⟨F, o, s, k, p⟩ := t
  have z : Rp F x (.tuple ds) := by
    obtain ⟨_, _, _, _, _, _, ⟨_, _, _, _, _, z, _⟩⟩ := p
    exact z
  cases z with
  | tup e r =>
    obtain ⟨v, ev, rv⟩ := atI_rp r h
    refine ⟨_, _, i, v, rfl, ey, SqT.of (s _ _ e), ev, q v H ⟨F, o, s, k, ?_⟩⟩
    exact ((Ent.assoc'.trans (Ent.sepL Ent.comm)).trans Ent.assoc) F H o s (sep_pers (fun _ => rv) (Ent.sepR (Ent.right.trans Ent.right) F H o s p))

/-! ### new lists, tuples -/
theorem oA_oV (p : Addr) (ds : List PyData) : Ent (oA p ds) (oV ds (.ref p)) := fun F H o s a => ⟨p, rfl, a⟩
theorem rotE : Ent (sep A (sep B (sep C' R))) (sep A (sep C' (sep B R))) := Ent.sepR ((Ent.assoc'.trans (Ent.sepL Ent.comm)).trans Ent.assoc)
theorem frontE : Ent (sep A (sep B R)) (sep B (sep A R)) := (Ent.assoc'.trans (Ent.sepL Ent.comm)).trans Ent.assoc
theorem newL {σ : St} {p : Addr} {vs : List V} {ds : List PyData} (t : Top (sep (base E σ Γ) R) H) (hp : H p = none) (r : ∀ F o, Same F H → (sep (base E σ Γ) R).P F H o → RpAll F vs ds) : Top (sep (base E σ Γ) (sep (oV ds (.ref p)) R)) (upd H p (.lst vs)) :=
  ((t.alloc hp r).ent (Ent.sepL (oA_oV p ds))).ent ((Ent.assoc'.trans (Ent.sepL Ent.comm)).trans Ent.assoc)
theorem newT {σ : St} {p : Addr} {vs : List V} {ds : List PyData} (t : Top (sep (base E σ Γ) R) H) (hp : H p = none) (r : ∀ F o, Same F H → (sep (base E σ Γ) R).P F H o → RpAll F vs ds) : Top (sep (base E σ Γ) (sep (vA (.tuple ds) (.ref p)) R)) (upd H p (.tup vs)) :=
  (t.allocT hp r).ent ((Ent.assoc'.trans (Ent.sepL Ent.comm)).trans Ent.assoc)
theorem frozen_args {σ : St} {cs : List RC} {ds : List PyData} {vs : List V} (f : FzAll cs ds) (t : Top (sep (base E σ Γ) (sep (csA cs σ vs) R)) H) : Top (sep (base E σ Γ) (sep (vAs ds vs) R)) H :=
  (f.top (t.ent ((Ent.assoc'.trans (Ent.sepL Ent.comm)).trans Ent.assoc))).ent ((Ent.assoc'.trans (Ent.sepL Ent.comm)).trans Ent.assoc)
theorem evp_lst {tr : TA} {cs : List RC} {ds : List PyData} (h : EvAP E tr Γ cs) (f : FzAll cs ds) (hl : ds.length ≤ 1000 := by exact Nat.le_of_ble_eq_true rfl) : EvP E (tLst tr) Γ (rO ds) := fun σ H R Q t q =>
  h σ H R _ t fun vs H1 t1 => by
    have t2 := frozen_args f t1
    have rv : ∀ F o, Same F H1 → (sep (base E σ Γ) (sep (vAs ds vs) R)).P F H1 o → RpAll F vs ds := fun F o s ⟨_, _, _, _, _, _, ⟨_, _, _, _, _, z, _⟩⟩ => z
    have ln : vs.length = ds.length := t2.fact fun F o s a => (rv F o s a).len
    refine ⟨by rw [ln]; exact Nat.le_trans hl (by decide), fun p hp => q _ _ ((newL t2 hp rv).ent (Ent.sepR (Ent.sepR Ent.right)))⟩
theorem ev_lst {tr : TA} {ma : Res α} {Γ1 : α → List Cell} {cs : α → List RC} {ds : α → List PyData} (h : EvA E tr Γ ma Γ1 cs) (f : ∀ a, FzAll (cs a) (ds a)) (hl : ∀ a, (ds a).length ≤ 1000 := by exact fun _ => Nat.le_of_ble_eq_true rfl) : EvJ E (tLst tr) Γ ma Γ1 fun a => rO (ds a) := fun σ H R Q t q =>
  h σ H R _ t (wp_mono q (fun a _ q vs H1 t1 => by
    have t2 := frozen_args (f a) t1
    have rv : ∀ F o, Same F H1 → (sep (base E σ (Γ1 a)) (sep (vAs (ds a) vs) R)).P F H1 o → RpAll F vs (ds a) := fun F o s ⟨_, _, _, _, _, _, ⟨_, _, _, _, _, z, _⟩⟩ => z
    have ln : vs.length = (ds a).length := t2.fact fun F o s a => (rv F o s a).len
    refine ⟨by rw [ln]; exact Nat.le_trans (hl a) (by decide), fun p hp => q _ _ ((newL t2 hp rv).ent (Ent.sepR (Ent.sepR Ent.right)))⟩) fun _ x => x)
theorem evp_tup {tr : TA} {cs : List RC} {ds : List PyData} (h : EvAP E tr Γ cs) (f : FzAll cs ds) (hl : ds.length ≤ 1000 := by exact Nat.le_of_ble_eq_true rfl) : EvP E (tTup tr) Γ (rV (.tuple ds)) := fun σ H R Q t q =>
  h σ H R _ t fun vs H1 t1 => by
    have t2 := frozen_args f t1
    have rv : ∀ F o, Same F H1 → (sep (base E σ Γ) (sep (vAs ds vs) R)).P F H1 o → RpAll F vs ds := fun F o s ⟨_, _, _, _, _, _, ⟨_, _, _, _, _, z, _⟩⟩ => z
    have ln : vs.length = ds.length := t2.fact fun F o s a => (rv F o s a).len
    refine ⟨by rw [ln]; exact Nat.le_trans hl (by decide), fun p hp => q _ _ ((newT t2 hp rv).ent (Ent.sepR (Ent.sepR Ent.right)))⟩
theorem ev_tup {tr : TA} {ma : Res α} {Γ1 : α → List Cell} {cs : α → List RC} {ds : α → List PyData} (h : EvA E tr Γ ma Γ1 cs) (f : ∀ a, FzAll (cs a) (ds a)) (hl : ∀ a, (ds a).length ≤ 1000 := by exact fun _ => Nat.le_of_ble_eq_true rfl) : EvJ E (tTup tr) Γ ma Γ1 fun a => rV (.tuple (ds a)) := fun σ H R Q t q =>
  h σ H R _ t (wp_mono q (fun a _ q vs H1 t1 => by
    have t2 := frozen_args (f a) t1
    have rv : ∀ F o, Same F H1 → (sep (base E σ (Γ1 a)) (sep (vAs (ds a) vs) R)).P F H1 o → RpAll F vs (ds a) := fun F o s ⟨_, _, _, _, _, _, ⟨_, _, _, _, _, z, _⟩⟩ => z
    have ln : vs.length = (ds a).length := t2.fact fun F o s a => (rv F o s a).len
    refine ⟨by rw [ln]; exact Nat.le_trans (hl a) (by decide), fun p hp => q _ _ ((newT t2 hp rv).ent (Ent.sepR (Ent.sepR Ent.right)))⟩) fun _ x => x)

/-! ### slices -/
def EvO (E : Ec) (t : TO) (Γ : List Cell) {α : Type} (m : Res α) (Γ' : α → List Cell) (o : α → Option Int) : Prop :=
  ∀ (σ : St) (H : Hp) (R : Asr) (Q : Option Int → Hp → Prop), Top (sep (base E σ Γ) R) H → m.wp (fun a => ∀ H', Top (sep (base E σ (Γ' a)) R) H' → Q (o a) H') (Exn E R σ) → t σ H Q
abbrev EvOP (E : Ec) (t : TO) (Γ : List Cell) (o : Option Int) : Prop := EvO E t Γ (.ok ()) (fun _ => Γ) fun _ => o
theorem eo_no : EvOP E tNoPart Γ none := fun σ H R Q t q => q H t
theorem eop {te : TE} {i : Int} (h : EvP E te Γ (rV (.int i))) : EvOP E (tPart te) Γ (some i) := fun σ H R Q t q => h σ H R _ t fun v H1 t1 => ⟨i, int1 t1, q H1 (t1.ent (Ent.sepR Ent.right))⟩
theorem eo {te : TE} {m : Res Int} {Γ' : Int → List Cell} (h : EvJ E te Γ m Γ' fun a => rV (.int a)) : EvO E (tPart te) Γ m Γ' some := fun σ H R Q t q =>
  h σ H R _ t (wp_mono q (fun a _ q v H1 t1 => ⟨a, int1 t1, q H1 (t1.ent (Ent.sepR Ent.right))⟩) fun _ x => x)
theorem eo_pure {a : α} {to : TO} {o : α → Option Int} (h : EvOP E to Γ (o a)) : EvO E to Γ (.ok a) (fun _ => Γ) o := fun σ H R Q t q => h σ H R Q t q
/-- xs[lo:hi] -/
def cutL {α : Type} (xs : List α) (lo hi : Option Int) : List α := (xs.drop (HT.sIx xs.length 0 lo)).take (HT.sIx xs.length xs.length hi - HT.sIx xs.length 0 lo)
theorem cutL_map (f : α → β) (xs : List α) (lo hi : Option Int) : (cutL xs lo hi).map f = cutL (xs.map f) lo hi := by
  unfold cutL
  rw [List.length_map, List.map_take, List.map_drop]
theorem cut_rp {F : Hp} {vs : List V} {ds : List PyData} (lo hi : Option Int) (r : RpAll F vs ds) : RpAll F (cutV vs lo hi) (cutL ds lo hi) := by
  unfold cutV cutL
  rw [r.len]
  exact (r.drop _).take _
def RslJ (E : Ec) (r : V → Option Int → Option Int → Hp → VK → Prop) (cx : RC) (lo hi : Option Int) (Γ : List Cell) {α : Type} (m : Res α) (c : α → RC) : Prop :=
  ∀ (σ : St) (H : Hp) (R : Asr) (Q : VK) (x : V), Top (sep (base E σ Γ) (sep (cx σ x) R)) H → m.wp (fun a => ∀ v H', Top (sep (base E σ Γ) (sep (c a σ v) R)) H' → Q v H') (Exn E R σ) → r x lo hi H Q
theorem evp_sl {te : TE} {tl th : TO} {r : V → Option Int → Option Int → Hp → VK → Prop} {lo hi : Option Int} {m : Res γ} {c : γ → RC} (h : EvP E te Γ cx) (h1 : EvOP E tl Γ lo) (h2 : EvOP E th Γ hi) (hr : RslJ E r cx lo hi Γ m c) :
    EvJ E (tSl r te tl th) Γ m (fun _ => Γ) c := fun σ H R Q t q =>
  h σ H R _ t fun x H1 t1 => h1 σ H1 _ _ t1 fun H2 t2 => h2 σ H2 _ _ t2 fun H3 t3 => hr σ H3 R Q x t3 q
/-- the parts compute; base a slot or a datum -/
theorem ev_sl {te : TE} {tl th : TO} {r : V → Option Int → Option Int → Hp → VK → Prop} {m0 : Res δ} {ca : δ → RC} {ml : δ → Res α} {mh : δ → α → Res β} {lo : α → Option Int} {hi : β → Option Int} {Γ0 : δ → List Cell} {Γ1 : δ → α → List Cell} {Γ2 : δ → α → β → List Cell} {k : δ → α → β → Res γ} {c : γ → RC} {Γ' : γ → List Cell}
    (h : EvJ E te Γ m0 Γ0 ca) (h1 : ∀ d, EvO E tl (Γ0 d) (ml d) (Γ1 d) lo) (h2 : ∀ d a, EvO E th (Γ1 d a) (mh d a) (Γ2 d a) hi)
    (hr : ∀ d a b (σ : St) (H : Hp) (R : Asr) (Q : VK) (x : V), Top (sep (base E σ (Γ2 d a b)) (sep (ca d σ x) R)) H → (k d a b).wp (fun g => ∀ v H', Top (sep (base E σ (Γ' g)) (sep (c g σ v) R)) H' → Q v H') (Exn E R σ) → r x (lo a) (hi b) H Q) :
    EvJ E (tSl r te tl th) Γ (m0.bind fun d => (ml d).bind fun a => (mh d a).bind fun b => k d a b) Γ' c := fun σ H R Q t q =>
  h σ H R _ t (wp_mono (wp_bind.mp q) (fun d _ q x H1 t1 => h1 d σ H1 (sep (ca d σ x) R) _ t1 (wp_mono (wp_bind.mp q) (fun a _ q H2 t2 => h2 d a σ H2 (sep (ca d σ x) R) _ t2 (wp_mono (wp_bind.mp q) (fun b _ q H3 t3 => hr d a b σ H3 R Q x t3 q) fun _ z => z.drop)) fun _ z => z.drop)) fun _ z => z)
theorem addAs {σ : St} {F : Hp} {o : Addr → Prop} {vs : List V} {ds : List PyData} (s : Same F H) (k : ∀ p, o p → F p = none ∧ H p ≠ none) (p : (sep (base E σ Γ) R).P F H o) (r : RpAll F vs ds) : Top (sep (base E σ Γ) (sep (vAs ds vs) R)) H :=
  ⟨F, o, s, k, ((Ent.assoc'.trans (Ent.sepL Ent.comm)).trans Ent.assoc) F H o s (sep_pers (fun _ => r) p)⟩
theorem as_of {σ : St} {vs : List V} {ds : List PyData} : ∀ F o, Same F H → (sep (base E σ Γ) (sep (vAs ds vs) R)).P F H o → RpAll F vs ds := fun F o s ⟨_, _, _, _, _, _, ⟨_, _, _, _, _, z, _⟩⟩ => z
theorem readS {σ : St} {ds : List PyData} (h : PArg E Γ K0 cx (ppS E.K ds)) (t : Top (sep (base E σ Γ) (sep (cx σ x) R)) H) : ∃ a vs, x = .ref a ∧ SqL E.K H a vs ∧ vs.length = ds.length ∧ Top (sep (base E σ Γ) (sep (vAs ds vs) (sep (cx σ x) R))) H := by
  obtain ⟨F, o, s, k, p⟩ := t
  obtain ⟨a, vs, e, hs, r⟩ := h σ x F H o trivial s (Ent.left F H o s (Ent.assoc' F H o s p))
  exact ⟨a, vs, e, hs, r.len, addAs s k p r⟩
theorem readL {σ : St} {ds : List PyData} (h : PArg E Γ K0 cx (ppL ds)) (t : Top (sep (base E σ Γ) (sep (cx σ x) R)) H) : ∃ a vs, x = .ref a ∧ H a = some (.lst vs) ∧ vs.length = ds.length ∧ Top (sep (base E σ Γ) (sep (vAs ds vs) (sep (cx σ x) R))) H := by
  obtain ⟨F, o, s, k, p⟩ := t
  obtain ⟨a, vs, e, hs, r⟩ := h σ x F H o trivial s (Ent.left F H o s (Ent.assoc' F H o s p))
  exact ⟨a, vs, e, hs, r.len, addAs s k p r⟩
theorem rsl_list [Dat α] {xs : List α} {lo hi : Option Int} (h : PArg E Γ K0 cx (ppS E.K (xs.map dat))) : RslJ E (rSlL E.K) cx lo hi Γ (.ok ()) fun _ => rO ((cutL xs lo hi).map dat) := fun σ H R Q x t q => by
  obtain ⟨a, vs, rfl, hs, ln, t2⟩ := readS h t
  refine ⟨a, vs, rfl, hs, fun p hp => q _ _ ((newL t2 hp fun F' o s' z => ?_).ent (Ent.sepR (Ent.sepR (Ent.right.trans Ent.right))))⟩
  rw [cutL_map]
  exact cut_rp lo hi (as_of F' o s' z)

/-! ### lists: +, * -/
def lim : Nat := 16000000
theorem lim_le {n : Nat} (h : n ≤ lim) : n ≤ sizeLine := Nat.le_trans h (by decide)
theorem lim_lt {n : Nat} (h : n < lim) : n < sizeLine := Nat.lt_of_lt_of_le h (by decide)
def catR {α : Type} (xs ys : List α) : Res (List α) := need (xs.length + ys.length ≤ lim) (.ok (xs ++ ys))
theorem r2_cat [Dat α] {xs ys : List α} (h1 : PArg E Γ K0 cx (ppL (xs.map dat))) (h2 : PArg E Γ K0 cy (ppL (ys.map dat))) : R2J E rCat cx cy Γ (catR xs ys) (fun _ => Γ) fun zs => rO (zs.map dat) := fun σ H R Q x y t q => by
  obtain ⟨hn, q⟩ := wp_need q
  obtain ⟨F, o, s, k, p⟩ := t
  obtain ⟨a, vs, rfl, ea, ra⟩ := h1 σ x F H o trivial s (Ent.left F H o s (Ent.assoc' F H o s p))
  obtain ⟨b, ws, rfl, eb, rb⟩ := h2 σ y F H o trivial s (Ent.left F H o s (Ent.assoc' F H o s (rotE F H o s p)))
  have la := ra.len
  have lb := rb.len
  rw [List.length_map] at la lb
  have t2 := addAs s k p (ra.append rb)
  refine ⟨a, b, vs, ws, rfl, rfl, ea, eb, by rw [la, lb]; exact lim_le hn, fun l hl => q _ _ ((newL t2 hl fun F' o s' z => ?_).ent (Ent.sepR (Ent.sepR (Ent.right.trans (Ent.right.trans Ent.right)))))⟩
  rw [List.map_append]
  exact as_of F' o s' z
def repR {α : Type} (xs : List α) (k : Int) : Res (List α) := need (-(2 ^ 63) ≤ k ∧ k < 2 ^ 63 ∧ xs.length * k.toNat ≤ lim) (.ok (List.replicate k.toNat xs).flatten)
theorem rep_rp {F : Hp} {vs : List V} {ds : List PyData} (r : RpAll F vs ds) : ∀ n : Nat, RpAll F (List.replicate n vs).flatten (List.replicate n ds).flatten
  | 0 => .nil
  | n + 1 => by
    rw [List.replicate_succ, List.replicate_succ, List.flatten_cons, List.flatten_cons]
    exact r.append (rep_rp r n)
theorem map_rep (f : α → β) (xs : List α) : ∀ n : Nat, (List.replicate n xs).flatten.map f = (List.replicate n (xs.map f)).flatten
  | 0 => rfl
  | n + 1 => by rw [List.replicate_succ, List.replicate_succ, List.flatten_cons, List.flatten_cons, List.map_append, map_rep f xs n]
theorem r2_rep [Dat α] {xs : List α} {k : Int} (h1 : PArg E Γ K0 cx (ppL (xs.map dat))) : R2J E rRep cx (rV (.int k)) Γ (repR xs k) (fun _ => Γ) fun zs => rO (zs.map dat) := fun σ H R Q x y t q => by
  obtain ⟨⟨k1, k2, hn⟩, q⟩ := wp_need q
  have ey := int2 t
  obtain ⟨F, o, s, kk, p⟩ := t
  obtain ⟨a, vs, rfl, ea, ra⟩ := h1 σ x F H o trivial s (Ent.left F H o s (Ent.assoc' F H o s p))
  have la := ra.len
  rw [List.length_map] at la
  have t2 := addAs s kk p (rep_rp ra k.toNat)
  refine ⟨a, k, vs, rfl, ey, ea, k1, k2, by rw [la]; exact lim_le hn, fun l hl => q _ _ ((newL t2 hl fun F' o s' z => ?_).ent (Ent.sepR (Ent.sepR (Ent.right.trans (Ent.right.trans Ent.right)))))⟩
  rw [map_rep]
  exact as_of F' o s' z

/-! ### built-ins over one value -/
/-- the cells of one argument -/
theorem one_arg {σ : St} {vs : List V} (t : Top (sep A (sep (csA [cx] σ vs) R)) H) : ∃ x, vs = [x] ∧ Top (sep A (sep (cx σ x) R)) H := by
  cases vs with
  | nil => exact (t.fact (φ := False) fun _ _ _ ⟨_, _, _, _, _, _, ⟨_, _, _, _, _, a, _⟩⟩ => a).elim
  | cons x r =>
    cases r with
    | nil => exact ⟨x, rfl, t.ent (Ent.sepR (Ent.sepL Ent.left))⟩
    | cons y r => exact (t.fact (φ := False) fun _ _ _ ⟨_, _, _, _, _, _, ⟨_, _, _, _, _, ⟨_, _, _, _, _, _, a⟩, _⟩⟩ => a).elim
theorem two_args {σ : St} {vs : List V} (t : Top (sep A (sep (csA [cx, cy] σ vs) R)) H) : ∃ x y, vs = [x, y] ∧ Top (sep A (sep (cx σ x) (sep (cy σ y) R))) H := by
  cases vs with
  | nil => exact (t.fact (φ := False) fun _ _ _ ⟨_, _, _, _, _, _, ⟨_, _, _, _, _, a, _⟩⟩ => a).elim
  | cons x r =>
    have t' : Top (sep (sep A (cx σ x)) (sep (csA [cy] σ r) R)) H := t.ent ((Ent.sepR Ent.assoc).trans Ent.assoc')
    obtain ⟨y, rfl, t2⟩ := one_arg t'
    exact ⟨x, y, rfl, t2.ent Ent.assoc⟩
def rLen (K : PySem.W.Frag) : List V → Hp → VK → Prop := fun xs H Q => ∃ p ys, xs = [.ref p] ∧ (SqL K H p ys ∨ SqT K H p ys) ∧ Q (.int ys.length) H
theorem rn_len [Dat α] {xs : List α} (h : PArg E Γ K0 cx (ppS E.K (xs.map dat))) : RnP E (rLen E.K) [cx] Γ (rV (.int xs.length)) := fun σ H R Q vs t q => by
  obtain ⟨x, rfl, t1⟩ := one_arg t
  obtain ⟨a, ws, rfl, hs, ln, t2⟩ := readS h t1
  rw [List.length_map] at ln
  exact ⟨a, ws, rfl, .inl hs, q _ H (res1 t1 fun F => by rw [ln]; exact .int _)⟩
theorem rn_lenT {ds : List PyData} : RnP E (rLen E.K) [rV (.tuple ds)] Γ (rV (.int ds.length)) := fun σ H R Q vs t q => by
  obtain ⟨x, rfl, t1⟩ := one_arg t
  obtain ⟨F, s, z⟩ := top1 t1
  cases z with
  | tup e r => exact ⟨_, _, rfl, .inr (SqT.of (s _ _ e)), q _ H (res1 t1 fun F => by rw [r.len]; exact .int _)⟩
/-- list(xs) -/
def rLs (K : PySem.W.Frag) : List V → Hp → VK → Prop := fun xs H Q => ∃ p ys, xs = [.ref p] ∧ (SqL K H p ys ∨ SqT K H p ys) ∧ ∀ l, H l = none → Q (.ref l) (upd H l (.lst ys))
theorem rn_list {ds : List PyData} (h : PArg E Γ K0 cx (ppS E.K ds)) : RnP E (rLs E.K) [cx] Γ (rO ds) := fun σ H R Q vs t q => by
  obtain ⟨x, rfl, t1⟩ := one_arg t
  obtain ⟨a, ws, rfl, hs, ln, t2⟩ := readS h t1
  exact ⟨a, ws, rfl, .inl hs, fun l hl => q _ _ ((newL t2 hl as_of).ent (Ent.sepR (Ent.sepR (Ent.right.trans Ent.right))))⟩
theorem rn_listT {ds : List PyData} : RnP E (rLs E.K) [rV (.tuple ds)] Γ (rO ds) := fun σ H R Q vs t q => by
  obtain ⟨x, rfl, t1⟩ := one_arg t
  obtain ⟨F, o, s, k, p⟩ := t1
  have z : Rp F x (.tuple ds) := by
    obtain ⟨_, _, _, _, _, _, ⟨_, _, _, _, _, z, _⟩⟩ := p
    exact z
  cases z with
  | tup e r => exact ⟨_, _, rfl, .inr (SqT.of (s _ _ e)), fun l hl => q _ _ ((newL (addAs s k p r) hl as_of).ent (Ent.sepR (Ent.sepR (Ent.right.trans Ent.right))))⟩
/-- tuple(xs) -/
def rTu (K : PySem.W.Frag) : List V → Hp → VK → Prop := fun xs H Q => ∃ p ys, xs = [.ref p] ∧ ((SqL K H p ys ∧ ∀ l, H l = none → Q (.ref l) (upd H l (.tup ys))) ∨ (SqT K H p ys ∧ Q (.ref p) H))
theorem rn_tuple {ds : List PyData} (h : PArg E Γ K0 cx (ppS E.K ds)) : RnP E (rTu E.K) [cx] Γ (rV (.tuple ds)) := fun σ H R Q vs t q => by
  obtain ⟨x, rfl, t1⟩ := one_arg t
  obtain ⟨a, ws, rfl, hs, ln, t2⟩ := readS h t1
  exact ⟨a, ws, rfl, .inl ⟨hs, fun l hl => q _ _ ((newT t2 hl as_of).ent (Ent.sepR (Ent.sepR (Ent.right.trans Ent.right))))⟩⟩
theorem rn_tupleT {ds : List PyData} : RnP E (rTu E.K) [rV (.tuple ds)] Γ (rV (.tuple ds)) := fun σ H R Q vs t q => by
  obtain ⟨x, rfl, t1⟩ := one_arg t
  obtain ⟨F, s, z⟩ := top1 t1
  cases z with
  | tup e r => exact ⟨_, _, rfl, .inr ⟨SqT.of (s _ _ e), q _ H t1⟩⟩
theorem map_int (ns : List Int) : ns.map (dat : Int → PyData) = ns.map PyData.int := rfl
theorem map_bool (ns : List Bool) : ns.map (dat : Bool → PyData) = ns.map PyData.bool := rfl
theorem ints_of {σ : St} {ns : List Int} (h : PArg E Γ K0 cx (ppS E.K (ns.map dat))) (t : Top (sep (base E σ Γ) (sep (cx σ x) R)) H) : ∃ a, x = .ref a ∧ SqL E.K H a (ns.map V.int) := by
  obtain ⟨a, ws, e, hs, ln, t2⟩ := readS h t
  have e2 : ws = ns.map V.int := t2.fact fun F o s z => (as_of F o s z).ints
  exact ⟨a, e, e2 ▸ hs⟩
theorem bools_of {σ : St} {ns : List Bool} (h : PArg E Γ K0 cx (ppS E.K (ns.map dat))) (t : Top (sep (base E σ Γ) (sep (cx σ x) R)) H) : ∃ a, x = .ref a ∧ SqL E.K H a (ns.map V.bl) := by
  obtain ⟨a, ws, e, hs, ln, t2⟩ := readS h t
  have e2 : ws = ns.map V.bl := t2.fact fun F o s z => (as_of F o s z).bools
  exact ⟨a, e, e2 ▸ hs⟩
theorem rn_sum {ns : List Int} (h : PArg E Γ K0 cx (ppS E.K (ns.map dat))) : RnP E (rSum E.K) [cx] Γ (rV (.int ns.sum)) := fun σ H R Q vs t q => by
  obtain ⟨x, rfl, t1⟩ := one_arg t
  obtain ⟨a, rfl, hs⟩ := ints_of h t1
  exact ⟨a, ns, rfl, hs, q _ H (res1 t1 fun F => .int _)⟩
theorem rn_all {ns : List Bool} (h : PArg E Γ K0 cx (ppS E.K (ns.map dat))) : RnP E (rAll E.K) [cx] Γ (rV (.bool (ns.all id))) := fun σ H R Q vs t q => by
  obtain ⟨x, rfl, t1⟩ := one_arg t
  obtain ⟨a, rfl, hs⟩ := bools_of h t1
  exact ⟨a, ns, rfl, hs, q _ H (res1 t1 fun F => .bl _)⟩
theorem rn_any {ns : List Bool} (h : PArg E Γ K0 cx (ppS E.K (ns.map dat))) : RnP E (rAny E.K) [cx] Γ (rV (.bool (ns.any id))) := fun σ H R Q vs t q => by
  obtain ⟨x, rfl, t1⟩ := one_arg t
  obtain ⟨a, rfl, hs⟩ := bools_of h t1
  exact ⟨a, ns, rfl, hs, q _ H (res1 t1 fun F => .bl _)⟩
/-- the least, the greatest -/
def minL : List Int → Int
  | [] => 0
  | a :: l => l.foldl min a
def maxL : List Int → Int
  | [] => 0
  | a :: l => l.foldl max a
theorem foldl_min_le : ∀ (l : List Int) (a : Int), l.foldl min a ≤ a ∧ ∀ y ∈ l, l.foldl min a ≤ y
  | [], a => ⟨Int.le_refl _, fun y h => by cases h⟩
  | b :: l, a => by
    obtain ⟨h1, h2⟩ := foldl_min_le l (min a b)
    refine ⟨?_, fun y hy => ?_⟩
    · show l.foldl min (min a b) ≤ a
      omega
    · rcases List.mem_cons.mp hy with e | hy
      · subst e
        show l.foldl min (min a y) ≤ y
        omega
      · exact h2 y hy
theorem foldl_min_mem : ∀ (l : List Int) (a : Int), l.foldl min a = a ∨ l.foldl min a ∈ l
  | [], a => .inl rfl
  | b :: l, a => by
    show l.foldl min (min a b) = a ∨ l.foldl min (min a b) ∈ b :: l
    rcases foldl_min_mem l (min a b) with h | h
    · rw [h]
      rcases Int.le_total a b with e | e
      · exact .inl (Int.min_eq_left e)
      · exact .inr (by rw [Int.min_eq_right e]; exact List.mem_cons_self)
    · exact .inr (List.mem_cons_of_mem _ h)
theorem foldl_max_ge : ∀ (l : List Int) (a : Int), a ≤ l.foldl max a ∧ ∀ y ∈ l, y ≤ l.foldl max a
  | [], a => ⟨Int.le_refl _, fun y h => by cases h⟩
  | b :: l, a => by
    obtain ⟨h1, h2⟩ := foldl_max_ge l (max a b)
    refine ⟨?_, fun y hy => ?_⟩
    · show a ≤ l.foldl max (max a b)
      omega
    · rcases List.mem_cons.mp hy with e | hy
      · subst e
        show y ≤ l.foldl max (max a y)
        omega
      · exact h2 y hy
theorem foldl_max_mem : ∀ (l : List Int) (a : Int), l.foldl max a = a ∨ l.foldl max a ∈ l
  | [], a => .inl rfl
  | b :: l, a => by
    show l.foldl max (max a b) = a ∨ l.foldl max (max a b) ∈ b :: l
    rcases foldl_max_mem l (max a b) with h | h
    · rw [h]
      rcases Int.le_total a b with e | e
      · exact .inr (by rw [Int.max_eq_right e]; exact List.mem_cons_self)
      · exact .inl (Int.max_eq_left e)
    · exact .inr (List.mem_cons_of_mem _ h)
theorem minL_mem {l : List Int} (h : l ≠ []) : minL l ∈ l := by
  cases l with
  | nil => exact (h rfl).elim
  | cons a l =>
    rcases foldl_min_mem l a with e | e
    · show l.foldl min a ∈ a :: l
      rw [e]
      exact List.mem_cons_self
    · exact List.mem_cons_of_mem _ e
theorem minL_le {l : List Int} {y : Int} (h : y ∈ l) : minL l ≤ y := by
  cases l with
  | nil => cases h
  | cons a l =>
    obtain ⟨h1, h2⟩ := foldl_min_le l a
    rcases List.mem_cons.mp h with e | h
    · rw [e]
      exact h1
    · exact h2 y h
theorem maxL_mem {l : List Int} (h : l ≠ []) : maxL l ∈ l := by
  cases l with
  | nil => exact (h rfl).elim
  | cons a l =>
    rcases foldl_max_mem l a with e | e
    · show l.foldl max a ∈ a :: l
      rw [e]
      exact List.mem_cons_self
    · exact List.mem_cons_of_mem _ e
theorem le_maxL {l : List Int} {y : Int} (h : y ∈ l) : y ≤ maxL l := by
  cases l with
  | nil => cases h
  | cons a l =>
    obtain ⟨h1, h2⟩ := foldl_max_ge l a
    rcases List.mem_cons.mp h with e | h
    · rw [e]
      exact h1
    · exact h2 y h
def minR (l : List Int) : Res Int := need (l ≠ []) (.ok (minL l))
def maxR (l : List Int) : Res Int := need (l ≠ []) (.ok (maxL l))
theorem rn_min {ns : List Int} (h : PArg E Γ K0 cx (ppS E.K (ns.map dat))) : RnJ E (rMin E.K) [cx] Γ (minR ns) (fun _ => Γ) fun a => rV (.int a) := fun σ H R Q vs t q => by
  obtain ⟨hn, q⟩ := wp_need q
  obtain ⟨x, rfl, t1⟩ := one_arg t
  obtain ⟨a, rfl, hs⟩ := ints_of h t1
  refine ⟨a, ns, rfl, hs, List.length_pos_iff.mpr hn, fun m hm hl => ?_⟩
  have e : m = minL ns := Int.le_antisymm (hl _ (minL_mem hn)) (minL_le hm)
  rw [e]
  exact q _ H (res1 t1 fun F => .int _)
theorem rn_max {ns : List Int} (h : PArg E Γ K0 cx (ppS E.K (ns.map dat))) : RnJ E (rMax E.K) [cx] Γ (maxR ns) (fun _ => Γ) fun a => rV (.int a) := fun σ H R Q vs t q => by
  obtain ⟨hn, q⟩ := wp_need q
  obtain ⟨x, rfl, t1⟩ := one_arg t
  obtain ⟨a, rfl, hs⟩ := ints_of h t1
  refine ⟨a, ns, rfl, hs, List.length_pos_iff.mpr hn, fun m hm hl => ?_⟩
  have e : m = maxL ns := Int.le_antisymm (le_maxL hm) (hl _ (maxL_mem hn))
  rw [e]
  exact q _ H (res1 t1 fun F => .int _)
def rMin2 : List V → Hp → VK → Prop := fun xs H Q => ∃ i j, xs = [.int i, .int j] ∧ Q (.int (if j < i then j else i)) H
def rMax2 : List V → Hp → VK → Prop := fun xs H Q => ∃ i j, xs = [.int i, .int j] ∧ Q (.int (if j > i then j else i)) H
theorem rn_min2 {i j : Int} : RnP E rMin2 [rV (.int i), rV (.int j)] Γ (rV (.int (min i j))) := fun σ H R Q vs t q => by
  obtain ⟨x, y, rfl, t1⟩ := two_args t
  have e1 := int1 t1
  have e2 := int2 t1
  subst e1
  subst e2
  refine ⟨i, j, rfl, q _ H (res2 t1 fun F => ?_)⟩
  have e : (if j < i then j else i) = min i j := by split <;> omega
  rw [e]
  exact .int _
theorem rn_max2 {i j : Int} : RnP E rMax2 [rV (.int i), rV (.int j)] Γ (rV (.int (max i j))) := fun σ H R Q vs t q => by
  obtain ⟨x, y, rfl, t1⟩ := two_args t
  have e1 := int1 t1
  have e2 := int2 t1
  subst e1
  subst e2
  refine ⟨i, j, rfl, q _ H (res2 t1 fun F => ?_)⟩
  have e : (if j > i then j else i) = max i j := by split <;> omega
  rw [e]
  exact .int _
def rInt1 : List V → Hp → VK → Prop := fun xs H Q => (∃ i, xs = [.int i] ∧ Q (.int i) H) ∨ ∃ k, xs = [.bl k] ∧ Q (.int (if k then 1 else 0)) H
theorem rn_intI {i : Int} : RnP E rInt1 [rV (.int i)] Γ (rV (.int i)) := fun σ H R Q vs t q => by
  obtain ⟨x, rfl, t1⟩ := one_arg t
  have e1 := int1 t1
  subst e1
  exact .inl ⟨i, rfl, q _ H t1⟩
def b2i' (b : Bool) : Int := if b then 1 else 0
theorem rn_intB {b : Bool} : RnP E rInt1 [rV (.bool b)] Γ (rV (.int (b2i' b))) := fun σ H R Q vs t q => by
  obtain ⟨x, rfl, t1⟩ := one_arg t
  have e1 := bl_of t1
  subst e1
  exact .inr ⟨b, rfl, q _ H (res1 t1 fun F => .int _)⟩
/-- is None -/
def rIsN' : R2 := fun x y H Q => y = .non ∧ Q (.bl (decide (x = .non))) H
def rNotN' : R2 := fun x y H Q => y = .non ∧ Q (.bl (!decide (x = .non))) H
def isNone : PyData → Bool
  | .none => true
  | _ => false
theorem non_of {F : Hp} {d : PyData} (h : Rp F x d) : decide (x = .non) = isNone d := by cases h <;> rfl
theorem r2_isN {d : PyData} : R2P E rIsN' (rV d) (rV .none) Γ (rV (.bool (isNone d))) := fun σ H R Q x y t q => by
  obtain ⟨F, _, z⟩ := top1 t
  obtain ⟨_, _, z2⟩ := top1 (t.ent Ent.assoc')
  exact ⟨by cases z2; rfl, q _ H (res2 t fun F => by rw [non_of z]; exact .bl _)⟩
theorem r2_notN {d : PyData} : R2P E rNotN' (rV d) (rV .none) Γ (rV (.bool (!isNone d))) := fun σ H R Q x y t q => by
  obtain ⟨F, _, z⟩ := top1 t
  obtain ⟨_, _, z2⟩ := top1 (t.ent Ent.assoc')
  exact ⟨by cases z2; rfl, q _ H (res2 t fun F => by rw [non_of z]; exact .bl _)⟩
/-- isinstance of data -/
def tyName : PyData → String
  | .none => "NoneType"
  | .bool _ => "bool"
  | .int _ => "int"
  | .str _ => "str"
  | .list _ => "list"
  | .tuple _ => "tuple"
  | .dict _ => "dict"
theorem ty_of {F : Hp} {K : PySem.W.Frag} {d : PyData} (s : Same F H) (h : Rp F x d) : TyX K H x (.type (tyName d)) := by
  cases h with
  | non => exact .base .non
  | bl b => exact .base (.bl b)
  | int i => exact .base (.int i)
  | str x => exact .base (.str x)
  | lst e r => exact .base (.lst (s _ _ e))
  | tup e r => exact .base (.tup (s _ _ e))
/-- isinstance(x, T): the answer by the two types' names -/
theorem rn_isi {d : PyData} {n : String} {b : Bool} (hk : PySem.W.kitOne E.K (.type (tyName d)) (.type n) = some b) : RnP E (rIsi E.K) [rV d, fun _ v => pur (v = .ty n)] Γ (rV (.bool b)) := fun σ H R Q vs t q => by
  obtain ⟨x, y, rfl, t1⟩ := two_args t
  obtain ⟨F, s, z⟩ := top1 t1
  have ey : y = .ty n := t1.fact fun F o s ⟨_, _, _, _, _, _, ⟨_, _, _, _, _, _, ⟨_, _, _, _, _, e, _⟩⟩⟩ => e
  subst ey
  exact ⟨x, .ty n, .type (tyName d), .type n, b, rfl, .ty n, ty_of s z, hk, q _ H (res2 t1 fun F => .bl _)⟩
theorem rn_isiL {ds : List PyData} {n : String} {b : Bool} (h : PArg E Γ K0 cx (ppL ds)) (hk : PySem.W.kitOne E.K (.type "list") (.type n) = some b) : RnP E (rIsi E.K) [cx, fun _ v => pur (v = .ty n)] Γ (rV (.bool b)) := fun σ H R Q vs t q => by
  obtain ⟨x, y, rfl, t1⟩ := two_args t
  obtain ⟨a, ws, rfl, e, _, _⟩ := readL h t1
  have ey : y = .ty n := t1.fact fun F o s ⟨_, _, _, _, _, _, ⟨_, _, _, _, _, _, ⟨_, _, _, _, _, e, _⟩⟩⟩ => e
  subst ey
  exact ⟨_, .ty n, .type "list", .type n, b, rfl, .ty n, .base (.lst e), hk, q _ H (res2 t1 fun F => .bl _)⟩
theorem ev_ty {n : String} : EvP E (tC (.ty n)) Γ fun _ v => pur (v = .ty n) := fun σ H R Q t q => q _ H ((t.addP rfl).ent ((Ent.assoc'.trans (Ent.sepL Ent.comm)).trans Ent.assoc))
end
end Lc
/-! Lc: lists changed in place, loops, comprehensions -/
namespace Lc
open PySem L2
section
variable {E : Ec} {Γ : List Cell} {A B C' R : Asr} {H : Hp} {x y v : V} {d : PyData} {cx cy : RC} {α β γ ρ δ τ : Type} {te ti : TE} {mk : List PyData → Cell} {i : Nat}
open Res

/-! ### lists of a slot, changed -/
/-- slot i's list is written: what is to be shown of the list's new items -/
theorem own_write {ds es : List PyData} {σ : St} {p : Addr} {ws : List V} {A : Asr} (t : Top (sep A (oA p ds)) H) (r : ∀ F o vs, Same F H → A.P F H o → H p = some (.lst vs) → RpAll F vs ds → RpAll F ws es) : Top (sep A (oA p es)) (upd H p (.lst ws)) :=
  ((t.ent Ent.comm).write r).ent Ent.comm
theorem slot_val {σ : St} {p : Addr} (hs : σ[i]? = some (some (.ref p))) (t : Top (sep A (sep (rS i σ x) R)) H) : x = .ref p := t.fact fun F o s ⟨_, _, _, _, _, _, ⟨_, _, _, _, _, z, _⟩⟩ => by
  have z' : σ[i]? = some (some x) := z
  rw [hs] at z'
  cases z'
  rfl
theorem own_at {ds : List PyData} {p : Addr} (t : Top (sep A (oA p ds)) H) : ∃ vs, H p = some (.lst vs) ∧ vs.length = ds.length := by
  obtain ⟨F, o, s, _, _, _, _, _, _, _, ⟨_, vs, e, r⟩⟩ := t
  exact ⟨vs, e, r.len⟩
/-- xs.append(e), the list in slot i -/
theorem es_append {ds : List PyData} {e : PyData} {c : RC} (hk : OwnC mk) (h : EvP E te Γ c) (f : Fz c e) (hi : Γ[i]? = some (mk ds)) :
    EvS1 E (tDrop (tBM E.K "list" rAppend (tVar i) (tCons te tNil))) Γ (need (ds.length < lim) (.ok ())) fun _ => Γ.set i (mk (ds ++ [e])) := fun σ H R D t q => by
  obtain ⟨hn, q⟩ := wp_need q
  obtain ⟨p, hs, t2, _⟩ := take_own (A := R) hk hi t
  obtain ⟨vs, ep, _⟩ := own_at t2
  refine ⟨_, hs, .inl ⟨rfl, vs, SqL.of ep⟩, ?_⟩
  refine h σ H R _ t fun w H1 t1 => ?_
  have t3 : Top (sep (base E σ Γ) (sep (vA e w) R)) H1 := (f σ w _ H1 (t1.ent frontE)).ent frontE
  obtain ⟨p', hs', t4, back⟩ := take_own hk hi t3
  rw [hs] at hs'
  cases hs'
  obtain ⟨vs', ep', ln⟩ := own_at t4
  refine ⟨p, vs', w, rfl, rfl, ep', by rw [ln]; exact lim_lt hn, q σ _ ?_⟩
  have t5 := own_write (σ := σ) (es := ds ++ [e]) (ws := vs' ++ [w]) t4 fun F o vs'' s a e2 r => by
    rw [ep'] at e2
    cases e2
    obtain ⟨_, _, _, _, _, _, ⟨_, _, _, _, _, z, _⟩⟩ := a
    exact r.append (.one z)
  exact (t5.ent (back (ds ++ [e]))).ent (Ent.sepR Ent.right)
theorem es_appendM {m : Res α} {Γ1 : α → List Cell} {ds : α → List PyData} {e : α → PyData} {c : α → RC} (hk : OwnC mk) (h : EvJ E te Γ m Γ1 c) (f : ∀ a, Fz (c a) (e a)) {ds0 : List PyData} (h0 : Γ[i]? = some (mk ds0)) (hi : ∀ a, (Γ1 a)[i]? = some (mk (ds a))) :
    EvS1 E (tDrop (tBM E.K "list" rAppend (tVar i) (tCons te tNil))) Γ (m.bind fun a => need ((ds a).length < lim) (.ok a)) fun a => (Γ1 a).set i (mk (ds a ++ [e a])) := fun σ H R D t q => by
  obtain ⟨p, hs, t2, _⟩ := take_own (A := R) hk h0 t
  obtain ⟨vs, ep, _⟩ := own_at t2
  refine ⟨_, hs, .inl ⟨rfl, vs, SqL.of ep⟩, ?_⟩
  refine h σ H R _ t (wp_mono (wp_bind.mp q) (fun a _ q w H1 t1 => ?_) fun _ x => x σ)
  obtain ⟨hn, q⟩ := wp_need q
  have t3 : Top (sep (base E σ (Γ1 a)) (sep (vA (e a) w) R)) H1 := (f a σ w _ H1 (t1.ent frontE)).ent frontE
  obtain ⟨p', hs', t4, back⟩ := take_own hk (hi a) t3
  rw [hs] at hs'
  cases hs'
  obtain ⟨vs', ep', ln⟩ := own_at t4
  refine ⟨p, vs', w, rfl, rfl, ep', by rw [ln]; exact lim_lt hn, q σ _ ?_⟩
  have t5 := own_write (σ := σ) (es := ds a ++ [e a]) (ws := vs' ++ [w]) t4 fun F o vs'' s a e2 r => by
    rw [ep'] at e2
    cases e2
    obtain ⟨_, _, _, _, _, _, ⟨_, _, _, _, _, z, _⟩⟩ := a
    exact r.append (.one z)
  exact (t5.ent (back (ds a ++ [e a]))).ent (Ent.sepR Ent.right)
theorem getI_some {xs : List α} {k : Int} {a : α} (h : atI xs k = some a) : getI xs k = .ok a := by
  unfold getI
  rw [h]
/-- xs[k] = e -/
def setR {α : Type} (xs : List α) (k : Int) (a : α) : Res (List α) := match ixN xs.length k with
  | some j => .ok (xs.set j a)
  | none => .bad
theorem set_core [Dat α] {xs : List α} {a : α} {k : Int} {σ : St} {v o ik : V} {R : Asr} {Q : Hp → Prop} (hk : OwnC mk) (hi : Γ[i]? = some (mk (xs.map dat))) (ho : σ[i]? = some (some o)) (ei : ik = .int k)
    (t : Top (sep (base E σ Γ) (sep (vA (dat a) v) R)) H) (q : (setR xs k a).wp (fun ys => ∀ H', Top (sep (base E σ (Γ.set i (mk (ys.map dat)))) R) H' → Q H') fun _ => False) : rSetL o ik v H Q := by
  obtain ⟨p, hs, t4, back⟩ := take_own hk hi t
  rw [hs] at ho
  cases ho
  obtain ⟨vs, ep, ln⟩ := own_at t4
  rw [List.length_map] at ln
  unfold setR at q
  cases ej : ixN xs.length k with
  | none =>
    rw [ej] at q
    exact (show False from q).elim
  | some j =>
    rw [ej] at q
    have q : ∀ H', Top (sep (base E σ (Γ.set i (mk ((xs.set j a).map dat)))) R) H' → Q H' := q
    refine ⟨p, vs, k, j, rfl, ei, ep, by rw [ln]; exact ej, q _ ?_⟩
    have t5 := own_write (σ := σ) (es := (xs.set j a).map dat) (ws := vs.set j v) t4 fun F o vs'' s z e2 r => by
      rw [ep] at e2
      cases e2
      obtain ⟨_, _, _, _, _, _, ⟨_, _, _, _, _, z, _⟩⟩ := z
      rw [List.map_set]
      exact RpAll.set z j r
    exact (t5.ent (back _)).ent (Ent.sepR Ent.right)
/-- xs[k] = e: the right side first, then the place -/
theorem es_setitem [Dat α] {m1 : Res γ} {Γ1 : γ → List Cell} {c : γ → RC} {m2 : γ → Res δ} {Γ2 : γ → δ → List Cell} {k : γ → δ → Int} {xs : γ → δ → List α} {a : γ → α} (hk : OwnC mk) (h : EvJ E te Γ m1 Γ1 c) (f : ∀ g, Fz (c g) (dat (a g)))
    (h2 : ∀ g, EvJ E ti (Γ1 g) (m2 g) (Γ2 g) fun d => rV (.int (k g d))) (h0 : ∀ g, ∃ es, (Γ1 g)[i]? = some (mk es)) (hi : ∀ g d, (Γ2 g d)[i]? = some (mk ((xs g d).map dat))) :
    EvS1 E (tAsg te (gSub (tVar i) ti rSetL)) Γ (m1.bind fun g => (m2 g).bind fun d => (setR (xs g d) (k g d) (a g)).bind fun ys => .ok (g, d, ys)) fun r => (Γ2 r.1 r.2.1).set i (mk (r.2.2.map dat)) := fun σ H R D t q => by
  refine h σ H R _ t (wp_mono (wp_bind.mp q) (fun g _ q w H1 t1 => ?_) fun _ x => x σ)
  have t3 : Top (sep (base E σ (Γ1 g)) (sep (vA (dat (a g)) w) R)) H1 := (f g σ w _ H1 (t1.ent frontE)).ent frontE
  obtain ⟨es, e0⟩ := h0 g
  obtain ⟨p, hs, _, _⟩ := take_own hk e0 t3
  refine ⟨_, hs, h2 g σ H1 _ _ t3 (wp_mono (wp_bind.mp q) (fun d _ q ik H2 t4 => ?_) fun _ x => (x σ).drop)⟩
  refine set_core hk (hi g d) hs (int1 t4) (t4.ent (Ent.sepR Ent.right)) ?_
  cases e : setR (xs g d) (k g d) (a g) with
  | ok ys =>
    rw [e] at q
    exact fun H' t' => q σ H' t'
  | err n => unfold setR at e; split at e <;> cases e
  | bad =>
    rw [e] at q
    exact q
theorem es_setitemP [Dat α] {c : RC} {k : Int} {xs : List α} {a : α} (hk : OwnC mk) (h : EvP E te Γ c) (f : Fz c (dat a)) (h2 : EvP E ti Γ (rV (.int k))) (hi : Γ[i]? = some (mk (xs.map dat))) :
    EvS1 E (tAsg te (gSub (tVar i) ti rSetL)) Γ (setR xs k a) fun ys => Γ.set i (mk (ys.map dat)) := fun σ H R D t q => by
  refine h σ H R _ t fun w H1 t1 => ?_
  have t3 : Top (sep (base E σ Γ) (sep (vA (dat a) w) R)) H1 := (f σ w _ H1 (t1.ent frontE)).ent frontE
  obtain ⟨p, hs, _, _⟩ := take_own hk hi t3
  refine ⟨_, hs, h2 σ H1 _ _ t3 fun ik H2 t4 => ?_⟩
  refine set_core hk hi hs (int1 t4) (t4.ent (Ent.sepR Ent.right)) ?_
  cases e : setR xs k a with
  | ok ys =>
    rw [e] at q
    exact fun H' t' => q σ H' t'
  | err n => unfold setR at e; split at e <;> cases e
  | bad =>
    rw [e] at q
    exact q
/-- o[i], by values -/
theorem pget_list {X : Cx} : PGet X (rIxL X.K) := by
  intro pins s σ H o i ov iv Q I r1 r2 h
  obtain ⟨p, xs, i, z, rfl, rfl, hq, he, q⟩ := h
  cases r1
  obtain ⟨t, rfl⟩ := r2
  obtain ⟨its, r, pl, hz⟩ := I.list hq
  obtain ⟨j, h1, h2, h3, h4, h5⟩ := atI_get he
  obtain ⟨w, ew, rw'⟩ := r.get h2
  have hl := r.length
  have hn := line63
  have fin : EP X pins σ Q w s := ⟨z, H, I, rw', q⟩
  by_cases h0 : 0 ≤ i
  · have hj : i.toNat = j := by
      rw [seqIndex_of h0 h5] at h1
      exact Option.some.inj h1
    exact wpAny_getItem_list pl.isList h0 (by omega) (by rw [hj]; simpa using ew) fin
  · have hj : (i + (its.toArray.size : Int)).toNat = j := by
      rw [seqIndex_neg (by omega) h4] at h1
      rw [List.size_toArray, ← hl]
      exact Option.some.inj h1
    exact wpAny_getItem_list_neg pl.isList (by omega) (by rw [List.size_toArray] <;> omega) (by omega) (by rw [hj]; simpa using ew) fin
/-- xs[k] += e, ints -/
theorem es_augitem {f : Int → Int → Int} {k e : Int} {xs : List Int} (hk : OwnC mk) (h : EvP E te Γ (rV (.int e))) (h2 : EvP E ti Γ (rV (.int k))) (hi : Γ[i]? = some (mk (xs.map dat))) :
    EvS1 E (tAugS (tVar i) ti te (rIxL E.K) (ipI f) rSetL) Γ ((getI xs k).bind fun a => setR xs k (f a e)) fun ys => Γ.set i (mk (ys.map dat)) := fun σ H R D t q => by
  obtain ⟨p, hs, t2, _⟩ := take_own (A := R) hk hi t
  refine ⟨_, hs, h2 σ H R _ t fun ik H1 t1 => ?_⟩
  have ek := int1 t1
  subst ek
  have t1 := t1.ent (Ent.sepR (B' := R) Ent.right)
  obtain ⟨p', hs', t3, _⟩ := take_own (A := R) hk hi t1
  rw [hs] at hs'
  cases hs'
  obtain ⟨F, o, s, _, _, _, _, _, _, _, ⟨_, vs, ep, r⟩⟩ := t3
  cases ea : atI xs k with
  | none =>
    unfold getI at q
    rw [ea] at q
    exact (show False from q).elim
  | some a =>
    rw [getI_some ea, Res.bind_ok] at q
    obtain ⟨v, ev, rv⟩ := atI_rp r (show atI (xs.map dat) k = some (dat a) by rw [atI_map, ea]; rfl)
    have ev2 : v = .int a := by cases (show Rp F v (.int a) from rv); rfl
    subst ev2
    refine ⟨p, vs, k, .int a, rfl, rfl, SqL.of ep, ev, h σ H1 R _ t1 fun w H2 t4 => ?_⟩
    have ew := int1 t4
    subst ew
    refine ⟨a, e, rfl, rfl, ?_⟩
    have t5 : Top (sep (base E σ Γ) (sep (vA (dat (f a e)) (.int (f a e))) R)) H2 := res1 t4 fun F => .int _
    refine set_core hk hi hs rfl t5 ?_
    cases es : setR xs k (f a e) with
    | ok ys =>
      rw [es] at q
      exact fun H' t' => q σ H' t'
    | err n => unfold setR at es; split at es <;> cases es
    | bad =>
      rw [es] at q
      exact q
theorem es_augitemM {f : Int → Int → Int} {k : Int} {xs : List Int} {m : Res Int} (hk : OwnC mk) (h : EvJ E te Γ m (fun _ => Γ) fun e => rV (.int e)) (h2 : EvP E ti Γ (rV (.int k))) (hi : Γ[i]? = some (mk (xs.map dat))) :
    EvS1 E (tAugS (tVar i) ti te (rIxL E.K) (ipI f) rSetL) Γ ((getI xs k).bind fun a => m.bind fun e => setR xs k (f a e)) fun ys => Γ.set i (mk (ys.map dat)) := fun σ H R D t q => by
  obtain ⟨p, hs, t2, _⟩ := take_own (A := R) hk hi t
  refine ⟨_, hs, h2 σ H R _ t fun ik H1 t1 => ?_⟩
  have ek := int1 t1
  subst ek
  have t1 := t1.ent (Ent.sepR (B' := R) Ent.right)
  obtain ⟨p', hs', t3, _⟩ := take_own (A := R) hk hi t1
  rw [hs] at hs'
  cases hs'
  obtain ⟨F, o, s, _, _, _, _, _, _, _, ⟨_, vs, ep, r⟩⟩ := t3
  cases ea : atI xs k with
  | none =>
    unfold getI at q
    rw [ea] at q
    exact (show False from q).elim
  | some a =>
    rw [getI_some ea, Res.bind_ok] at q
    obtain ⟨v, ev, rv⟩ := atI_rp r (show atI (xs.map dat) k = some (dat a) by rw [atI_map, ea]; rfl)
    have ev2 : v = .int a := by cases (show Rp F v (.int a) from rv); rfl
    subst ev2
    refine ⟨p, vs, k, .int a, rfl, rfl, SqL.of ep, ev, h σ H1 R _ t1 (wp_mono (wp_bind.mp q) (fun e _ q w H2 t4 => ?_) fun _ x => x σ)⟩
    have ew := int1 t4
    subst ew
    refine ⟨a, e, rfl, rfl, ?_⟩
    have t5 : Top (sep (base E σ Γ) (sep (vA (dat (f a e)) (.int (f a e))) R)) H2 := res1 t4 fun F => .int _
    refine set_core hk hi hs rfl t5 ?_
    cases es : setR xs k (f a e) with
    | ok ys =>
      rw [es] at q
      exact fun H' t' => q σ H' t'
    | err n => unfold setR at es; split at es <;> cases es
    | bad =>
      rw [es] at q
      exact q

/-! ### what is walked -/
/-- while G stands, J goes through the data ds -/
structure ItOk (J : It) (ds : List PyData) (G : Asr) : Prop where
  goes : ∀ i H R, i < ds.length → Top (sep G R) H → J.go i H
  stops : ∀ H R, Top (sep G R) H → J.stop ds.length H
  yields : ∀ i d H x H' R, ds[i]? = some d → Top (sep G R) H → J.yld i H x H' → Top (sep (vA d x) (sep G R)) H'
def EvI (E : Ec) (wi : TI) (Γ : List Cell) {ι : Type} (m : Res ι) (Γ' : ι → List Cell) (ds : ι → List PyData) (Kp : ι → List Cell → Prop) : Prop :=
  ∀ (σ : St) (H : Hp) (R : Asr) (Qi : It → Hp → Prop), Top (sep (base E σ Γ) R) H →
    m.wp (fun a => ∀ J H' B, (∀ σ' Γ'', Kp a Γ'' → ItOk J (ds a) (sep (base E σ' Γ'') B)) → Top (sep (base E σ (Γ' a)) (sep B R)) H' → Qi J H') (Exn E R σ) → wi σ H Qi
theorem itok_list {K : PySem.W.Frag} {a : Addr} {ds : List PyData} {G : Asr} (h : ∀ F H o, Same F H → G.P F H o → ∃ vs, SqL K H a vs ∧ RpAll F vs ds) : ItOk (Itl K a) ds G where
  goes := fun i H R hi t => by
    obtain ⟨F, o, s, k, p⟩ := t
    obtain ⟨vs, hs, r⟩ := h F H o s (Ent.left F H o s p)
    have ln := r.len
    exact ⟨vs, vs[i], hs, by simp [show i < vs.length by omega]⟩
  stops := fun H R t => by
    obtain ⟨F, o, s, k, p⟩ := t
    obtain ⟨vs, hs, r⟩ := h F H o s (Ent.left F H o s p)
    exact ⟨vs, hs, Nat.le_of_eq r.len⟩
  yields := fun i d H x H' R hd t y => by
    obtain ⟨rfl, hy⟩ := y
    obtain ⟨F, o, s, k, p⟩ := t
    obtain ⟨vs, hs, r⟩ := h F _ o s (Ent.left F _ o s p)
    obtain ⟨v, ev, rv⟩ := r.get hd
    have e := hy vs hs
    rw [ev] at e
    cases e
    exact ⟨F, o, s, k, sep_pers (fun _ => rv) p⟩
theorem sqL_of {K : PySem.W.Frag} {ds : List PyData} {F : Hp} {a : Addr} (s : Same F H) (h : Rp F (.ref a) (.list ds)) : ∃ vs, SqL K H a vs ∧ RpAll F vs ds := by
  cases h with
  | lst e r => exact ⟨_, SqL.of (s _ _ e), r⟩
/-- a list that can be walked: where it lies, and what keeps it readable through the loop -/
def Src (E : Ec) (Γ : List Cell) (cx : RC) (ds : List PyData) (Kp : List Cell → Prop) : Prop := ∀ (σ : St) (H : Hp) (R : Asr) (x : V), Top (sep (base E σ Γ) (sep (cx σ x) R)) H → ∃ a B, x = .ref a ∧ (∃ vs, SqL E.K H a vs) ∧
  (∀ σ' Γ'', Kp Γ'' → ∀ F H' o, Same F H' → (sep (base E σ' Γ'') B).P F H' o → ∃ vs, SqL E.K H' a vs ∧ RpAll F vs ds) ∧ Top (sep (base E σ Γ) (sep B R)) H
theorem src_v {ds : List PyData} : Src E Γ (rV (.list ds)) ds fun _ => True := fun σ H R x t => by
  obtain ⟨F, s, z⟩ := top1 t
  have z' := z
  cases z' with
  | lst e r => exact ⟨_, vA (.list ds) (.ref _), rfl, ⟨_, SqL.of (s _ _ e)⟩, fun σ' Γ'' _ F' H' o s' ⟨_, _, _, _, _, _, b⟩ => sqL_of s' b, t⟩
theorem src_o {ds : List PyData} : Src E Γ (rO ds) ds fun _ => True := fun σ H R x t => src_v σ H R x ((oV_freeze (t.ent frontE)).ent frontE)
theorem src_b {ds : List PyData} {v : V} (hi : Γ[i]? = some (cIs v)) (hb : Bw E v (ppS E.K ds)) : Src E Γ (rS i) ds fun _ => True := fun σ H R x t => by
  have t1 := t
  obtain ⟨F, o, s, k, o1, o2, h1, h2, d, ⟨o3, o4, h3, h4, d', a, b⟩, ⟨_, _, _, _, _, ex, _⟩⟩ := t
  obtain ⟨y, ey, hy⟩ := sl_get hi a
  have e1 : y = some v := hy
  subst e1
  have e2 : σ[i]? = some (some x) := ex
  rw [ey] at e2
  cases e2
  obtain ⟨p, vs, rfl, hs, rv⟩ := hb F H _ s b
  refine ⟨p, emp, rfl, ⟨vs, hs⟩, fun σ' Γ'' _ F' H' o s' ⟨_, _, _, _, _, ⟨_, _, _, _, _, _, b⟩, _⟩ => ?_, t1.ent (Ent.sepR (Ent.sepL Ent.emp))⟩
  obtain ⟨p', vs', e', hs', r'⟩ := hb F' H' _ s' b
  cases e'
  exact ⟨vs', hs', r'⟩
theorem src_at {ds : List PyData} {p : Addr} (hi : Γ[i]? = some (cAt p ds)) : Src E Γ (rS i) ds fun Γ'' => Γ''[i]? = some (cAt p ds) := fun σ H R x t => by
  have t1 := t
  obtain ⟨F, o, s, k, o1, o2, h1, h2, d, ⟨o3, o4, h3, h4, d', a, b⟩, ⟨_, _, _, _, _, ex, _⟩⟩ := t
  obtain ⟨y, ey, _, _, _, _, _, hy, ⟨_, vs, e, rv⟩⟩ := sl_get hi a
  have e1 : y = some (.ref p) := hy
  subst e1
  have e2 : σ[i]? = some (some x) := ex
  rw [ey] at e2
  cases e2
  refine ⟨p, emp, rfl, ⟨vs, SqL.of e⟩, fun σ' Γ'' hk F' H' o s' ⟨_, _, _, _, _, ⟨_, _, _, _, _, a, _⟩, _⟩ => ?_, t1.ent (Ent.sepR (Ent.sepL Ent.emp))⟩
  obtain ⟨y, ey, _, _, _, _, _, hy, ⟨_, vs, e, rv⟩⟩ := sl_get hk a
  exact ⟨vs, SqL.of e, rv⟩
theorem ei_list {m : Res γ} {Γ' : γ → List Cell} {c : γ → RC} {ds : γ → List PyData} {Kp : γ → List Cell → Prop} (h : EvJ E te Γ m Γ' c) (hs : ∀ a, Src E (Γ' a) (c a) (ds a) (Kp a)) : EvI E (iList E.K te) Γ m Γ' ds Kp := fun σ H R Qi t q =>
  h σ H R _ t (wp_mono q (fun a _ q v H1 t1 => by
    obtain ⟨p, B, rfl, hv, hr, t2⟩ := hs a σ H1 R v t1
    exact ⟨p, rfl, hv, q _ H1 B (fun σ' Γ'' hk => itok_list (hr σ' Γ'' hk)) t2⟩) fun _ x => x)
/-- enumerate(xs) -/
def enumL {α : Type} (xs : List α) : List (Int × α) := xs.zipIdx.map fun p => ((p.2 : Int), p.1)
theorem enumL_get (xs : List α) (i : Nat) : (enumL xs)[i]? = (xs[i]?).map fun a => ((i : Int), a) := by
  unfold enumL
  rw [List.getElem?_map, List.getElem?_zipIdx, Option.map_map]
  cases xs[i]? with
  | none => rfl
  | some a => simp
theorem enumL_len (xs : List α) : (enumL xs).length = xs.length := by unfold enumL; simp
theorem itok_enum [Dat α] {K : PySem.W.Frag} {a : Addr} {xs : List α} {G : Asr} (h : ∀ F H o, Same F H → G.P F H o → ∃ vs, SqL K H a vs ∧ RpAll F vs (xs.map dat)) : ItOk (Ite K a) ((enumL xs).map dat) G where
  goes := fun i H R hi t => by
    obtain ⟨F, o, s, k, p⟩ := t
    obtain ⟨vs, hs, r⟩ := h F H o s (Ent.left F H o s p)
    have ln := r.len
    rw [List.length_map] at hi ln
    rw [enumL_len] at hi
    exact ⟨vs, vs[i], hs, by simp [show i < vs.length by omega]⟩
  stops := fun H R t => by
    obtain ⟨F, o, s, k, p⟩ := t
    obtain ⟨vs, hs, r⟩ := h F H o s (Ent.left F H o s p)
    rw [List.length_map, enumL_len]
    have ln := r.len
    rw [List.length_map] at ln
    exact ⟨vs, hs, Nat.le_of_eq ln⟩
  yields := fun i d H x H' R hd t y => by
    obtain ⟨T, w, rfl, hT, rfl, hy⟩ := y
    rw [List.getElem?_map, enumL_get] at hd
    cases e : xs[i]? with
    | none =>
      rw [e] at hd
      cases hd
    | some z =>
      rw [e] at hd
      cases hd
      have t' := t
      obtain ⟨F, o, s, k, p⟩ := t'
      refine (Top.allocT (vs := [.int i, w]) (ds := [dat (i : Int), dat z]) t hT fun F o s p => ?_)
      obtain ⟨vs, hs, r⟩ := h F H o s (Ent.left F H o s p)
      obtain ⟨v, ev, rv⟩ := r.get (i := i) (d := dat z) (by rw [List.getElem?_map, e]; rfl)
      have e2 := hy vs hs
      rw [ev] at e2
      cases e2
      exact .cons (.int _) (.one rv)
theorem ei_enum [Dat α] {tr : TA} {xs : List α} {Kp : List Cell → Prop} (h : EvAP E tr Γ [cx]) (hs : Src E Γ cx (xs.map dat) Kp) : EvI E (iEnum E.K tr) Γ (.ok ()) (fun _ => Γ) (fun _ => (enumL xs).map dat) fun _ => Kp := fun σ H R Qi t q =>
  h σ H R _ t fun vs H1 t1 => by
    obtain ⟨x, rfl, t2⟩ := one_arg t1
    obtain ⟨p, B, rfl, ⟨ws, hv⟩, hr, t3⟩ := hs σ H1 R x t2
    exact ⟨p, ws, rfl, hv, q _ H1 B (fun σ' Γ'' hk => itok_enum (hr σ' Γ'' hk)) t3⟩
theorem ei_enumM [Dat α] {tr : TA} {m : Res γ} {Γ' : γ → List Cell} {c : γ → RC} {xs : γ → List α} {Kp : γ → List Cell → Prop} (h : EvA E tr Γ m Γ' fun a => [c a]) (hs : ∀ a, Src E (Γ' a) (c a) ((xs a).map dat) (Kp a)) : EvI E (iEnum E.K tr) Γ m Γ' (fun a => (enumL (xs a)).map dat) Kp := fun σ H R Qi t q =>
  h σ H R _ t (wp_mono q (fun a _ q vs H1 t1 => by
    obtain ⟨x, rfl, t2⟩ := one_arg t1
    obtain ⟨p, B, rfl, ⟨ws, hv⟩, hr, t3⟩ := hs a σ H1 R x t2
    exact ⟨p, ws, rfl, hv, q _ H1 B (fun σ' Γ'' hk => itok_enum (hr σ' Γ'' hk)) t3⟩) fun _ x => x)
/-- zip(xs, ys) -/
theorem itok_zip [Dat α] [Dat β] {K : PySem.W.Frag} {a b : Addr} {xs : List α} {ys : List β} {G : Asr} (h : ∀ F H o, Same F H → G.P F H o → ∃ vs, SqL K H a vs ∧ RpAll F vs (xs.map dat)) (h' : ∀ F H o, Same F H → G.P F H o → ∃ vs, SqL K H b vs ∧ RpAll F vs (ys.map dat)) :
    ItOk (Itz K a b) ((xs.zip ys).map dat) G where
  goes := fun i H R hi t => by
    obtain ⟨F, o, s, k, p⟩ := t
    obtain ⟨vs, hs, r⟩ := h F H o s (Ent.left F H o s p)
    obtain ⟨ws, hs', r'⟩ := h' F H o s (Ent.left F H o s p)
    have ln := r.len
    have ln' := r'.len
    rw [List.length_map] at hi ln ln'
    rw [List.length_zip] at hi
    exact ⟨vs, ws, vs[i]'(by omega), ws[i]'(by omega), hs, hs', by simp [show i < vs.length by omega], by simp [show i < ws.length by omega]⟩
  stops := fun H R t => by
    obtain ⟨F, o, s, k, p⟩ := t
    obtain ⟨vs, hs, r⟩ := h F H o s (Ent.left F H o s p)
    obtain ⟨ws, hs', r'⟩ := h' F H o s (Ent.left F H o s p)
    have ln := r.len
    have ln' := r'.len
    rw [List.length_map] at ln ln'
    exact ⟨vs, ws, hs, hs', by rw [List.length_map, List.length_zip]; omega⟩
  yields := fun i d H x H' R hd t y => by
    obtain ⟨T, u, w, rfl, hT, rfl, hy, hy'⟩ := y
    rw [List.getElem?_map] at hd
    cases e : (xs.zip ys)[i]? with
    | none =>
      rw [e] at hd
      cases hd
    | some z =>
      rw [e] at hd
      cases hd
      obtain ⟨z1, z2⟩ := z
      obtain ⟨e1, e2⟩ := List.getElem?_zip_eq_some.mp e
      refine (Top.allocT (vs := [u, w]) (ds := [dat z1, dat z2]) t hT fun F o s p => ?_)
      obtain ⟨vs, hs, r⟩ := h F H o s (Ent.left F H o s p)
      obtain ⟨ws, hs', r'⟩ := h' F H o s (Ent.left F H o s p)
      obtain ⟨v, ev, rv⟩ := r.get (i := i) (d := dat z1) (by rw [List.getElem?_map, e1]; rfl)
      obtain ⟨v', ev', rv'⟩ := r'.get (i := i) (d := dat z2) (by rw [List.getElem?_map, e2]; rfl)
      have q1 := hy vs hs
      have q2 := hy' ws hs'
      rw [ev] at q1
      rw [ev'] at q2
      cases q1
      cases q2
      exact .cons rv (.one rv')
theorem ei_zip [Dat α] [Dat β] {tr : TA} {m : Res γ} {Γ' : γ → List Cell} {c c' : γ → RC} {xs : γ → List α} {ys : γ → List β} {Kp Kp' : γ → List Cell → Prop} (h : EvA E tr Γ m Γ' fun a => [c a, c' a]) (hs : ∀ a, Src E (Γ' a) (c a) ((xs a).map dat) (Kp a)) (hs' : ∀ a, Src E (Γ' a) (c' a) ((ys a).map dat) (Kp' a)) :
    EvI E (iZip E.K tr) Γ m Γ' (fun a => ((xs a).zip (ys a)).map dat) fun a Γ'' => Kp a Γ'' ∧ Kp' a Γ'' := fun σ H R Qi t q =>
  h σ H R _ t (wp_mono q (fun a _ q vs H1 t1 => by
    obtain ⟨x, y, rfl, t2⟩ := two_args t1
    obtain ⟨p, B, rfl, ⟨ws, hv⟩, hr, t3⟩ := hs a σ H1 _ x t2
    obtain ⟨p', B', rfl, ⟨ws', hv'⟩, hr', t4⟩ := hs' a σ H1 _ y (t3.ent rotE)
    refine ⟨p, p', ws, ws', rfl, hv, hv', q _ H1 (sep B' B) (fun σ' Γ'' hk => itok_zip (fun F H' o s z => ?_) fun F H' o s z => ?_) (t4.ent (Ent.sepR Ent.assoc'))⟩
    · exact hr σ' Γ'' hk.1 F H' o s (Ent.sepR Ent.right F H' o s z)
    · exact hr' σ' Γ'' hk.2 F H' o s (Ent.sepR Ent.left F H' o s z)) fun _ x => x)
/-- range(n), range(a, b) -/
def rangeL (a b : Int) : List Int := (List.range (b - a).toNat).map fun k : Nat => a + (k : Int)
theorem rangeL_get (a b : Int) {k : Nat} (h : k < (b - a).toNat) : (rangeL a b)[k]? = some (a + (k : Int)) := by
  unfold rangeL
  simp [h]
theorem rangeL_len (a b : Int) : (rangeL a b).length = (b - a).toNat := by unfold rangeL; simp
theorem itok_range {a b : Int} {G : Asr} : ItOk (Itr a (b - a).toNat) ((rangeL a b).map dat) G where
  goes := fun i H R hi t => by
    rw [List.length_map, rangeL_len] at hi
    exact hi
  stops := fun H R t => by
    rw [List.length_map, rangeL_len]
    exact Nat.le_refl _
  yields := fun i d H x H' R hd t y => by
    obtain ⟨rfl, rfl⟩ := y
    rw [List.getElem?_map] at hd
    cases e : (rangeL a b)[i]? with
    | none =>
      rw [e] at hd
      cases hd
    | some z =>
      have hi := (List.getElem?_eq_some_iff.mp e).1
      rw [rangeL_len] at hi
      rw [rangeL_get a b hi] at e
      rw [rangeL_get a b hi] at hd
      cases hd
      exact t.addV fun F _ _ _ => .int _
def rangeR (a b : Int) : Res (List Int) := need (-(2 ^ 62) ≤ a ∧ a < 2 ^ 62 ∧ -(2 ^ 62) ≤ b ∧ b < 2 ^ 62) (.ok (rangeL a b))
theorem ei_range1 {tr : TA} {n : Int} (h : EvAP E tr Γ [rV (.int n)]) : EvI E (iRng1 tr) Γ (rangeR 0 n) (fun _ => Γ) (fun xs => xs.map dat) fun _ _ => True := fun σ H R Qi t q =>
  h σ H R _ t fun vs H1 t1 => by
    obtain ⟨⟨_, _, h1, h2⟩, q⟩ := wp_need q
    obtain ⟨x, rfl, t2⟩ := one_arg t1
    have e := int1 t2
    subst e
    refine ⟨n, rfl, h1, h2, ?_⟩
    have e : Itr 0 n.toNat = Itr 0 (n - 0).toNat := by rw [Int.sub_zero]
    rw [e]
    exact q _ H1 emp (fun _ _ _ => itok_range) (t2.ent (Ent.sepR (Ent.sepL Ent.emp)))
theorem ei_range2 {tr : TA} {a b : Int} (h : EvAP E tr Γ [rV (.int a), rV (.int b)]) : EvI E (iRng2 tr) Γ (rangeR a b) (fun _ => Γ) (fun xs => xs.map dat) fun _ _ => True := fun σ H R Qi t q =>
  h σ H R _ t fun vs H1 t1 => by
    obtain ⟨⟨h1, h2, h3, h4⟩, q⟩ := wp_need q
    obtain ⟨x, y, rfl, t2⟩ := two_args t1
    have e := int1 t2
    subst e
    have e := int2 t2
    subst e
    exact ⟨a, b, rfl, ⟨h1, h2, h3, h4⟩, q _ H1 emp (fun _ _ _ => itok_range) (t2.ent (Ent.sepR (Ent.sep Ent.emp Ent.right)))⟩
theorem ei_range1M {tr : TA} {m : Res α} {Γ1 : α → List Cell} {n : α → Int} (h : EvA E tr Γ m Γ1 fun a => [rV (.int (n a))]) : EvI E (iRng1 tr) Γ (m.bind fun a => (rangeR 0 (n a)).bind fun xs => .ok (a, xs)) (fun p => Γ1 p.1) (fun p => p.2.map dat) fun _ _ => True := fun σ H R Qi t q =>
  h σ H R _ t (wp_mono (wp_bind.mp q) (fun a _ q vs H1 t1 => by
    obtain ⟨⟨_, _, h1, h2⟩, q⟩ := wp_need (wp_bind.mp q)
    obtain ⟨x, rfl, t2⟩ := one_arg t1
    have e := int1 t2
    subst e
    refine ⟨n a, rfl, h1, h2, ?_⟩
    have e : Itr 0 (n a).toNat = Itr 0 (n a - 0).toNat := by rw [Int.sub_zero]
    rw [e]
    exact q _ H1 emp (fun _ _ _ => itok_range) (t2.ent (Ent.sepR (Ent.sepL Ent.emp)))) fun _ x => x)
theorem ei_range2M {tr : TA} {m : Res α} {Γ1 : α → List Cell} {a b : α → Int} (h : EvA E tr Γ m Γ1 fun r => [rV (.int (a r)), rV (.int (b r))]) : EvI E (iRng2 tr) Γ (m.bind fun r => (rangeR (a r) (b r)).bind fun xs => .ok (r, xs)) (fun p => Γ1 p.1) (fun p => p.2.map dat) fun _ _ => True := fun σ H R Qi t q =>
  h σ H R _ t (wp_mono (wp_bind.mp q) (fun r _ q vs H1 t1 => by
    obtain ⟨⟨h1, h2, h3, h4⟩, q⟩ := wp_need (wp_bind.mp q)
    obtain ⟨x, y, rfl, t2⟩ := two_args t1
    have e := int1 t2
    subst e
    have e := int2 t2
    subst e
    exact ⟨a r, b r, rfl, ⟨h1, h2, h3, h4⟩, q _ H1 emp (fun _ _ _ => itok_range) (t2.ent (Ent.sepR (Ent.sep Ent.emp Ent.right)))⟩) fun _ x => x)

/-! ### targets -/
/-- the same but at some places -/
def Sm (ix : List Nat) (σ σ' : St) : Prop := σ'.length = σ.length ∧ ∀ i, i ∉ ix → σ'[i]? = σ[i]?
def EvG (E : Ec) (g : TG) (d : PyData) (Γ Γ' : List Cell) (ix : List Nat) : Prop := ∀ (σ : St) (H : Hp) (R : Asr) (Q : St → Hp → Prop) (v : V), Top (sep (base E σ Γ) (sep (vA d v) R)) H → (∀ σ' H', Sm ix σ σ' → Top (sep (base E σ' Γ') R) H' → Q σ' H') → g v σ H Q
def EvGs (E : Ec) (g : TGs) (ds : List PyData) (Γ Γ' : List Cell) (ix : List Nat) : Prop := ∀ (σ : St) (H : Hp) (R : Asr) (Q : St → Hp → Prop) (vs : List V), Top (sep (base E σ Γ) (sep (vAs ds vs) R)) H → (∀ σ' H', Sm ix σ σ' → Top (sep (base E σ' Γ') R) H' → Q σ' H') → g vs σ H Q
theorem eg_name (hi : i < Γ.length) : EvG E (gName i) d Γ (Γ.set i (cV d)) [i] := fun σ H R Q v t q => q _ H ⟨List.length_set, fun j hj => List.getElem?_set_ne fun e => hj (by simp [e])⟩ (put_slot (c := rV d) sto_v hi t)
theorem egs_nil : EvGs E gNil [] Γ Γ [] := fun σ H R Q vs t q => by
  have r : RpAll (fun _ => none) ([] : List V) [] := .nil
  have e : vs = [] := by
    obtain ⟨F, o, s, k, p⟩ := t
    have z := as_of F o s p
    cases z
    rfl
  exact ⟨e, q σ H ⟨rfl, fun _ _ => rfl⟩ (t.ent (Ent.sepR Ent.right))⟩
theorem egs_cons {g : TG} {gs : TGs} {ds : List PyData} {Γ1 Γ2 : List Cell} {ix iy : List Nat} (h : EvG E g d Γ Γ1 ix) (hr : EvGs E gs ds Γ1 Γ2 iy) : EvGs E (gCons g gs) (d :: ds) Γ Γ2 (ix ++ iy) := fun σ H R Q vs t q => by
  have t0 := t
  obtain ⟨F, o, s, k, p⟩ := t
  have z := as_of F o s p
  cases z with
  | cons hv hvs =>
    rename_i v vs
    refine ⟨v, vs, rfl, ?_⟩
    have t1 : Top (sep (base E σ Γ) (sep (vA d v) (sep (vAs ds vs) R))) H := t0.ent (Ent.sepR fun F H o s ⟨o1, o2, h1, h2, d', a, b⟩ => by
      cases a with
      | cons x y => exact sep_pers (fun _ => x) (sep_pers (fun _ => y) (R.up h2 b)))
    exact h σ H _ _ v t1 fun σ' H' e1 t2 => hr σ' H' R Q vs t2 fun σ2 H2 e2 t3 => q σ2 H2 ⟨e2.1.trans e1.1, fun j hj => (e2.2 j fun z => hj (List.mem_append_right _ z)).trans (e1.2 j fun z => hj (List.mem_append_left _ z))⟩ t3
theorem eg_tup {gs : TGs} {ds : List PyData} {n : Nat} {Γ' : List Cell} {ix : List Nat} (h : EvGs E gs ds Γ Γ' ix) (hn : ds.length = n) : EvG E (gTup E.K n gs) (.tuple ds) Γ Γ' ix := fun σ H R Q v t q => by
  obtain ⟨F, o, s, k, p⟩ := t
  have z : Rp F v (.tuple ds) := by
    obtain ⟨_, _, _, _, _, _, ⟨_, _, _, _, _, z, _⟩⟩ := p
    exact z
  cases z with
  | tup e r => exact ⟨_, _, rfl, SqT.of (s _ _ e), r.len.trans hn, h σ H R Q _ ((addAs s k p r).ent (Ent.sepR (Ent.sepR Ent.right))) q⟩
/-- a, b = e (data) -/
theorem es_asgG {m : Res γ} {Γ1 : γ → List Cell} {c : γ → RC} {g : TG} {ds : γ → PyData} {Γ' : γ → List Cell} (h : EvJ E te Γ m Γ1 c) (f : ∀ a, Fz (c a) (ds a)) {ix : List Nat} (hg : ∀ a, EvG E g (ds a) (Γ1 a) (Γ' a) ix) : EvS1 E (tAsg te g) Γ m Γ' := fun σ H R D t q =>
  h σ H R _ t (wp_mono q (fun a _ q v H1 t1 => hg a σ H1 R _ v ((f a σ v _ H1 (t1.ent frontE)).ent frontE) fun σ' H' _ t' => q σ' H' t') fun _ x => x σ)

/-! ### for -/
inductive Lp (σ ρ : Type) where
  | next (s : σ) | brk (s : σ) | ret (r : ρ)
/-- a for whose body only goes on -/
def foldR {α σ : Type} : List α → σ → (σ → α → Res σ) → Res σ
  | [], s, _ => .ok s
  | a :: l, s, f => (f s a).bind fun s' => foldR l s' f
def forR {α σ ρ : Type} : List α → σ → (σ → α → Res (Lp σ ρ)) → Res (Jn σ ρ)
  | [], s, _ => .ok (.go s)
  | a :: l, s, f => (f s a).bind fun c => match c with
    | .next s' => forR l s' f
    | .brk s' => .ok (.go s')
    | .ret r => .ok (.out r)
def Lp.post {σ ρ : Type} (Γs : σ → List Cell) (post : ρ → Fin) : Lp σ ρ → Fin
  | .next s => .lp (Γs s)
  | .brk s => .bk (Γs s)
  | .ret r => (post r).out
end
section
variable {E : Ec} {Γ : List Cell} {R : Asr} {H : Hp} {α β γ ρ τ ι : Type} {te ti : TE} {wi : TI} {g : TG} {tb : TS} {post : ρ → Fin}
open Res
theorem out_out : ∀ f : Fin, f.out.out = f.out.out := fun _ => rfl
theorem Fin.out_loop {E : Ec} {R : Asr} {D : Ends} {nx bk ct : St → Hp → Prop} : ∀ {f : Fin}, (∀ Γ, f ≠ .bk Γ) → (∀ Γ, f ≠ .ct Γ) → (∀ Γ, f ≠ .lp Γ) → f.out.ok E R D → f.out.ok E R { D with nx := nx, bk := bk, ct := ct }
  | .nx _, _, _, _, _ => trivial
  | .lp Γ, _, _, h, _ => (h Γ rfl).elim
  | .bk Γ, h, _, _, _ => (h Γ rfl).elim
  | .ct Γ, _, h, _, _ => (h Γ rfl).elim
  | .rt _ _, _, _, _, h => h
  | .no, _, _, _, _ => trivial
theorem es_for [Dat α] {mi : Res ι} {Γ0 : ι → List Cell} {xs : ι → List α} {Kp : ι → List Cell → Prop} {Γs : τ → List Cell} {Γt : τ → α → List Cell} {s0 : ι → τ} {f : τ → α → Res (Lp τ ρ)}
    (hi : EvI E wi Γ mi Γ0 (fun a => (xs a).map dat) Kp) (hk : ∀ a s, Kp a (Γs s)) (h0 : ∀ a, Le (Γ0 a) (Γs (s0 a))) {ix : List Nat} (hg : ∀ s x, EvG E g (dat x) (Γs s) (Γt s x) ix) (hb : ∀ s x, EvS E tb (Γt s x) (f s x) (Lp.post Γs post))
    (hp : ∀ r, (∀ Γ, post r ≠ .bk Γ) ∧ (∀ Γ, post r ≠ .ct Γ) ∧ ∀ Γ, post r ≠ .lp Γ) :
    EvS E (tFor wi g tb) Γ (mi.bind fun a => forR (xs a) (s0 a) f) (Jn.post Γs post) := fun σ H R D t q =>
  hi σ H R _ t (wp_mono (wp_bind.mp q) (fun a _ q J H1 B hJ t1 => by
    refine ⟨fun i mm σ' H' => mm = (xs a).length - i ∧ i ≤ (xs a).length ∧ ∃ s, Top (sep (base E σ' (Γs s)) (sep B R)) H' ∧ (forR ((xs a).drop i) s f).wp (fun b => (Jn.post Γs post b).ok E R D) (ExnS E R),
      ⟨_, rfl, Nat.zero_le _, s0 a, t1.ent (Ent.sepL (Ent.sepL (h0 a).ent)), q⟩, ?_⟩
    rintro i mm σ' H' ⟨rfl, hle, s, t2, q2⟩
    have ok := hJ σ' (Γs s) (hk a s)
    have t2' : Top (sep (sep (base E σ' (Γs s)) B) R) H' := t2.ent Ent.assoc'
    by_cases hlt : i < (xs a).length
    · refine .inr ⟨ok.goes i H' R (by rw [List.length_map]; exact hlt) t2', ?_⟩
      have ed : (xs a).drop i = (xs a)[i] :: (xs a).drop (i + 1) := List.drop_eq_getElem_cons hlt
      rw [ed] at q2
      refine ⟨fun σ2 H2 => ∃ s', Top (sep (base E σ2 (Γs s')) (sep B R)) H2 ∧ (forR ((xs a).drop (i + 1)) s' f).wp (fun b => (Jn.post Γs post b).ok E R D) (ExnS E R), fun σ2 H2 ⟨s', t3, q3⟩ => ⟨_, by omega, rfl, hlt, s', t3, q3⟩, fun x H2 hy => ?_⟩
      have t3 := ok.yields i (dat (xs a)[i]) H' x H2 R (by simp [hlt]) t2' hy
      have t4 : Top (sep (base E σ' (Γs s)) (sep (vA (dat (xs a)[i]) x) (sep B R))) H2 := (t3.ent (Ent.sepR Ent.assoc)).ent frontE
      refine hg s (xs a)[i] σ' H2 _ _ x t4 fun σ3 H3 _ t5 => ?_
      refine hb s (xs a)[i] σ3 H3 (sep B R) _ t5 (wp_mono (wp_bind.mp q2) (fun c _ q3 => ?_) fun _ x σ => (x σ).drop)
      cases c with
      | next s' => exact fun σ4 H4 t6 => ⟨⟨s', t6, q3⟩, ⟨s', t6, q3⟩⟩
      | brk s' => exact fun σ4 H4 t6 => q3 σ4 H4 (t6.ent (Ent.sepR Ent.right))
      | ret r =>
        have q4 : (post r).out.ok E R D := q3
        obtain ⟨p1, p2, p3⟩ := hp r
        have q5 := Fin.out_loop (nx := fun σ2 H2 => ∃ s', Top (sep (base E σ2 (Γs s')) (sep B R)) H2 ∧ (forR ((xs a).drop (i + 1)) s' f).wp (fun b => (Jn.post Γs post b).ok E R D) (ExnS E R)) (bk := D.nx)
          (ct := fun σ2 H2 => ∃ s', Top (sep (base E σ2 (Γs s')) (sep B R)) H2 ∧ (forR ((xs a).drop (i + 1)) s' f).wp (fun b => (Jn.post Γs post b).ok E R D) (ExnS E R)) p1 p2 p3 q4
        show (post r).out.ok E (sep B R) _
        cases e : post r with
        | nx Γ => trivial
        | lp Γ => exact (p3 Γ e).elim
        | bk Γ => exact (p1 Γ e).elim
        | ct Γ => exact (p2 Γ e).elim
        | no => trivial
        | rt Γ c =>
          rw [e] at q5
          exact fun σ4 v H4 t6 => q5 σ4 v H4 (t6.ent (Ent.sepR (Ent.sepR Ent.right)))
    · have e : i = (xs a).length := by omega
      subst e
      rw [List.drop_length] at q2
      refine .inl ⟨?_, q2 σ' H' (t2.ent (Ent.sepR Ent.right))⟩
      have z := ok.stops H' R t2'
      rw [List.length_map] at z
      exact z) fun _ x => x σ)
theorem es_for0 [Dat α] {mi : Res ι} {Γ0 : ι → List Cell} {xs : ι → List α} {Kp : ι → List Cell → Prop} {Γs : τ → List Cell} {Γt : τ → α → List Cell} {s0 : ι → τ} {f : τ → α → Res τ}
    (hi : EvI E wi Γ mi Γ0 (fun a => (xs a).map dat) Kp) (hk : ∀ a s, Kp a (Γs s)) (h0 : ∀ a, Le (Γ0 a) (Γs (s0 a))) {ix : List Nat} (hg : ∀ s x, EvG E g (dat x) (Γs s) (Γt s x) ix) (hb : ∀ s x, EvS E tb (Γt s x) (f s x) fun s' => .lp (Γs s')) :
    EvS1 E (tFor wi g tb) Γ (mi.bind fun a => foldR (xs a) (s0 a) f) Γs := fun σ H R D t q =>
  hi σ H R _ t (wp_mono (wp_bind.mp q) (fun a _ q J H1 B hJ t1 => by
    refine ⟨fun i mm σ' H' => mm = (xs a).length - i ∧ i ≤ (xs a).length ∧ ∃ s, Top (sep (base E σ' (Γs s)) (sep B R)) H' ∧ (foldR ((xs a).drop i) s f).wp (fun b => (Fin.nx (Γs b)).ok E R D) (ExnS E R),
      ⟨_, rfl, Nat.zero_le _, s0 a, t1.ent (Ent.sepL (Ent.sepL (h0 a).ent)), q⟩, ?_⟩
    rintro i mm σ' H' ⟨rfl, hle, s, t2, q2⟩
    have ok := hJ σ' (Γs s) (hk a s)
    have t2' : Top (sep (sep (base E σ' (Γs s)) B) R) H' := t2.ent Ent.assoc'
    by_cases hlt : i < (xs a).length
    · refine .inr ⟨ok.goes i H' R (by rw [List.length_map]; exact hlt) t2', ?_⟩
      have ed : (xs a).drop i = (xs a)[i] :: (xs a).drop (i + 1) := List.drop_eq_getElem_cons hlt
      rw [ed] at q2
      refine ⟨fun σ2 H2 => ∃ s', Top (sep (base E σ2 (Γs s')) (sep B R)) H2 ∧ (foldR ((xs a).drop (i + 1)) s' f).wp (fun b => (Fin.nx (Γs b)).ok E R D) (ExnS E R), fun σ2 H2 ⟨s', t3, q3⟩ => ⟨_, by omega, rfl, hlt, s', t3, q3⟩, fun x H2 hy => ?_⟩
      have t3 := ok.yields i (dat (xs a)[i]) H' x H2 R (by simp [hlt]) t2' hy
      have t4 : Top (sep (base E σ' (Γs s)) (sep (vA (dat (xs a)[i]) x) (sep B R))) H2 := (t3.ent (Ent.sepR Ent.assoc)).ent frontE
      refine hg s (xs a)[i] σ' H2 _ _ x t4 fun σ3 H3 _ t5 => ?_
      exact hb s (xs a)[i] σ3 H3 (sep B R) _ t5 (wp_mono (wp_bind.mp q2) (fun s' _ q3 σ4 H4 t6 => ⟨⟨s', t6, q3⟩, ⟨s', t6, q3⟩⟩) fun _ x σ => (x σ).drop)
    · have e : i = (xs a).length := by omega
      subst e
      rw [List.drop_length] at q2
      refine .inl ⟨?_, q2 σ' H' (t2.ent (Ent.sepR Ent.right))⟩
      have z := ok.stops H' R t2'
      rw [List.length_map] at z
      exact z) fun _ x => x σ)

/-! ### while -/
def whileR {σ ρ : Type} : Nat → σ → (σ → Res Bool) → (σ → Res (Lp σ ρ)) → Res (Jn σ ρ)
  | 0, _, _, _ => .bad
  | n + 1, s, t, f => (t s).bind fun b => if b then (f s).bind fun c => match c with
      | .next s' => whileR n s' t f
      | .brk s' => .ok (.go s')
      | .ret r => .ok (.out r)
    else .ok (.go s)
theorem es_while {tt : TT} {Γs : τ → List Cell} {s0 : τ} {n : Nat} {mt : τ → Res Bool} {f : τ → Res (Lp τ ρ)} (h0 : Le Γ (Γs s0)) (ht : ∀ s, EvT E tt (Γs s) (mt s) (fun _ => Γs s) id) (hb : ∀ s, EvS E tb (Γs s) (f s) (Lp.post Γs post))
    (hp : ∀ r, (∀ Γ, post r ≠ .bk Γ) ∧ (∀ Γ, post r ≠ .ct Γ) ∧ ∀ Γ, post r ≠ .lp Γ) : EvS E (tWhile tt tb) Γ (whileR n s0 mt f) (Jn.post Γs post) := fun σ H R D t q => by
  refine ⟨fun mm σ' H' => ∃ s, Top (sep (base E σ' (Γs s)) R) H' ∧ (whileR mm s mt f).wp (fun b => (Jn.post Γs post b).ok E R D) (ExnS E R), ⟨n, s0, t.ent (Ent.sepL (Ent.sepL h0.ent)), q⟩, ?_⟩
  rintro mm σ' H' ⟨s, t2, q2⟩
  cases mm with
  | zero => exact (show False from q2).elim
  | succ n =>
    refine ht s σ' H' R _ t2 (wp_mono (wp_bind.mp q2) (fun b _ q3 H3 t3 => ?_) fun _ x => x σ')
    cases b with
    | false => exact q3 σ' H3 t3
    | true =>
      refine ⟨fun σ2 H2 => ∃ s', Top (sep (base E σ2 (Γs s')) R) H2 ∧ (whileR n s' mt f).wp (fun b => (Jn.post Γs post b).ok E R D) (ExnS E R), fun σ2 H2 ⟨s', t4, q4⟩ => ⟨n, Nat.lt_succ_self _, s', t4, q4⟩, ?_⟩
      refine hb s σ' H3 R _ t3 (wp_mono (wp_bind.mp (show (Res.bind (f s) _).wp _ _ from q3)) (fun c _ q4 => ?_) fun _ x => x)
      cases c with
      | next s' => exact fun σ4 H4 t6 => ⟨⟨s', t6, q4⟩, ⟨s', t6, q4⟩⟩
      | brk s' => exact fun σ4 H4 t6 => q4 σ4 H4 t6
      | ret r =>
        have q5 : (post r).out.ok E R D := q4
        obtain ⟨p1, p2, p3⟩ := hp r
        exact Fin.out_loop p1 p2 p3 q5
end
end Lc
/-! Lc: comprehensions; a def's promise from its body -/
namespace Lc
open PySem L2
def Ec.calm (E : Ec) : Ec := { E with W := fun _ _ _ _ => False }
theorem calm_calm {E : Ec} : Calm E.calm := fun _ _ _ _ h => h
section
variable {E : Ec} {Γ : List Cell} {R A : Asr} {H : Hp} {α β γ ρ τ ι : Type} {te : TE} {tt : TT} {wi : TI} {g : TG}
open Res
theorem EvJ.pre {m : Res γ} {Γ' : γ → List Cell} {c : γ → RC} {Δ : List Cell} (l : Le Γ Δ) (h : EvJ E te Δ m Γ' c) : EvJ E te Γ m Γ' c := fun σ H R Q t q => h σ H R Q (t.ent (Ent.sepL (Ent.sepL l.ent))) q
theorem EvS.pre {tb : TS} {m : Res γ} {post : γ → Fin} {Δ : List Cell} (l : Le Γ Δ) (h : EvS E tb Δ m post) : EvS E tb Γ m post := fun σ H R D t q => h σ H R D (t.ent (Ent.sepL (Ent.sepL l.ent))) q
theorem set_any {i : Nat} (h : Γ[i]? = some cAny) : Γ.set i cAny = Γ := by
  obtain ⟨hl, e⟩ := List.getElem?_eq_some_iff.mp h
  rw [← e, List.set_getElem_self]
theorem wipe_in : ∀ {vs : List Nat} {σ : St}, (∀ i ∈ vs, Γ[i]? = some cAny) → Ent (sl σ Γ) (sl (wipe σ vs) Γ)
  | [], σ, _ => Ent.refl _
  | v :: vs, σ, h => by
    have hv := h v List.mem_cons_self
    have ih := wipe_in (vs := vs) (σ := σ) fun i hi => h i (List.mem_cons_of_mem _ hi)
    refine ih.trans fun F H o s a => ?_
    show (sl ((wipe σ vs).set v none) Γ).P F H o
    rw [← set_any hv]
    exact sl_set (List.getElem?_eq_some_iff.mp hv).1 (sep_pers (fun _ => trivial) a)
theorem sm_out {ix : List Nat} : ∀ {vs : List Nat} {σ σ' : St}, (∀ i ∈ vs, Γ[i]? = some cAny) → σ'.length = σ.length → (∀ i, i ∉ vs → σ'[i]? = σ[i]?) → Ent (sl σ' Γ) (sl σ Γ)
  | [], σ, σ', _, hl, h => by
    have e : σ' = σ := List.ext_getElem? fun i => h i (by simp)
    rw [e]
    exact Ent.refl _
  | v :: vs, σ, σ', hc, hl, h => by
    have hv := hc v List.mem_cons_self
    have hlt := (List.getElem?_eq_some_iff.mp hv).1
    by_cases hs : v < σ.length
    · have step : Ent (sl σ' Γ) (sl (σ'.set v σ[v]) Γ) := fun F H o s a => by
        rw [← set_any hv]
        exact sl_set hlt (sep_pers (fun _ => trivial) a)
      refine step.trans (sm_out (ix := ix) (vs := vs) (σ := σ) (σ' := σ'.set v σ[v]) (fun i hi => hc i (List.mem_cons_of_mem _ hi)) (by rw [List.length_set, hl]) fun i hi => ?_)
      by_cases e : i = v
      · subst e
        rw [List.getElem?_set_self (by omega), List.getElem?_eq_getElem hs]
      · rw [List.getElem?_set_ne (Ne.symm e)]
        exact h i fun z => (List.mem_cons.mp z).elim e hi
    · exact fun F H o s a => by
        have e := sl_len (σ := σ') (Γ := Γ) ⟨F, H, o, a⟩
        omega
theorem wipe_get : ∀ {vs : List Nat} {σ : St} {i : Nat}, i ∉ vs → (wipe σ vs)[i]? = σ[i]?
  | [], _, _, _ => rfl
  | v :: vs, σ, i, h => by
    show ((wipe σ vs).set v none)[i]? = σ[i]?
    rw [List.getElem?_set_ne fun e => h (by simp [e])]
    exact wipe_get fun z => h (List.mem_cons_of_mem _ z)
theorem wipe_at : ∀ {vs : List Nat} {σ : St} {i : Nat}, i ∈ vs → i < σ.length → (wipe σ vs)[i]? = some none
  | v :: vs, σ, i, h, hl => by
    show ((wipe σ vs).set v none)[i]? = some none
    by_cases e : i = v
    · subst e
      rw [List.getElem?_set_self (by rw [wipe_length]; exact hl)]
    · rw [List.getElem?_set_ne (Ne.symm e)]
      exact wipe_at ((List.mem_cons.mp h).resolve_left e) hl
theorem wipe_sm {ix vs : List Nat} {σ σ' : St} (h : Sm ix (wipe σ vs) σ') (hx : ∀ i ∈ ix, i ∈ vs) : wipe σ' vs = wipe σ vs := by
  have hl : σ'.length = σ.length := h.1.trans (wipe_length σ vs)
  refine List.ext_getElem? fun i => ?_
  by_cases hi : i ∈ vs
  · by_cases hlt : i < σ.length
    · rw [wipe_at hi hlt, wipe_at hi (by omega)]
    · rw [List.getElem?_eq_none (by rw [wipe_length]; omega), List.getElem?_eq_none (by rw [wipe_length]; omega)]
  · rw [wipe_get hi, h.2 i fun z => hi (hx i z)]
/-- a turn of a comprehension: the test, the element -/
def ElJ (E : Ec) (tt : TT) (te : TE) (Γ : List Cell) {β τ : Type} [Dat β] (m : Res (Option β × τ)) (Γs : τ → List Cell) : Prop :=
  ∀ (σ : St) (H : Hp) (R : Asr) (Qn : Hp → Prop) (Qy : VK), Top (sep (base E σ Γ) R) H →
    m.wp (fun r => match r.1 with
      | none => ∀ H', Top (sep (base E σ (Γs r.2)) R) H' → Qn H'
      | some b => ∀ v H', Top (sep (base E σ (Γs r.2)) (sep (vA (dat b) v) R)) H' → Qy v H') (Exn E R σ) → tt σ H fun b H3 => if b = true then te σ H3 Qy else Qn H3
theorem elj_yes [Dat β] {m : Res γ} {Γ' : γ → List Cell} {c : γ → RC} {b : γ → β} {s : γ → τ} {Γs : τ → List Cell} (h : EvJ E te Γ m Γ' c) (f : ∀ a, Fz (c a) (dat (b a))) (l : ∀ a, Le (Γ' a) (Γs (s a))) :
    ElJ E tYes te Γ (m.bind fun a => .ok (some (b a), s a)) Γs := fun σ H R Qn Qy t q =>
  h σ H R _ t (wp_mono (wp_bind.mp q) (fun a _ q v H' t' => q v H' (((f a σ v _ H' (t'.ent frontE)).ent frontE).ent (Ent.sepL (Ent.sepL (l a).ent)))) fun _ x => x)
theorem elj_if [Dat β] {p : Bool} {m : Res γ} {Γ' : γ → List Cell} {c : γ → RC} {b : γ → β} {s : γ → τ} {s0 : τ} {Γs : τ → List Cell} (ht : EvTP E tt Γ p) (h : EvJ E te Γ m Γ' c) (f : ∀ a, Fz (c a) (dat (b a))) (l : ∀ a, Le (Γ' a) (Γs (s a))) (l0 : Le Γ (Γs s0)) :
    ElJ E tt te Γ (if p then m.bind fun a => .ok (some (b a), s a) else .ok (none, s0)) Γs := fun σ H R Qn Qy t q =>
  ht σ H R _ t fun H1 t1 => by
    cases p with
    | true => exact h σ H1 R _ t1 (wp_mono (wp_bind.mp (show (Res.bind m _).wp _ _ from q)) (fun a _ q v H' t' => q v H' (((f a σ v _ H' (t'.ent frontE)).ent frontE).ent (Ent.sepL (Ent.sepL (l a).ent)))) fun _ x => x)
    | false => exact (show ∀ H', Top (sep (base E σ (Γs s0)) R) H' → Qn H' from q) H1 (t1.ent (Ent.sepL (Ent.sepL l0.ent)))
theorem elj_ifM [Dat β] {mt : Res Bool} {m : Res γ} {Γ' : γ → List Cell} {c : γ → RC} {b : γ → β} {s : γ → τ} {s0 : τ} {Γs : τ → List Cell} (ht : EvT E tt Γ mt (fun _ => Γ) id) (h : EvJ E te Γ m Γ' c) (f : ∀ a, Fz (c a) (dat (b a))) (l : ∀ a, Le (Γ' a) (Γs (s a))) (l0 : Le Γ (Γs s0)) :
    ElJ E tt te Γ (mt.bind fun p => if p then m.bind fun a => .ok (some (b a), s a) else .ok (none, s0)) Γs := fun σ H R Qn Qy t q =>
  ht σ H R _ t (wp_mono (wp_bind.mp q) (fun p _ q H1 t1 => by
    cases p with
    | true => exact h σ H1 R _ t1 (wp_mono (wp_bind.mp (show (Res.bind m _).wp _ _ from q)) (fun a _ q v H' t' => q v H' (((f a σ v _ H' (t'.ent frontE)).ent frontE).ent (Ent.sepL (Ent.sepL (l a).ent)))) fun _ x => x)
    | false => exact (show ∀ H', Top (sep (base E σ (Γs s0)) R) H' → Qn H' from q) H1 (t1.ent (Ent.sepL (Ent.sepL l0.ent)))) fun _ x => x)
def noErr {α : Type} : Res α → Res α
  | .ok a => .ok a
  | _ => .bad
@[simp] theorem noErr_ok (a : α) : noErr (.ok a) = .ok a := rfl
theorem wp_noErr {m : Res α} {Q : α → Prop} {X Y : Nat → Prop} (h : (noErr m).wp Q X) : m.wp Q Y := by
  cases m with
  | ok a => exact h
  | err k => exact (show False from h).elim
  | bad => exact (show False from h).elim
def compR {α β τ : Type} : List α → τ → List β → (τ → α → Res (Option β × τ)) → Res (List β × τ)
  | [], s, acc, _ => .ok (acc, s)
  | a :: l, s, acc, f => (noErr (f s a)).bind fun r => match r.1 with
    | some b => need (acc.length < lim) (compR l r.2 (acc ++ [b]) f)
    | none => compR l r.2 acc f
theorem el_comp [Dat α] [Dat β] {mi : Res ι} {Γ0 : ι → List Cell} {xs : ι → List α} {Kp : ι → List Cell → Prop} {Γs : τ → List Cell} {Γt : τ → α → List Cell} {s0 : ι → τ} {f : τ → α → Res (Option β × τ)} {vs ix : List Nat}
    (hi : EvI E wi Γ mi Γ0 (fun a => (xs a).map dat) Kp) (hk : ∀ a s, Kp a (Γs s)) (h0 : ∀ a, Le (Γ0 a) (Γs (s0 a))) (hv : ∀ s, ∀ i ∈ vs, (Γs s)[i]? = some cAny) (hg : ∀ s x, EvG E.calm g (dat x) (Γs s) (Γt s x) ix) (hx : ∀ i ∈ ix, i ∈ vs)
    (hb : ∀ s x, ElJ E.calm tt te (Γt s x) (f s x) Γs) : EvJ E (tLc wi g tt te vs) Γ (mi.bind fun a => compR (xs a) (s0 a) [] f) (fun r => Γs r.2) fun r => rO (r.1.map dat) := fun σ H R Q t q =>
  hi σ H R _ t (wp_mono (wp_bind.mp q) (fun a _ q J H1 B hJ t1 => by
    intro D hD
    have t1' : Top (sep (base E σ (Γs (s0 a))) (sep B R)) H1 := t1.ent (Ent.sepL (Ent.sepL (h0 a).ent))
    have tD : Top (sep (oA D []) (sep (base E σ (Γs (s0 a))) (sep B R))) (upd H1 D (.lst [])) := t1'.alloc hD fun _ _ _ _ => .nil
    refine ⟨fun i mm H' => mm = (xs a).length - i ∧ i ≤ (xs a).length ∧ ∃ s acc, Top (sep (base E σ (Γs s)) (sep (oA D (acc.map dat)) (sep B R))) H' ∧ (compR ((xs a).drop i) s acc f).wp (fun r => ∀ v H', Top (sep (base E σ (Γs r.2)) (sep (rO (r.1.map dat) σ v) R)) H' → Q v H') (Exn E R σ),
      ⟨_, rfl, Nat.zero_le _, s0 a, [], tD.ent frontE, q⟩, ?_⟩
    rintro i mm H' ⟨rfl, hle, s, acc, t2, q2⟩
    have ok := hJ σ (Γs s) (hk a s)
    have t2' : Top (sep (sep (base E σ (Γs s)) B) (sep (oA D (acc.map dat)) R)) H' := t2.ent (rotE.trans Ent.assoc')
    by_cases hlt : i < (xs a).length
    · refine .inr ⟨ok.goes i H' _ (by rw [List.length_map]; exact hlt) t2', ?_⟩
      have ed : (xs a).drop i = (xs a)[i] :: (xs a).drop (i + 1) := List.drop_eq_getElem_cons hlt
      rw [ed] at q2
      refine ⟨fun H2 => ∃ s' acc', Top (sep (base E σ (Γs s')) (sep (oA D (acc'.map dat)) (sep B R))) H2 ∧ (compR ((xs a).drop (i + 1)) s' acc' f).wp (fun r => ∀ v H', Top (sep (base E σ (Γs r.2)) (sep (rO (r.1.map dat) σ v) R)) H' → Q v H') (Exn E R σ),
        fun H2 ⟨s', acc', t3, q3⟩ => ⟨_, by omega, rfl, hlt, s', acc', t3, q3⟩, fun x H2 hy => ?_⟩
      have t3 := ok.yields i (dat (xs a)[i]) H' x H2 _ (by simp [hlt]) t2' hy
      have t4 : Top (sep (base E σ (Γs s)) (sep (vA (dat (xs a)[i]) x) (sep B (sep (oA D (acc.map dat)) R)))) H2 := (t3.ent (Ent.sepR Ent.assoc)).ent frontE
      have t5 : Top (sep (base E.calm (wipe σ vs) (Γs s)) (sep (vA (dat (xs a)[i]) x) (sep B (sep (oA D (acc.map dat)) R)))) H2 := t4.ent (Ent.sepL (Ent.sepL (wipe_in (hv s))))
      refine hg s (xs a)[i] (wipe σ vs) H2 _ _ x t5 fun σ2 H3 sm t6 => ⟨wipe_sm sm hx, ?_⟩
      have back : ∀ s', Ent (sl σ2 (Γs s')) (sl σ (Γs s')) := fun s' => sm_out (ix := ix) (hv s') (sm.1.trans (wipe_length σ vs)) fun j hj => (sm.2 j fun z => hj (hx j z)).trans (wipe_get hj)
      refine hb s (xs a)[i] σ2 H3 _ _ _ t6 (wp_noErr (wp_mono (wp_bind.mp q2) (fun r _ q3 => ?_) fun _ x => x))
      obtain ⟨ob, s'⟩ := r
      cases ob with
      | none => exact fun H4 t7 => ⟨s', acc, ((t7.ent rotE).ent (Ent.sepL (Ent.sepL (back s')))), q3⟩
      | some b =>
        intro v H4 t7
        obtain ⟨hn, q4⟩ := wp_need q3
        have t8 : Top (sep (base E σ (Γs s')) (sep (vA (dat b) v) (sep B (sep (oA D (acc.map dat)) R)))) H4 := t7.ent (Ent.sepL (Ent.sepL (back s')))
        have t9 : Top (sep (oA D (acc.map dat)) (sep (base E σ (Γs s')) (sep (vA (dat b) v) (sep B R)))) H4 := t8.ent ((Ent.sepR (Ent.sepR frontE)).trans ((Ent.sepR frontE).trans frontE))
        obtain ⟨vs', ev, ln⟩ := own_at (A := sep (base E σ (Γs s')) (sep (vA (dat b) v) (sep B R))) (t9.ent Ent.comm)
        rw [List.length_map] at ln
        refine ⟨vs', ev, by rw [ln]; exact lim_lt hn, s', acc ++ [b], ?_, q4⟩
        have t10 := t9.write (es := (acc ++ [b]).map dat) (ws := vs' ++ [v]) fun F o us s z e2 r => by
          rw [ev] at e2
          cases e2
          obtain ⟨_, _, _, _, _, _, ⟨_, _, _, _, _, z, _⟩⟩ := z
          rw [List.map_append]
          exact r.append (.one z)
        exact t10.ent (frontE.trans (Ent.sepR (Ent.sepR Ent.right)))
    · have e : i = (xs a).length := by omega
      subst e
      rw [List.drop_length] at q2
      refine .inl ⟨?_, q2 (.ref D) H' (t2.ent (Ent.sepR (Ent.sep (oA_oV D _) Ent.right)))⟩
      have z := ok.stops H' _ t2'
      rw [List.length_map] at z
      exact z) fun _ x => x)
/-- the simple ones -/
theorem compR_map {f : τ → α → Res (Option β × τ)} {g : α → β} {s : τ} : ∀ (xs : List α) (acc : List β), (∀ a ∈ xs, f s a = .ok (some (g a), s)) → acc.length + xs.length ≤ lim → compR xs s acc f = .ok (acc ++ xs.map g, s)
  | [], acc, _, _ => by simp [compR]
  | a :: l, acc, h, hl => by
    have hl' : acc.length + (l.length + 1) ≤ lim := hl
    unfold compR
    rw [h a List.mem_cons_self, noErr_ok, bind_ok]
    show need (acc.length < lim) (compR l s (acc ++ [g a]) f) = _
    rw [need_of (by omega), compR_map l (acc ++ [g a]) (fun b hb => h b (List.mem_cons_of_mem _ hb)) (by rw [List.length_append]; simp; omega)]
    simp
theorem compR_filter {f : τ → α → Res (Option β × τ)} {p : α → Bool} {g : α → β} {s : τ} : ∀ (xs : List α) (acc : List β), (∀ a ∈ xs, f s a = if p a then .ok (some (g a), s) else .ok (none, s)) → acc.length + xs.length ≤ lim → compR xs s acc f = .ok (acc ++ (xs.filter p).map g, s)
  | [], acc, _, _ => by simp [compR]
  | a :: l, acc, h, hl => by
    have hl' : acc.length + (l.length + 1) ≤ lim := hl
    unfold compR
    rw [h a List.mem_cons_self]
    cases e : p a with
    | true =>
      rw [if_pos rfl, noErr_ok, bind_ok]
      show need (acc.length < lim) (compR l s (acc ++ [g a]) f) = _
      rw [need_of (by omega), compR_filter l (acc ++ [g a]) (fun b hb => h b (List.mem_cons_of_mem _ hb)) (by rw [List.length_append]; simp; omega)]
      simp [e]
    | false =>
      rw [if_neg (by decide), noErr_ok, bind_ok]
      show compR l s acc f = _
      rw [compR_filter l acc (fun b hb => h b (List.mem_cons_of_mem _ hb)) (by omega)]
      simp [e]
end

/-! ### results told anew -/
section
variable {E : Ec} {Γ : List Cell} {α β γ δ : Type} {te : TE} {tt : TT} {tr : TA} {tb : TS}
open Res
theorem EvJ.ret {m : Res α} {Γ1 : α → List Cell} {c1 : α → RC} (g : α → γ) {Γ' : γ → List Cell} {c : γ → RC} (h : EvJ E te Γ m Γ1 c1) (h1 : ∀ a, Γ' (g a) = Γ1 a := by intro _; rfl) (h2 : ∀ a, c (g a) = c1 a := by intro _; rfl) : EvJ E te Γ (m.bind fun a => .ok (g a)) Γ' c := fun σ H R Q t q =>
  h σ H R Q t (wp_mono (wp_bind.mp q) (fun a _ q v H' t' => by
    have q' : ∀ v H', Top (sep (base E σ (Γ' (g a))) (sep (c (g a) σ v) R)) H' → Q v H' := q
    rw [h1 a, h2 a] at q'
    exact q' v H' t') fun _ x => x)
theorem EvA.ret {m : Res α} {Γ1 : α → List Cell} {c1 : α → List RC} (g : α → γ) {Γ' : γ → List Cell} {c : γ → List RC} (h : EvA E tr Γ m Γ1 c1) (h1 : ∀ a, Γ' (g a) = Γ1 a := by intro _; rfl) (h2 : ∀ a, c (g a) = c1 a := by intro _; rfl) : EvA E tr Γ (m.bind fun a => .ok (g a)) Γ' c := fun σ H R Q t q =>
  h σ H R Q t (wp_mono (wp_bind.mp q) (fun a _ q v H' t' => by
    have q' : ∀ v H', Top (sep (base E σ (Γ' (g a))) (sep (csA (c (g a)) σ v) R)) H' → Q v H' := q
    rw [h1 a, h2 a] at q'
    exact q' v H' t') fun _ x => x)
theorem r2_to (g : γ) {r : R2} {cx cy : RC} {Γ' : γ → List Cell} {c : γ → RC} (h : R2P E r cx cy Γ (c g)) (e : Γ' g = Γ := by rfl) : R2J E r cx cy Γ (.ok g) Γ' c := fun σ H R Q x y t q => by
  have q' : ∀ v H', Top (sep (base E σ (Γ' g)) (sep (c g σ v) R)) H' → Q v H' := q
  rw [e] at q'
  exact h σ H R Q x y t q'
theorem r2_map {m : Res α} (g : α → γ) {r : R2} {cx cy : RC} {c1 : α → RC} {Γ' : γ → List Cell} {c : γ → RC} (h : R2J E r cx cy Γ m (fun _ => Γ) c1) (h1 : ∀ a, Γ' (g a) = Γ := by intro _; rfl) (h2 : ∀ a, c (g a) = c1 a := by intro _; rfl) : R2J E r cx cy Γ (m.bind fun a => .ok (g a)) Γ' c := fun σ H R Q x y t q =>
  h σ H R Q x y t (wp_mono (wp_bind.mp q) (fun a _ q v H' t' => by
    have q' : ∀ v H', Top (sep (base E σ (Γ' (g a))) (sep (c (g a) σ v) R)) H' → Q v H' := q
    rw [h1 a, h2 a] at q'
    exact q' v H' t') fun _ x => x)
theorem rn_to (g : γ) {r : List V → Hp → VK → Prop} {cs : List RC} {Γ' : γ → List Cell} {c : γ → RC} (h : RnP E r cs Γ (c g)) (e : Γ' g = Γ := by rfl) : RnJ E r cs Γ (.ok g) Γ' c := fun σ H R Q vs t q => by
  have q' : ∀ v H', Top (sep (base E σ (Γ' g)) (sep (c g σ v) R)) H' → Q v H' := q
  rw [e] at q'
  exact h σ H R Q vs t q'
theorem rn_map {m : Res α} (g : α → γ) {r : List V → Hp → VK → Prop} {cs : List RC} {c1 : α → RC} {Γ' : γ → List Cell} {c : γ → RC} (h : RnJ E r cs Γ m (fun _ => Γ) c1) (h1 : ∀ a, Γ' (g a) = Γ := by intro _; rfl) (h2 : ∀ a, c (g a) = c1 a := by intro _; rfl) : RnJ E r cs Γ (m.bind fun a => .ok (g a)) Γ' c := fun σ H R Q vs t q =>
  h σ H R Q vs t (wp_mono (wp_bind.mp q) (fun a _ q v H' t' => by
    have q' : ∀ v H', Top (sep (base E σ (Γ' (g a))) (sep (c (g a) σ v) R)) H' → Q v H' := q
    rw [h1 a, h2 a] at q'
    exact q' v H' t') fun _ x => x)
theorem r1_to (g : γ) {r : V → Hp → VK → Prop} {cx : RC} {Γ' : γ → List Cell} {c : γ → RC} (h : R1P E r cx Γ (c g)) (e : Γ' g = Γ := by rfl) : R1J E r cx Γ (.ok g) Γ' c := fun σ H R Q x t q => by
  have q' : ∀ v H', Top (sep (base E σ (Γ' g)) (sep (c g σ v) R)) H' → Q v H' := q
  rw [e] at q'
  exact h σ H R Q x t q'
theorem EvS.is {m : Res γ} {post : γ → Fin} {Δ : List Cell} (e : Γ = Δ) (h : EvS E tb Δ m post) : EvS E tb Γ m post := e ▸ h
theorem EvS1.to {m : Res γ} {Γ1 : γ → List Cell} {Δ : γ → List Cell} (h : EvS1 E tb Γ m Γ1) (l : ∀ a, Le (Γ1 a) (Δ a)) : EvS1 E tb Γ m Δ := fun σ H R D t q =>
  h σ H R D t (wp_mono q (fun a _ q σ' H' t' => q σ' H' (t'.ent (Ent.sepL (Ent.sepL (l a).ent)))) fun _ x => x)
/-- a join's branch: its end's values -/
theorem EvS1.ret {m : Res α} {Γ1 : α → List Cell} (g : α → γ) {Γ' : γ → List Cell} (h : EvS1 E tb Γ m Γ1) (l : ∀ a, Le (Γ1 a) (Γ' (g a))) : EvS1 E tb Γ (m.bind fun a => .ok (g a)) Γ' := fun σ H R D t q =>
  h σ H R D t (wp_mono (wp_bind.mp q) (fun a _ q σ' H' t' => (show ∀ σ H, Top (sep (base E σ (Γ' (g a))) R) H → D.nx σ H from q) σ' H' (t'.ent (Ent.sepL (Ent.sepL (l a).ent)))) fun _ x => x)
end
/-! ### a def -/
def allP (F H : Hp) : St → List Cell → Prop
  | [], [] => True
  | o :: σ, c :: Γ => (∀ w, (c o).P F H w) ∧ allP F H σ Γ
  | _, _ => False
theorem sl_all {F H : Hp} : ∀ {σ : St} {Γ : List Cell} (w : Addr → Prop), allP F H σ Γ → (sl σ Γ).P F H w
  | [], [], _, _ => trivial
  | _ :: _, _ :: _, w, h => sep_pers h.1 (sl_all w h.2)
  | [], _ :: _, _, h => (show False from h).elim
  | _ :: _, [], _, h => (show False from h).elim
abbrev Ecf (K : PySem.W.Frag) (Ex : XK) (ec : Nat → Value) (C : Asr) : Ec := ⟨K, fun cls d _ H => Ex cls d H, ec, fun _ => emp, C⟩
theorem xok_emp {K : PySem.W.Frag} {Ex : XK} {ec : Nat → Value} {C : Asr} {Γ : List Cell} : XOk (Ecf K Ex ec C) Γ := fun _ => Ent.emp
theorem xok_calm {K : PySem.W.Frag} {Ex : XK} {ec : Nat → Value} {C : Asr} {Γ : List Cell} : XOk (Ecf K Ex ec C).calm Γ := fun _ => Ent.emp
section
variable {K : PySem.W.Frag} {ec : Nat → Value} {C : Asr} {Q : VK} {Ex : XK} {H : Hp} {σ : St} {t : TS} {Γ0 : List Cell} {β : Type} {m : Res β} {c : β → V → Asr} {Γr : β → List Cell}
open Res
theorem fin0 (hT : Top C H) (hin : ∀ F o, Same F H → C.P F H o → allP F H σ Γ0) (hw : m.wp (fun b => ∀ v H', Top (sep C (c b v)) H' → Q v H') fun k => ∀ H', Top C H' → Ex (ec k) none H')
    (hb : EvS (Ecf K Ex ec C) t Γ0 m fun b => .rt (Γr b) fun _ => c b) : t { nx := fun _ H' => Q .non H', rt := Q } σ H := by
  obtain ⟨F, o, s, k, p⟩ := hT
  refine hb σ H emp _ ⟨F, o, s, k, ?_⟩ (wp_mono hw (fun b _ q σ' v H' t' => q v H' (t'.ent (Ent.sep Ent.right Ent.left))) fun k q σ' H' t' => q H' (t'.ent (Ent.left.trans Ent.right)))
  exact Ent.comm F H o s (sep_pers (A := emp) (fun _ => trivial) (sep_pers (fun w => sl_all w (hin F o s p)) p))
/-- .. that falls off its end -/
theorem fin0N (hT : Top C H) (hin : ∀ F o, Same F H → C.P F H o → allP F H σ Γ0) (hw : m.wp (fun b => ∀ v H', Top (sep C (vA .none v)) H' → Q v H') fun k => ∀ H', Top C H' → Ex (ec k) none H')
    (hb : EvS (Ecf K Ex ec C) t Γ0 m fun b => .nx (Γr b)) : t { nx := fun _ H' => Q .non H', rt := Q } σ H := by
  obtain ⟨F, o, s, k, p⟩ := hT
  refine hb σ H emp _ ⟨F, o, s, k, ?_⟩ (wp_mono hw (fun b _ q σ' H' t' => q .non H' (((t'.ent (Ent.left.trans Ent.right)).addV (v := .non) (d := .none) fun _ _ _ _ => .non).ent Ent.comm)) fun k q σ' H' t' => q H' (t'.ent (Ent.left.trans Ent.right)))
  exact Ent.comm F H o s (sep_pers (A := emp) (fun _ => trivial) (sep_pers (fun w => sl_all w (hin F o s p)) p))
/-- the list of a parameter, put into its slot -/
theorem at_in {p : Addr} {i : Nat} {ds : List PyData} {Γ : List Cell} {o : Addr → Prop} {F : Hp} (hi : i < Γ.length) (hs : σ[i]? = some (some (.ref p))) (ha : allP F H σ (Γ.set i cAny)) (h : (oA p ds).P F H o) : (sl σ (Γ.set i (cAt p ds))).P F H o :=
  sl_put hi hs ⟨o, fun _ => False, fun _ z => z, fun _ z => z.elim, fun _ _ z => z, sep_pers (fun _ => rfl) h, sl_all _ ha⟩
theorem at_out {E : Ec} {p : Addr} {i : Nat} {ds : List PyData} {Γ : List Cell} {A : Asr} (hi : Γ[i]? = some (cAt p ds)) : Ent (sep (base E σ Γ) A) (sep E.C (sep (oA p ds) A)) := fun F H o s ⟨o1, o2, h1, h2, d, ⟨o3, o4, h3, h4, e, a, b⟩, z⟩ => by
  obtain ⟨x, ex, _, o6, _, h6, _, _, pa⟩ := sl_get hi a
  have pa' := (oA p ds).up h6 pa
  exact ⟨o4, fun q => o3 q ∨ o2 q, fun q z => h1 q (h4 q z), fun q z => z.elim (fun z => h1 q (h3 q z)) (h2 q), fun q z w => w.elim (fun w => e q w z) (d q (h4 q z)), b, o3, o2, fun _ z => .inl z, fun _ z => .inr z, fun q z w => d q (h3 q z) w, pa', z⟩
theorem fin1 {p : Addr} {i : Nat} {i0 : List PyData} {i1 : β → List PyData} {Γ : List Cell} {Er : Nat → Prop} (hT : Top (sep C (oA p i0)) H) (hi : i < Γ.length) (hs : σ[i]? = some (some (.ref p))) (hin : ∀ F o, Same F H → C.P F H o → allP F H σ (Γ.set i cAny)) (hr : ∀ b, (Γr b)[i]? = some (cAt p (i1 b)))
    (hw : (noErr m).wp (fun b => ∀ v H', Top (sep C (sep (oA p (i1 b)) (c b v))) H' → Q v H') Er)
    (hb : EvS (Ecf K Ex ec C) t (Γ.set i (cAt p i0)) m fun b => .rt (Γr b) fun _ => c b) : t { nx := fun _ H' => Q .non H', rt := Q } σ H := by
  obtain ⟨F, o, s, k, o1, o2, h1, h2, d, pc, po⟩ := hT
  refine hb σ H emp _ ⟨F, o, s, k, ?_⟩ (wp_noErr (wp_mono hw (fun b _ q σ' v H' t' => q v H' ((t'.ent (at_out (hr b))).ent (Ent.sepR (Ent.sepR Ent.left)))) fun k q => q))
  exact Ent.comm F H o s (sep_pers (A := emp) (fun _ => trivial) ⟨o2, o1, h2, h1, fun q z w => d q w z, at_in hi hs (hin F o1 s pc) po, pc⟩)
end
end Lc
/-! Lc: more operations -/
namespace Lc
open PySem L2
section
variable {E : Ec} {Γ : List Cell} {R A : Asr} {H : Hp} {x y v : V} {d : PyData} {cx cy : RC} {α β γ δ : Type} {ta tb tc te : TE} {tr : TA}
open Res
/-! comparisons -/
theorem r2_eqI {i j : Int} : R2P E rEq (rV (.int i)) (rV (.int j)) Γ (rV (.bool (decide (i = j)))) := fun σ H R Q x y t q => by
  have e1 := int1 t
  have e2 := int2 t
  subst e1
  subst e2
  refine ⟨rfl, q _ H (res2 t fun F => ?_)⟩
  have e : decide (V.int i = V.int j) = decide (i = j) := decide_eq_decide.mpr ⟨fun h => by cases h; rfl, fun h => by rw [h]⟩
  rw [e]
  exact .bl _
theorem r2_neI {i j : Int} : R2P E rNe (rV (.int i)) (rV (.int j)) Γ (rV (.bool (!decide (i = j)))) := fun σ H R Q x y t q => by
  have e1 := int1 t
  have e2 := int2 t
  subst e1
  subst e2
  refine ⟨rfl, q _ H (res2 t fun F => ?_)⟩
  have e : decide (V.int i = V.int j) = decide (i = j) := decide_eq_decide.mpr ⟨fun h => by cases h; rfl, fun h => by rw [h]⟩
  rw [e]
  exact .bl _
theorem str1 {i : Str} (t : Top (sep A (sep (vA (.str i) x) R)) H) : x = .str i := by
  obtain ⟨F, _, z⟩ := top1 t
  cases z; rfl
theorem r2_eqS {i j : Str} : R2P E rEq (rV (.str i)) (rV (.str j)) Γ (rV (.bool (decide (i = j)))) := fun σ H R Q x y t q => by
  have e1 := str1 t
  have e2 := str1 (t.ent Ent.assoc')
  subst e1
  subst e2
  refine ⟨rfl, q _ H (res2 t fun F => ?_)⟩
  have e : decide (V.str i = V.str j) = decide (i = j) := decide_eq_decide.mpr ⟨fun h => by cases h; rfl, fun h => by rw [h]⟩
  rw [e]
  exact .bl _
theorem r2_neS {i j : Str} : R2P E rNe (rV (.str i)) (rV (.str j)) Γ (rV (.bool (!decide (i = j)))) := fun σ H R Q x y t q => by
  have e1 := str1 t
  have e2 := str1 (t.ent Ent.assoc')
  subst e1
  subst e2
  refine ⟨rfl, q _ H (res2 t fun F => ?_)⟩
  have e : decide (V.str i = V.str j) = decide (i = j) := decide_eq_decide.mpr ⟨fun h => by cases h; rfl, fun h => by rw [h]⟩
  rw [e]
  exact .bl _
/-- a < b < c, nothing computes -/
theorem evp_chain {r r' : R2} {a b c : Int} {p p' : Int → Int → Bool} (ha : EvP E ta Γ (rV (.int a))) (hb : EvP E tb Γ (rV (.int b))) (hc : EvP E tc Γ (rV (.int c)))
    (h1 : ∀ H (Q : VK), Q (.bl (p a b)) H → r (.int a) (.int b) H Q) (h2 : ∀ H (Q : VK), Q (.bl (p' b c)) H → r' (.int b) (.int c) H Q) : EvP E (tChain r r' ta tb tc) Γ (rV (.bool (p a b && p' b c))) := fun σ H R Q t q =>
  ha σ H R _ t fun x H1 t1 => by
    have ex := int1 t1
    subst ex
    refine hb σ H1 R _ (t1.ent (Ent.sepR Ent.right)) fun y H2 t2 => ?_
    have ey := int1 t2
    subst ey
    refine h1 H2 _ ⟨p a b, rfl, ?_⟩
    cases e : p a b with
    | false => exact q (.bl false) H2 (res1 t2 fun F => by rw [e]; exact .bl _)
    | true =>
      refine hc σ H2 R _ (t2.ent (Ent.sepR Ent.right)) fun z H3 t3 => ?_
      have ez := int1 t3
      subst ez
      exact h2 H3 Q (q _ H3 (res1 t3 fun F => by rw [e]; exact .bl _))
theorem ch_B0 {g : Int → Int → Bool} {a b : Int} : ∀ H (Q : VK), Q (.bl (g a b)) H → (rI0 fun i j => .bl (g i j)) (.int a) (.int b) H Q := fun H Q q => ⟨a, b, rfl, rfl, q⟩

/-! several names at once -/
theorem three_args {c1 c2 c3 : RC} {σ : St} {vs : List V} (t : Top (sep A (sep (csA [c1, c2, c3] σ vs) R)) H) : ∃ x y z, vs = [x, y, z] ∧ Top (sep A (sep (c1 σ x) (sep (c2 σ y) (sep (c3 σ z) R)))) H := by
  cases vs with
  | nil => exact (t.fact (φ := False) fun _ _ _ ⟨_, _, _, _, _, _, ⟨_, _, _, _, _, a, _⟩⟩ => a).elim
  | cons x r =>
    have t' : Top (sep (sep A (c1 σ x)) (sep (csA [c2, c3] σ r) R)) H := t.ent ((Ent.sepR Ent.assoc).trans Ent.assoc')
    obtain ⟨y, z, rfl, t2⟩ := two_args t'
    exact ⟨x, y, z, rfl, t2.ent Ent.assoc⟩
/-- a result that does not hang on the slots -/
def Fl (c : RC) : Prop := ∀ σ σ', c σ = c σ'
theorem fl_v : Fl (rV d) := fun _ _ => rfl
theorem fl_o {ds : List PyData} : Fl (rO ds) := fun _ _ => rfl
theorem es_par {m : Res γ} {Γ1 : γ → List Cell} {c1 c2 : γ → RC} {k1 k2 : γ → Cell} {i j : Nat} (h : EvA E tr Γ m Γ1 fun a => [c1 a, c2 a]) (s1 : ∀ a, Sto (c1 a) (k1 a)) (s2 : ∀ a, Sto (c2 a) (k2 a)) (f2 : ∀ a, Fl (c2 a)) (hi : ∀ a, i < (Γ1 a).length) (hj : ∀ a, j < (Γ1 a).length) :
    EvS1 E (tPar i j tr) Γ m fun a => ((Γ1 a).set i (k1 a)).set j (k2 a) := fun σ H R D t q =>
  h σ H R _ t (wp_mono q (fun a _ q vs H' t' => by
    obtain ⟨x, y, rfl, t2⟩ := two_args t'
    refine ⟨x, y, rfl, q _ H' ?_⟩
    have t3 := put_slot (s1 a) (hi a) t2
    rw [f2 a σ (σ.set i (some x))] at t3
    exact put_slot (s2 a) (by rw [List.length_set]; exact hj a) t3) fun _ x => x σ)
theorem es_par3 {m : Res γ} {Γ1 : γ → List Cell} {c1 c2 c3 : γ → RC} {k1 k2 k3 : γ → Cell} {i j l : Nat} (h : EvA E tr Γ m Γ1 fun a => [c1 a, c2 a, c3 a]) (s1 : ∀ a, Sto (c1 a) (k1 a)) (s2 : ∀ a, Sto (c2 a) (k2 a)) (s3 : ∀ a, Sto (c3 a) (k3 a)) (f2 : ∀ a, Fl (c2 a)) (f3 : ∀ a, Fl (c3 a))
    (hi : ∀ a, i < (Γ1 a).length) (hj : ∀ a, j < (Γ1 a).length) (hl : ∀ a, l < (Γ1 a).length) :
    EvS1 E (tPar3 i j l tr) Γ m fun a => (((Γ1 a).set i (k1 a)).set j (k2 a)).set l (k3 a) := fun σ H R D t q =>
  h σ H R _ t (wp_mono q (fun a _ q vs H' t' => by
    obtain ⟨x, y, z, rfl, t2⟩ := three_args t'
    refine ⟨x, y, z, rfl, q _ H' ?_⟩
    have t3 := put_slot (s1 a) (hi a) t2
    rw [f2 a σ (σ.set i (some x)), f3 a σ (σ.set i (some x))] at t3
    have t4 := put_slot (s2 a) (by rw [List.length_set]; exact hj a) t3
    rw [f3 a _ ((σ.set i (some x)).set j (some y))] at t4
    exact put_slot (s3 a) (by rw [List.length_set, List.length_set]; exact hl a) t4) fun _ x => x σ)
/-- names of a tuple's targets, their values' cells -/
def GlJ (E : Ec) (g : TGs) (cs : List RC) (Γ Γ' : List Cell) : Prop := ∀ (σ0 σ : St) (H : Hp) (R : Asr) (Q : St → Hp → Prop) (vs : List V), Top (sep (base E σ Γ) (sep (csA cs σ0 vs) R)) H → (∀ σ' H', Top (sep (base E σ' Γ') R) H' → Q σ' H') → g vs σ H Q
theorem gl_nil : GlJ E gNil [] Γ Γ := fun σ0 σ H R Q vs t q => by
  cases vs with
  | nil => exact ⟨rfl, q σ H (t.ent (Ent.sepR Ent.right))⟩
  | cons v vs => exact (t.fact (φ := False) fun _ _ _ ⟨_, _, _, _, _, _, ⟨_, _, _, _, _, a, _⟩⟩ => a).elim
theorem gl_cons {g : TGs} {i : Nat} {c : RC} {cl : Cell} {cs : List RC} {Γ' : List Cell} (hs : Sto c cl) (hf : Fl c) (hi : i < Γ.length) (h : GlJ E g cs (Γ.set i cl) Γ') : GlJ E (gCons (gName i) g) (c :: cs) Γ Γ' := fun σ0 σ H R Q vs t q => by
  cases vs with
  | nil => exact (t.fact (φ := False) fun _ _ _ ⟨_, _, _, _, _, _, ⟨_, _, _, _, _, a, _⟩⟩ => a).elim
  | cons v vs =>
    refine ⟨v, vs, rfl, ?_⟩
    have t1 : Top (sep (base E σ Γ) (sep (c σ0 v) (sep (csA cs σ0 vs) R))) H := t.ent (Ent.sepR Ent.assoc)
    rw [hf σ0 σ] at t1
    exact h σ0 _ H R Q vs (put_slot hs hi t1) q
theorem Top.grow {p : Addr} {ob : HO} (t : Top A H) (hp : H p = none) : Top A (upd H p ob) := by
  obtain ⟨F, o, s, k, a⟩ := t
  have ne : ∀ q, o q → q ≠ p := fun q hq e => (k q hq).2 (e ▸ hp)
  refine ⟨F, o, fun b u e => ?_, fun q hq => ?_, A.st (Same.refl F) (fun q hq => upd_ne (ne q hq)) a⟩
  · have h := s b u e
    rw [upd_ne (fun z => by rw [z, hp] at h; cases h)]
    exact h
  · rw [upd_ne (ne q hq)]
    exact k q hq
/-- a, b, .. = (x, y, ..) by a tuple -/
theorem es_tupasg {m : Res γ} {Γ1 : γ → List Cell} {cs : γ → List RC} {g : TGs} {n : Nat} {Γ' : γ → List Cell} (h : EvA E tr Γ m Γ1 cs) (hg : ∀ a, GlJ E g (cs a) (Γ1 a) (Γ' a)) (hn : ∀ a, (cs a).length = n) (h9 : n ≤ 1000 := by decide) :
    EvS1 E (tAsg (tTup tr) (gTup E.K n g)) Γ m Γ' := fun σ H R D t q =>
  h σ H R _ t (wp_mono q (fun a _ q vs H' t' => by
    have len : ∀ (cs : List RC) (vs : List V), (∃ F H o, (csA cs σ vs).P F H o) → vs.length = cs.length := by
      intro cs
      induction cs with
      | nil => intro vs ⟨F, H, o, h⟩; cases vs with
        | nil => rfl
        | cons v vs => exact (show False from h).elim
      | cons c cs ih => intro vs ⟨F, H, o, h⟩; cases vs with
        | nil => exact (show False from h).elim
        | cons v vs =>
          obtain ⟨_, _, _, _, _, _, z⟩ := h
          rw [List.length_cons, List.length_cons, ih vs ⟨_, _, _, z⟩]
    have ln : vs.length = n := (t'.fact fun F o s ⟨_, _, _, _, _, _, ⟨_, _, _, _, _, z, _⟩⟩ => len (cs a) vs ⟨_, _, _, z⟩).trans (hn a)
    refine ⟨by rw [ln]; exact Nat.le_trans h9 (by decide), fun p hp => ⟨p, vs, rfl, SqT.of upd_same, ln, hg a σ σ _ R _ vs (t'.grow hp) q⟩⟩) fun _ x => x σ)
/-- a, b = a list of two -/
theorem es_unl {ds : List PyData} {m : Res γ} {Γ1 : γ → List Cell} {c : γ → RC} {g : TGs} {n : Nat} {ds : γ → List PyData} {Γ' : γ → List Cell} {ix : List Nat} (h : EvJ E te Γ m Γ1 c) (hr : ∀ a, PArg E (Γ1 a) K0 (c a) (ppS E.K (ds a))) (hg : ∀ a, (ds a).length = n → EvGs E g (ds a) (Γ1 a) (Γ' a) ix) :
    EvS1 E (tAsg te (gUnl E.K n g)) Γ (m.bind fun a => need ((ds a).length = n) (.ok a)) Γ' := fun σ H R D t q =>
  h σ H R _ t (wp_mono (wp_bind.mp q) (fun a _ q v H' t' => by
    obtain ⟨hn, q⟩ := wp_need q
    obtain ⟨p, vs, rfl, hs, ln, t2⟩ := readS (hr a) t'
    exact ⟨p, vs, rfl, hs, ln.trans hn, hg a hn σ H' R _ vs (t2.ent (Ent.sepR (Ent.sepR Ent.right))) fun σ' H'' _ t3 => q σ' H'' t3⟩) fun _ x => x σ)
/-! xs[::-1], list(range(a, b)) -/
theorem evp_rev [Dat α] {xs : List α} (h : EvP E te Γ cx) (hr : PArg E Γ K0 cx (ppS E.K (xs.map dat))) : EvP E (tRevL E.K te) Γ (rO (xs.reverse.map dat)) := fun σ H R Q t q =>
  h σ H R _ t fun x H1 t1 => by
    obtain ⟨a, vs, rfl, hs, ln, t2⟩ := readS hr t1
    refine ⟨a, vs, rfl, hs, fun p hp => q _ _ ((newL t2 hp fun F' o s' z => ?_).ent (Ent.sepR (Ent.sepR (Ent.right.trans Ent.right))))⟩
    rw [List.map_reverse]
    exact (as_of F' o s' z).reverse
theorem ev_rev [Dat α] {m : Res γ} {Γ1 : γ → List Cell} {c : γ → RC} {xs : γ → List α} (h : EvJ E te Γ m Γ1 c) (hr : ∀ a, PArg E (Γ1 a) K0 (c a) (ppS E.K ((xs a).map dat))) : EvJ E (tRevL E.K te) Γ m Γ1 fun a => rO ((xs a).reverse.map dat) := fun σ H R Q t q =>
  h σ H R _ t (wp_mono q (fun g _ q x H1 t1 => by
    obtain ⟨a, vs, rfl, hs, ln, t2⟩ := readS (hr g) t1
    refine ⟨a, vs, rfl, hs, fun p hp => q _ _ ((newL t2 hp fun F' o s' z => ?_).ent (Ent.sepR (Ent.sepR (Ent.right.trans Ent.right))))⟩
    rw [List.map_reverse]
    exact (as_of F' o s' z).reverse) fun _ x => x)
theorem rgV_rp {F : Hp} (a b : Int) : RpAll F (rgV a b) ((rangeL a b).map dat) := by
  have e : rgV a b = (rangeL a b).map V.int := by unfold rgV rangeL; rw [List.map_map]; rfl
  rw [e]
  exact RpAll.of_ints _
def listRg (a b : Int) : Res (List Int) := need (-(2 ^ 62) ≤ a ∧ a < 2 ^ 62 ∧ -(2 ^ 62) ≤ b ∧ b < 2 ^ 62 ∧ (b - a).toNat ≤ 2 ^ 24) (.ok (rangeL a b))
theorem ev_listRg2 {ma : Res α} {Γ1 : α → List Cell} {fa : α → Int} {mb : α → Res β} {Γ2 : α → β → List Cell} {fb : α → β → Int} (ha : EvJ E ta Γ ma Γ1 fun a => rV (.int (fa a))) (hb : ∀ a, EvJ E tb (Γ1 a) (mb a) (Γ2 a) fun b => rV (.int (fb a b))) :
    EvJ E (tLstRg (tRg2 ta tb)) Γ (ma.bind fun a => (mb a).bind fun b => (listRg (fa a) (fb a b)).bind fun l => .ok (a, b, l)) (fun r => Γ2 r.1 r.2.1) fun r => rO (r.2.2.map dat) := fun σ H R Q t q =>
  ha σ H R _ t (wp_mono (wp_bind.mp q) (fun a _ q x H1 t1 => by
    have e := int1 t1
    subst e
    refine hb a σ H1 R _ (t1.ent (Ent.sepR Ent.right)) (wp_mono (wp_bind.mp q) (fun b _ q y H2 t2 => ?_) fun _ x => x)
    have e := int1 t2
    subst e
    unfold listRg at q
    obtain ⟨ok, q⟩ := wp_need (wp_bind.mp q)
    refine ⟨fa a, fb a b, rfl, rfl, ok, fun p hp => q (.ref p) _ ?_⟩
    exact newL (t2.ent (Ent.sepR Ent.right)) hp fun F o s z => rgV_rp _ _) fun _ x => x)
theorem ev_listRg1 {ma : Res α} {Γ1 : α → List Cell} {fa : α → Int} (ha : EvJ E ta Γ ma Γ1 fun a => rV (.int (fa a))) :
    EvJ E (tLstRg (tRg1 ta)) Γ (ma.bind fun a => (listRg 0 (fa a)).bind fun l => .ok (a, l)) (fun r => Γ1 r.1) fun r => rO (r.2.map dat) := fun σ H R Q t q =>
  ha σ H R _ t (wp_mono (wp_bind.mp q) (fun a _ q x H1 t1 => by
    have e := int1 t1
    subst e
    unfold listRg at q
    obtain ⟨ok, q⟩ := wp_need (wp_bind.mp q)
    refine ⟨fa a, rfl, ok, fun p hp => q (.ref p) _ ?_⟩
    exact newL (t1.ent (Ent.sepR Ent.right)) hp fun F o s z => rgV_rp _ _) fun _ x => x)
/-! turns of a comprehension that compute nothing -/
theorem elj_yesP [Dat β] {τ : Type} {c : RC} {b : β} {s : τ} {Γs : τ → List Cell} (h : EvP E te Γ c) (f : Fz c (dat b)) (l : Le Γ (Γs s)) : ElJ E tYes te Γ (.ok (some b, s)) Γs := fun σ H R Qn Qy t q =>
  h σ H R _ t fun v H' t' => q v H' (((f σ v _ H' (t'.ent frontE)).ent frontE).ent (Ent.sepL (Ent.sepL l.ent)))
theorem elj_ifP [Dat β] {τ : Type} {tt : TT} {p : Bool} {c : RC} {b : β} {s : τ} {Γs : τ → List Cell} (ht : EvTP E tt Γ p) (h : EvP E te Γ c) (f : Fz c (dat b)) (l : Le Γ (Γs s)) : ElJ E tt te Γ (if p then .ok (some b, s) else .ok (none, s)) Γs := fun σ H R Qn Qy t q =>
  ht σ H R _ t fun H1 t1 => by
    cases p with
    | true => exact h σ H1 R _ t1 fun v H' t' => (show ∀ v H', Top (sep (base E σ (Γs s)) (sep (vA (dat b) v) R)) H' → Qy v H' from q) v H' (((f σ v _ H' (t'.ent frontE)).ent frontE).ent (Ent.sepL (Ent.sepL l.ent)))
    | false => exact (show ∀ H', Top (sep (base E σ (Γs s)) R) H' → Qn H' from q) H1 (t1.ent (Ent.sepL (Ent.sepL l.ent)))
theorem hv_nil {Γ : List Cell} : ∀ j ∈ ([] : List Nat), Γ[j]? = some cAny := fun _ h => by cases h
theorem hv_cons {Γ : List Cell} {i : Nat} {vs : List Nat} (h : Γ[i]? = some cAny) (hr : ∀ j ∈ vs, Γ[j]? = some cAny) : ∀ j ∈ i :: vs, Γ[j]? = some cAny := fun j hj => by
  rcases List.mem_cons.mp hj with e | hj
  · rw [e]
    exact h
  · exact hr j hj
theorem kp_true {ι τ : Type} : ∀ (a : ι) (s : τ), (fun (_ : ι) (_ : List Cell) => True) a Γ := fun _ _ => trivial
/-! numbers of any size -/
def CMulA (i j : Int) : Prop := ((-(2 ^ 64) < i ∧ i < 2 ^ 64) ∨ (-(2 ^ 64) < j ∧ j < 2 ^ 64)) ∨ i.natAbs.log2 + j.natAbs.log2 < 1000000
instance (i j : Int) : Decidable (CMulA i j) := by unfold CMulA; infer_instance
theorem op_mulA {X : Cx} : OpR X (binaryOp .Mult) (rI CMulA fun i j => .int (i * j)) := opI fun i j _ _ _ _ _ hc q => PyProof.Rows.mul_int q (hc.elim (fun h => CMul.ok h) fun h => CMulW.ok h)
def CPowA (i j : Int) : Prop := 0 ≤ j ∧ (Builtin.Int.intBits i : Int) * j ≤ 2 ^ 27
instance (i j : Int) : Decidable (CPowA i j) := by unfold CPowA; infer_instance
theorem op_powA {X : Cx} : OpR X (binaryOp .Pow) (rI CPowA fun i j => .int (i ^ j.toNat)) := opI fun i j _ _ _ _ _ hc q => PyProof.Rows.pow_int hc.1 hc.2 q
def mulA (i j : Int) : Res Int := need (CMulA i j) (.ok (i * j))
def powA (i j : Int) : Res Int := need (CPowA i j) (.ok (i ^ j.toNat))
theorem r2_mulA {i j : Int} : R2J E (rI CMulA fun i j => .int (i * j)) (rV (.int i)) (rV (.int j)) Γ (mulA i j) (fun _ => Γ) fun a => rV (.int a) := r2_IN fun h => h
theorem r2_powA {i j : Int} : R2J E (rI CPowA fun i j => .int (i ^ j.toNat)) (rV (.int i)) (rV (.int j)) Γ (powA i j) (fun _ => Γ) fun a => rV (.int a) := r2_IN fun h => h
/-! lists that grow, typed -/
variable {mk : List PyData → Cell} {i : Nat} {post : β → Fin} {tb : TS}
theorem es_bad {post : γ → Fin} : EvS E tb Γ .bad post := fun σ H R D t q => (show False from q).elim
theorem es_never {u : TS} {post : γ → Fin} : EvS E (tSeq tNever u) Γ .bad post := es_bad
theorem es_appendT [Dat α] {xs : List α} {a : α} {c : RC} (hk : OwnC mk) (h : EvP E te Γ c) (f : Fz c (dat a)) (hi : Γ[i]? = some (mk (xs.map dat))) :
    EvS1 E (tDrop (tBM E.K "list" rAppend (tVar i) (tCons te tNil))) Γ (need (xs.length < lim) (.ok ())) fun _ => Γ.set i (mk ((xs ++ [a]).map dat)) := by
  by_cases hn : xs.length < lim
  · have h1 := es_append hk h f hi
    rw [need_of (by rw [List.length_map]; exact hn)] at h1
    rw [need_of hn, List.map_append]
    exact h1
  · have e : need (xs.length < lim) (Res.ok ()) = .bad := if_neg hn
    rw [e]
    exact es_bad
theorem es_appendTM [Dat α] {m : Res γ} {Γ1 : γ → List Cell} {xs : γ → List α} {a : γ → α} {c : γ → RC} {ds0 : List PyData} (hk : OwnC mk) (h : EvJ E te Γ m Γ1 c) (f : ∀ g, Fz (c g) (dat (a g))) (h0 : Γ[i]? = some (mk ds0)) (hi : ∀ g, (Γ1 g)[i]? = some (mk ((xs g).map dat))) :
    EvS1 E (tDrop (tBM E.K "list" rAppend (tVar i) (tCons te tNil))) Γ (m.bind fun g => need ((xs g).length < lim) (.ok g)) fun g => (Γ1 g).set i (mk ((xs g ++ [a g]).map dat)) := by
  have h1 := es_appendM (ds := fun g => (xs g).map dat) (e := fun g => dat (a g)) hk h f h0 hi
  have e1 : (m.bind fun g => need (((xs g).map (dat : α → PyData)).length < lim) (.ok g)) = m.bind fun g => need ((xs g).length < lim) (.ok g) := by
    congr 1
    funext g
    by_cases hn : (xs g).length < lim
    · rw [need_of hn, need_of (by rw [List.length_map]; exact hn)]
    · unfold need
      rw [if_neg hn, if_neg (by rw [List.length_map]; exact hn)]
  rw [e1] at h1
  have e2 : (fun g => (Γ1 g).set i (mk ((xs g ++ [a g]).map dat))) = fun g => (Γ1 g).set i (mk ((xs g).map dat ++ [dat (a g)])) := by
    funext g
    rw [List.map_append]
    rfl
  rw [e2]
  exact h1
/-- the items of a short list -/
class Dflt (α : Type) where
  d : α
instance : Dflt Int := ⟨0⟩
instance {α β : Type} [Dflt α] [Dflt β] : Dflt (α × β) := ⟨(Dflt.d, Dflt.d)⟩
instance {α : Type} : Dflt (List α) := ⟨[]⟩
def getD0 {α : Type} [Dflt α] (xs : List α) (k : Nat) : α := xs.getD k Dflt.d
theorem es_unlT [Dat α] [Dflt α] {m : Res γ} {Γ1 : γ → List Cell} {c : γ → RC} {g : TGs} {n : Nat} {xs : γ → List α} {Γ' : γ → List Cell} {ix : List Nat} (h : EvJ E te Γ m Γ1 c) (hr : ∀ a, PArg E (Γ1 a) K0 (c a) (ppS E.K ((xs a).map dat)))
    (hg : ∀ a, EvGs E g ((List.range n).map fun k => dat (getD0 (xs a) k)) (Γ1 a) (Γ' a) ix) : EvS1 E (tAsg te (gUnl E.K n g)) Γ (m.bind fun a => need ((xs a).length = n) (.ok a)) Γ' := fun σ H R D t q =>
  h σ H R _ t (wp_mono (wp_bind.mp q) (fun a _ q v H' t' => by
    obtain ⟨hn, q⟩ := wp_need q
    obtain ⟨p, vs, rfl, hs, ln, t2⟩ := readS (hr a) t'
    rw [List.length_map] at ln
    have e : (xs a).map dat = (List.range n).map fun k => dat (getD0 (xs a) k) := by
      refine List.ext_getElem? fun k => ?_
      rw [List.getElem?_map, List.getElem?_map]
      by_cases hk : k < n
      · rw [List.getElem?_range hk, List.getElem?_eq_getElem (by omega)]
        simp [getD0, List.getD, List.getElem?_eq_getElem (show k < (xs a).length by omega)]
      · rw [List.getElem?_eq_none (by omega), List.getElem?_eq_none (by simp; omega)]
        rfl
    rw [e] at t2
    exact ⟨p, vs, rfl, hs, ln.trans hn, hg a σ H' R _ vs (t2.ent (Ent.sepR (Ent.sepR Ent.right))) fun σ' H'' _ t3 => q σ' H'' t3⟩) fun _ x => x σ)
/-! slices whose bounds compute -/
theorem rsl_stg {r : V → Option Int → Option Int → Hp → VK → Prop} {lo hi : Option Int} {c1 : RC} (g : γ) {Γ' : γ → List Cell} {c : γ → RC} (h : RslJ E r cx lo hi Γ (.ok ()) fun _ => c1) (e1 : Γ' g = Γ := by rfl) (e2 : c g = c1 := by rfl) :
    ∀ (σ : St) (H : Hp) (R : Asr) (Q : VK) (x : V), Top (sep (base E σ Γ) (sep (cx σ x) R)) H → (Res.ok g).wp (fun g => ∀ v H', Top (sep (base E σ (Γ' g)) (sep (c g σ v) R)) H' → Q v H') (Exn E R σ) → r x lo hi H Q := fun σ H R Q x t q => by
  have q' : ∀ v H', Top (sep (base E σ (Γ' g)) (sep (c g σ v) R)) H' → Q v H' := q
  rw [e1, e2] at q'
  exact h σ H R Q x t q'
theorem ev_slS {tl th : TO} {r : V → Option Int → Option Int → Hp → VK → Prop} {m0 : Res δ} {ca : δ → RC} {τ ε : Type} {ml : δ → Res τ} {mh : δ → τ → Res ε} {lo : τ → Option Int} {hi : ε → Option Int} {Γ0 : δ → List Cell} {Γ1 : δ → τ → List Cell} {Γ2 : δ → τ → ε → List Cell} {k : δ → τ → ε → Res γ} {c : γ → RC} {Γ' : γ → List Cell}
    (h : EvJ E te Γ m0 Γ0 ca) (h1 : ∀ d, EvO E tl (Γ0 d) (ml d) (Γ1 d) lo) (h2 : ∀ d a, EvO E th (Γ1 d a) (mh d a) (Γ2 d a) hi)
    (hr : ∀ d a b (σ : St) (H : Hp) (R : Asr) (Q : VK) (x : V), Top (sep (base E σ (Γ2 d a b)) (sep (ca d σ x) R)) H → (k d a b).wp (fun g => ∀ v H', Top (sep (base E σ (Γ' g)) (sep (c g σ v) R)) H' → Q v H') (Exn E R σ) → r x (lo a) (hi b) H Q) :
    EvJ E (tSl r te tl th) Γ (m0.bind fun d => (ml d).bind fun a => (mh d a).bind fun b => k d a b) Γ' c := ev_sl h h1 h2 hr
theorem eoS {τ : Type} {v : τ → Int} {m : Res τ} {Γ' : τ → List Cell} (h : EvJ E te Γ m Γ' fun a => rV (.int (v a))) : EvO E (tPart te) Γ m Γ' fun a => some (v a) := fun σ H R Q t q =>
  h σ H R _ t (wp_mono q (fun a _ q x H1 t1 => ⟨v a, int1 t1, q H1 (t1.ent (Ent.sepR Ent.right))⟩) fun _ x => x)
/-! any value -/
def ppX (d : PyData) : PP := fun v F H => Rp F v d ∨ ∃ ds, d = .list ds ∧ ppL ds v F H
theorem pa_xv {Kn : St → Prop} {d : PyData} : PArg E Γ Kn (rV d) (ppX d) := fun _ _ _ _ _ _ _ ⟨_, _, _, _, _, _, x⟩ => .inl x
theorem pa_xl {Kn : St → Prop} {c : RC} {ds : List PyData} (h : PArg E Γ Kn c (ppL ds)) : PArg E Γ Kn c (ppX (.list ds)) := fun σ v F H o kn s q => .inr ⟨ds, rfl, h σ v F H o kn s q⟩
theorem pa_xd {Kn : St → Prop} {c : RC} {d : PyData} (h : PArg E Γ Kn c (ppX d)) : PArg E Γ Kn c (ppD E.K d) := fun σ v F H o kn s q => by
  rcases h σ v F H o kn s q with z | ⟨ds, rfl, p, vs, rfl, e, r⟩
  · exact z.dp s
  · exact .lst (SqL.of e) (r.dp s)
theorem bwS {v : V} {ds : List PyData} (h : Bw E v (ppL ds)) : Bw E v (ppS E.K ds) := fun F H o s c => ppS_of (h F H o s c)
/-! a loop inside a part with other results -/
theorem es_seqG {t u : TS} {ρ : Type} {m : Res (Jn α ρ)} {Γ1 : α → List Cell} {k : α → Res β} {post0 : ρ → Fin} (g : ρ → β) (hg : ∀ r, (post (g r)).out = (post0 r).out) (h1 : EvS E t Γ m (Jn.post Γ1 post0)) (h2 : ∀ a, EvS E u (Γ1 a) (k a) post) :
    EvS E (tSeq t u) Γ (m.bind fun j => match j with | .go a => k a | .out b => .ok (g b)) post := fun σ H R D tt q =>
  h1 σ H R { D with nx := u D } tt (wp_mono (wp_bind.mp q) (fun j _ q1 => by
    cases j with
    | go a => exact fun σ' H' t' => h2 a σ' H' R D t' q1
    | out b =>
      show (post0 b).out.ok E R _
      rw [← hg b]
      exact Fin.out_ok q1) fun _ x => x)
theorem len_of {ps : List PP} {vs : List V} {C : Asr} (t : Top C H) (h : ∀ F H o, Same F H → C.P F H o → parOk ps vs F H) : vs.length = ps.length := by
  obtain ⟨F, o, s, _, p⟩ := t
  exact parOk_len (h F H o s p)
theorem len_of1 {ps : List PP} {vs : List V} {C B : Asr} (t : Top (sep C B) H) (h : ∀ F H o, Same F H → C.P F H o → parOk ps vs F H) : vs.length = ps.length := len_of (t.ent Ent.left) h
end
theorem len0 {vs : List V} (h : vs.length = 0) : vs = [] := List.eq_nil_of_length_eq_zero h
theorem len1 {vs : List V} (h : vs.length = 1) : ∃ a, vs = [a] := match vs, h with | [a], _ => ⟨a, rfl⟩
theorem len2 {vs : List V} (h : vs.length = 2) : ∃ a b, vs = [a, b] := match vs, h with | [a, b], _ => ⟨a, b, rfl⟩
theorem len3 {vs : List V} (h : vs.length = 3) : ∃ a b c, vs = [a, b, c] := match vs, h with | [a, b, c], _ => ⟨a, b, c, rfl⟩
theorem len4 {vs : List V} (h : vs.length = 4) : ∃ a b c d, vs = [a, b, c, d] := match vs, h with | [a, b, c, d], _ => ⟨a, b, c, d, rfl⟩
theorem len5 {vs : List V} (h : vs.length = 5) : ∃ a b c d e, vs = [a, b, c, d, e] := match vs, h with | [a, b, c, d, e], _ => ⟨a, b, c, d, e, rfl⟩
theorem len6 {vs : List V} (h : vs.length = 6) : ∃ a b c d e f, vs = [a, b, c, d, e, f] := match vs, h with | [a, b, c, d, e, f], _ => ⟨a, b, c, d, e, f, rfl⟩
end Lc
/-! Lc: values of any kind: isinstance, what a start and cards are -/
namespace Lc
theorem lt_len {n m : Nat} (h : Nat.ble (n + 1) m = true) : n < m := Nat.le_of_ble_eq_true h
open PySem L2
section
variable {E : Ec} {Γ : List Cell} {R A : Asr} {H : Hp} {x y v : V} {d : PyData} {cx cy : RC} {α β γ δ : Type} {ta tb tc te : TE} {tr : TA} {tt tu : TT}
open Res
theorem pg_tupK {X : Cx} {pos : Pos} {es : List Expr} {k : Nat} {t : TGs} (K : PySem.W.Frag) (n : Nat) (hK : X.K = K) (hc : X.calm = true) (h : PGs X es t) (hn : (assignEach es X.env).length = n) (hst : (assignEach es X.env).findIdx? (·.1) = none) : PG X (.Tuple es k pos) (gTup K n t) :=
  hK ▸ pg_tup hc h hn hst
theorem ixK {X : Cx} (K : PySem.W.Frag) (h : X.K = K) : IxR X (rIxL K) := h ▸ ix_list
theorem slK {X : Cx} (K : PySem.W.Frag) (h : X.K = K) : SlR X (rSlL K) := h ▸ sl_list
theorem lenK {X : Cx} (K : PySem.W.Frag) (h : X.K = K) : CallR X (.builtin "len") (fun xs H Q => ∃ p ys, xs = [.ref p] ∧ (SqL K H p ys ∨ SqT K H p ys) ∧ Q (.int ys.length) H) := by
  subst h
  exact call_len_seq
theorem listK {X : Cx} (K : PySem.W.Frag) (h : X.K = K) : CallR X (.type "list") (fun xs H Q => ∃ p ys, xs = [.ref p] ∧ (SqL K H p ys ∨ SqT K H p ys) ∧ ∀ l, H l = none → Q (.ref l) (upd H l (.lst ys))) := by
  subst h
  exact call_list_of
theorem sumK {X : Cx} (K : PySem.W.Frag) (h : X.K = K) (hc : X.calm = true) : CallR X (.builtin "sum") (rSum K) := h ▸ cr_sum hc
theorem minK {X : Cx} (K : PySem.W.Frag) (h : X.K = K) (hc : X.calm = true) : CallR X (.builtin "min") (rMin K) := h ▸ cr_min hc
theorem maxK {X : Cx} (K : PySem.W.Frag) (h : X.K = K) (hc : X.calm = true) : CallR X (.builtin "max") (rMax K) := h ▸ cr_max hc
theorem allK {X : Cx} (K : PySem.W.Frag) (h : X.K = K) (hc : X.calm = true) : CallR X (.builtin "all") (rAll K) := h ▸ cr_all hc
theorem anyK {X : Cx} (K : PySem.W.Frag) (h : X.K = K) (hc : X.calm = true) : CallR X (.builtin "any") (rAny K) := h ▸ cr_any hc
theorem es_parC {m : Res γ} {Γ1 : γ → List Cell} {c1 c2 : γ → RC} {k1 k2 : γ → Cell} {i j : Nat} {cs : γ → List RC} (h : EvA E tr Γ m Γ1 cs) (e : cs = fun a => [c1 a, c2 a]) (s1 : ∀ a, Sto (c1 a) (k1 a)) (s2 : ∀ a, Sto (c2 a) (k2 a)) (f2 : ∀ a, Fl (c2 a)) (hi : ∀ a, i < (Γ1 a).length) (hj : ∀ a, j < (Γ1 a).length) :
    EvS1 E (tPar i j tr) Γ m fun a => ((Γ1 a).set i (k1 a)).set j (k2 a) := es_par (e ▸ h) s1 s2 f2 hi hj
theorem es_par3C {m : Res γ} {Γ1 : γ → List Cell} {c1 c2 c3 : γ → RC} {k1 k2 k3 : γ → Cell} {i j l : Nat} {cs : γ → List RC} (h : EvA E tr Γ m Γ1 cs) (e : cs = fun a => [c1 a, c2 a, c3 a]) (s1 : ∀ a, Sto (c1 a) (k1 a)) (s2 : ∀ a, Sto (c2 a) (k2 a)) (s3 : ∀ a, Sto (c3 a) (k3 a)) (f2 : ∀ a, Fl (c2 a)) (f3 : ∀ a, Fl (c3 a))
    (hi : ∀ a, i < (Γ1 a).length) (hj : ∀ a, j < (Γ1 a).length) (hl : ∀ a, l < (Γ1 a).length) :
    EvS1 E (tPar3 i j l tr) Γ m fun a => (((Γ1 a).set i (k1 a)).set j (k2 a)).set l (k3 a) := es_par3 (e ▸ h) s1 s2 s3 f2 f3 hi hj hl
theorem ei_range1C {m : Res α} {Γ1 : α → List Cell} {n : α → Int} {cs : α → List RC} (h : EvA E tr Γ m Γ1 cs) (e : cs = fun a => [rV (.int (n a))]) : EvI E (iRng1 tr) Γ (m.bind fun a => (rangeR 0 (n a)).bind fun xs => .ok (a, xs)) (fun p => Γ1 p.1) (fun p => p.2.map dat) fun _ _ => True := ei_range1M (e ▸ h)
theorem ei_range2C {m : Res α} {Γ1 : α → List Cell} {a b : α → Int} {cs : α → List RC} (h : EvA E tr Γ m Γ1 cs) (e : cs = fun r => [rV (.int (a r)), rV (.int (b r))]) : EvI E (iRng2 tr) Γ (m.bind fun r => (rangeR (a r) (b r)).bind fun xs => .ok (r, xs)) (fun p => Γ1 p.1) (fun p => p.2.map dat) fun _ _ => True := ei_range2M (e ▸ h)
theorem ei_enumC [Dat α] {m : Res γ} {Γ' : γ → List Cell} {c : γ → RC} {xs : γ → List α} {Kp : γ → List Cell → Prop} {cs : γ → List RC} (h : EvA E tr Γ m Γ' cs) (e : cs = fun a => [c a]) (hs : ∀ a, Src E (Γ' a) (c a) ((xs a).map dat) (Kp a)) : EvI E (iEnum E.K tr) Γ m Γ' (fun a => (enumL (xs a)).map dat) Kp := ei_enumM (e ▸ h) hs
theorem ei_zipC [Dat α] [Dat β] {m : Res γ} {Γ' : γ → List Cell} {c c' : γ → RC} {xs : γ → List α} {ys : γ → List β} {Kp Kp' : γ → List Cell → Prop} {cs : γ → List RC} (h : EvA E tr Γ m Γ' cs) (e : cs = fun a => [c a, c' a]) (hs : ∀ a, Src E (Γ' a) (c a) ((xs a).map dat) (Kp a)) (hs' : ∀ a, Src E (Γ' a) (c' a) ((ys a).map dat) (Kp' a)) :
    EvI E (iZip E.K tr) Γ m Γ' (fun a => ((xs a).zip (ys a)).map dat) fun a Γ'' => Kp a Γ'' ∧ Kp' a Γ'' := ei_zip (e ▸ h) hs hs'
theorem ev_callSC {ma : Res δ} {Γ1 : δ → List Cell} {cs : δ → List RC} {ps : α → List PP} {m : α → Res β} {cb : β → V → Asr} (x : δ → α) (h : EvA E tr Γ ma Γ1 cs) (e : Γ1 = fun _ => Γ) (hp : ∀ a, Pars E Γ K0 (cs a) (ps (x a))) (hx : XOk E Γ) :
    EvJ E (tCallS (Sp0 E.ec ps m cb) (WE E.W) tr) Γ (ma.bind fun a => m (x a)) (fun _ => Γ) (fun b _ => cb b) := ev_callS' x (e ▸ h) hp hx
/-- a part that may go on or end -/
def Jn.sq {τ ρ β : Type} (m : Res (Jn τ ρ)) (k : τ → Res β) (g : ρ → β) : Res β := m.bind fun j => match j with | .go a => k a | .out b => .ok (g b)
theorem es_seqGJ {t u : TS} {ρ : Type} {m : Res (Jn α ρ)} {Γ1 : α → List Cell} {k : α → Res β} {post0 : ρ → Fin} {post : β → Fin} (g : ρ → β) (hg : ∀ r, (post (g r)).out = (post0 r).out) (h1 : EvS E t Γ m (Jn.post Γ1 post0)) (h2 : ∀ a, EvS E u (Γ1 a) (k a) post) :
    EvS E (tSeq t u) Γ (Jn.sq m k g) post := es_seqG g hg h1 h2
theorem es_seqCJ {t u : TS} {m1 : Res (Jn α β)} {Γ1 : α → List Cell} {k : α → Res β} {post : β → Fin} (h1 : EvS E t Γ m1 (Jn.post Γ1 post)) (h2 : ∀ a, EvS E u (Γ1 a) (k a) post) :
    EvS E (tSeq t u) Γ (Jn.sq m1 k fun b => b) post := es_seqC h1 h2
theorem Top.allocX {p : Addr} {ob : HO} {B : Asr} (t : Top A H) (hp : H p = none) (r : ∀ F, F p = none → ∀ H o, B.P (upd F p ob) H o) : Top (sep B A) (upd H p ob) := by
  obtain ⟨F, o, s, k, a⟩ := t
  have ne : ∀ q, o q → q ≠ p := fun q hq e => (k q hq).2 (e ▸ hp)
  have fp : F p = none := by
    cases e : F p with
    | none => rfl
    | some u => rw [s p u e] at hp; cases hp
  have sF : Same F (upd F p ob) := fun b u e => by
    rw [upd_ne (fun z => by rw [z, fp] at e; cases e)]
    exact e
  refine ⟨upd F p ob, o, fun b u e => ?_, fun q hq => ?_, sep_pers (fun _ => r F fp _ _) (A.st sF (fun q hq => upd_ne (ne q hq)) a)⟩
  · by_cases hb : b = p
    · subst hb
      rw [upd_same] at e ⊢
      exact e
    · rw [upd_ne hb] at e ⊢
      exact s b u e
  · rw [upd_ne (ne q hq), upd_ne (ne q hq)]
    exact k q hq
/-- a tuple of classes -/
def tyT (ns : List String) (v : V) : Asr := ⟨fun F _ _ => ∃ p, v = .ref p ∧ F p = some (.tup (ns.map V.ty)), fun s _ ⟨p, e, h⟩ => ⟨p, e, s _ _ h⟩, fun _ h => h⟩
theorem ev_tyT2 {a b : String} : EvP E (tTup (tCons (tC (.ty a)) (tCons (tC (.ty b)) tNil))) Γ (fun _ v => tyT [a, b] v) := fun σ H R Q t q =>
  ⟨(show 2 ≤ sizeLine by decide), fun p hp => q (.ref p) _ (((Top.allocX (B := tyT [a, b] (.ref p)) (ob := .tup [.ty a, .ty b]) t hp fun F fp H o => ⟨p, rfl, upd_same⟩)).ent frontE)⟩
theorem tyT_pair : ∀ ns : List String, Paired ClsV (ns.map V.ty) (ns.map Value.type)
  | [] => .nil
  | n :: ns => .cons (.ty n) (tyT_pair ns)
theorem rn_isiT {ns : List String} {b : Bool} (hk : PySem.W.kitAny E.K (.type (tyName d)) (ns.map Value.type) = some b) : RnP E (rIsiT E.K) [rV d, fun _ v => tyT ns v] Γ (rV (.bool b)) := fun σ H R Q vs t q => by
  obtain ⟨x, y, rfl, t1⟩ := two_args t
  obtain ⟨F, s, z⟩ := top1 t1
  obtain ⟨p, rfl, hp⟩ : ∃ p, y = .ref p ∧ H p = some (.tup (ns.map V.ty)) := t1.fact fun F o s ⟨_, _, _, _, _, _, ⟨_, _, _, _, _, _, ⟨_, _, _, _, _, ⟨p, e, h⟩, _⟩⟩⟩ => ⟨p, e, s _ _ h⟩
  exact ⟨x, p, _, .type (tyName d), _, b, rfl, hp, tyT_pair ns, ty_of s z, hk, q _ H (res2 t1 fun F => .bl _)⟩
theorem rn_isiTL {ns : List String} {ds : List PyData} {b : Bool} (h : PArg E Γ K0 cx (ppL ds)) (hk : PySem.W.kitAny E.K (.type "list") (ns.map Value.type) = some b) : RnP E (rIsiT E.K) [cx, fun _ v => tyT ns v] Γ (rV (.bool b)) := fun σ H R Q vs t q => by
  obtain ⟨x, y, rfl, t1⟩ := two_args t
  obtain ⟨a, ws, rfl, e, _, _⟩ := readL h t1
  obtain ⟨p, rfl, hp⟩ : ∃ p, y = .ref p ∧ H p = some (.tup (ns.map V.ty)) := t1.fact fun F o s ⟨_, _, _, _, _, _, ⟨_, _, _, _, _, _, ⟨_, _, _, _, _, ⟨p, e, h⟩, _⟩⟩⟩ => ⟨p, e, s _ _ h⟩
  exact ⟨_, p, _, .type "list", _, b, rfl, hp, tyT_pair ns, .base (.lst e), hk, q _ H (res2 t1 fun F => .bl _)⟩
def kitAnyB (a : String) : List String → Option Bool
  | [] => some false
  | n :: ns => match kitB a n with
    | some true => some true
    | some false => kitAnyB a ns
    | none => none
theorem kit_any {K : PySem.W.Frag} {a : String} : ∀ {ns : List String} {b : Bool}, kitAnyB a ns = some b → PySem.W.kitAny K (.type a) (ns.map Value.type) = some b
  | [], b, h => by
    cases h
    rfl
  | n :: ns, b, h => by
    unfold kitAnyB at h
    cases e : kitB a n with
    | none => rw [e] at h; cases h
    | some c =>
      rw [e] at h
      cases c with
      | true =>
        cases h
        exact kitAny_cons (kit_ty e) (fun z => by cases z) fun _ => rfl
      | false => exact kitAny_cons (kit_ty e) (fun _ => kit_any h) fun z => by cases z
theorem etp_eq {a b : Bool} (h : EvTP E tt Γ a) (e : a = b) : EvTP E tt Γ b := e ▸ h
theorem es_ifFF {t u : TS} {m : Res β} {post : β → Fin} (h : EvTP E tt Γ false) (h2 : EvS E u Γ m post) : EvS E (tSeq (tIfS tt t tNext) u) Γ m post := fun σ H R D t0 q =>
  h σ H R _ t0 fun H1 t1 => h2 σ H1 R D t1 q
theorem ev_callS1M {mk : List PyData → Cell} {i : Nat} {ma : Res δ} {Γ1 : δ → List Cell} {cs : δ → List RC} {ps : Addr → α → List PP} {i0 : α → List PyData} {m : α → Res β} {i1 : β → List PyData} {cb : β → V → Asr} (x : δ → α) (hk : OwnC mk) (h : EvA E tr Γ ma Γ1 cs) (hi : ∀ a, (Γ1 a)[i]? = some (mk (i0 (x a))))
    (hp : ∀ a p, Pars E ((Γ1 a).set i cAny) (K1 i p) (cs a) (ps p (x a))) (hx : ∀ a, XOk E (Γ1 a)) : EvJ E (tCallS (Sp1 E.ec ps i0 m i1 cb) (WE E.W) tr) Γ (ma.bind fun a => (m (x a)).bind fun b => .ok (a, b)) (fun r => (Γ1 r.1).set i (mk (i1 r.2))) (fun r _ => cb r.2) := fun σ H R Q t q =>
  h σ H R _ t (wp_mono (wp_bind.mp q) (fun a _ q1 vs H1 t1 => call1_core hk (hi a) (hp a) (hx a) (fun k H z => z) t1 (wp_mono (wp_bind.mp q1) (fun b _ q2 => q2) fun _ z => z)) fun _ z => z)
theorem ev_call01M {mk : List PyData → Cell} {i : Nat} {ma : Res δ} {Γ1 : δ → List Cell} {cs : δ → List RC} {ps : Addr → α → List PP} {i0 : α → List PyData} {m : α → Res β} {i1 : β → List PyData} {cb : β → V → Asr} (x : δ → α) (hk : OwnC mk) (h : EvA E tr Γ ma Γ1 cs) (hi : ∀ a, (Γ1 a)[i]? = some (mk (i0 (x a))))
    (hp : ∀ a p, Pars E ((Γ1 a).set i cAny) (K1 i p) (cs a) (ps p (x a))) (hx : ∀ a, XOk E (Γ1 a)) (hc : Calm E) : EvJ E (tCall (Sp1 E.ec ps i0 m i1 cb) [] E0 tr) Γ (ma.bind fun a => (m (x a)).bind fun b => .ok (a, b)) (fun r => (Γ1 r.1).set i (mk (i1 r.2))) (fun r _ => cb r.2) := fun σ H R Q t q =>
  h σ H R _ t (wp_mono (wp_bind.mp q) (fun a _ q1 vs H1 t1 => by
    rw [List.append_nil]
    exact call1_core hk (hi a) (hp a) (hx a) (fun k H z => (hc _ _ _ _ z).elim) t1 (wp_mono (wp_bind.mp q1) (fun b _ q2 => q2) fun _ z => z)) fun _ z => z)
/-- a promise that no reduction looks into -/
structure WP {α : Type} (m : Res α) (Q : α → Prop) (X : Nat → Prop) : Prop where
  wp : m.wp Q X
theorem sp0_go {ec : Nat → Value} {ps : α → List PP} {m : α → Res β} {c : β → V → Asr} {vs : List V} {Q : VK} {X : XK} {G : Prop} (h : Sp0 ec ps m c vs H Q X)
    (k : ∀ (x : α) (C : Asr), Top C H → (∀ F H o, Same F H → C.P F H o → parOk (ps x) vs F H) → WP (m x) (fun b => ∀ v H', Top (sep C (c b v)) H' → Q v H') (fun k => ∀ H', Top C H' → X (ec k) none H') → G) : G := by
  obtain ⟨x, C, a, b, d⟩ := h
  exact k x C a b ⟨d⟩
theorem sp1_go {ec : Nat → Value} {ps : Addr → α → List PP} {i0 : α → List PyData} {m : α → Res β} {i1 : β → List PyData} {c : β → V → Asr} {vs : List V} {Q : VK} {X : XK} {G : Prop} (h : Sp1 ec ps i0 m i1 c vs H Q X)
    (k : ∀ (p : Addr) (x : α) (C : Asr), Top (sep C (oA p (i0 x))) H → (∀ F H o, Same F H → C.P F H o → parOk (ps p x) vs F H) → WP (m x) (fun b => ∀ v H', Top (sep C (sep (oA p (i1 b)) (c b v))) H' → Q v H') (fun k => ∀ H', Top (sep C (oA p (i0 x))) H' → X (ec k) none H') → G) : G := by
  obtain ⟨p, x, C, a, b, d⟩ := h
  exact k p x C a b ⟨d⟩
theorem evp_andF (h : EvP E ta Γ (rV (.bool false))) : EvP E (tAndV ta tb) Γ (rV (.bool false)) := fun σ H R Q t q => h σ H R _ t fun v H1 t1 => ⟨false, bl_of t1, q (.bl false) H1 (bl_of t1 ▸ t1)⟩
theorem etp_orT (h : EvTP E tt Γ true) : EvTP E (tOr tt tu) Γ true := fun σ H R Q t q => h σ H R _ t fun H1 t1 => q H1 t1
theorem es_ifTT {t u : TS} {m : Res β} {post : β → Fin} (h : EvTP E tt Γ true) (h1 : EvS E t Γ m fun b => (post b).out) : EvS E (tSeq (tIfS tt t tNext) u) Γ m post := fun σ H R D t0 q =>
  h σ H R _ t0 fun H1 t1 => h1 σ H1 R { D with nx := u D } t1 (wp_mono q (fun b _ q1 => Fin.out_ok q1) fun _ x => x)
theorem ev_bwX {i : Nat} (hi : Γ[i]? = some (cIs v)) (h : Bw E v (ppX d)) (hd : ∀ ds, d ≠ .list ds) : EvP E (tVar i) Γ (rV d) := fun σ H R Q t q => by
  obtain ⟨F, o, s, kk, o1, o2, h1, h2, e, ⟨o3, o4, h3, h4, e', a, b⟩, b2⟩ := t
  obtain ⟨x, ex, hx⟩ := sl_get hi a
  have e1 : x = some v := hx
  subst e1
  have z : Rp F v d := by
    rcases h F H _ s b with z | ⟨ds, e, _⟩
    · exact z
    · exact (hd ds e).elim
  exact ⟨v, ex, q v H ⟨F, o, s, kk, o1, o2, h1, h2, e, ⟨o3, o4, h3, h4, e', a, b⟩, sep_pers (fun _ => z) b2⟩⟩
theorem tyX_of {K : PySem.W.Frag} {F : Hp} (s : Same F H) (h : ppX d x F H) : TyX K H x (.type (tyName d)) := by
  rcases h with z | ⟨ds, rfl, p, vs, rfl, e, r⟩
  · exact ty_of s z
  · exact .base (.lst e)
theorem rn_isiX {n : String} {b : Bool} (h : PArg E Γ K0 cx (ppX d)) (hk : PySem.W.kitOne E.K (.type (tyName d)) (.type n) = some b) : RnP E (rIsi E.K) [cx, fun _ v => pur (v = .ty n)] Γ (rV (.bool b)) := fun σ H R Q vs t q => by
  obtain ⟨x, y, rfl, t1⟩ := two_args t
  obtain ⟨F, s, z⟩ := par1 h t1
  have ey : y = .ty n := t1.fact fun F o s ⟨_, _, _, _, _, _, ⟨_, _, _, _, _, _, ⟨_, _, _, _, _, e, _⟩⟩⟩ => e
  subst ey
  exact ⟨x, .ty n, .type (tyName d), .type n, b, rfl, .ty n, tyX_of s z, hk, q _ H (res2 t1 fun F => .bl _)⟩
def isIntD (d : PyData) (a b : Int) : Bool := match d with
  | .int i => decide (a ≤ i) && decide (i ≤ b)
  | _ => false
abbrev tIsi (K : PySem.W.Frag) (te : TE) (n : String) : TE := tCB (rIsi K) (tCons te (tCons (tC (.ty n)) tNil))
theorem ev_isiX {n : String} {b : Bool} {i : Nat} (hi : Γ[i]? = some (cIs v)) (h : Bw E v (ppX d)) (hk : PySem.W.kitOne E.K (.type (tyName d)) (.type n) = some b) : EvP E (tIsi E.K (tVar i) n) Γ (rV (.bool b)) :=
  evp_cb (eap_cons (ev_slot hi no_Is) (eap_cons ev_ty eap_nil)) (rn_isiX (pa_bw hi h) hk)
abbrev rLe' : R2 := rI0 fun i j => .bl (decide (i ≤ j))
theorem ev_is_integer {a b : Int} {i j k : Nat} (hi : Γ[i]? = some (cIs v)) (hj : Γ[j]? = some (cV (.int a))) (hk : Γ[k]? = some (cV (.int b))) (h : Bw E v (ppX d)) (nd : ∀ kvs, d ≠ .dict kvs) :
    EvP E (tAndV (tIsi E.K (tVar i) "int") (tAndV (tNotV (tIsi E.K (tVar i) "bool")) (tChain rLe' rLe' (tVar j) (tVar i) (tVar k)))) Γ (rV (.bool (isIntD d a b))) := by
  cases d with
  | int n =>
    have h1 : EvP E (tIsi E.K (tVar i) "int") Γ (rV (.bool true)) := ev_isiX hi h (kit_ty (show kitB "int" "int" = some true by decide +kernel))
    have h2 : EvP E (tIsi E.K (tVar i) "bool") Γ (rV (.bool false)) := ev_isiX hi h (kit_ty (show kitB "int" "bool" = some false by decide +kernel))
    have h3 : EvP E (tVar i) Γ (rV (.int n)) := ev_bwX hi h (fun _ z => by cases z)
    have z : EvP E _ Γ (rV (.bool (true && (!false && (decide (a ≤ n) && decide (n ≤ b)))))) := evp_and h1 (evp_and (evp_not h2) (evp_chain (p := fun i j => decide (i ≤ j)) (p' := fun i j => decide (i ≤ j)) (ev_var hj) h3 (ev_var hk) (ch_B0 (g := fun i j => decide (i ≤ j))) (ch_B0 (g := fun i j => decide (i ≤ j)))))
    exact z
  | bool n =>
    have h1 : EvP E (tIsi E.K (tVar i) "int") Γ (rV (.bool true)) := ev_isiX hi h (kit_ty (show kitB "bool" "int" = some true by decide +kernel))
    have h2 : EvP E (tIsi E.K (tVar i) "bool") Γ (rV (.bool true)) := ev_isiX hi h (kit_ty (show kitB "bool" "bool" = some true by decide +kernel))
    exact evp_and h1 (evp_andF (evp_not h2))
  | none =>
    have h1 : EvP E (tIsi E.K (tVar i) "int") Γ (rV (.bool false)) := ev_isiX hi h (kit_ty (show kitB "NoneType" "int" = some false by decide +kernel))
    exact evp_andF h1
  | str z =>
    have h1 : EvP E (tIsi E.K (tVar i) "int") Γ (rV (.bool false)) := ev_isiX hi h (kit_ty (show kitB "str" "int" = some false by decide +kernel))
    exact evp_andF h1
  | list z =>
    have h1 : EvP E (tIsi E.K (tVar i) "int") Γ (rV (.bool false)) := ev_isiX hi h (kit_ty (show kitB "list" "int" = some false by decide +kernel))
    exact evp_andF h1
  | tuple z =>
    have h1 : EvP E (tIsi E.K (tVar i) "int") Γ (rV (.bool false)) := ev_isiX hi h (kit_ty (show kitB "tuple" "int" = some false by decide +kernel))
    exact evp_andF h1
  | dict z => exact (nd z rfl).elim
/-- no dict is among frozen data -/
theorem nd_of {F : Hp} (h : ppX d x F H) : ∀ kvs, d ≠ .dict kvs := fun kvs e => by
  subst e
  rcases h with z | ⟨ds, e, _⟩
  · cases z
  · cases e
def isStartD (d : PyData) : Bool := match d with
  | .list ds => decide (1 ≤ ds.length) && decide (ds.length ≤ 30) && ds.all fun d => isIntD d 0 1000000000000000000000000000000
  | _ => false
def isCardsD (d : PyData) : Bool := match d with
  | .list ds => decide (ds.length ≤ 200) && ds.all fun d => isIntD d 1 1000000000000000000000000000000
  | _ => false
theorem bwL_of {ds : List PyData} (h : Bw E v (ppX (.list ds))) : Bw E v (ppL (ds.map dat)) := fun F H o s c => by
  have e : ds.map (dat : PyData → PyData) = ds := List.map_id ds
  rw [e]
  rcases h F H o s c with z | ⟨ds', e, z⟩
  · exact ppL_of s z
  · cases e
    exact z
/-- the test that a value is no list -/
theorem et_nolist {i : Nat} (hi : Γ[i]? = some (cIs v)) (h : Bw E v (ppX d)) (hd : ∀ ds, d ≠ .list ds) (nd : ∀ kvs, d ≠ .dict kvs) : EvTP E (tNot (tB (tIsi E.K (tVar i) "list"))) Γ true := by
  have z : EvP E (tIsi E.K (tVar i) "list") Γ (rV (.bool false)) := by
    cases d with
    | list ds => exact (hd ds rfl).elim
    | dict ds => exact (nd ds rfl).elim
    | none => exact ev_isiX hi h (kit_ty (show kitB "NoneType" "list" = some false by decide +kernel))
    | bool b => exact ev_isiX hi h (kit_ty (show kitB "bool" "list" = some false by decide +kernel))
    | int b => exact ev_isiX hi h (kit_ty (show kitB "int" "list" = some false by decide +kernel))
    | str b => exact ev_isiX hi h (kit_ty (show kitB "str" "list" = some false by decide +kernel))
    | tuple b => exact ev_isiX hi h (kit_ty (show kitB "tuple" "list" = some false by decide +kernel))
  exact etp_not (et_val (b := fun _ => false) z)
end
section
variable {K : PySem.W.Frag} {Ex : XK} {ec : Nat → Value} {C : Asr} {Q : VK} {H : Hp} {σ : St} {t : TS} {β : Type} {m : Res β} {c : β → V → Asr} {Γ0 : List Cell} {Γr : β → List Cell}
theorem fin0W (hT : Top C H) (hin : ∀ F o, Same F H → C.P F H o → allP F H σ Γ0) (hw : WP m (fun b => ∀ v H', Top (sep C (c b v)) H' → Q v H') fun k => ∀ H', Top C H' → Ex (ec k) none H')
    (hb : EvS (Ecf K Ex ec C) t Γ0 m fun b => .rt (Γr b) fun _ => c b) : t { nx := fun _ H' => Q .non H', rt := Q } σ H := fin0 hT hin hw.wp hb
theorem fin0NW (hT : Top C H) (hin : ∀ F o, Same F H → C.P F H o → allP F H σ Γ0) (hw : WP m (fun b => ∀ v H', Top (sep C (vA .none v)) H' → Q v H') fun k => ∀ H', Top C H' → Ex (ec k) none H')
    (hb : EvS (Ecf K Ex ec C) t Γ0 m fun b => .nx (Γr b)) : t { nx := fun _ H' => Q .non H', rt := Q } σ H := fin0N hT hin hw.wp hb
theorem fin1W {p : Addr} {i : Nat} {i0 : List PyData} {i1 : β → List PyData} {Γ : List Cell} {Er : Nat → Prop} (hT : Top (sep C (oA p i0)) H) (hi : i < Γ.length) (hs : σ[i]? = some (some (.ref p))) (hin : ∀ F o, Same F H → C.P F H o → allP F H σ (Γ.set i cAny)) (hr : ∀ b, (Γr b)[i]? = some (cAt p (i1 b)))
    (hw : WP (noErr m) (fun b => ∀ v H', Top (sep C (sep (oA p (i1 b)) (c b v))) H' → Q v H') Er)
    (hb : EvS (Ecf K Ex ec C) t (Γ.set i (cAt p i0)) m fun b => .rt (Γr b) fun _ => c b) : t { nx := fun _ H' => Q .non H', rt := Q } σ H := fin1 hT hi hs hin hr hw.wp hb
end
end Lc
/-! Lc: more: a value that may be None, sorted -/
namespace Lc
open PySem L2
section
variable {E : Ec} {Γ : List Cell} {R A : Asr} {H : Hp} {cx : RC} {α β γ : Type} {te : TE} {tr : TA} {t : TS}
open Res
instance : Dflt (Option α) := ⟨none⟩
def unO : Option α → Res α
  | some a => .ok a
  | none => .bad
theorem es_unO [Dat α] {i : Nat} {o : Option α} {m : α → Res β} {post : β → Fin} (h0 : Γ[i]? = some (cV (dat o))) (h : ∀ a, EvS E t (Γ.set i (cV (dat a))) (m a) post) : EvS E t Γ ((unO o).bind m) post := by
  cases o with
  | none => exact fun σ H R D t0 q => (show False from q).elim
  | some a =>
    obtain ⟨hl, e⟩ := List.getElem?_eq_some_iff.mp h0
    have z := h a
    have e2 : Γ.set i (cV (dat a)) = Γ := by
      have : Γ.set i (Γ[i]) = Γ := List.set_getElem_self hl
      rw [e] at this
      exact this
    rw [e2] at z
    exact z
theorem sort_uniq : ∀ {a b : List Int}, a.Perm b → a.Pairwise (· ≤ ·) → b.Pairwise (· ≤ ·) → a = b
  | [], b, p, _, _ => (List.nil_perm.mp p).symm
  | x :: a, [], p, _, _ => (List.perm_nil.mp p)
  | x :: a, y :: b, p, ha, hb => by
    have h1 := List.pairwise_cons.mp ha
    have h2 := List.pairwise_cons.mp hb
    have hx : x ∈ y :: b := p.subset List.mem_cons_self
    have hy : y ∈ x :: a := p.symm.subset List.mem_cons_self
    have e : x = y := by
      rcases List.mem_cons.mp hx with e | hx
      · exact e
      · rcases List.mem_cons.mp hy with e | hy
        · exact e.symm
        · have := h1.1 y hy
          have := h2.1 x hx
          omega
    subst e
    rw [sort_uniq (p.cons_inv) h1.2 h2.2]
def sortL (l : List Int) : List Int := l.mergeSort
theorem sortL_perm (l : List Int) : (sortL l).Perm l := List.mergeSort_perm l _
theorem sortL_sorted (l : List Int) : (sortL l).Pairwise (· ≤ ·) := by
  have := List.pairwise_mergeSort (le := fun a b : Int => decide (a ≤ b)) (fun a b c h1 h2 => by simp at *; omega) (fun a b => by simp; omega) l
  exact this.imp fun h => by simpa using h
theorem rn_sorted {ns : List Int} (h : PArg E Γ K0 cx (ppS E.K (ns.map dat))) : RnP E (rSortedI E.K) [cx] Γ (rO ((sortL ns).map dat)) := fun σ H R Q vs t q => by
  obtain ⟨x, rfl, t1⟩ := one_arg t
  obtain ⟨a, rfl, hs⟩ := ints_of h t1
  refine ⟨a, ns, rfl, hs, fun ns' p hp ho hn => ?_⟩
  have e : ns' = sortL ns := sort_uniq (hp.trans (sortL_perm ns).symm) ho (sortL_sorted ns)
  subst e
  exact q _ _ ((newL t1 hn fun F o s _ => RpAll.of_ints _).ent (Ent.sepR (Ent.sepR Ent.right)))
theorem RpAll_erase {F : Hp} {vs : List V} {ds : List PyData} (r : RpAll F vs ds) (j : Nat) : RpAll F (vs.eraseIdx j) (ds.eraseIdx j) := by
  rw [List.eraseIdx_eq_take_drop_succ, List.eraseIdx_eq_take_drop_succ]
  exact (r.take j).append (r.drop (j + 1))
/-- xs.pop(k) -/
def popR {α : Type} (xs : List α) (k : Int) : Res (α × List α) := need (xs.length ≤ lim) (match ixN xs.length k with
  | some j => match xs[j]? with
    | some a => .ok (a, xs.eraseIdx j)
    | none => .bad
  | none => .bad)
theorem ev_popAt [Dat α] {mk : List PyData → Cell} {i : Nat} {xs : List α} {k : Int} (hk : OwnC mk) (h : EvP E te Γ (rV (.int k))) (hi : Γ[i]? = some (mk (xs.map dat))) :
    EvJ E (tBM E.K "list" rPopAt (tVar i) (tCons te tNil)) Γ (popR xs k) (fun r => Γ.set i (mk (r.2.map dat))) (fun r => rV (dat r.1)) := fun σ H R Q t q => by
  obtain ⟨hn, q⟩ := wp_need q
  obtain ⟨p, hs, t2, _⟩ := take_own (A := R) hk hi t
  obtain ⟨vs, ep, _⟩ := own_at t2
  refine ⟨_, hs, .inl ⟨rfl, vs, SqL.of ep⟩, ?_⟩
  refine h σ H R _ t fun w H1 t1 => ?_
  have ew : w = .int k := int1 t1
  subst ew
  have t3 := t1.ent (Ent.sepR Ent.right)
  obtain ⟨p', hs', t4, back⟩ := take_own hk hi t3
  rw [hs] at hs'
  cases hs'
  obtain ⟨vs', ep', ln⟩ := own_at t4
  rw [List.length_map] at ln
  cases ej : ixN xs.length k with
  | none =>
    rw [ej] at q
    exact (show False from q).elim
  | some j =>
    rw [ej] at q
    obtain ⟨sq, jl, b1, b2⟩ := ixN_seq ej
    cases ea : xs[j]? with
    | none =>
      simp only [ea] at q
      exact (show False from q).elim
    | some a =>
      simp only [ea] at q
      have hj : j < vs'.length := by omega
      have hv : vs'[j]? = some vs'[j] := List.getElem?_eq_getElem hj
      have l62 : (xs.length : Int) ≤ 16000000 := by
        have : xs.length ≤ 16000000 := hn
        omega
      refine ⟨p, vs', k, j, vs'[j], rfl, rfl, ep', by omega, by omega, by rw [ln]; exact sq, hv, q _ _ ?_⟩
      have t5 := t4.addV (v := vs'[j]) (d := dat a) fun F o s ⟨_, _, _, _, _, _, ⟨_, vs'', e2, r⟩⟩ => by
        rw [ep'] at e2
        cases e2
        obtain ⟨v', e3, r3⟩ := r.get (i := j) (d := dat a) (by simp [ea])
        rw [hv] at e3
        cases e3
        exact r3
      have t6 := own_write (σ := σ) (es := (xs.eraseIdx j).map dat) (ws := vs'.eraseIdx j) (t5.ent Ent.assoc') fun F o vs'' s z e2 r => by
        rw [ep'] at e2
        cases e2
        have := RpAll_erase r j
        rw [List.eraseIdx_eq_take_drop_succ (l := xs.map dat)] at this
        rw [List.eraseIdx_eq_take_drop_succ (l := xs), List.map_append, List.map_take, List.map_drop]
        exact this
      exact ((t6.ent Ent.assoc).ent (Ent.sepR (back _))).ent frontE
/-- xs.extend(ys), ys new -/
theorem es_extendTM [Dat α] {mk : List PyData → Cell} {i : Nat} {m : Res γ} {Γ1 : γ → List Cell} {xs ys : γ → List α} {ds0 : List PyData} (hk : OwnC mk) (h : EvJ E te Γ m Γ1 fun a => rO ((ys a).map dat)) (h0 : Γ[i]? = some (mk ds0)) (hi : ∀ a, (Γ1 a)[i]? = some (mk ((xs a).map dat))) :
    EvS1 E (tDrop (tBM E.K "list" rExtend (tVar i) (tCons te tNil))) Γ (m.bind fun a => need ((xs a).length + (ys a).length ≤ lim) (.ok a)) fun a => (Γ1 a).set i (mk ((xs a ++ ys a).map dat)) := fun σ H R D t q => by
  obtain ⟨p, hs, t2, _⟩ := take_own (A := R) hk h0 t
  obtain ⟨vs, ep, _⟩ := own_at t2
  refine ⟨_, hs, .inl ⟨rfl, vs, SqL.of ep⟩, ?_⟩
  refine h σ H R _ t (wp_mono (wp_bind.mp q) (fun a _ q w H1 t1 => ?_) fun _ x => x σ)
  obtain ⟨hn, q⟩ := wp_need q
  obtain ⟨p', hs', t4, back⟩ := take_own hk (hi a) t1
  rw [hs] at hs'
  cases hs'
  obtain ⟨vs', ep', ln⟩ := own_at t4
  rw [List.length_map] at ln
  obtain ⟨b, zs, rfl, eb, lb⟩ : ∃ b zs, w = .ref b ∧ H1 b = some (.lst zs) ∧ zs.length = (ys a).length := t4.fact fun F o s ⟨_, _, _, _, _, ⟨_, _, _, _, _, _, ⟨_, _, _, _, _, ⟨b, e, _, zs, eb, r⟩, _⟩⟩, _⟩ => ⟨b, zs, e, eb, by rw [r.len, List.length_map]⟩
  refine ⟨p, b, vs', zs, rfl, rfl, ep', eb, by rw [ln, lb]; exact lim_le hn, q σ _ ?_⟩
  have t5 := own_write (σ := σ) (es := (xs a ++ ys a).map dat) (ws := vs' ++ zs) t4 fun F o vs'' s z e2 r => by
    rw [ep'] at e2
    cases e2
    obtain ⟨_, _, _, _, _, _, ⟨_, _, _, _, _, ⟨b', e, _, zs', eb', r'⟩, _⟩⟩ := z
    cases e
    rw [eb] at eb'
    cases eb'
    rw [List.map_append]
    exact r.append r'
  exact (t5.ent (back _)).ent (Ent.sepR Ent.right)
theorem eqDK {X : Cx} (K : PySem.W.Frag) (h : X.K = K) (hu : X.A.units + 64 < cLine) : OpR X (compareOp .Eq) (rEqD K) := h ▸ op_eqD hu
theorem neDK {X : Cx} (K : PySem.W.Frag) (h : X.K = K) (hu : X.A.units + 64 < cLine) : OpR X (compareOp .NotEq) (rNeD K) := h ▸ op_neD hu
theorem sortedK {X : Cx} (K : PySem.W.Frag) (h : X.K = K) : CallR X (.builtin "sorted") (rSortedI K) := h ▸ cr_sortedI
end
end Lc
/-! Lc: a law's end -/
namespace Lc
open PySem L2
def scA (K : PySem.W.Frag) (p : Addr) (vs : List V) : Asr := ⟨fun F _ _ => ∀ H, Same F H → SqL K H p vs, fun s _ h H t => h H (Same.trans s t), fun _ h => h⟩
theorem sql_same {K : PySem.W.Frag} {H H' : Hp} {a : Addr} {xs : List V} (h : SqL K H a xs) (e : Same H H') : SqL K H' a xs :=
  h.elim (fun h => .inl (h.elim (fun h => .inl (e _ _ h)) fun ⟨o, h⟩ => .inr ⟨o, e _ _ h⟩)) fun h => .inr h
def spLaw (K : PySem.W.Frag) : Sp := fun vs H Q _ => ∃ (a : Addr) (ns : List Int), vs = [.ref a] ∧ SqL K H a (ns.map V.int) ∧ ns.length ≤ 63 ∧ ∀ H', Q (.bl true) H'
theorem law_sp {ec : Nat → Value} {K : PySem.W.Frag} {m : List Int → Res Bool} (hm : ∀ ns, ns.length ≤ 63 → m ns = .ok true) (vs : List V) (H : Hp) (Q : VK) (E : XK) (h : spLaw K vs H Q E) :
    Sp0 ec (fun x : List Int => [ppS K (x.map dat)]) m (fun b => vA (.bool b)) vs H Q E := by
  obtain ⟨a, ns, rfl, hS, hl, q⟩ := h
  refine ⟨ns, scA K a (ns.map V.int), ⟨H, fun _ => False, fun _ _ h => h, fun _ h => h.elim, fun H' s => sql_same hS s⟩, fun F H' o s c => ⟨⟨a, _, rfl, c H' s, RpAll.of_ints ns⟩, trivial⟩, ?_⟩
  rw [hm ns hl]
  intro v H' t
  have e : v = .bl true := t.fact fun F o s ⟨_, _, _, _, _, _, r⟩ => by
    cases r
    rfl
  subst e
  exact q H'
theorem walk {l : PySem.W.OpenLaw} {q : Program} {loose : List Str} {XP : (Str → Option Value) → Heap → Prop} {YP : World → Heap → Prop} {d : DefRec} {K : Params → PySem.W.Frag} {k : Nat} (hn : l.most = some 63) (hdf : d.params.defaults = []) (hr : Room k callerA)
    (hY : ∀ (w : World) (h : Heap), YP w h → (K w.params).In h)
    (F : ∀ (w : World) (mg : Str → Option Value) (fa : Addr) (h : Heap), (K w.params).In h → h.Ns mainGlobals mg → mg d.name = some (.ref fa) →
      ∃ fd : FuncData, (∀ (s : Shared) (u : Value), BindsTo s fd ⟨[u], []⟩ [("script", u)]) ∧ ∀ base : Heap, (K w.params).In base → base.Ns mainGlobals mg → FnOk l.prog w (K w.params) mg base (L2.CX l.prog w) k fa fd ["script"] (spLaw (K w.params))) :
    PySem.W.WalkO q loose XP YP l.row.toRowW d [] (fun f vs => PySem.call f vs) :=
  L2.walk_of (n := 63) (k := k) (x := "script") (CX := fun w => L2.CX l.prog w) (sp := fun w => spLaw (K w.params)) hn (by decide) hdf hr hY F (fun _ _ a ns hl _ hS => ⟨a, ns, rfl, hS, hl, fun _ => rfl⟩) fun _ _ _ _ _ ⟨_, _, _, _, _, _, _, _, _, _, _, _, z⟩ => z
end Lc
/-! Lc: defs called where no repr is under way (guards = []), calls with keywords, repr -/
namespace Lc
open PySem L2 PySem.Spec PyProof.Rows

structure RoomG (gp : Prop) (k : Nat) (A : Around) : Prop where
  rm : Room k A
  gd : gp → A.guards = some []
theorem RoomG.mono {gp : Prop} {j k : Nat} {A : Around} (r : RoomG gp k A) (h : j ≤ k) : RoomG gp j A := ⟨r.rm.mono h, r.gd⟩
theorem RoomG.deeper {gp : Prop} {k : Nat} {A : Around} (r : RoomG gp (k + 1) A) (env : Env) : RoomG gp k (A.deeper env) := ⟨r.rm.deeper env, r.gd⟩
theorem RoomG.un {gp : Prop} {k : Nat} {A : Around} (r : RoomG gp k A) : A.units + 16 * k + 200 < cLine := r.rm.un

structure FnG (gp : Prop) (P : Program) (w : World) (K : PySem.W.Frag) (mg : Str → Option Value) (base : Heap) (CX : CXT) (k : Nat) (f : Addr) (fd : FuncData) (ps : List Str) (sp : Sp) : Prop where
  len : ∀ vs H Q E, sp vs H Q E → vs.length = ps.length
  run : ∀ (A : Around) (outer : List Env) (s : Shared) (H : Hp) (args : Args) (us : List Value) (vs : List V) (Q : VK) (E : XK), RoomG gp k A → Env0 P w K mg base A outer s H → BindsTo s fd args (ps.zip us) → Vals vs us → sp vs H Q E →
    codeAny (model P w) A (.call (.ref f) args) (CR CX outer P w H s Q E) s
theorem FnG.imp {gp : Prop} {P : Program} {w : World} {K : PySem.W.Frag} {mg : Str → Option Value} {base : Heap} {CX : CXT} {k : Nat} {f : Addr} {fd : FuncData} {ps : List Str} {sp sp' : Sp} (F : FnG gp P w K mg base CX k f fd ps sp)
    (h : ∀ vs H Q E, sp' vs H Q E → sp vs H Q E) : FnG gp P w K mg base CX k f fd ps sp' :=
  ⟨fun vs H Q E q => F.len vs H Q E (h _ _ _ _ q), fun A outer s H args us vs Q E hr he hb hv hs => F.run A outer s H args us vs Q E hr he hb hv (h _ _ _ _ hs)⟩

section
variable {P : Program} {w : World} {K : PySem.W.Frag} {mg : Str → Option Value} {base : Heap}
theorem fn_ofG {CX : CXT} {k : Nat} {f : Addr} {name qual : Str} {params : Arguments} {body : List Stmt} {scope : Scope} {dV kV doc pm cdv ct oc : Value} {an od : Option Addr}
    {osl : Array (Option Value)} {N ps : List Str} {sp : Sp} (lk : K.lookup f = some ⟨oc, od, .func (PySem.W.fnOf name qual params body scope dV kV doc pm an cdv ct), osl⟩) (hcd : PySem.W.codeIn K cdv qual = true) (S : FnScope N ps scope)
    (len : ∀ vs H Q E, sp vs H Q E → vs.length = ps.length)
    (hbody : ∀ (A : Around) (outer : List Env) (s : Shared) (H : Hp) (vs : List V) (Q : VK) (E : XK), RoomG gp k (A.deeper (envOfC qual scope s.heap.objs.size f cdv)) → sp vs H Q E →
      ∃ t, PSs (cxOf CX P w K mg base N qual scope f cdv A outer s H E) body t ∧ t { nx := fun _ H' => Q .non H', rt := Q } (start N vs) H) :
    FnG gp P w K mg base CX (k + 1) f (PySem.W.fnOf name qual params body scope dV kV doc pm an cdv ct) ps sp := by
  refine ⟨len, fun A outer s H args us vs Q E hr e0 hb r hsp => ?_⟩
  have hl := len _ _ _ _ hsp
  have KX : K.In s.heap := e0.mod.kin.keeps fun b o e => (e0.bs b o e).1
  have lim : s.heap.NoLimit := e0.mod.nolimit.keeps fun b o e => (e0.bs b o e).1
  have hkind : ∀ y ∈ ps.zip us, scope.names.lookup y.1 = some .local ∨ (scope.names.lookup y.1 = some .cell ∧ ((cellsFrom (s.heap.objs.size + 1) scope.names []).lookup y.1).isSome = true) := fun ⟨n, v⟩ hy => by
    rcases S.par n (List.of_mem_zip hy).1 with q | q
    · exact .inl q
    · exact .inr ⟨q, PySem.W.cellsFrom_some _ _ _ (.inl q)⟩
  refine codeAny_call_function hr.rm.depth (KX _ _ lk) rfl S.co S.gen rfl (PySem.W.codeRec_of KX hcd) (hb _ _ _ _ ?_)
  refine wpAny_newFunctionEnv_cells S.kind hkind fun env he s1 x => ?_
  subst he
  refine ⟨lim.keeps x.toInCall.keep, codeAny_func ?_⟩
  obtain ⟨t, ht, hq⟩ := hbody A outer s H vs Q E (hr.deeper _) hsp
  have I : Inv (cxOf CX P w K mg base N qual scope f cdv A outer s H E) [] (start N vs) H s1 := inv_start S hr.rm.hd e0 hl r x
  refine wpAny_mono (ht.run [] s1 (start N vs) H _ I hq) (fun fl s' hs => ?_) fun e s' hs => hs
  have fin : ∀ {σ' : L2.St} {H' : Hp} {v : V} {u : Value}, Inv (cxOf CX P w K mg base N qual scope f cdv A outer s H E) [] σ' H' s' → RelV v u → Q v H' → CE outer P w H s Q u s' :=
    fun {σ' H' v u} J rv q => ⟨v, H', J.os, J.bare, J.base, J.hok, rv, q⟩
  cases fl with
  | ret u =>
    obtain ⟨v, σ', H', J, rv, q⟩ := hs
    exact fin J rv q
  | next =>
    obtain ⟨σ', H', J, q⟩ := hs
    exact fin (v := V.non) (u := Value.none) J rfl q
  | brk =>
    obtain ⟨_, _, _, q⟩ := hs
    exact False.elim q
  | cont =>
    obtain ⟨_, _, _, q⟩ := hs
    exact False.elim q
/-- a def's defaults: none of the positional ones; fd's own -/
structure FunG (K : PySem.W.Frag) (x qual : Str) (st : Stmt) (f : Addr) (fd : FuncData) : Prop where
  ex : ∃ (oc : Value) (od : Option Addr) (dV kV doc pm : Value) (an : Option Addr) (cdv ct : Value) (osl : Array (Option Value)),
    fd = PySem.W.fnOf x qual (defArgs st) (defBody st) (defScope st) dV kV doc pm an cdv ct ∧ K.lookup f = some ⟨oc, od, .func fd, osl⟩ ∧ PySem.W.codeIn K cdv qual = true
  kp : PySem.W.keepIn K (.ref f) = true
theorem fun_mkG {x qual : Str} {st : Stmt} {f : Addr} {oc dV kV doc pm cdv ct : Value} {od an : Option Addr} {osl : Array (Option Value)}
    (l : K.lookup f = some ⟨oc, od, .func (PySem.W.fnOf x qual (defArgs st) (defBody st) (defScope st) dV kV doc pm an cdv ct), osl⟩) (c : PySem.W.codeIn K cdv qual = true) (k : PySem.W.keepIn K (.ref f) = true) :
    FunG K x qual st f (PySem.W.fnOf x qual (defArgs st) (defBody st) (defScope st) dV kV doc pm an cdv ct) := ⟨⟨_, _, _, _, _, _, _, _, _, _, rfl, l, c⟩, k⟩
theorem FunG.okX {x qual : Str} {st : Stmt} {f : Addr} {fd : FuncData} {N ps : List Str} {k : Nat} {sp : Sp} (F : FunG K x qual st f fd) (S : FnScope N ps (defScope st)) (len : ∀ vs H Q E, sp vs H Q E → vs.length = ps.length)
    (hbody : ∀ (cdv : Value) (A : Around) (outer : List Env) (s : Shared) (H : Hp) (vs : List V) (Q : VK) (E : XK), RoomG gp k (A.deeper (envOfC qual (defScope st) s.heap.objs.size f cdv)) → sp vs H Q E →
      ∃ t, PSs (cxOf (L2.CX P w) P w K mg base N qual (defScope st) f cdv A outer s H E) (defBody st) t ∧ t { nx := fun _ H' => Q .non H', rt := Q } (start N vs) H) : FnG gp P w K mg base (L2.CX P w) (k + 1) f fd ps sp := by
  obtain ⟨oc, od, dV, kV, doc, pm, an, cdv, ct, osl, rfl, lk, hcd⟩ := F.ex
  exact fn_ofG lk hcd S len fun A outer s H vs Q E hr hsp => hbody cdv A outer s H vs Q E hr hsp
end

/-! ### calls: n values by position, then the keywords' values (names ks) -/
/-- what the call binds: h puts the values in the parameters' order -/
def KB (K : PySem.W.Frag) (fd : FuncData) (ps : List Str) (n : Nat) (ks : List Str) (h : List Value → List Value) : Prop :=
  ∀ (s : Shared) (us ws : List Value), K.In s.heap → us.length = n → ws.length = ks.length → BindsTo s fd ⟨us, ks.zip ws⟩ (ps.zip (h (us ++ ws)))
theorem KB.of {K : PySem.W.Frag} {fd : FuncData} {ps : List Str} {n : Nat} {ks : List Str} {h : List Value → List Value} (e : ∀ us ws : List Value, us.length = n → ws.length = ks.length → bindArgs fd ⟨us, ks.zip ws⟩ = pure (ps.zip (h (us ++ ws)))) : KB K fd ps n ks h :=
  fun s us ws _ l1 l2 => .of_eq (e us ws l1 l2)
/-- a list has n items -/
def chk : Nat → List V → Prop → Prop
  | 0, [], P => P
  | n + 1, _ :: l, P => chk n l P
  | _, _, _ => False
theorem chk_len : ∀ {n : Nat} {l : List V} {P : Prop}, chk n l P → l.length = n ∧ P
  | 0, [], _, h => ⟨rfl, h⟩
  | n + 1, _ :: l, _, h => ⟨congrArg Nat.succ (chk_len (n := n) (l := l) h).1, (chk_len (n := n) (l := l) h).2⟩
  | 0, _ :: _, _, h => (show False from h).elim
  | _ + 1, [], _, h => (show False from h).elim
structure PKN (X : Cx) (kws : List Keyword) (m : Nat) (t : TA) : Prop where
  pk : PK X kws t
  eq : ∀ σ H Q, t σ H Q = t σ H fun zs H2 => chk m zs (Q zs H2)
structure PKA (X : Cx) (es : List Expr) (kws : List Keyword) (n m : Nat) (t : TA) : Prop where
  ex : ∃ t1 tk, PA X es t1 ∧ PK X kws tk ∧ ∀ σ H Q, t σ H Q = t1 σ H fun vs H1 => tk σ H1 fun zs H2 => chk n vs (chk m zs (Q (vs ++ zs) H2))
section
variable {X : Cx} {e : Expr} {es : List Expr} {kws : List Keyword} {te : TE} {t : TA} {n m : Nat} {nm : Option Str} {kpos : Pos}
theorem pkn_nil : PKN X [] 0 tNil := ⟨pk_nil, fun _ _ _ => rfl⟩
theorem pkn_cons (he : PE X e te) (h : PKN X kws m t) : PKN X (⟨nm, e, kpos⟩ :: kws) (m + 1) (tCons te t) :=
  ⟨pk_cons he h.pk, fun σ H Q => congrArg (te σ H) (funext fun x => funext fun H1 => h.eq σ H1 fun xs H2 => Q (x :: xs) H2)⟩
theorem pka_kw (h : PKN X kws m t) : PKA X [] kws 0 m t := ⟨_, _, pa_nil, h.pk, fun σ H Q => h.eq σ H Q⟩
theorem pka_cons (he : PE X e te) (h : PKA X es kws n m t) (hs : starEach (e :: es) X.env = (false, eval e X.env) :: starEach es X.env := by rfl) : PKA X (e :: es) kws (n + 1) m (tCons te t) := by
  obtain ⟨t1, tk, h1, h2, q⟩ := h.ex
  exact ⟨_, _, pa_cons he h1 hs, h2, fun σ H Q => congrArg (te σ H) (funext fun x => funext fun H1 => q σ H1 fun xs H2 => Q (x :: xs) H2)⟩
end
/-- the values by their places -/
def Pm {α : Type} (d : α) (is : List Nat) (l : List α) : List α := is.map fun i => l.getD i d
theorem vals_pm : ∀ (is : List Nat) {vs : List V} {us : List Value}, (∀ i ∈ is, i < vs.length) → Vals vs us → Vals (Pm .non is vs) (Pm .none is us)
  | [], _, _, _, _ => .nil
  | i :: is, vs, us, h, r => by
    have hi := h i List.mem_cons_self
    obtain ⟨u, hu, rv⟩ := r.get (List.getElem?_eq_getElem hi)
    refine .cons ?_ (vals_pm is (fun j hj => h j (List.mem_cons_of_mem _ hj)) r)
    show L2.RelV (vs.getD i V.non) (us.getD i Value.none)
    rw [List.getD_eq_getElem?_getD, List.getD_eq_getElem?_getD, hu, List.getElem?_eq_getElem hi]
    exact rv
/-- what is promised of a call of that shape: the values in the order of the text; dv the defaults -/
structure SpK (sp sp' : Sp) (n : Nat) (is : List Nat) (dv : List V) : Prop where
  go : ∀ vs H Q E, sp' vs H Q E → vs.length = n ∧ sp (Pm .non is (vs ++ dv)) H Q E
theorem spk {ec : Nat → Value} {α α' β : Type} {ps : α → List PP} {ps' : α' → List PP} {m : α → Res β} {m' : α' → Res β} {cb : β → V → Asr} {n : Nat} {is : List Nat} {dv : List V} (g : α' → α) (hlen : ∀ x', (ps' x').length = n)
    (hpar : ∀ x' vs F H, parOk (ps' x') vs F H → parOk (ps (g x')) (Pm .non is (vs ++ dv)) F H) (hm : ∀ x', m' x' = m (g x')) : SpK (Sp0 ec ps m cb) (Sp0 ec ps' m' cb) n is dv := ⟨fun vs H Q E ⟨x, C, t, hp, hw⟩ => by
  refine ⟨?_, g x, C, t, fun F H o s c => hpar x vs F H (hp F H o s c), hm x ▸ hw⟩
  obtain ⟨F, o, s, _, c⟩ := t
  rw [parOk_len (hp F H o s c), hlen]⟩
section
variable {X : Cx} {CX : CXT} {k : Nat} {f : Addr} {fd : FuncData} {ps ks : List Str} {sp sp' : Sp} {x : Str} {p pos : Pos} {e : Expr} {es : List Expr} {kws : List Keyword} {t : TA} {n m : Nat} {is : List Nat} {dv : List V} {du : List Value}
theorem run_fnG {Ex : XK} {pins : List (Addr × Obj)} {σ : L2.St} {H : Hp} {s : Shared} {Q : VK} {us ws : List Value} {vs : List V} (F : FnG gp X.prog X.w X.K X.mg X.base CX k f fd ps sp) (hr : RoomG gp k X.A) (hb : KB X.K fd ps n ks fun l => Pm .none is (l ++ du)) (hd : Vals dv du)
    (his : ∀ i ∈ is, i < n + ks.length + dv.length) (hx : ∀ pins H s e s', Inv X pins σ H s → CX X.stack H s Ex e s' → X.xe e s')
    (I : Inv X pins σ H s) (r : Vals vs (us ++ ws)) (l1 : us.length = n) (l2 : ws.length = ks.length) (hs : sp (Pm .non is (vs ++ dv)) H Q Ex) : wpAny (model X.prog X.w) X.A (call (.ref f) us (ks.zip ws)) (EP X pins σ Q) X.xe s := by
  have hlv : vs.length = n + ks.length := by rw [r.length, List.length_append, l1, l2]
  have hv := vals_pm is (fun i hi => by rw [List.length_append, hlv]; exact his i hi) (r.append hd)
  refine wpAny_call (codeAny_mono (F.run X.A X.stack s H ⟨us, ks.zip ws⟩ _ _ Q Ex hr I.env0 (hb s us ws I.kIn l1 l2) hv hs) fun r s' hq => ?_)
  cases r with
  | error e => exact hx pins H s e s' I hq
  | ok fl =>
    cases fl with
    | ret u => exact I.after hq
    | next => exact False.elim hq
    | brk => exact False.elim hq
    | cont => exact False.elim hq
/-- the reading of a call: the arguments, then the promise -/
theorem pe_callG {E : L2.St → XK} (F : FnG gp X.prog X.w X.K X.mg X.base CX k f fd ps sp) (hr : RoomG gp k X.A) (hg : Gl X x) (hm : X.mg x = some (.ref f)) (hk : PySem.W.keepIn X.K (.ref f) = true) (hb : Binds X.K fd ps []) (hx : ∀ σ, PassesAt CX X σ (E σ))
    (ha : PA X (e :: es) t) (hdb : (x == ("__debug__" : Str)) = false := by decide) (he : starEach (e :: es) X.env = (false, eval e X.env) :: starEach es X.env := by rfl) (hpl : (backTo pos (starEach es X.env)).any (·.1) = false := by rfl) :
    PE X (.Call (.Name x p) (e :: es) [] pos) (tCallS sp E t) := by
  refine ⟨fun pins s σ H Q I h => ?_⟩
  refine wpAny_Call_Name_kw (ld_glob I hg hm ?_ hdb)
  refine PySem.W.callWith_K (h₀ := X.base) I.ok.mod.kin hk (thn (ha.run pos pins s σ H _ I h) fun us s1 ⟨vs, H1, I1, r, q⟩ => ⟨I1.kIn, ?_⟩) he hpl
  have hl : us.length = ps.length := by rw [← r.length]; exact F.len _ _ _ _ q
  have b := hb s1 us I1.kIn (by rw [List.append_nil]; exact hl)
  rw [List.append_nil] at b
  refine wpAny_call (codeAny_mono (F.run X.A X.stack s1 H1 ⟨us, []⟩ us vs Q (E σ) hr I1.env0 b r q) fun r s' hq => ?_)
  cases r with
  | error e => exact hx σ pins H1 s1 e s' I1 hq
  | ok fl =>
    cases fl with
    | ret u => exact I1.after hq
    | next => exact False.elim hq
    | brk => exact False.elim hq
    | cont => exact False.elim hq
/-- .. within a comprehension -/
theorem pe_callG0 {E : XK} (F : FnG gp X.prog X.w X.K X.mg X.base CX k f fd ps sp) (hr : RoomG gp k X.A) (hg : Gl X x) (hm : X.mg x = some (.ref f)) (hk : PySem.W.keepIn X.K (.ref f) = true) (hb : Binds X.K fd ps []) (hd : Vals ([] : List V) []) (hx : Passes CX X E)
    (ha : PA X (e :: es) t) (hdb : (x == ("__debug__" : Str)) = false := by decide) (he : starEach (e :: es) X.env = (false, eval e X.env) :: starEach es X.env := by rfl) (hpl : (backTo pos (starEach es X.env)).any (·.1) = false := by rfl) :
    PE X (.Call (.Name x p) (e :: es) [] pos) (tCall sp [] E t) := by
  refine ⟨fun pins s σ H Q I h => ?_⟩
  refine wpAny_Call_Name_kw (ld_glob I hg hm ?_ hdb)
  refine PySem.W.callWith_K (h₀ := X.base) I.ok.mod.kin hk (thn (ha.run pos pins s σ H _ I h) fun us s1 ⟨vs, H1, I1, r, q⟩ => ⟨I1.kIn, ?_⟩) he hpl
  have q : sp (vs ++ []) H1 Q E := q
  rw [List.append_nil] at q
  have hl : us.length = ps.length := by rw [← r.length]; exact F.len _ _ _ _ q
  have b := hb s1 us I1.kIn (by rw [List.append_nil]; exact hl)
  rw [List.append_nil] at b
  refine wpAny_call (codeAny_mono (F.run X.A X.stack s1 H1 ⟨us, []⟩ us vs Q E hr I1.env0 b r q) fun r s' hq => ?_)
  cases r with
  | error e => exact hx pins σ H1 s1 e s' I1 hq
  | ok fl =>
    cases fl with
    | ret u => exact I1.after hq
    | next => exact False.elim hq
    | brk => exact False.elim hq
    | cont => exact False.elim hq
/-- f(e, .., k = v, ..); sp' is the promise of that shape -/
theorem pe_callGK {E : L2.St → XK} (F : FnG gp X.prog X.w X.K X.mg X.base CX k f fd ps sp) (hr : RoomG gp k X.A) (hg : Gl X x) (hm : X.mg x = some (.ref f)) (hk : PySem.W.keepIn X.K (.ref f) = true) (hb : KB X.K fd ps n ks fun l => Pm .none is (l ++ du)) (hd : Vals dv du)
    (his : ∀ i ∈ is, i < n + ks.length + dv.length) (hsp : SpK sp sp' (n + ks.length) is dv) (hx : ∀ σ, PassesAt CX X σ (E σ))
    (ha : PKA X (e :: es) kws n ks.length t) (hall : (backToKw pos (keywordEach kws X.env)).all (·.1.isSome) = true := by rfl) (hks : (backToKw pos (keywordEach kws X.env)).filterMap (·.1) = ks := by rfl)
    (hdb : (x == ("__debug__" : Str)) = false := by decide) (he : starEach (e :: es) X.env = (false, eval e X.env) :: starEach es X.env := by rfl)
    (hpl : ((backTo pos (starEach (e :: es) X.env)).any (·.1) || (backToKw pos (keywordEach kws X.env)).any (·.1.isNone)) = false := by rfl) :
    PE X (.Call (.Name x p) (e :: es) kws pos) (tCallS sp' E t) := by
  refine ⟨fun pins s σ H Q I h => ?_⟩
  obtain ⟨t1, tk, h1, h2, q0⟩ := ha.ex
  have h : t1 σ H _ := (q0 σ H _).mp h
  refine wpAny_Call_Name_kw (ld_glob I hg hm ?_ hdb)
  refine PySem.W.callWith_KW (h₀ := X.base) I.ok.mod.kin hk hall (thn (h1.run pos pins s σ H _ I h) fun us s1 ⟨vs, H1, I1, r, q⟩ => ?_) hpl he
  refine thn (h2.run pos pins s1 σ H1 _ I1 q) fun ws s2 ⟨zs, H2, I2, rz, q2⟩ => ⟨I2.kIn, ?_⟩
  rw [hks]
  obtain ⟨l1, q2⟩ := chk_len q2
  obtain ⟨l2, q2⟩ := chk_len q2
  exact run_fnG F hr hb hd his (fun pins H s e s' I c => hx σ pins H s e s' I c) I2 (r.append rz) (r.length.symm.trans l1) (rz.length.symm.trans l2) (hsp.go _ _ _ _ q2).2
/-- f(k = v, ..) -/
theorem pe_callGK0 {E : L2.St → XK} (F : FnG gp X.prog X.w X.K X.mg X.base CX k f fd ps sp) (hr : RoomG gp k X.A) (hg : Gl X x) (hm : X.mg x = some (.ref f)) (hk : PySem.W.keepIn X.K (.ref f) = true) (hb : KB X.K fd ps n ks fun l => Pm .none is (l ++ du)) (hn : n = 0) (hd : Vals dv du)
    (his : ∀ i ∈ is, i < n + ks.length + dv.length) (hsp : SpK sp sp' (n + ks.length) is dv) (hx : ∀ σ, PassesAt CX X σ (E σ))
    (ha : PKN X kws ks.length t) (hall : (backToKw pos (keywordEach kws X.env)).all (·.1.isSome) = true := by rfl) (hks : (backToKw pos (keywordEach kws X.env)).filterMap (·.1) = ks := by rfl)
    (hdb : (x == ("__debug__" : Str)) = false := by decide)
    (hpl : ((backTo pos (starEach [] X.env)).any (·.1) || (backToKw pos (keywordEach kws X.env)).any (·.1.isNone)) = false := by rfl) :
    PE X (.Call (.Name x p) [] kws pos) (tCallS sp' E t) := by
  refine ⟨fun pins s σ H Q I h => ?_⟩
  subst hn
  have h : t σ H _ := (ha.eq σ H _).mp h
  refine wpAny_Call_Name_kw (ld_glob I hg hm ?_ hdb)
  refine PySem.W.callWith_KW0 (h₀ := X.base) I.ok.mod.kin hk hall ?_ hpl
  refine thn (ha.pk.run pos pins s σ H _ I h) fun ws s2 ⟨zs, H2, I2, rz, q2⟩ => ⟨I2.kIn, ?_⟩
  rw [hks]
  obtain ⟨l2, q2⟩ := chk_len q2
  exact run_fnG (us := []) F hr hb hd his (fun pins H s e s' I c => hx σ pins H s e s' I c) I2 rz rfl (rz.length.symm.trans l2) (hsp.go _ _ _ _ q2).2
end

/-! ### repr -/
def reprOk (d : PyData) : Bool := d.showable && !d.hasDict && decide (d.depth ≤ 50) && decide (d.shown.length ≤ sizeLine)
def reprR (d : PyData) : Res Str := Res.need (reprOk d = true) (.ok d.shown)
def rRepr (K : PySem.W.Frag) : List V → Hp → VK → Prop := fun xs H Q => ∃ v d, xs = [v] ∧ Dp K H v d ∧ (∃ ds, d = .list ds ∨ d = .tuple ds) ∧ reprOk d = true ∧ Q (.str d.shown) H
theorem reprK {X : Cx} (K : PySem.W.Frag) (h : X.K = K) (hg : X.A.guards = some []) (hu : X.A.units + 64 < cLine) : CallR X (.builtin "repr") (rRepr K) := by
  subst h
  intro pins s σ H xs us Q I r h
  obtain ⟨v, d, rfl, hd, ⟨ds, hf⟩, ho, q⟩ := h
  obtain ⟨u, rfl, rv⟩ := vals1 r
  obtain ⟨as, r1⟩ := Dp.reads I d v u hd rv
  unfold reprOk at ho
  simp only [Bool.and_eq_true, decide_eq_true_eq, Bool.not_eq_true'] at ho
  obtain ⟨⟨⟨h1, h2⟩, h3⟩, h4⟩ := ho
  have hu' : ∃ a, u = .ref a := by
    rcases hf with rfl | rfl
    · cases r1; exact ⟨_, rfl⟩
    · cases r1; exact ⟨_, rfl⟩
  obtain ⟨a, rfl⟩ := hu'
  exact repr_of_reads' r1 h1 (PyData.noDict_hsm h2) hg (by omega) (fun _ _ e => e) (fun h' u tk hk => ⟨.str _, H, I.kept hk, ⟨_, rfl⟩, q⟩) h4

/-! ### the law's end -/
theorem law_callG {P : Program} {w : World} {K : PySem.W.Frag} {mg mb : Str → Option Value} {CX : CXT} {k : Nat} {fa a : Addr} {fd : FuncData} {x : Str} {sp : Sp} {s₁ : Shared} {vs : List Value} {ns : List Int}
    (KX : K.In s₁.heap) (hns : s₁.heap.Ns mainGlobals mg) (hb : s₁.heap.Ns builtinsNs mb) (hbb : ∀ x : Str, x ≠ "__name__" → mb x = bootBuiltins x) (hlim : s₁.heap.NoLimit) (hg : s₁.gens = #[])
    (ha : s₁.heap.get? a = some { cls := .type "list", data := .seq vs.toArray }) (hi : IntsAre vs ns) (hl : ns.length ≤ sizeLine) (hr : RoomG gp k callerA)
    (F : ∀ base : Heap, K.In base → base.Ns mainGlobals mg → FnG gp P w K mg base CX k fa fd [x] sp) (hbind : ∀ (s : Shared) (u : Value), BindsTo s fd ⟨[u], []⟩ [(x, u)])
    (hsp : ∀ H : Hp, Only H → SqL K H a (ns.map V.int) → sp [.ref a] H (fun v _ => v = .bl true) fun _ _ _ => False)
    (hCX : ∀ H e s', CX [] H s₁ (fun _ _ _ => False) e s' → False) :
    codeAny (model P w) callerA (.call (.ref fa) ⟨[.ref a], []⟩) (fun r s' => r = .ok (.ret (.bool true)) ∧ OldK s₁.heap s'.heap ∧ s'.os = s₁.os ∧ AllBare s'.gens) s₁ := by
  have rv := vals_ints hi
  have lenV := hi.length
  have core : ∀ H : Hp, Only H → SqL K H a (ns.map V.int) → HOk P w H s₁.heap → (∀ b, H b ≠ none → b = a) → (H a ≠ none → K.lookup a = none) →
      codeAny (model P w) callerA (.call (.ref fa) ⟨[.ref a], []⟩) (fun r s' => r = .ok (.ret (.bool true)) ∧ OldK s₁.heap s'.heap ∧ s'.os = s₁.os ∧ AllBare s'.gens) s₁ := by
    intro H hO hS hok hA hK
    have base_of : ∀ {b : Addr} {o : Obj}, s₁.heap.get? b = some o → H b = none → (hidT s₁.heap H).get? b = some o := fun e n => hidT_get e n
    have noA : ∀ {b : Addr} {o : Obj} {es : Array DictEntry} {ep : Nat}, s₁.heap.get? b = some o → o.data = .dict es ep → H b = none := fun {b o es ep} e d => by
      cases q : H b with
      | none => rfl
      | some u =>
        have e' : b = a := hA b (by rw [q]; simp)
        subst e'
        rw [ha] at e; cases e
        have d' : Data.seq vs.toArray _ = Data.dict es ep := d
        cases d'
    have nsK : ∀ {b : Addr} {m : Str → Option Value}, s₁.heap.Ns b m → (hidT s₁.heap H).Ns b m := fun {b m} ⟨o, es, ep, e, d, r⟩ => ⟨o, es, ep, base_of e (noA e d), d, r⟩
    have hKb : K.In (hidT s₁.heap H) := fun b o e => base_of (KX b o e) (by
      cases q : H b with
      | none => rfl
      | some u =>
        have e' : b = a := hA b (by rw [q]; simp)
        subst e'
        rw [hK (by rw [q]; simp)] at e; cases e)
    have hM : Mod K mg (hidT s₁.heap H) := ⟨hKb, nsK hns, ⟨mb, nsK hb, hbb⟩, let ⟨mc, h1, h2⟩ := hlim; ⟨mc, nsK h1, h2⟩⟩
    have e0 : Env0 P w K mg (hidT s₁.heap H) callerA [] s₁ H := ⟨rfl, hM, fun b o e => of_hidT e, Nat.le_of_eq (hidT_size _ _), trivial, fun b hb => absurd (show b ∈ ([] : List Addr) from hb) (by simp), hok, .of_eq hg⟩
    refine codeAny_mono ((F _ hKb (nsK hns)).run callerA [] s₁ H ⟨[.ref a], []⟩ [.ref a] [.ref a] _ _ hr e0 (hbind s₁ (.ref a)) (.cons rfl .nil) (hsp H hO hS)) fun r s' h => ?_
    cases r with
    | error e => exact (hCX H e s' h).elim
    | ok fl =>
      cases fl with
      | next => exact False.elim h
      | brk => exact False.elim h
      | cont => exact False.elim h
      | ret u =>
        obtain ⟨v, H', os, bare, un, hok', r', q⟩ := h
        have q' : v = .bl true := q
        subst q'
        obtain rfl : u = Value.bool true := r'
        refine ⟨rfl, OldK.of_keep fun b o e => ?_, os, bare⟩
        cases q : H b with
        | none => exact un.keep b o e q (by intro z; exact absurd (show b ∈ ([] : List Addr) from z) (by simp)) (by simp)
        | some u =>
          rcases hO b with z | ⟨ob, xs, z⟩
          · rw [q] at z; cases z
          · have z2 := un.frzs b ob _ z
            obtain ⟨e1, _⟩ := hok b _ z
            obtain ⟨e2, _⟩ := hok' b _ z2
            rw [e] at e1; cases e1
            exact e2
  cases hk : K.lookup a with
  | some o =>
    have e := KX a o hk
    rw [ha] at e
    cases e
    refine core (fun _ => none) (fun _ => .inl rfl) (.inr ⟨_, vs.toArray, _, hk, rfl, rfl, rfl, by rw [List.size_toArray, lenV]; exact hl, by simpa using rv⟩) (fun b u z => by have z' : (none : Option HO) = some u := z; cases z') (fun b z => absurd rfl z) fun z => absurd rfl z
  | none =>
    refine core (fun b => if b = a then some (.frz { cls := .type "list", data := .seq vs.toArray } (.lst (ns.map V.int))) else none) (fun b => ?_) (.inl (.inr ⟨{ cls := .type "list", data := .seq vs.toArray }, if_pos rfl⟩)) (fun b u z => ?_) (fun b z => ?_) fun _ => hk
    · by_cases hb : b = a
      · exact .inr ⟨_, _, if_pos hb⟩
      · exact .inl (if_neg hb)
    · by_cases hb : b = a
      · have z' := (if_pos hb).symm.trans z
        cases z'
        subst hb
        exact ⟨ha, by rw [List.length_map]; exact hl, vs, _, rv, ha⟩
      · have z' := (if_neg hb).symm.trans z
        cases z'
    · by_cases hb : b = a
      · exact hb
      · exact absurd (if_neg hb) z
theorem walkG {l : PySem.W.OpenLaw} {q : Program} {loose : List Str} {XP : (Str → Option Value) → Heap → Prop} {YP : World → Heap → Prop} {d : DefRec} {K : Params → PySem.W.Frag} {k : Nat} (hn : l.most = some 63) (hdf : d.params.defaults = []) (hr : Room k callerA)
    (hY : ∀ (w : World) (h : Heap), YP w h → (K w.params).In h)
    (F : ∀ (w : World) (mg : Str → Option Value) (fa : Addr) (h : Heap), (K w.params).In h → h.Ns mainGlobals mg → mg d.name = some (.ref fa) →
      ∃ fd : FuncData, (∀ (s : Shared) (u : Value), BindsTo s fd ⟨[u], []⟩ [("script", u)]) ∧ ∀ base : Heap, (K w.params).In base → base.Ns mainGlobals mg → FnG True l.prog w (K w.params) mg base (L2.CX l.prog w) k fa fd ["script"] (spLaw (K w.params))) :
    PySem.W.WalkO q loose XP YP l.row.toRowW d [] (fun f vs => PySem.call f vs) := by
  refine Att.attach_call hn hdf fun w s₀ s₁ mg mb fa o pm cd doc a vs ns G Y ho hd hcd hmg hobj hints hlen hg => ?_
  have KX := hY w _ Y
  obtain ⟨fd, hb, hF⟩ := F w mg fa _ KX G.T.g hmg
  exact law_callG KX G.T.g G.T.b G.T.builtins G.T.nolimit hg hobj hints (Nat.le_trans hlen (by decide)) ⟨hr, fun _ => rfl⟩ hF hb (fun H hO hS => ⟨a, ns, rfl, hS, hlen, fun _ => rfl⟩) fun H e s' ⟨_, _, _, _, _, _, _, _, _, _, _, _, z⟩ => z
end Lc
/-! Lc: repr, min of pairs, shifts of cells, reverse, pokes -/
namespace Lc
open PySem L2 PySem.Spec PyProof.Rows
section
variable {E : Ec} {te ta tb tc : TE} {tr : TA} {t : TS} {Γ : List Cell} {α β γ δ : Type} {A B R : Asr} {H : Hp} {cx cy : RC} {i : Nat}
open Res
theorem put_cell {σ : L2.St} {x : Option V} {c : Cell} (hlt : i < Γ.length) (ex : σ[i]? = some x) (hB : Ent B (c x)) : Ent (sep (sep (base E σ (Γ.set i cAny)) A) B) (sep (base E σ (Γ.set i c)) A) := by
  intro F H o s ⟨o1, o2, h1, h2, d, ⟨o3, o4, h3, h4, d', ⟨o5, o6, h5, h6, d2, a, cc⟩, r⟩, b⟩
  refine ⟨fun q => o2 q ∨ o5 q ∨ o6 q, o4, fun q z => ?_, fun q z => h1 q (h4 q z), fun q z w => ?_, ⟨fun q => o2 q ∨ o5 q, o6, fun q z => z.elim .inl fun z => .inr (.inl z), fun q z => .inr (.inr z), fun q z w => ?_,
      sl_put hlt ex ⟨o2, o5, fun _ z => .inl z, fun _ z => .inr z, fun q z w => d q (h3 q (h5 q w)) z, hB F H o2 s b, a⟩, cc⟩, r⟩
  · rcases z with z | z | z
    · exact h2 q z
    · exact h1 q (h3 q (h5 q z))
    · exact h1 q (h3 q (h6 q z))
  · rcases z with z | z | z
    · exact d q (h4 q w) z
    · exact d' q (h5 q z) w
    · exact d' q (h6 q z) w
  · rcases z with z | z
    · exact d q (h3 q (h6 q w)) z
    · exact d2 q z w
/-- a list of one's own by its address -/
theorem es_at {mk : List PyData → Cell} {ds : List PyData} {m : Res β} {post : β → Fin} (hk : OwnC mk) (hi : Γ[i]? = some (mk ds)) (h : ∀ p, EvS E t (Γ.set i (cAt p ds)) m post) : EvS E t Γ m post := fun σ H R D t0 q => by
  obtain ⟨p, hs, t2, _⟩ := take_own (A := R) hk hi t0
  exact h p σ H R D (t2.ent (put_cell (c := cAt p ds) (List.getElem?_eq_some_iff.mp hi).1 hs fun F H o s a => sep_pers (fun _ => rfl) a)) q
/-- a list of one's own is frozen where it stands -/
theorem es_frz {mk : List PyData → Cell} {ds : List PyData} {m : Res β} {post : β → Fin} (hk : OwnC mk) (hi : Γ[i]? = some (mk ds)) (h : EvS E t (Γ.set i (cV (.list ds))) m post) : EvS E t Γ m post := fun σ H R D t0 q => by
  obtain ⟨p, hs, t2, _⟩ := take_own (A := R) hk hi t0
  exact h σ H R D (((t2.ent Ent.comm).freeze.ent Ent.comm).ent (put_cell (c := cV (.list ds)) (List.getElem?_eq_some_iff.mp hi).1 hs fun F H o s a => a)) q
/-- a slot is forgotten -/
theorem es_forget {c : Cell} {m : Res β} {post : β → Fin} (l : Le Γ (Γ.set i cAny)) (h : EvS E t (Γ.set i cAny) m post) : EvS E t Γ m post := EvS.pre l h

/-! ### repr -/
theorem rn_repr {d : PyData} (h : PArg E Γ K0 cx (ppD E.K d)) (hf : ∃ ds, d = .list ds ∨ d = .tuple ds) : RnJ E (rRepr E.K) [cx] Γ (reprR d) (fun _ => Γ) fun s => rV (.str s) := fun σ H R Q vs t q => by
  obtain ⟨ho, q⟩ := wp_need q
  obtain ⟨x, rfl, t1⟩ := one_arg t
  obtain ⟨_, _, z⟩ := par1 h t1
  exact ⟨x, d, rfl, z, hf, ho, q _ H (res1 t1 fun F => .str _)⟩
mutual
theorem Dp.up {K : PySem.W.Frag} {H H' : Hp} (s : Same H H') : ∀ {v : V} {d : PyData}, Dp K H v d → Dp K H' v d
  | _, _, .non => .non
  | _, _, .bl b => .bl b
  | _, _, .int i => .int i
  | _, _, .str x => .str x
  | _, _, .lst h r => .lst (sql_same h s) (DpAll.up s r)
  | _, _, .tup h r => .tup (h.elim (fun h => .inl (h.elim (fun h => .inl (s _ _ h)) fun ⟨o, h⟩ => .inr ⟨o, s _ _ h⟩)) fun h => .inr h) (DpAll.up s r)
theorem DpAll.up {K : PySem.W.Frag} {H H' : Hp} (s : Same H H') : ∀ {vs : List V} {ds : List PyData}, DpAll K H vs ds → DpAll K H' vs ds
  | _, _, .nil => .nil
  | _, _, .cons h r => .cons (Dp.up s h) (DpAll.up s r)
end
theorem dpAll_of {K : PySem.W.Frag} {F H : Hp} : ∀ {ds : List PyData} {vs : List V}, parOk (ds.map (ppD K)) vs F H → DpAll K H vs ds
  | [], [], _ => .nil
  | _ :: _, _ :: _, h => .cons h.1 (dpAll_of h.2)
  | [], _ :: _, h => (show False from h).elim
  | _ :: _, [], h => (show False from h).elim
theorem same_upd {H : Hp} {p : Addr} {u : HO} (h : H p = none) : Same H (upd H p u) := fun b w e => by
  rw [upd_ne (fun z => by rw [z, h] at e; cases e)]
  exact e
/-- repr([a, b, ..]), the items may be names of lists of one's own -/
theorem ev_reprL {ma : Res α} {Γ1 : α → List Cell} {cs : α → List RC} {ds : α → List PyData} (h : EvA E tr Γ ma Γ1 cs) (hp : ∀ a, Pars E (Γ1 a) K0 (cs a) ((ds a).map (ppD E.K))) (hl : ∀ a, (ds a).length ≤ 1000 := by exact fun _ => Nat.le_of_ble_eq_true rfl) :
    EvJ E (tCB (rRepr E.K) (tCons (tLst tr) tNil)) Γ (ma.bind fun a => (reprR (.list (ds a))).bind fun s => .ok (a, s)) (fun r => Γ1 r.1) fun r => rV (.str r.2) := fun σ H R Q t q =>
  h σ H R _ t (wp_mono (wp_bind.mp q) (fun a _ q vs H1 t1 => by
    obtain ⟨ho, q⟩ := wp_need (wp_bind.mp q)
    obtain ⟨F, o, s, k, P⟩ := t1
    have hpar : parOk ((ds a).map (ppD E.K)) vs F H1 := hp a σ vs F H1 o trivial s (Ent.left F H1 o s (Ent.assoc' F H1 o s P))
    have hd := dpAll_of hpar
    have ln : vs.length = (ds a).length := by rw [parOk_len hpar, List.length_map]
    refine ⟨by rw [ln]; exact Nat.le_trans (hl a) (by decide), fun p hp => ⟨.ref p, .list (ds a), rfl, .lst (SqL.of upd_same) (DpAll.up (same_upd hp) hd), ⟨_, .inl rfl⟩, ho, ?_⟩⟩
    have t2 : Top (sep emp (sep (base E σ (Γ1 a)) (sep (csA (cs a) σ vs) R))) (upd H1 p (.lst vs)) := Top.allocX ⟨F, o, s, k, P⟩ hp fun _ _ _ _ => trivial
    exact q (.str _) _ (res1 (t2.ent Ent.right) fun F => .str _)) fun _ x => x)

/-! ### min of pairs -/
def ltPr (a b : Int × Int) : Bool := decide (a.1 < b.1 ∨ (a.1 = b.1 ∧ a.2 < b.2))
def minP : List (Int × Int) → Res (Int × Int)
  | [] => .bad
  | x :: xs => .ok (xs.foldl (fun a y => if ltPr y a then y else a) x)
theorem minP_data (x : Int × Int) : ∀ xs : List (Int × Int), PySem.W.minD (dat x) (xs.map dat) = dat (xs.foldl (fun a y => if ltPr y a then y else a) x) := by
  intro xs
  unfold PySem.W.minD
  induction xs generalizing x with
  | nil => rfl
  | cons y ys ih =>
    rw [List.map_cons, List.foldl_cons, List.foldl_cons, ← ih]
    have e : (if PySem.W.dataLt (dat y) (dat x) = true then dat y else dat x) = dat (if ltPr y x = true then y else x) := by
      have e1 : PySem.W.dataLt (dat y) (dat x) = ltPr y x := PySem.W.dataLt_ii y.1 y.2 x.1 x.2
      rw [e1]
      split <;> rfl
    rw [e]
def rMinD (K : PySem.W.Frag) : List V → Hp → VK → Prop := fun vs H Q => ∃ (a : Addr) (xs : List V) (p : Int × Int) (ps : List (Int × Int)), vs = [.ref a] ∧ SqL K H a xs ∧ DpAll K H xs ((p :: ps).map dat) ∧ ∀ (i : Nat) (v : V), xs[i]? = some v → ((p :: ps).map dat)[i]? = some (PySem.W.minD (dat p) (ps.map dat)) → Q v H
theorem minPK {X : Cx} (K : PySem.W.Frag) (h : X.K = K) (hc : X.calm = true) (hu : X.A.units + 64 < cLine) : CallR X (.builtin "min") (rMinD K) := by
  subst h
  intro pins s σ H vs us Q I r h
  obtain ⟨a, xs, p, ps, rfl, hs, hd, q⟩ := h
  obtain ⟨its, rv, hl, _⟩ := I.list hs
  rw [Vals.ref1 r]
  obtain ⟨as, hr⟩ := Dp.readsAll I ((p :: ps).map dat) xs its hd rv
  have hr' : ReadsAll s.heap its.toArray.toList (dat p :: ps.map dat) as := hr
  have depth : ∀ l : List (Int × Int), PyData.depthAll (l.map dat) ≤ 3 := by
    intro l
    induction l with
    | nil => exact Nat.zero_le _
    | cons y ys ih =>
      refine Nat.max_le.mpr ⟨?_, ih⟩
      show PyData.depth (.tuple [.int y.1, .int y.2]) ≤ 3
      simp [PyData.depth, PyData.depthAll]
  have hal : PySem.W.AlikeAll (dat p :: ps.map dat) := by
    have e : (dat p :: ps.map dat) = (p :: ps).map dat := rfl
    rw [e]
    refine ⟨fun x hx y hy => ?_, fun x hx => ?_⟩
    · obtain ⟨x', _, rfl⟩ := List.mem_map.mp hx
      obtain ⟨y', _, rfl⟩ := List.mem_map.mp hy
      rfl
    · obtain ⟨x', _, rfl⟩ := List.mem_map.mp hx
      exact fun z => by cases z
  have hn : its.toArray.size = ps.length + 1 := by
    have := PySem.W.readsAll_len hr'
    simpa using this
  have du : X.A.units + 1 + PyData.depthAll (dat p :: ps.map dat) < cLine := by
    have := depth (p :: ps)
    have e : PyData.depthAll (dat p :: ps.map dat) = PyData.depthAll ((p :: ps).map dat) := rfl
    omega
  refine call_min_walkH (PySem.W.iter_listW (A := X.A.in1) (I.ok.hd hc) hl.isList fun s₂ e W st hfp hw hk => ?_)
  refine ⟨_, _, _, _, _, _, _, s.heap, _, rfl, W, st, hfp, by omega, hw, hk, PySem.W.cmpIn_lt (A := X.A.in1) hr' hal du, fun v s' hP m => ?_⟩
  obtain ⟨h', tk, rfl, hk'⟩ := PySem.W.moved_old e rfl m
  have e1 : its.toArray.size - 1 = (ps.map dat).length := by rw [List.length_map]; omega
  have e2 := (PySem.W.argBest_fold PySem.W.dataLt PyData.none (dat p) (ps.map dat) (ps.map dat).length (Nat.le_refl _)).2
  rw [List.take_length] at e2
  rw [← e1] at e2
  generalize hb : argBest (fun i j => PySem.W.dataLt ((dat p :: ps.map dat).getD i PyData.none) ((dat p :: ps.map dat).getD j PyData.none)) (its.toArray.size - 1) = b at hP e2
  have hP' : its[b]? = some v := by simpa using hP
  have hlt : b < its.length := (List.getElem?_eq_some_iff.mp hP').1
  have hx : b < xs.length := by
    have := rv.length
    omega
  obtain ⟨u, hu, hw2⟩ := rv.get (List.getElem?_eq_getElem hx)
  rw [hP'] at hu
  cases hu
  refine ⟨xs[b], H, I.kept hk', hw2, q b _ (List.getElem?_eq_getElem hx) ?_⟩
  have hb2 : b < (dat p :: ps.map dat).length := by
    rw [List.length_cons, List.length_map]
    have : its.toArray.size = its.length := by simp
    omega
  show (dat p :: ps.map dat)[b]? = _
  rw [List.getElem?_eq_getElem hb2]
  rw [List.getD_eq_getElem?_getD, List.getElem?_eq_getElem hb2] at e2
  exact congrArg some e2
theorem rn_minP {ps : List (Int × Int)} (h : PArg E Γ K0 cx (ppS E.K (ps.map dat))) : RnJ E (rMinD E.K) [cx] Γ (minP ps) (fun _ => Γ) fun r => rV (dat r) := fun σ H R Q vs t q => by
  obtain ⟨x, rfl, t1⟩ := one_arg t
  cases ps with
  | nil => exact (show False from q).elim
  | cons p ps =>
    have q : ∀ v H', Top (sep (base E σ Γ) (sep (rV (dat (ps.foldl (fun a y => if ltPr y a then y else a) p)) σ v) R)) H' → Q v H' := q
    obtain ⟨a, ws, rfl, hs, ln, t2⟩ := readS h t1
    have hd : DpAll E.K H ws ((p :: ps).map dat) := t2.fact fun F o s z => (as_of F o s z).dp s
    refine ⟨a, ws, p, ps, rfl, hs, hd, fun i v hv hi => ?_⟩
    rw [minP_data] at hi
    exact q v H (res1' (t2.ent (Ent.sepR (Ent.sepR Ent.right))) fun F o s z => by
      obtain ⟨v', e1, e2⟩ := (as_of F o s z).get hi
      rw [hv] at e1
      cases e1
      exact e2)
end
end Lc
/-! Lc: xs[a:b] = ys, reverse, pokes, chains -/
namespace Lc
open PySem L2 PySem.Spec PyProof.Rows
section
open PySem.SeqAt
open PySem.AutoSeq1 (wpAny_loadPart')
open PySem.MeetsSeq PySem.MeetsSeq2 PySem.MeetsSeq3
variable {prog : Program} {w : World} {A : Around} {E : Value → Shared → Prop} {s : Shared}
theorem setItem_sliceG {l b sl : Addr} {items new : Array Value} {n n2 : Nat} {vl vu : Value} {lo hi : Option Int} {a c : Nat} {Q : Unit → Shared → Prop}
    (e : s.heap.get? l = some { cls := .type "list", data := .seq items n }) (e2 : s.heap.get? b = some { cls := .type "list", data := .seq new n2 }) (hne : l ≠ b)
    (hs : s.heap.IsSliceOf sl vl vu .none) (pl : IsPart vl lo) (pu : IsPart vu hi) (hb0 : sliceBounds lo hi none items.size = ((a : Int), (c : Int), 1)) (hac : a ≤ c) (hc : c ≤ items.size)
    (hsz : items.size + new.size ≤ sizeLine) (h : Q () { s with heap := s.heap.update l (Obj.mapSeq fun xs => xs.extract 0 a ++ new ++ xs.extract c xs.size) }) :
    wpAny (model prog w) A (setItem (.ref l) (.ref sl) (.ref b)) Q E s := by
  have hl : s.heap.IsList l items := PySem.IsL.isList e
  have hb : s.heap.IsList b new := PySem.IsL.isList e2
  obtain ⟨os, hos, hcs, hds⟩ := id hs
  have hTs : s.TypeIs (.ref sl) "slice" := ⟨os, hos, hcs⟩
  have hstep : ¬ ((rawPart none == rawInt 0) = true) := Bool.false_ne_true
  have hsame : Builtin.List.listSameRef (.ref l) (.ref b) = false := by
    unfold Builtin.List.listSameRef
    exact beq_eq_false_iff_ne.mpr hne
  have hmax : (max (a : Int) (c : Int)).toNat = c := by omega
  have hz' : ((fun xs : Array Value => xs.extract 0 a ++ new ++ xs.extract c xs.size) items).size ≤ sizeLine + 1 := by
    simp only [Array.size_append, Array.size_extract]
    omega
  unfold setItem
  try with_reducible refine wpAny_holding ?_
  first | refine wpAny_bind (wpAny_pure ?_) | skip
  refine wpAny_bind (wpAny_sequenceKey hl.typeIs (by decide) ?_)
  refine wpAny_bind (wpAny_callSpecial?_slot (name := Str.ofString "__setitem__") hl.typeIs slot_list_setitem
    (wpAny_call_entry slot_list_setitem hl.typeIs entry_list_setitem ?_ (args_list_setitem _ _ _)))
  show wpAny _ _ (Builtin.List.listSubscript? (.ref sl) >>= _) _ _ s
  refine wpAny_bind ?_
  unfold Builtin.List.listSubscript?
  refine wpAny_bind (wpAny_specialOf hTs slice_no_index ?_)
  simp only [Option.isNone_none, if_true]
  refine wpAny_pure ?_
  show wpAny _ _ (typeOf (.ref sl) >>= _) _ _ s
  refine wpAny_bind (wpAny_typeOf hTs ?_)
  first
    | rw [if_neg (by decide)]
    | refine PySem.W.KFB.if_not (by decide) ?_
  rw [listSliceParts_eq]
  refine wpAny_bind (wpAny_bind (wpAny_field hos hds (x := .none) rfl (wpAny_bind (wpAny_listPart .none ?_))))
  rw [if_neg hstep]
  refine wpAny_bind (wpAny_field hos hds (x := vl) rfl (wpAny_bind (wpAny_listPart pl ?_)))
  refine wpAny_bind (wpAny_field hos hds (x := vu) rfl (wpAny_bind (wpAny_listPart pu (wpAny_pure ?_))))
  first
    | simp only [hsame, Bool.false_eq_true, if_false]
    | refine PySem.W.KFB.if_not hsame ?_
    | (dsimp only
       rw [if_neg (by rw [hsame]; exact Bool.false_ne_true)])
  refine wpAny_bind (m := Builtin.List.listAllItems (.ref b) "must assign iterable to extended slice") ?_
  unfold Builtin.List.listAllItems
  refine wpAny_bind (wpAny_typeOf hb.typeIs ?_)
  first
    | refine PySem.W.KFB.if_so (by decide) ?_
    | rw [if_pos (by decide)]
    | simp only [beq_self_eq_true, Bool.true_or, if_true]
  unfold Builtin.List.listItems
  refine wpAny_bind (wpAny_seqItems e2 rfl (wpAny_pure ?_))
  refine wpAny_bind (wpAny_bind (wpAny_seqItems e rfl (wpAny_pure ?_)))
  refine wpAny_bind (wpAny_of_eq ((sliceIndices_raw lo hi none items.size (by simp)).trans (congrArg (pure : Int × Int × Int → Sem (Int × Int × Int)) hb0)) ?_)
  show wpAny _ _ (if ((1 : Int) == 1) = true then _ else _) _ _ s
  rw [if_pos (by decide)]
  refine wpAny_bind (wpAny_rule ?_)
  first
    | simp only [notLongL hsz, Bool.false_eq_true, if_false]
    | refine PySem.W.KFB.if_not (notLongL hsz) ?_
  first | refine wpAny_bind (wpAny_pure ?_) | skip
  show wpAny _ _ (updateSeq l (fun xs => xs.extract 0 ((a : Int)).toNat ++ new ++ xs.extract (max (a : Int) (c : Int)).toNat xs.size) >>= _) _ _ s
  rw [hmax, Int.toNat_natCast]
  refine wpAny_bind (wpAny_updateSeq (hz := Nat.le_trans (Nat.le_add_right _ _) hsz) (_hz' := hz') e rfl ?_)
  refine wpAny_bind (wpAny_letGo ?_)
  first
    | exact wpAny_bind (wpAny_pure (wpAny_pure ⟨.none, rfl, wpAny_pure h⟩))
    | exact wpAny_pure ⟨.none, rfl, wpAny_pure h⟩
end
section
variable {X : Cx} {o : Expr} {lo hi : Option Expr} {to : TE} {tl th : TO} {pos p2 : Pos}
/-- o[lo:hi] = ys -/
def gSl (to : TE) (tl th : TO) : TG := fun v σ H Q => to σ H fun x H1 => tl σ H1 fun l H2 => th σ H2 fun u H3 => ∃ (a b : Addr) (xs ys : List V) (i j : Nat), x = .ref a ∧ v = .ref b ∧ a ≠ b ∧ H3 a = some (.lst xs) ∧ H3 b = some (.lst ys) ∧
  sliceBounds l u none xs.length = ((i : Int), (j : Int), 1) ∧ i ≤ j ∧ j ≤ xs.length ∧ xs.length + ys.length ≤ sizeLine ∧ Q σ (upd H3 a (.lst (xs.take i ++ ys ++ xs.drop j)))
theorem pg_slice (ho : PE X o to) (hl : PO X lo tl) (hu : PO X hi th)
    (ha : ∀ v, assign (.Subscript o (.Slice lo hi none p2) pos) X.env v = (do
      let ov ← holding [v] (eval o X.env)
      let iv ← holding [v, ov] (eval (.Slice lo hi none p2) X.env)
      standAt pos
      holding [v, ov, iv] (setItem ov iv v)
      release [iv, v, ov] []) := by intro _; rfl) : PG X (.Subscript o (.Slice lo hi none p2) pos) (gSl to tl th) := by
  refine ⟨fun pins s σ H v u Q I r h => ?_⟩
  rw [ha]
  refine wpAny_bind (wpAny_holding (thn (ho.run pins s σ H _ I h) fun ov s1 ⟨x, H1, I1, r1, q1⟩ => ?_))
  refine wpAny_bind (wpAny_holding (wpAny_Slice (thn (hl.run pins s1 σ H1 _ I1 q1) fun vl s2 ⟨l, H2, I2, pl, q2⟩ => thn (hu.run pins s2 σ H2 _ I2 q2) fun vu s3 ⟨u', H3, I3, pu, q3⟩ => ?_)))
  rw [evalPart_none]
  refine wpAny_pure ?_
  have I4 : Inv X pins σ H3 { s3 with heap := s3.heap.push { cls := .type "slice", data := .fields #[vl, vu, .none] } } := I3.kept (t' := s3.toks) fun b ob q => Heap.get?_push_of_some _ q
  obtain ⟨a, b, xs, ys, i, j, rfl, rfl, hne, hH, hB, hb, hij, hj, hz, q⟩ := q3
  cases r
  cases r1
  obtain ⟨z, its, n, rr, hl', e⟩ := I4.lstM hH
  obtain ⟨z2, its2, n2, r2, hl2, e2⟩ := I4.lstM hB
  refine wpAny_bind (wpAny_standAt (wpAny_bind (wpAny_holding ?_)))
  have hle : its.toArray.size = xs.length := by rw [List.size_toArray]; omega
  have hle2 : its2.toArray.size = ys.length := by rw [List.size_toArray]; omega
  refine setItem_sliceG (a := i) (c := j) e e2 hne (Heap.IsSliceOf.new ..) pl pu (by rw [hle]; exact hb) hij (by omega) (by omega) ?_
  refine wpAny_release ⟨σ, _, I4.lset (its' := its.take i ++ its2 ++ its.drop j) (t' := s3.toks) hH e (splice_eq its its2 i j) (Vals.append (Vals.append (rr.take _) r2) (rr.drop _)) ?_, q⟩
  rw [List.length_append, List.length_append, List.length_take, List.length_drop]
  omega
end
section
variable {E : Ec} {te ta tb tc : TE} {tr : TA} {t : TS} {Γ : List Cell} {α β γ δ : Type} {A B R : Asr} {H : Hp} {cx cy : RC} {i : Nat}
open Res
theorem es_reverse {mk : List PyData → Cell} {ds : List PyData} (hk : OwnC mk) (hi : Γ[i]? = some (mk ds)) :
    EvS1 E (tDrop (tBM0 E.K "list" rReverse (tVar i))) Γ (.ok ()) fun _ => Γ.set i (mk ds.reverse) := fun σ H R D t q => by
  obtain ⟨p, hs, t2, back⟩ := take_own (A := R) hk hi t
  obtain ⟨vs, ep, _⟩ := own_at t2
  refine ⟨_, hs, .inl ⟨rfl, vs, SqL.of ep⟩, p, vs, rfl, rfl, ep, q σ _ ?_⟩
  have t5 := own_write (σ := σ) (es := ds.reverse) (ws := vs.reverse) t2 fun F o vs'' s a e2 r => by
    rw [ep] at e2
    cases e2
    exact r.reverse
  exact t5.ent (back ds.reverse)
theorem es_reverseT [Dat α] {mk : List PyData → Cell} {xs : List α} (hk : OwnC mk) (hi : Γ[i]? = some (mk (xs.map dat))) :
    EvS1 E (tDrop (tBM0 E.K "list" rReverse (tVar i))) Γ (.ok ()) fun _ => Γ.set i (mk (xs.reverse.map dat)) := by
  rw [List.map_reverse]
  exact es_reverse hk hi
/-- xs[lo:hi] = ys of another list, frozen or new -/
def setSl {α : Type} (xs ys : List α) (lo hi : Option Int) : List α := let b := sliceBounds lo hi none xs.length; xs.take b.1.toNat ++ ys ++ xs.drop b.2.1.toNat
def setSlR {α : Type} (xs ys : List α) (lo hi : Option Int) : Res (List α) := let b := sliceBounds lo hi none xs.length
  need (0 ≤ b.1 ∧ b.1 ≤ b.2.1 ∧ b.2.1 ≤ xs.length ∧ xs.length + ys.length ≤ lim) (.ok (setSl xs ys lo hi))
theorem es_setSl [Dat α] {mk : List PyData → Cell} {xs : List α} {ys : γ → List α} {m : Res γ} {c : γ → RC} {tl th : TO} {lo hi : Option Int} (hk : OwnC mk) (h : EvJ E te Γ m (fun _ => Γ) c) (f : ∀ a, Fz (c a) (.list ((ys a).map dat))) (hi0 : Γ[i]? = some (mk (xs.map dat)))
    (h1 : EvOP E tl Γ lo) (h2 : EvOP E th Γ hi) :
    EvS1 E (tAsg te (gSl (tVar i) tl th)) Γ (m.bind fun a => (setSlR xs (ys a) lo hi)) fun zs => Γ.set i (mk (zs.map dat)) := fun σ H R D t q => by
  refine h σ H R _ t (wp_mono (wp_bind.mp q) (fun a _ q w H1 t1 => ?_) fun _ x => x σ)
  obtain ⟨⟨n0, n1, n2, n3⟩, q⟩ := wp_need q
  have t3 : Top (sep (base E σ Γ) (sep (vA (.list ((ys a).map dat)) w) R)) H1 := (f a σ w _ H1 (t1.ent frontE)).ent frontE
  obtain ⟨p, hs, t4, back⟩ := take_own hk hi0 t3
  refine ⟨_, hs, h1 σ H1 _ _ t3 fun H2 t3 => h2 σ H2 _ _ t3 fun H3 t3 => ?_⟩
  obtain ⟨p', hs', t4, back⟩ := take_own hk hi0 t3
  rw [hs] at hs'
  cases hs'
  obtain ⟨vs, ep, ln⟩ := own_at t4
  rw [List.length_map] at ln
  obtain ⟨b, zs, rfl, eb, lb, hne⟩ : ∃ b zs, w = .ref b ∧ H3 b = some (.lst zs) ∧ zs.length = (ys a).length ∧ p ≠ b := by
    obtain ⟨F, o, s, k, o1, o2, h1, h2, d, ⟨_, _, _, _, _, _, ⟨_, _, _, _, _, z, _⟩⟩, ⟨op, _⟩⟩ := t4
    have z : Rp F w (.list ((ys a).map dat)) := z
    cases z with
    | lst e r =>
      refine ⟨_, _, rfl, s _ _ e, by rw [r.len, List.length_map], fun hp => ?_⟩
      have := (k p (h2 p op)).1
      rw [hp] at this
      rw [this] at e
      cases e
  obtain ⟨i', ei⟩ := Int.eq_ofNat_of_zero_le n0
  obtain ⟨j', ej⟩ := Int.eq_ofNat_of_zero_le (Int.le_trans n0 n1)
  have hb3 : sliceBounds lo hi none xs.length = ((i' : Int), (j' : Int), 1) := by
    have e1 : (sliceBounds lo hi none xs.length).2.2 = 1 := rfl
    generalize hg : sliceBounds lo hi none xs.length = g at ei ej e1
    obtain ⟨g1, g2, g3⟩ := g
    simp only at ei ej e1
    rw [ei, ej, e1]
  rw [ei, ej] at n1
  rw [ej] at n2
  refine ⟨p, b, vs, zs, i', j', rfl, rfl, hne, ep, eb, by rw [ln]; exact hb3, by omega, by omega, by rw [ln, lb]; exact lim_le n3, q σ _ ?_⟩
  have t5 := own_write (σ := σ) (es := (setSl xs (ys a) lo hi).map dat) (ws := vs.take i' ++ zs ++ vs.drop j') t4 fun F o vs'' s z e2 r => by
    rw [ep] at e2
    cases e2
    obtain ⟨_, _, _, _, _, _, ⟨_, _, _, _, _, z, _⟩⟩ := z
    have z : Rp F (.ref b) (.list ((ys a).map dat)) := z
    cases z with
    | lst e rz =>
      have e' := s _ _ e
      rw [eb] at e'
      cases e'
      unfold setSl
      dsimp only
      rw [ei, ej]
      simp only [Int.toNat_natCast, Int.ofNat_eq_natCast]
      rw [List.map_append, List.map_append, List.map_take, List.map_drop]
      exact ((r.take i').append rz).append (r.drop j')
  exact (t5.ent (back _)).ent (Ent.sepR Ent.right)
theorem ev_ixT {ma : Res α} {Γ1 : α → List Cell} {ds : α → List PyData} {i : Int} {d : α → PyData} (ha : EvJ E ta Γ ma Γ1 fun a => rV (.tuple (ds a))) (hb : ∀ a, EvP E tb (Γ1 a) (rV (.int i))) (h : ∀ a, atI (ds a) i = some (d a)) :
    EvJ E (tOp (rIxT E.K) ta tb) Γ ma Γ1 fun a => rV (d a) :=
  (ev_op ha (fun a => ev_pure (a := ()) (cc := fun _ => rV (.int i)) (hb a)) (fun a _ => r2_to a (Γ' := Γ1) (c := fun a => rV (d a)) (r2_ixT (h a)))).eq (by cases ma <;> rfl)
/-- a < b < c, the parts may fail, no state changes -/
theorem ev_chainM {r r' : R2} {ma mb mc : Res Int} {p p' : Int → Int → Bool} (ha : EvJ E ta Γ ma (fun _ => Γ) fun a => rV (.int a)) (hb : EvJ E tb Γ mb (fun _ => Γ) fun a => rV (.int a)) (hc : EvJ E tc Γ mc (fun _ => Γ) fun a => rV (.int a))
    (h1 : ∀ a b H (Q : VK), Q (.bl (p a b)) H → r (.int a) (.int b) H Q) (h2 : ∀ a b H (Q : VK), Q (.bl (p' a b)) H → r' (.int a) (.int b) H Q) :
    EvJ E (tChain r r' ta tb tc) Γ (ma.bind fun a => mb.bind fun b => if p a b then mc.bind fun c => .ok (p' b c) else .ok false) (fun _ => Γ) fun x => rV (.bool x) := fun σ H R Q t q =>
  ha σ H R _ t (wp_mono (wp_bind.mp q) (fun a _ q x H1 t1 => by
    have ex := int1 t1
    subst ex
    refine hb σ H1 R _ (t1.ent (Ent.sepR Ent.right)) (wp_mono (wp_bind.mp q) (fun b _ q y H2 t2 => ?_) fun _ z => z)
    have ey := int1 t2
    subst ey
    refine h1 a b H2 _ ⟨p a b, rfl, ?_⟩
    cases e : p a b with
    | false =>
      rw [e] at q
      exact q (.bl false) H2 (res1 t2 fun F => .bl _)
    | true =>
      rw [e] at q
      refine hc σ H2 R _ (t2.ent (Ent.sepR Ent.right)) (wp_mono (wp_bind.mp q) (fun c _ q z H3 t3 => ?_) fun _ z => z)
      have ez := int1 t3
      subst ez
      exact h2 b c H3 _ (q (.bl (p' b c)) H3 (res1 t3 fun F => .bl _))) fun _ z => z)
end
section
variable {K : PySem.W.Frag} {x qual : Str} {st : Stmt} {f : Addr} {fd : FuncData} {ps ks : List Str} {n : Nat} {is : List Nat} {du : List Value}
theorem FunG.bindsAll (F : FunG K x qual st f fd) (h : ∀ us : List Value, us.length = ps.length → bindArgs fd ⟨us, []⟩ = pure (ps.zip us)) : L2.Binds K fd ps [] := Binds.all h
theorem FunG.kb (F : FunG K x qual st f fd) (h : ∀ us ws : List Value, us.length = n → ws.length = ks.length → bindArgs fd ⟨us, ks.zip ws⟩ = pure (ps.zip (Pm .none is (us ++ ws ++ du)))) : KB K fd ps n ks fun l => Pm .none is (l ++ du) := KB.of h
theorem kb_looks {D : Addr} {qs : List (Str × Value)} (hq : ∀ q ∈ qs, PySem.W.nsIn K D q.1 = some (some q.2))
    (h : ∀ us ws : List Value, us.length = n → ws.length = ks.length → KwChain D qs (bindArgs fd ⟨us, ks.zip ws⟩) (ps.zip (Pm .none is (us ++ ws ++ du)))) : KB K fd ps n ks fun l => Pm .none is (l ++ du) :=
  fun s us ws X l1 l2 => BindsTo.of_looks fun M => KwChain.looks X hq (h us ws l1 l2)
end
end Lc
/-! Lc: a list of one's own whose items are lists of one's own -/
namespace Lc
open PySem L2 PySem.Spec PyProof.Rows
/-- so many turns a while has at most -/
def fuelN : Nat := 100000
def exA {α : Type} (f : α → Asr) : Asr := ⟨fun F H o => ∃ a, (f a).P F H o, fun s k ⟨a, h⟩ => ⟨a, (f a).st s k h⟩, fun u ⟨a, h⟩ => ⟨a, (f a).up u h⟩⟩
/-- the list object alone -/
def lA (p : Addr) (vs : List V) : Asr where
  P := fun F H o => o p ∧ H p = some (.lst vs)
  st := fun s k ⟨h, e⟩ => ⟨h, (k p h).trans e⟩
  up := fun u ⟨h, e⟩ => ⟨u p h, e⟩
def oOs : List (List PyData) → List V → Asr
  | [], [] => emp
  | ds :: dss, v :: vs => sep (oV ds v) (oOs dss vs)
  | _, _ => bot
def rOO (dss : List (List PyData)) : RC := fun _ v => exA fun x : Addr × List V => sep (pur (v = .ref x.1)) (sep (lA x.1 x.2) (oOs dss x.2))
def cOO (dss : List (List PyData)) : Cell := fun o => match o with
  | some v => rOO dss [] v
  | none => bot
theorem oOs_len {F H : Hp} {o : Addr → Prop} : ∀ {dss : List (List PyData)} {vs : List V}, (∃ o, (oOs dss vs).P F H o) → vs.length = dss.length
  | [], [], _ => rfl
  | _ :: dss, _ :: vs, ⟨_, _, _, _, _, _, _, h⟩ => by rw [List.length_cons, List.length_cons, oOs_len (o := o) ⟨_, h⟩]
  | [], _ :: _, ⟨_, h⟩ => (show False from h).elim
  | _ :: _, [], ⟨_, h⟩ => (show False from h).elim
theorem oOs_dp {K : PySem.W.Frag} {F H : Hp} (s : Same F H) : ∀ {dss : List (List PyData)} {vs : List V} {o : Addr → Prop}, (oOs dss vs).P F H o → DpAll K H vs (dss.map .list)
  | [], [], _, _ => .nil
  | _ :: dss, _ :: vs, _, ⟨_, _, _, _, _, ⟨p, e, _, ws, ew, r⟩, h⟩ => .cons (e ▸ .lst (SqL.of ew) (r.dp s)) (oOs_dp s h)
  | [], _ :: _, _, h => (show False from h).elim
  | _ :: _, [], _, h => (show False from h).elim
section
variable {E : Ec} {te ta tb' tc : TE} {tr : TA} {t tb : TS} {Γ : List Cell} {α β γ δ : Type} {A B R : Asr} {H : Hp} {cx cy : RC} {i j : Nat}
open Res
theorem Top.allocN {p : Addr} {vs : List V} (t : Top A H) (hp : H p = none) : Top (sep (lA p vs) A) (upd H p (.lst vs)) := by
  obtain ⟨F, o, s, k, a⟩ := t
  have ne : ∀ q, o q → q ≠ p := fun q hq e => (k q hq).2 (e ▸ hp)
  have fp : F p = none := by
    cases e : F p with
    | none => rfl
    | some u => rw [s p u e] at hp; cases hp
  refine ⟨F, fun q => q = p ∨ o q, fun b u e => ?_, fun q hq => ?_, (fun q => q = p), o, fun _ z => .inl z, fun _ z => .inr z, fun q e hq => ne q hq e, ⟨rfl, upd_same⟩, A.st (Same.refl F) (fun q hq => upd_ne (ne q hq)) a⟩
  · rw [upd_ne (fun z => by rw [z, fp] at e; cases e)]
    exact s b u e
  · rcases hq with hq | hq
    · rw [hq]
      exact ⟨fp, by rw [upd_same]; exact fun z => by cases z⟩
    · exact ⟨(k q hq).1, by rw [upd_ne (ne q hq)]; exact (k q hq).2⟩
theorem cs_oOs {σ : L2.St} : ∀ {dss : List (List PyData)} {vs : List V}, Ent (csA (dss.map rO) σ vs) (oOs dss vs)
  | [], [] => Ent.refl _
  | _ :: dss, _ :: vs => Ent.sepR (cs_oOs (dss := dss) (vs := vs))
  | [], _ :: _ => fun _ _ _ _ h => (show False from h).elim
  | _ :: _, [] => fun _ _ _ _ h => (show False from h).elim
/-- [f(), g(), ..] of new lists -/
theorem ev_lstOO {ma : Res α} {Γ1 : α → List Cell} {cs : α → List RC} {dss : α → List (List PyData)} (h : EvA E tr Γ ma Γ1 cs) (e : cs = fun a => (dss a).map rO) (hl : ∀ a, (dss a).length ≤ 1000 := by exact fun _ => Nat.le_of_ble_eq_true rfl) :
    EvJ E (tLst tr) Γ ma Γ1 fun a => rOO (dss a) := fun σ H R Q t q => by
  subst e
  refine h σ H R _ t (wp_mono q (fun a _ q vs H1 t1 => ?_) fun _ x => x)
  have t2 : Top (sep (base E σ (Γ1 a)) (sep (oOs (dss a) vs) R)) H1 := t1.ent (Ent.sepR (Ent.sepL cs_oOs))
  have ln : vs.length = (dss a).length := t2.fact fun F o s ⟨_, _, _, _, _, _, ⟨o1, _, _, _, _, z, _⟩⟩ => oOs_len (o := o) ⟨o1, z⟩
  refine ⟨by rw [ln]; exact Nat.le_trans (hl a) (by decide), fun p hp => q _ _ ?_⟩
  refine ((t2.allocN hp).ent frontE).ent (Ent.sepR (Ent.assoc'.trans (Ent.sepL ?_)))
  exact fun F H o s z => ⟨(p, vs), sep_pers (fun _ => rfl) z⟩
theorem sto_OO {dss : List (List PyData)} : Sto (rOO dss) (cOO dss) := fun _ _ _ _ t => t
/-- slot i's list of lists, taken out of the state -/
theorem take_OO {dss : List (List PyData)} {σ : L2.St} (hi : Γ[i]? = some (cOO dss)) (t : Top (sep (base E σ Γ) A) H) :
    ∃ p vs, σ[i]? = some (some (.ref p)) ∧ Top (sep (base E σ (Γ.set i cAny)) (sep (sep (lA p vs) (oOs dss vs)) A)) H := by
  obtain ⟨F, o, s, kk, o1, o2, h1, h2, e, ⟨o3, o4, h3, h4, e', a, b⟩, r⟩ := t
  obtain ⟨x, ex, o5, o6, h5, h6, e2, cx, rest⟩ := sl_take hi a
  cases x with
  | none => exact (show False from cx).elim
  | some v =>
    obtain ⟨⟨p, vs⟩, o7, o8, h7, h8, d7, ev, z⟩ := cx
    have ev : v = .ref p := ev
    subst ev
    refine ⟨p, vs, ex, F, o, s, kk, fun q => o6 q ∨ o4 q, fun q => o5 q ∨ o2 q, fun q z => ?_, fun q z => ?_, fun q z w => ?_, ⟨o6, o4, fun _ z => .inl z, fun _ z => .inr z, fun q z w => e' q (h6 q z) w, rest, b⟩,
      o8, o2, fun q z => .inl (h8 q z), fun q z => .inr z, fun q z w => e q (h3 q (h5 q (h8 q z))) w, z, r⟩
    · rcases z with z | z
      · exact h1 q (h3 q (h6 q z))
      · exact h1 q (h4 q z)
    · rcases z with z | z
      · exact h1 q (h3 q (h5 q z))
      · exact h2 q z
    · rcases z with z | z <;> rcases w with w | w
      · exact e2 q w z
      · exact e q (h3 q (h6 q z)) w
      · exact e' q (h5 q w) z
      · exact e q (h4 q z) w
theorem no_OO {dss : List (List PyData)} : ∀ F H o, ¬ (cOO dss none).P F H o := fun _ _ _ h => h
theorem pa_OO {Kn : L2.St → Prop} {dss : List (List PyData)} (hi : Γ[i]? = some (cOO dss)) : PArg E Γ Kn (rS i) (ppD E.K (.list (dss.map .list))) := fun σ w F H o _ s ⟨_, _, _, _, _, ⟨_, _, _, _, _, a, _⟩, x⟩ => by
  obtain ⟨y, ey, hy⟩ := sl_get hi a
  have e2 : σ[i]? = some (some w) := x
  rw [ey] at e2
  cases e2
  obtain ⟨⟨p, vs⟩, _, _, _, _, _, ev, ⟨_, _, _, _, _, ⟨_, hp⟩, z⟩⟩ := hy
  have ev : w = .ref p := ev
  subst ev
  exact .lst (SqL.of hp) (oOs_dp s z)
theorem le_any : ∀ (Γ : List Cell) (j : Nat), Le Γ (Γ.set j cAny)
  | [], _ => .nil
  | _ :: Γ, 0 => .any (Le.refl Γ)
  | _ :: Γ, j + 1 => .same (le_any Γ j)
theorem map_datId (ds : List PyData) : ds.map dat = ds := List.map_id ds
/-- for row in rows: .., the rows are given away -/
theorem es_forOO {dss : List (List PyData)} {f : List PyData → Res Unit} (hi : Γ[i]? = some (cOO dss)) (hj : j < Γ.length)
    (hb0 : ∀ ds : List PyData, EvS E tb ((Γ.set i cAny).set j (cO (ds.map dat))) (f ds) fun _ => .lp ((Γ.set i cAny).set j cAny)) :
    EvS1 E (tFor (iList E.K (tVar i)) (gName j) tb) Γ (foldR dss () fun _ ds => f ds) fun _ => (Γ.set i cAny).set j cAny := fun σ H R D t q => by
  have hb : ∀ ds, EvS E tb ((Γ.set i cAny).set j (cO ds)) (f ds) fun _ => .lp ((Γ.set i cAny).set j cAny) := fun ds => by
    have := hb0 ds
    rwa [map_datId] at this
  obtain ⟨p, vs, hs, t1⟩ := take_OO hi t
  have ep : H p = some (.lst vs) := t1.fact fun F o s ⟨_, _, _, _, _, _, ⟨_, _, _, _, _, ⟨_, _, _, _, _, ⟨_, z⟩, _⟩, _⟩⟩ => z
  refine ⟨.ref p, hs, p, rfl, ⟨vs, SqL.of ep⟩, fun n mm σ' H' => mm = dss.length - n ∧ n ≤ dss.length ∧ Top (sep (base E σ' ((Γ.set i cAny).set j cAny)) (sep (lA p vs) (sep (oOs (dss.drop n) (vs.drop n)) R))) H' ∧ (foldR (dss.drop n) () fun _ ds => f ds).wp (fun b => (Fin.nx ((Γ.set i cAny).set j cAny)).ok E R D) (ExnS E R),
    ⟨_, rfl, Nat.zero_le _, (t1.ent (Ent.sepL (Ent.sepL (le_any _ j).ent))).ent (Ent.sepR Ent.assoc), q⟩, ?_⟩
  rintro n mm σ' H' ⟨rfl, hle, t2, q2⟩
  have ep' : H' p = some (.lst vs) := t2.fact fun F o s ⟨_, _, _, _, _, _, ⟨_, _, _, _, _, ⟨_, z⟩, _⟩⟩ => z
  have ln : (vs.drop n).length = (dss.drop n).length := t2.fact fun F o s ⟨_, _, _, _, _, _, ⟨_, _, _, _, _, _, ⟨o1, _, _, _, _, z, _⟩⟩⟩ => oOs_len (o := o) ⟨o1, z⟩
  rw [List.length_drop, List.length_drop] at ln
  by_cases hlt : n < dss.length
  · have hv : n < vs.length := by omega
    refine .inr ⟨⟨vs, vs[n], SqL.of ep', by simp [hv]⟩, ?_⟩
    have ed : dss.drop n = dss[n] :: dss.drop (n + 1) := List.drop_eq_getElem_cons hlt
    have ev : vs.drop n = vs[n] :: vs.drop (n + 1) := List.drop_eq_getElem_cons hv
    rw [ed] at q2
    rw [ed, ev] at t2
    refine ⟨fun σ2 H2 => Top (sep (base E σ2 ((Γ.set i cAny).set j cAny)) (sep (lA p vs) (sep (oOs (dss.drop (n + 1)) (vs.drop (n + 1))) R))) H2 ∧ (foldR (dss.drop (n + 1)) () fun _ ds => f ds).wp (fun b => (Fin.nx ((Γ.set i cAny).set j cAny)).ok E R D) (ExnS E R), fun σ2 H2 ⟨t3, q3⟩ => ⟨_, by omega, rfl, hlt, t3, q3⟩, fun x H2 hy => ?_⟩
    obtain ⟨rfl, hy⟩ := hy
    have ex := hy vs (SqL.of ep')
    rw [List.getElem?_eq_getElem hv] at ex
    cases ex
    have t3 : Top (sep (base E σ' ((Γ.set i cAny).set j cAny)) (sep (rO dss[n] σ' vs[n]) (sep (lA p vs) (sep (oOs (dss.drop (n + 1)) (vs.drop (n + 1))) R)))) H2 :=
      t2.ent (Ent.sepR ((Ent.sepR Ent.assoc).trans frontE))
    have t4 := put_slot (c := rO dss[n]) sto_o (by rw [List.length_set, List.length_set]; exact hj) t3
    rw [List.set_set] at t4
    refine hb dss[n] _ H2 _ _ t4 (wp_mono (wp_bind.mp q2) (fun _ _ q3 σ4 H4 t6 => ⟨⟨t6, q3⟩, ⟨t6, q3⟩⟩) fun _ x σ => ((x σ).drop).drop)
  · have e : n = dss.length := by omega
    subst e
    rw [List.drop_length] at q2
    exact .inl ⟨⟨vs, SqL.of ep', by omega⟩, q2 σ' H' (t2.ent (Ent.sepR (Ent.right.trans Ent.right)))⟩
/-- xs.pop(k), k computes -/
theorem ev_popAtM [Dat α] {mk : List PyData → Cell} {m : Res γ} {Γ1 : γ → List Cell} {xs : List α} {k : γ → Int} (hk : OwnC mk) (h : EvJ E te Γ m Γ1 fun a => rV (.int (k a))) (h0 : Γ[i]? = some (mk (xs.map dat))) (hi : ∀ a, (Γ1 a)[i]? = some (mk (xs.map dat))) :
    EvJ E (tBM E.K "list" rPopAt (tVar i) (tCons te tNil)) Γ (m.bind fun a => (popR xs (k a)).bind fun r => .ok (a, r)) (fun r => (Γ1 r.1).set i (mk (r.2.2.map dat))) (fun r => rV (dat r.2.1)) := fun σ H R Q t q => by
  obtain ⟨p, hs, t2, _⟩ := take_own (A := R) hk h0 t
  obtain ⟨vs, ep, _⟩ := own_at t2
  refine ⟨_, hs, .inl ⟨rfl, vs, SqL.of ep⟩, ?_⟩
  refine h σ H R _ t (wp_mono (wp_bind.mp q) (fun a _ q w H1 t1 => ?_) fun _ x => x)
  obtain ⟨hn, q⟩ := wp_need (wp_bind.mp q)
  have ew : w = .int (k a) := int1 t1
  subst ew
  have t3 := t1.ent (Ent.sepR Ent.right)
  obtain ⟨p', hs', t4, back⟩ := take_own hk (hi a) t3
  rw [hs] at hs'
  cases hs'
  obtain ⟨vs', ep', ln⟩ := own_at t4
  rw [List.length_map] at ln
  cases ej : ixN xs.length (k a) with
  | none =>
    rw [ej] at q
    exact (show False from q).elim
  | some j =>
    rw [ej] at q
    obtain ⟨sq, jl, b1, b2⟩ := ixN_seq ej
    cases ea : xs[j]? with
    | none =>
      simp only [ea] at q
      exact (show False from q).elim
    | some y =>
      simp only [ea] at q
      have hj : j < vs'.length := by omega
      have hv : vs'[j]? = some vs'[j] := List.getElem?_eq_getElem hj
      have l62 : (xs.length : Int) ≤ 16000000 := by
        have : xs.length ≤ 16000000 := hn
        omega
      refine ⟨p, vs', k a, j, vs'[j], rfl, rfl, ep', by omega, by omega, by rw [ln]; exact sq, hv, q _ _ ?_⟩
      have t5 := t4.addV (v := vs'[j]) (d := dat y) fun F o s ⟨_, _, _, _, _, _, ⟨_, vs'', e2, r⟩⟩ => by
        rw [ep'] at e2
        cases e2
        obtain ⟨v', e3, r3⟩ := r.get (i := j) (d := dat y) (by simp [ea])
        rw [hv] at e3
        cases e3
        exact r3
      have t6 := own_write (σ := σ) (es := (xs.eraseIdx j).map dat) (ws := vs'.eraseIdx j) (t5.ent Ent.assoc') fun F o vs'' s z e2 r => by
        rw [ep'] at e2
        cases e2
        have := RpAll_erase r j
        rw [List.eraseIdx_eq_take_drop_succ (l := xs.map dat)] at this
        rw [List.eraseIdx_eq_take_drop_succ (l := xs), List.map_append, List.map_take, List.map_drop]
        exact this
      exact ((t6.ent Ent.assoc).ent (Ent.sepR (back _))).ent frontE
theorem oOs_at : ∀ {dss : List (List PyData)} {vs : List V} {k : Nat} {ds : List PyData} {v : V}, dss[k]? = some ds → vs[k]? = some v → Ent (oOs dss vs) (oV ds v)
  | [], _, _, _, _, h, _ => by simp at h
  | _ :: _, [], _, _, _, _, h => by simp at h
  | _ :: _, _ :: _, 0, _, _, h, k => by
    simp at h k
    subst h
    subst k
    exact Ent.left
  | _ :: dss, _ :: vs, k + 1, _, _, h, e => Ent.right.trans (oOs_at (dss := dss) (vs := vs) (k := k) (by simpa using h) (by simpa using e))
def pokeIx (dss : List (List PyData)) (k : Nat) : Res Unit := match dss[k]? with
  | some ds => need (ds.length < lim) (.ok ())
  | none => .bad
/-- rows[k].append(None), the rows are given away -/
theorem es_pokeIx {dss : List (List PyData)} {k : Nat} (hi : Γ[i]? = some (cOO dss)) :
    EvS1 E (tDrop (tBM E.K "list" rAppend (tOp (rIxL E.K) (tVar i) (tC (.int (k : Int)))) (tCons (tC .non) tNil))) Γ (pokeIx dss k) fun _ => Γ.set i cAny := fun σ H R D t q => by
  unfold pokeIx at q
  cases e : dss[k]? with
  | none =>
    rw [e] at q
    exact (show False from q).elim
  | some ds =>
    rw [e] at q
    obtain ⟨hn, q⟩ := wp_need q
    obtain ⟨p, vs, hs, t1⟩ := take_OO hi t
    have ep : H p = some (.lst vs) := t1.fact fun F o s ⟨_, _, _, _, _, _, ⟨_, _, _, _, _, ⟨_, _, _, _, _, ⟨_, z⟩, _⟩, _⟩⟩ => z
    have ln : vs.length = dss.length := t1.fact fun F o s ⟨_, _, _, _, _, _, ⟨_, _, _, _, _, ⟨_, o1, _, _, _, _, z⟩, _⟩⟩ => oOs_len (o := o) ⟨o1, z⟩
    have hk : k < dss.length := (List.getElem?_eq_some_iff.mp e).1
    have hv : vs[k]? = some (vs[k]'(by omega)) := List.getElem?_eq_getElem _
    have t2 : Top (sep (sep (base E σ (Γ.set i cAny)) R) (oV ds (vs[k]'(by omega)))) H := t1.ent ((Ent.sepR (Ent.comm.trans (Ent.sepR (Ent.right.trans (oOs_at e hv))))).trans Ent.assoc')
    obtain ⟨p', ep'⟩ : ∃ p', vs[k]'(by omega) = .ref p' := t2.fact fun F o s ⟨_, _, _, _, _, _, ⟨p', e, _⟩⟩ => ⟨p', e⟩
    rw [ep'] at t2 hv
    have t3 : Top (sep (sep (base E σ (Γ.set i cAny)) R) (oA p' ds)) H := t2.ent (Ent.sepR fun F H o s ⟨p'', e, z⟩ => by
      cases e
      exact z)
    obtain ⟨ws, ew, lw⟩ := own_at t3
    have hat : atI vs (k : Int) = some (.ref p') := atI_nat hv
    refine ⟨.ref p, hs, p, vs, k, .ref p', rfl, rfl, SqL.of ep, hat, .inl ⟨rfl, ws, SqL.of ew⟩, p', ws, .non, rfl, rfl, ew, by rw [lw]; exact lim_lt hn, q σ _ ?_⟩
    have t4 := own_write (σ := σ) (es := ds ++ [.none]) (ws := ws ++ [.non]) t3 fun F o vs'' s a e2 r => by
      rw [ew] at e2
      cases e2
      exact r.append (.one .non)
    exact t4.ent Ent.left
end
theorem pe_bmK {X : Cx} {o e : Expr} {es : List Expr} {to : TE} {t : TA} {name : Str} {apos cpos : Pos} {T id : String} {r : V → List V → Hp → VK → Prop} (K : PySem.W.Frag) (hK : X.K = K) (pa : PlainAttrs T) (slot : Slot T name id) (hty : typeOf (.builtin id) = pure (.type "method_descriptor")) (hm : MtR X id r) (ho : PE X o to) (ha : PA X (e :: es) t)
    (hbase : attributeBase o name X.env (eval o X.env) = eval o X.env := by rfl)
    (hfew : ((backTo cpos (starEach (e :: es) X.env)).all (fun x => !x.1) && (backToKw cpos (keywordEach [] X.env)).all (fun x => x.1.isSome)
      && decide ((e :: es).length + ([] : List Keyword).length + (if ([] : List Keyword).isEmpty then 0 else 1) < 30)) = true := by rfl)
    (hline : (apos.endLine == cpos.line) = true := by rfl) (hs : starEach (e :: es) X.env = (false, eval e X.env) :: starEach es X.env := by rfl) (hplain : (backTo cpos (starEach es X.env)).any (·.1) = false := by rfl) :
    PE X (.Call (.Attribute o name apos) (e :: es) [] cpos) (tBM K T r to t) := hK ▸ pe_bm pa slot hty hm ho ha hbase hfew hline hs hplain
end Lc
/-! Lc: dicts of one's own, numbers by numbers -/
namespace Lc
open PySem L2 PySem.Spec PyProof.Rows
def kvI (p : Int × Int) : Key × V := (Sum.inl p.1, V.int p.2)
def getD' (kvs : List (Int × Int)) (k : Int) : Option Int := (kvs.find? fun kv => decide (kv.1 = k)).map (·.2)
def putD (kvs : List (Int × Int)) (k v : Int) : List (Int × Int) :=
  if (kvs.any fun kv => decide (kv.1 = k)) = true then kvs.map (fun kv => if kv.1 = k then (kv.1, v) else kv) else kvs ++ [(k, v)]
theorem valV_kvI (k : Int) : ∀ kvs : List (Int × Int), valV (kvs.map kvI) (Sum.inl k : Key) = (getD' kvs k).map V.int
  | [] => rfl
  | p :: r => by
    have ih := valV_kvI k r
    rw [List.map_cons]
    by_cases e : p.1 = k
    · rw [valV_pos (p := kvI p) (congrArg Sum.inl e)]
      unfold getD'
      simp [List.find?_cons, e, kvI]
    · rw [valV_neg (p := kvI p) (fun z => e (Sum.inl.inj z)), ih]
      unfold getD'
      simp [List.find?_cons, e]
theorem any_kvI (k : Int) (kvs : List (Int × Int)) : ((kvs.map kvI).any fun kv => decide (kv.1 = (Sum.inl k : Key))) = kvs.any fun kv => decide (kv.1 = k) := by
  rw [List.any_map]
  congr 1
  funext p
  simp [kvI]
theorem putK_kvI (kvs : List (Int × Int)) (k v : Int) : putK (kvs.map kvI) (Sum.inl k : Key) (V.int v) = (putD kvs k v).map kvI := by
  unfold putK putD
  rw [any_kvI]
  split
  · rw [List.map_map, List.map_map]
    refine List.map_congr_left fun p _ => ?_
    simp only [Function.comp_apply, kvI]
    by_cases e : p.1 = k
    · simp [e]
    · simp [e]
  · rw [List.map_append]
    rfl
/-- an owned dict -/
def dA (p : Addr) (kvs : List (Int × Int)) : Asr where
  P := fun F H o => o p ∧ H p = some (.dK (kvs.map kvI))
  st := fun s k ⟨h, e⟩ => ⟨h, (k p h).trans e⟩
  up := fun u ⟨h, e⟩ => ⟨u p h, e⟩
def rD (kvs : List (Int × Int)) : RC := fun _ v => exA fun p : Addr => sep (pur (v = .ref p)) (dA p kvs)
def cD (kvs : List (Int × Int)) : Cell := fun o => match o with
  | some v => rD kvs [] v
  | none => bot
theorem no_D {kvs : List (Int × Int)} : ∀ F H o, ¬ (cD kvs none).P F H o := fun _ _ _ h => h
theorem sto_D {kvs : List (Int × Int)} : Sto (rD kvs) (cD kvs) := fun _ _ _ _ t => t
section
variable {E : Ec} {te ta tb' tc tx ty : TE} {tr : TA} {t tb : TS} {Γ : List Cell} {α β γ δ : Type} {A B R : Asr} {H : Hp} {cx cy : RC} {i j : Nat} {kvs : List (Int × Int)}
open Res
theorem Top.allocD {p : Addr} (t : Top A H) (hp : H p = none) : Top (sep (dA p []) A) (upd H p (.dK [])) := by
  obtain ⟨F, o, s, k, a⟩ := t
  have ne : ∀ q, o q → q ≠ p := fun q hq e => (k q hq).2 (e ▸ hp)
  have fp : F p = none := by
    cases e : F p with
    | none => rfl
    | some u => rw [s p u e] at hp; cases hp
  refine ⟨F, fun q => q = p ∨ o q, fun b u e => ?_, fun q hq => ?_, (fun q => q = p), o, fun _ z => .inl z, fun _ z => .inr z, fun q e hq => ne q hq e, ⟨rfl, upd_same⟩, A.st (Same.refl F) (fun q hq => upd_ne (ne q hq)) a⟩
  · rw [upd_ne (fun z => by rw [z, fp] at e; cases e)]
    exact s b u e
  · rcases hq with hq | hq
    · rw [hq]
      exact ⟨fp, by rw [upd_same]; exact fun z => by cases z⟩
    · exact ⟨(k q hq).1, by rw [upd_ne (ne q hq)]; exact (k q hq).2⟩
theorem Top.writeD {p : Addr} {kvs' : List (Int × Int)} (t : Top (sep A (dA p kvs)) H) : Top (sep A (dA p kvs')) (upd H p (.dK (kvs'.map kvI))) := by
  obtain ⟨F, o, s, k, o1, o2, h1, h2, d, a, ⟨hp, e⟩⟩ := t
  have fp : F p = none := (k p (h2 p hp)).1
  refine ⟨F, o, fun b u e' => ?_, fun q hq => ?_, o1, o2, h1, h2, d, A.st (Same.refl F) (fun q hq => upd_ne fun z => d q hq (z ▸ hp)) a, ⟨hp, upd_same⟩⟩
  · rw [upd_ne (fun z => by rw [z, fp] at e'; cases e')]
    exact s b u e'
  · by_cases hb : q = p
    · rw [hb]
      exact ⟨fp, by rw [upd_same]; exact fun z => by cases z⟩
    · rw [upd_ne hb]
      exact k q hq
theorem ev_dnew : EvP E tDNewK Γ (rD []) := fun σ H R Q t q p hp => q _ _ (((Top.allocD t hp).ent (Ent.sepL fun F H o s z => (⟨p, sep_pers (fun _ => rfl) z⟩ : (rD [] σ (.ref p)).P F H o))).ent frontE)
/-- slot i's dict, taken out of the state -/
theorem take_D {σ : L2.St} (hi : Γ[i]? = some (cD kvs)) (t : Top (sep (base E σ Γ) A) H) :
    ∃ p, σ[i]? = some (some (.ref p)) ∧ Top (sep (sep (base E σ (Γ.set i cAny)) A) (dA p kvs)) H ∧ ∀ kvs', Ent (sep (sep (base E σ (Γ.set i cAny)) A) (dA p kvs')) (sep (base E σ (Γ.set i (cD kvs'))) A) := by
  obtain ⟨F, o, s, kk, o1, o2, h1, h2, e, ⟨o3, o4, h3, h4, e', a, b⟩, r⟩ := t
  obtain ⟨x, ex, o5, o6, h5, h6, e2, cx, rest⟩ := sl_take hi a
  have hlt : i < Γ.length := (List.getElem?_eq_some_iff.mp hi).1
  cases x with
  | none => exact (show False from cx).elim
  | some v =>
    obtain ⟨p, o7, o8, h7, h8, d7, ev, z⟩ := cx
    have ev : v = .ref p := ev
    subst ev
    refine ⟨p, ex, ⟨F, o, s, kk, fun q => o6 q ∨ o4 q ∨ o2 q, o8, fun q z => ?_, fun q z => h1 q (h3 q (h5 q (h8 q z))), fun q z w => ?_, ⟨fun q => o6 q ∨ o4 q, o2, fun q z => z.elim .inl fun z => .inr (.inl z), fun q z => .inr (.inr z), fun q z w => ?_, ⟨o6, o4, fun _ z => .inl z, fun _ z => .inr z, fun q z w => e' q (h6 q z) w, rest, b⟩, r⟩, z⟩, fun kvs' => put_cell (c := cD kvs') hlt ex fun F H o s z => ⟨p, sep_pers (fun _ => rfl) z⟩⟩
    · rcases z with z | z | z
      · exact h1 q (h3 q (h6 q z))
      · exact h1 q (h4 q z)
      · exact h2 q z
    · rcases z with z | z | z
      · exact e2 q (h8 q w) z
      · exact e' q (h5 q (h8 q w)) z
      · exact e q (h3 q (h5 q (h8 q w))) z
    · rcases z with z | z
      · exact e q (h3 q (h6 q z)) w
      · exact e q (h4 q z) w
theorem d_at {σ : L2.St} {p : Addr} (t : Top (sep A (dA p kvs)) H) : H p = some (.dK (kvs.map kvI)) := t.fact fun F o s ⟨_, _, _, _, _, _, ⟨_, z⟩⟩ => z
theorem ev_dget2 {m1 m2 : Res Int} (hi : Γ[i]? = some (cD kvs)) (h1 : EvJ E ty Γ m1 (fun _ => Γ) fun a => rV (.int a)) (h2 : EvJ E tx Γ m2 (fun _ => Γ) fun a => rV (.int a)) :
    EvJ E (tDGet2 (tVar i) ty tx) Γ (m1.bind fun k => m2.bind fun d => .ok ((getD' kvs k).getD d)) (fun _ => Γ) fun r => rV (.int r) := fun σ H R Q t q => by
  obtain ⟨p, hs, t2, _⟩ := take_D (A := R) hi t
  refine ⟨.ref p, hs, p, rfl, .inl ⟨_, .inl (d_at (σ := σ) t2)⟩, ?_⟩
  refine h1 σ H R _ t (wp_mono (wp_bind.mp q) (fun k _ q y H1 t1 => ?_) fun _ x => x)
  have ey := int1 t1
  subst ey
  refine h2 σ H1 R _ (t1.ent (Ent.sepR Ent.right)) (wp_mono (wp_bind.mp q) (fun d _ q z H2 t2 => ?_) fun _ x => x)
  have ez := int1 t2
  subst ez
  have t3 := t2.ent (Ent.sepR (B' := R) Ent.right)
  obtain ⟨p', hs', t4, _⟩ := take_D (A := R) hi t3
  rw [hs] at hs'
  cases hs'
  refine ⟨_, DGet.k (k := Sum.inl k) (d_at (σ := σ) t4), ?_⟩
  rw [valV_kvI]
  have e : ((getD' kvs k).map V.int).getD (.int d) = .int ((getD' kvs k).getD d) := by cases getD' kvs k <;> rfl
  rw [e]
  exact q _ H2 (res1 t2 fun F => .int _)
theorem es_dput {m1 m2 : Res Int} (hi : Γ[i]? = some (cD kvs)) (h1 : EvJ E tx Γ m1 (fun _ => Γ) fun a => rV (.int a)) (h2 : EvJ E ty Γ m2 (fun _ => Γ) fun a => rV (.int a)) :
    EvS1 E (sDPut (tVar i) ty tx) Γ (m1.bind fun v => m2.bind fun k => need (kvs.length < lim) (.ok (putD kvs k v))) fun r => Γ.set i (cD r) := fun σ H R D t q => by
  refine h1 σ H R _ t (wp_mono (wp_bind.mp q) (fun v _ q x H1 t1 => ?_) fun _ x => x σ)
  have ex := int1 t1
  subst ex
  have t1' := t1.ent (Ent.sepR (B' := R) Ent.right)
  obtain ⟨p, hs, _, _⟩ := take_D (A := R) hi t1'
  refine ⟨.ref p, hs, ?_⟩
  refine h2 σ H1 R _ t1' (wp_mono (wp_bind.mp q) (fun k _ q y H2 t2 => ?_) fun _ x => x σ)
  obtain ⟨hn, q⟩ := wp_need q
  have ey := int1 t2
  subst ey
  obtain ⟨p', hs', t4, back⟩ := take_D (A := R) hi (t2.ent (Ent.sepR Ent.right))
  rw [hs] at hs'
  cases hs'
  refine ⟨p, _, rfl, DPut.k (k := Sum.inl k) (d_at (σ := σ) t4) (by rw [List.length_map]; exact lim_lt hn), q σ _ ?_⟩
  rw [putK_kvI]
  exact (t4.writeD).ent (back _)
end
theorem kv_vals {κ : Type} {kvs : List (κ × V)} {vs : List (κ × Value)} (r : KV kvs vs) : Vals (kvs.map (·.2)) (vs.map (·.2)) := by
  unfold KV at r
  induction r with
  | nil => exact .nil
  | cons r t ih => exact .cons r.2 ih
/-- list(d.values()) -/
def tLVals (td : TE) : TE := fun σ H Q => td σ H fun x H1 => ∃ a kvs, x = V.ref a ∧ H1 a = some (.dK kvs) ∧ ∀ p, H1 p = none → Q (.ref p) (upd H1 p (.lst (kvs.map (·.2))))
section
variable {E : Ec} {Γ : List Cell} {R : Asr} {H : Hp} {i : Nat} {kvs : List (Int × Int)} {cx : RC}
theorem ev_listVals (hi : Γ[i]? = some (cD kvs)) : EvP E (tLVals (tVar i)) Γ (rO ((kvs.map (·.2)).map dat)) := fun σ H R Q t q => by
  obtain ⟨p, hs, t2, _⟩ := take_D (A := R) hi t
  refine ⟨.ref p, hs, p, _, rfl, d_at (σ := σ) t2, fun p' hp => ?_⟩
  have e : (kvs.map kvI).map (·.2) = (kvs.map (·.2)).map V.int := by
    rw [List.map_map, List.map_map]
    rfl
  rw [e]
  exact q _ _ (newL t hp fun F o s _ => RpAll.of_ints _)
/-- repr of a number -/
def reprI (i : Int) : Res Str := Res.need (i.natAbs.log2 < 1920) (.ok (toString i : String))
def rReprI : List V → Hp → VK → Prop := fun xs H Q => ∃ i : Int, xs = [.int i] ∧ i.natAbs.log2 < 1920 ∧ Q (.str (toString i : String)) H
theorem rn_reprI {n : Int} : RnJ E rReprI [rV (.int n)] Γ (reprI n) (fun _ => Γ) fun s => rV (.str s) := fun σ H R Q vs t q => by
  obtain ⟨hn, q⟩ := Res.wp_need q
  obtain ⟨x, rfl, t1⟩ := one_arg t
  obtain ⟨F, s, z⟩ := top1 t1
  have e : x = .int n := by cases z; rfl
  subst e
  exact ⟨n, rfl, hn, q _ H (res1 t1 fun F => .str _)⟩
end
section
variable {X : Cx} {o : Expr} {p pos apos mpos : Pos} {td : TE}
theorem reprIK : CallR X (.builtin "repr") rReprI := SkE.call_repr_int
theorem pe_listVals (hc : X.calm = true) (hg : Gl X "list") (hm : X.mg "list" = none) (hd : PE X o td) (hbase : attributeBase o "values" X.env (eval o X.env) = eval o X.env := by rfl) (hline : (apos.endLine == mpos.line) = true := by rfl)
    (hse : starEach [Expr.Call (.Attribute o "values" apos) [] [] mpos] X.env = [(false, eval (Expr.Call (.Attribute o "values" apos) [] [] mpos) X.env)] := by rfl) :
    PE X (.Call (.Name "list" p) [.Call (.Attribute o "values" apos) [] [] mpos] [] pos) (tLVals td) := by
  refine ⟨fun pins s σ H Q I h => ?_⟩
  refine wpAny_Call_Name_kw (ld_blt I hg hm (u := .type "list") (by first | rfl | decide +kernel) ?_ (by first | decide +kernel | decide) (by first | decide +kernel | decide))
  rw [hse]
  refine PySem.callWith_type1 (wpAny_Call_method0_late hbase hline (thn (hd.run pins s σ H _ I h) fun v s1 ⟨x, H1, I1, r1, a, kvs, ex, ha, q⟩ => ?_))
  subst ex
  obtain rfl : v = Value.ref a := r1
  obtain ⟨hz, hsys, vs, rel, dof⟩ := dk_of I1.hok ha
  obtain ⟨ep, dat⟩ := dof.dictAt
  have dat' := dat
  obtain ⟨ob, es, ho, ex, hdat, hko, hpr, hnd⟩ := dat'
  refine ⟨"dict", "dict.values", F.plainAttrs_dict, F.slot_dict_values, F.type_dict_values, ⟨ob, ho, ex.1⟩, fun b e => ?_, Calls.callWith_builtin rfl (PySem.evalArgs_none ?_)⟩
  · cases e
    exact ⟨ob, ho, ex.2.1⟩
  refine call_meetsIn F.slot_dict_values ⟨ob, ho, ex.1⟩ F.entry_dict_values (F.args_dict_values_1 _) (meets_dict_values (mixKind X.prog X.w) a hsys) ⟨⟨vs, dof⟩, ?_⟩
  have k1 : ∀ b u, s1.heap.get? b = some u → (s1.heap.push { cls := .type "dict_values", data := .fields #[.ref a] }).get? b = some u := fun b u e => Heap.get?_push_of_some _ e
  have dat1 : (s1.heap.push { cls := .type "dict_values", data := .fields #[.ref a] }).DictAt (mixKind X.prog X.w) a vs ep := dat.keep k1
  have hlv : vs.length = kvs.length := (KV.length rel).symm
  refine PySem.W.kdl_call (PySem.W.kdl_values (knd := mixKind X.prog X.w) (r := s1.heap.objs.size) (d := a) (kvs := vs) (ep := ep)) (I.ok.hd hc) ⟨⟨_, Heap.get?_push_size _ rfl, rfl, rfl⟩, dat1⟩ (by rw [hlv]; exact hz) fun h' tk acc c' hk hS hacc => ?_
  have hsz : (s1.heap.push { cls := .type "dict_values", data := .fields #[.ref a] }).objs.size = s1.heap.objs.size + 1 := Heap.size_push _ _
  rw [hsz] at hS
  have hvals : Vals (kvs.map (·.2)) acc.toList := by
    have e : acc.toList = vs.map (·.2) := PySem.W.kdl_vals_eq acc.toList (by simpa using hacc.1) fun j u hu => hacc.2 j u (by simpa using hu)
    rw [e]
    exact kv_vals rel
  have hlen : (kvs.map (·.2)).length ≤ sizeLine := by rw [List.length_map]; exact hz
  refine ⟨.ref (s1.heap.objs.size + 1), upd H1 (s1.heap.objs.size + 1) (.lst (kvs.map (·.2))), I1.laid (t' := tk) (fun b u e => hk b u (k1 b u e)) (Nat.le_succ _) ⟨hlen, acc.toList, c', hvals, by simpa using hS⟩, congrArg Value.ref hsz, q _ (I1.hok.fresh (Nat.le_succ _))⟩
end
theorem hU1 {n : Nat} (h : n + 64 < cLine) : n + 1 < cLine := Nat.lt_of_le_of_lt (Nat.add_le_add_left (by decide) n) h
/-! ### a list made for the call, changed in place by the callee -/
def rT (p : Addr) : RC := fun _ v => ⟨fun _ _ _ => v = .ref p, fun _ _ h => h, fun _ h => h⟩
section
variable {E : Ec} {tr : TA} {Γ : List Cell} {α β δ : Type}
open Res
theorem pa_tp {Kn : L2.St → Prop} {p : Addr} : PArg E Γ Kn (rT p) (ppAt p) := fun σ w F H o kn s ⟨_, _, _, _, _, _, x⟩ => x
/-- argument j, a list of one's own, taken out -/
theorem take_tmp {σ : L2.St} {ds : List PyData} : ∀ {cs : List RC} {j : Nat} {vs : List V} {F H : Hp} {o : Addr → Prop}, cs[j]? = some (rO ds) → (csA cs σ vs).P F H o → ∃ p, (sep (csA (cs.set j (rT p)) σ vs) (oA p ds)).P F H o
  | [], _, _, _, _, _, h, _ => by cases h
  | _ :: _, _, [], _, _, _, _, a => (show False from a).elim
  | c :: cs, 0, v :: vs, F, H, o, h, ⟨o1, o2, h1, h2, d, a, b⟩ => by
    cases h
    obtain ⟨p, e, x⟩ := a
    exact ⟨p, o2, o1, h2, h1, fun q z w => d q w z, sep_pers (fun _ => e) b, x⟩
  | c :: cs, j+1, v :: vs, F, H, o, h, ⟨o1, o2, h1, h2, d, a, b⟩ => by
    obtain ⟨p, o3, o4, h3, h4, d', x, y⟩ := take_tmp (cs := cs) (j := j) h b
    refine ⟨p, fun q => o1 q ∨ o3 q, o4, fun q z => z.elim (h1 q) fun z => h2 q (h3 q z), fun q z => h2 q (h4 q z), fun q z w => z.elim (fun z => d q z (h4 q w)) fun z => d' q z w, ?_, y⟩
    exact ⟨o1, o3, fun _ z => .inl z, fun _ z => .inr z, fun q z w => d q z (h3 q w), a, x⟩
theorem callT_core {j : Nat} {cs : List RC} {ps : Addr → α → List PP} {i0 : α → List PyData} {m : α → Res β} {i1 : β → List PyData} {cb : β → V → Asr} {x : α} {Ex : XK} {σ : L2.St} (hj : cs[j]? = some (rO (i0 x)))
    (hp : ∀ p, Pars E Γ K0 (cs.set j (rT p)) (ps p x)) (hx : XOk E Γ) (hE : ∀ k H, E.W (E.ec k) none σ H → Ex (E.ec k) none H) {H : Hp} {R : Asr} {Q : VK} {vs : List V}
    (t : Top (sep (base E σ Γ) (sep (csA cs σ vs) R)) H) (q : (m x).wp (fun b => ∀ v H', Top (sep (base E σ Γ) (sep (cb b v) R)) H' → Q v H') (Exn E R σ)) : Sp1 E.ec ps i0 m i1 cb vs H Q Ex := by
  obtain ⟨F, o, s, kk, o1, o2, h1, h2, d, a, ⟨o3, o4, h3, h4, d', b, c⟩⟩ := t
  obtain ⟨p, o5, o6, h5, h6, d2, b1, b2⟩ := take_tmp hj b
  have t2 : Top (sep (sep (base E σ Γ) (sep (csA (cs.set j (rT p)) σ vs) R)) (oA p (i0 x))) H := by
    refine ⟨F, o, s, kk, fun q => o1 q ∨ o5 q ∨ o4 q, o6, fun q z => ?_, fun q z => h2 q (h3 q (h6 q z)), fun q z w => ?_, ⟨o1, fun q => o5 q ∨ o4 q, fun _ z => .inl z, fun _ z => .inr z, fun q z w => ?_, a, ⟨o5, o4, fun _ z => .inl z, fun _ z => .inr z, fun q z w => d' q (h5 q z) w, b1, c⟩⟩, b2⟩
    · rcases z with z | z | z
      · exact h1 q z
      · exact h2 q (h3 q (h5 q z))
      · exact h2 q (h4 q z)
    · rcases z with z | z | z
      · exact d q z (h3 q (h6 q w))
      · exact d2 q z w
      · exact d' q (h6 q w) z
    · rcases w with w | w
      · exact d q z (h3 q (h5 q w))
      · exact d q z (h4 q w)
  refine ⟨p, x, _, t2, fun F H o s h => hp p σ vs F H o trivial s (Ent.sepR Ent.left F H o s h), wp_mono q (fun b _ q1 v H' t' => q1 v H' (t'.ent ?_)) fun k q1 H' t' => hE k H' (q1 H' (t'.ent ?_))⟩
  · exact Ent.assoc.trans (Ent.sepR ((Ent.sep Ent.right Ent.right).trans Ent.comm))
  · exact Ent.left.trans (Ent.sep (Ent.sepL (hx σ)) Ent.right)
theorem evp_callT {j : Nat} {cs : List RC} {ps : Addr → α → List PP} {i0 : α → List PyData} {m : α → Res β} {i1 : β → List PyData} {cb : β → V → Asr} (x : α) (h : EvAP E tr Γ cs) (hj : cs[j]? = some (rO (i0 x)))
    (hp : ∀ p, Pars E Γ K0 (cs.set j (rT p)) (ps p x)) (hx : XOk E Γ) : EvJ E (tCallS (Sp1 E.ec ps i0 m i1 cb) (WE E.W) tr) Γ (m x) (fun _ => Γ) (fun b _ => cb b) := fun σ H R Q t q =>
  h σ H R _ t fun vs H1 t1 => callT_core hj hp hx (fun k H z => z) t1 q
theorem ev_callT {j : Nat} {ma : Res δ} {Γ1 : δ → List Cell} {cs : δ → List RC} {ps : Addr → α → List PP} {i0 : α → List PyData} {m : α → Res β} {i1 : β → List PyData} {cb : β → V → Asr} (x : δ → α) (h : EvA E tr Γ ma Γ1 cs) (e : Γ1 = fun _ => Γ) (hj : ∀ a, (cs a)[j]? = some (rO (i0 (x a))))
    (hp : ∀ a p, Pars E Γ K0 ((cs a).set j (rT p)) (ps p (x a))) (hx : XOk E Γ) : EvJ E (tCallS (Sp1 E.ec ps i0 m i1 cb) (WE E.W) tr) Γ (ma.bind fun a => m (x a)) (fun _ => Γ) (fun b _ => cb b) := fun σ H R Q t q => by
  subst e
  exact h σ H R _ t (wp_mono (wp_bind.mp q) (fun a _ q1 vs H1 t1 => callT_core (hj a) (hp a) hx (fun k H z => z) t1 q1) fun _ z => z)
end
/-! ### x *= e -/
def ipIN (C : Int → Int → Prop) (f : Int → Int → Int) : TIp := fun x y H Q => ∃ i j, x = .int i ∧ y = .int j ∧ C i j ∧ Q (.int (f i j)) H
theorem ip_mulA {X : Cx} : PIp X .Mult (ipIN CMulA fun i j => i * j) := by
  intro pins s σ H x y v u Q I r1 r2 h
  obtain ⟨i, j, e1, e2, hc, q⟩ := h
  subst e1; subst e2
  obtain ⟨t, rfl⟩ := r1
  obtain ⟨t', rfl⟩ := r2
  exact PyProof.Rows.imul_int ⟨.int _, H, I.tok _, ⟨_, rfl⟩, q⟩ (hc.elim (fun h => CMul.ok h) fun h => CMulW.ok h)
section
variable {E : Ec} {te : TE} {Γ : List Cell}
open Res
theorem es_augmul {i : Nat} {x : Int} {m1 : Res Int} {Γ1 : Int → List Cell} (h : EvJ E te Γ m1 Γ1 fun a => rV (.int a)) (h0 : Γ[i]? = some (cV (.int x))) (hi : ∀ a, i < (Γ1 a).length) :
    EvS1 E (tAug i te (ipIN CMulA fun i j => i * j)) Γ (m1.bind fun a => (mulA x a).bind fun b => .ok (a, b)) fun r => (Γ1 r.1).set i (cV (.int r.2)) := fun σ H R D t0 q => by
  have e : σ[i]? = some (some (.int x)) := t0.fact fun F o s ⟨_, _, _, _, _, ⟨_, _, _, _, _, a, _⟩, _⟩ => by
    obtain ⟨y, ey, hy⟩ := sl_get h0 a
    cases y with
    | none => exact (show False from hy).elim
    | some v =>
      cases (show Rp F v (.int x) from hy)
      exact ey
  refine ⟨.int x, e, h σ H R _ t0 (wp_mono (wp_bind.mp q) (fun a _ q1 v H' t' => ?_) fun _ x => x σ)⟩
  have ev : v = .int a := t'.fact fun F o s ⟨_, _, _, _, _, _, ⟨_, _, _, _, _, z, _⟩⟩ => by
    cases (show Rp F v (.int a) from z)
    rfl
  obtain ⟨hc, q2⟩ := wp_need (wp_bind.mp q1)
  refine ⟨x, a, rfl, ev, hc, ?_⟩
  have q3 := q2
  refine q3 _ H' ?_
  have t2 := t'.ent (Ent.sepR (B' := R) Ent.right)
  have t3 := (t2.addV (v := .int (x * a)) (d := .int (x * a)) fun F _ _ _ => .int _).ent ((Ent.assoc'.trans (Ent.sepL Ent.comm)).trans Ent.assoc)
  exact put_slot (c := rV (.int (x * a))) sto_v (hi a) t3
end
end Lc
/-! Lc: divmod, xs += ys, a list that may be None -/
namespace Lc
open PySem L2
section
variable {E : Ec} {te : TE} {tr : TA} {Γ : List Cell} {α β γ : Type}
open Res
def CDivm (i j : Int) : Prop := 0 < j ∧ Builtin.Int.intBits i ≤ Builtin.Int.intBits j + 4000
instance (i j : Int) : Decidable (CDivm i j) := by unfold CDivm; infer_instance
def divmodR (i j : Int) : Res (Int × Int) := need (CDivm i j) (.ok (i / j, i % j))
def rDivm : List V → Hp → VK → Prop := fun xs H Q => ∃ i j, xs = [.int i, .int j] ∧ CDivP i j ∧ ∀ p, H p = none → Q (.ref p) (upd H p (.tup [.int (i / j), .int (i % j)]))
theorem divmodK {X : Cx} : CallR X (.builtin "divmod") rDivm := call_divmodW
theorem rn_divm {i j : Int} : RnJ E rDivm [rV (.int i), rV (.int j)] Γ (divmodR i j) (fun _ => Γ) fun r => rV (.tuple [.int r.1, .int r.2]) := fun σ H R Q vs t q => by
  obtain ⟨hc, q⟩ := wp_need q
  obtain ⟨x, y, rfl, t1⟩ := two_args t
  have e1 := int1 t1
  have e2 := int2 t1
  subst e1
  subst e2
  refine ⟨i, j, rfl, divp_ok hc.1 hc.2, fun p hp => q (.ref p) _ ?_⟩
  exact newT (ds := [.int (i / j), .int (i % j)]) (t1.ent (Ent.sepR (Ent.right.trans Ent.right))) hp fun F o _ _ => .cons (.int _) (.cons (.int _) .nil)
/-- xs += ys, a frozen list -/
theorem ip_ext {X : Cx} : PIp X .Add rExt2 := fun pins s σ H x y v u Q I rx ry h => iop_ext pins s σ H x y v u Q I rx ry h
theorem es_augL [Dat α] {mk : List PyData → Cell} {i : Nat} {m : Res γ} {Γ1 : γ → List Cell} {c : γ → RC} {xs ys : γ → List α} {ds0 : List PyData} (hk : OwnC mk) (h : EvJ E te Γ m Γ1 c) (hp : ∀ a, PArg E ((Γ1 a).set i cAny) K0 (c a) (ppL ((ys a).map dat))) (h0 : Γ[i]? = some (mk ds0)) (hi : ∀ a, (Γ1 a)[i]? = some (mk ((xs a).map dat))) :
    EvS1 E (tAug i te rExt2) Γ (m.bind fun a => need ((xs a).length + (ys a).length ≤ lim) (.ok a)) fun a => (Γ1 a).set i (mk ((xs a ++ ys a).map dat)) := fun σ H R D t q => by
  obtain ⟨p, hs, t2, _⟩ := take_own (A := R) hk h0 t
  refine ⟨_, hs, ?_⟩
  refine h σ H R _ t (wp_mono (wp_bind.mp q) (fun a _ q w H1 t1 => ?_) fun _ x => x σ)
  obtain ⟨hn, q⟩ := wp_need q
  obtain ⟨p', hs', t4, back⟩ := take_own hk (hi a) t1
  rw [hs] at hs'
  cases hs'
  obtain ⟨vs', ep', ln⟩ := own_at t4
  rw [List.length_map] at ln
  have rd : ∀ F o, Same F H1 → (sep (base E σ ((Γ1 a).set i cAny)) (sep (c a σ w) R)).P F H1 o → ppL ((ys a).map dat) w F H1 := fun F o s ⟨o1, o2, h1, h2, d, x1, ⟨o3, o4, h3, h4, d', x2, x3⟩⟩ =>
    hp a σ w F H1 o trivial s ⟨o1, o3, h1, fun p z => h2 p (h3 p z), fun p z w => d p z (h3 p w), x1, x2⟩
  obtain ⟨b, zs, rfl, eb, lb⟩ : ∃ b zs, w = .ref b ∧ H1 b = some (.lst zs) ∧ zs.length = (ys a).length := t4.fact fun F o s ⟨_, _, _, _, _, z, _⟩ => by
    obtain ⟨b, zs, e, eb, r⟩ := rd F _ s z
    exact ⟨b, zs, e, eb, by rw [r.len, List.length_map]⟩
  refine ⟨p, b, vs', zs, rfl, rfl, ep', eb, by rw [ln, lb]; exact lim_le hn, ?_⟩
  have es : σ.set i (some (V.ref p)) = σ := by
    obtain ⟨hl, e⟩ := List.getElem?_eq_some_iff.mp hs
    rw [← e, List.set_getElem_self]
  show D.nx (σ.set i (some (V.ref p))) _
  rw [es]
  refine q σ _ ?_
  have t5 := own_write (σ := σ) (es := (xs a ++ ys a).map dat) (ws := vs' ++ zs) t4 fun F o vs'' s z e2 r => by
    rw [ep'] at e2
    cases e2
    obtain ⟨b', zs', e, eb', r'⟩ := rd F o s z
    cases e
    rw [eb] at eb'
    cases eb'
    rw [List.map_append]
    exact r.append r'
  exact (t5.ent (back _)).ent (Ent.sepR Ent.right)
/-- a list that may be None -/
def optR {α : Type} : Option α → Res α
  | some a => .ok a
  | none => .bad
theorem ev_optR [Dat α] {o : Option (List α)} (h : EvP E te Γ (rV (dat o))) : EvJ E te Γ (optR o) (fun _ => Γ) fun l => rV (.list (l.map dat)) := by
  cases o with
  | none => exact fun σ H R Q t q => (show False from q).elim
  | some l => exact fun σ H R Q t q => h σ H R Q t q
theorem et_norm {tt : TT} {m : Res γ} {b : γ → Bool} (h : EvT E tt Γ m (fun _ => Γ) b) : EvT E tt Γ (m.bind fun a => .ok (b a)) (fun _ => Γ) id := fun σ H R Q t q =>
  h σ H R Q t (wp_mono (wp_bind.mp q) (fun _ _ x => x) fun _ x => x)
end
end Lc
/-! Lc: dicts of one's own, read; dict(pairs) -/
namespace Lc
open PySem L2
section
variable {E : Ec} {te ta ty : TE} {tr : TA} {Γ : List Cell} {α β γ : Type} {A B R : Asr} {H : Hp} {cx : RC} {i : Nat} {kvs : List (Int × Int)}
open Res
/-- d[k] -/
theorem ev_dget {m1 : Res Int} (hi : Γ[i]? = some (cD kvs)) (h1 : EvJ E ty Γ m1 (fun _ => Γ) fun a => rV (.int a)) :
    EvJ E (tDGet (tVar i) ty) Γ (m1.bind fun k => optR (getD' kvs k)) (fun _ => Γ) fun r => rV (.int r) := fun σ H R Q t q => by
  obtain ⟨p, hs, _, _⟩ := take_D (A := R) hi t
  refine ⟨.ref p, hs, ?_⟩
  refine h1 σ H R _ t (wp_mono (wp_bind.mp q) (fun k _ q y H1 t1 => ?_) fun _ x => x)
  have ey := int1 t1
  subst ey
  obtain ⟨p', hs', t4, _⟩ := take_D (A := R) hi (t1.ent (Ent.sepR Ent.right))
  rw [hs] at hs'
  cases hs'
  cases e : getD' kvs k with
  | none =>
    rw [e] at q
    exact (show False from q).elim
  | some v =>
    rw [e] at q
    have q : ∀ w H', Top (sep (base E σ Γ) (sep (vA (.int v) w) R)) H' → Q w H' := q
    refine ⟨p, .int v, rfl, ?_, q _ H1 (res1 t1 fun F => .int _)⟩
    have := DGet.k (k := Sum.inl k) (d_at (σ := σ) t4)
    rw [valV_kvI, e] at this
    exact this
/-- k in d -/
theorem ev_din {m1 : Res Int} (hi : Γ[i]? = some (cD kvs)) (h1 : EvJ E ty Γ m1 (fun _ => Γ) fun a => rV (.int a)) :
    EvJ E (tDIn ty (tVar i)) Γ (m1.bind fun k => .ok (getD' kvs k).isSome) (fun _ => Γ) fun r => rV (.bool r) := fun σ H R Q t q => by
  refine h1 σ H R _ t (wp_mono (wp_bind.mp q) (fun k _ q y H1 t1 => ?_) fun _ x => x)
  have ey := int1 t1
  subst ey
  obtain ⟨p, hs, t4, _⟩ := take_D (A := R) hi (t1.ent (Ent.sepR Ent.right))
  refine ⟨.ref p, hs, p, _, rfl, DGet.k (k := Sum.inl k) (d_at (σ := σ) t4), ?_⟩
  rw [valV_kvI]
  have e : ((getD' kvs k).map V.int).isSome = (getD' kvs k).isSome := by cases getD' kvs k <;> rfl
  rw [e]
  have q : ∀ w H', Top (sep (base E σ Γ) (sep (vA (.bool (getD' kvs k).isSome) w) R)) H' → Q w H' := q
  exact q _ H1 (res1 t1 fun F => .bl _)
theorem ev_dnin {m1 : Res Int} (hi : Γ[i]? = some (cD kvs)) (h1 : EvJ E ty Γ m1 (fun _ => Γ) fun a => rV (.int a)) :
    EvJ E (tDNotIn ty (tVar i)) Γ (m1.bind fun k => .ok (!(getD' kvs k).isSome)) (fun _ => Γ) fun r => rV (.bool r) := fun σ H R Q t q => by
  refine h1 σ H R _ t (wp_mono (wp_bind.mp q) (fun k _ q y H1 t1 => ?_) fun _ x => x)
  have ey := int1 t1
  subst ey
  obtain ⟨p, hs, t4, _⟩ := take_D (A := R) hi (t1.ent (Ent.sepR Ent.right))
  refine ⟨.ref p, hs, p, _, rfl, DGet.k (k := Sum.inl k) (d_at (σ := σ) t4), ?_⟩
  rw [valV_kvI]
  have e : ((getD' kvs k).map V.int).isSome = (getD' kvs k).isSome := by cases getD' kvs k <;> rfl
  rw [e]
  have q : ∀ w H', Top (sep (base E σ Γ) (sep (vA (.bool (!(getD' kvs k).isSome)) w) R)) H' → Q w H' := q
  exact q _ H1 (res1 t1 fun F => .bl _)
/-- dict(pairs) -/
def mkD (ps : List (Int × Int)) : List (Int × Int) := ps.foldl (fun d p => putD d p.1 p.2) []
theorem mergeK_kvI : ∀ (ps d : List (Int × Int)), mergeK (d.map kvI) (ps.map kvI) = (ps.foldl (fun d p => putD d p.1 p.2) d).map kvI
  | [], d => rfl
  | p :: ps, d => by
    have ih := mergeK_kvI ps (putD d p.1 p.2)
    rw [← putK_kvI] at ih
    exact ih
theorem Top.allocDk {p : Addr} {kvs : List (Int × Int)} (t : Top A H) (hp : H p = none) : Top (sep (dA p kvs) A) (upd H p (.dK (kvs.map kvI))) := by
  have h := (Top.writeD (kvs' := kvs) ((Top.allocD t hp).ent Ent.comm)).ent Ent.comm
  have e : upd (upd H p (.dK [])) p (.dK (kvs.map kvI)) = upd H p (.dK (kvs.map kvI)) := by
    funext q
    by_cases z : q = p
    · subst z
      rw [upd_same, upd_same]
    · rw [upd_ne z, upd_ne z, upd_ne z]
  rw [e] at h
  exact h
def rDictP (K : PySem.W.Frag) : List V → Hp → VK → Prop := fun xs H Q => ∃ (a : Addr) (ps : List Addr) (kvs : List (Key × V)), xs = [.ref a] ∧ SqL K H a (ps.map V.ref) ∧ Paired (fun p kv => SqT K H p [kV kv.1, kv.2]) ps kvs ∧
    ∀ p, H p = none → Q (.ref p) (upd H p (.dK (mergeK [] kvs)))
theorem dictPK {X : Cx} (K : PySem.W.Frag) (h : X.K = K) (hc : X.calm = true) : CallR X (.type "dict") (rDictP K) := h ▸ call_dictP hc
theorem pairs_rp {K : PySem.W.Frag} {F : Hp} (s : Same F H) : ∀ {vs : List V} {ps : List (Int × Int)}, RpAll F vs (ps.map dat) → ∃ as : List Addr, vs = as.map V.ref ∧ Paired (fun p kv => SqT K H p [kV kv.1, kv.2]) as (ps.map kvI)
  | [], [], _ => ⟨[], rfl, .nil⟩
  | [], _ :: _, h => by cases h
  | _ :: _, [], h => by cases h
  | v :: vs, p :: ps, h => by
    cases h with
    | cons h1 h2 =>
      obtain ⟨as, rfl, hp⟩ := pairs_rp s h2
      have h1 : Rp F v (.tuple [.int p.1, .int p.2]) := h1
      cases h1 with
      | tup e r =>
        rename_i a ws
        cases r with
        | cons r1 r2 =>
          cases r2 with
          | cons r2 r3 =>
            cases r3
            cases r1
            cases r2
            exact ⟨a :: as, rfl, .cons (SqT.of (s _ _ e)) hp⟩
theorem rn_dictP {ps : List (Int × Int)} (h : PArg E Γ K0 cx (ppL (ps.map dat))) : RnP E (rDictP E.K) [cx] Γ (rD (mkD ps)) := fun σ H R Q vs t q => by
  obtain ⟨x, rfl, t1⟩ := one_arg t
  obtain ⟨a, ws, rfl, e, _, t2⟩ := readL h t1
  obtain ⟨as, ew, hp⟩ : ∃ as : List Addr, ws = as.map V.ref ∧ Paired (fun p kv => SqT E.K H p [kV kv.1, kv.2]) as (ps.map kvI) := t2.fact fun F o s z => pairs_rp s (as_of F o s z)
  subst ew
  refine ⟨a, as, ps.map kvI, rfl, SqL.of e, hp, fun p hn => ?_⟩
  have em : mergeK [] (ps.map kvI) = (mkD ps).map kvI := mergeK_kvI ps []
  rw [em]
  refine q _ _ (((Top.allocDk (t1.ent (Ent.sepR Ent.right)) hn).ent (Ent.sepL fun F H o s z => (⟨p, sep_pers (fun _ => rfl) z⟩ : (rD (mkD ps) σ (.ref p)).P F H o))).ent frontE)
end
end Lc
/-! Lc: a number in a tuple of numbers -/
namespace Lc
open PySem L2
def inI (i : Int) (ns : List Int) : Bool := ns.any fun j => decide (j = i)
theorem ints_rp {F : Hp} : ∀ {ws : List V} {ns : List Int}, RpAll F ws (ns.map dat) → ws = ns.map V.int
  | [], [], _ => rfl
  | [], _ :: _, h => by cases h
  | _ :: _, [], h => by cases h
  | w :: ws, n :: ns, h => by
    cases h with
    | cons h1 h2 =>
      have h1 : Rp F w (.int n) := h1
      cases h1
      rw [ints_rp h2]
      rfl
theorem inV_ints (i : Int) (ns : List Int) : inV (.int i) (ns.map V.int) = inI i ns := by
  unfold inV inI
  rw [List.any_map]
  rfl
theorem flat_ints (ns : List Int) : (ns.map V.int).all flatV = true := by
  rw [List.all_map, List.all_eq_true]
  intro x _
  rfl
theorem inK {X : Cx} (K : PySem.W.Frag) (h : X.K = K) : OpR X (compareOp .In) (rIn K false) := h ▸ op_in_seq
theorem ninK {X : Cx} (K : PySem.W.Frag) (h : X.K = K) : OpR X (compareOp .NotIn) (rIn K true) := h ▸ op_notIn_seq
section
variable {E : Ec} {Γ : List Cell}
open Res
theorem r2_inT {i : Int} {ns : List Int} : R2P E (rIn E.K false) (rV (.int i)) (rV (.tuple (ns.map dat))) Γ (rV (.bool (inI i ns))) := fun σ H R Q x y t q => by
  have e1 := int1 t
  subst e1
  obtain ⟨F, s, z⟩ := top1 (t.ent Ent.assoc')
  cases z with
  | tup e r =>
    have er := ints_rp r
    subst er
    refine ⟨_, _, rfl, .inr (SqT.of (s _ _ e)), rfl, flat_ints _, ?_⟩
    rw [inV_ints]
    exact q _ H (res2 t fun F => .bl _)
theorem r2_ninT {i : Int} {ns : List Int} : R2P E (rIn E.K true) (rV (.int i)) (rV (.tuple (ns.map dat))) Γ (rV (.bool (!inI i ns))) := fun σ H R Q x y t q => by
  have e1 := int1 t
  subst e1
  obtain ⟨F, s, z⟩ := top1 (t.ent Ent.assoc')
  cases z with
  | tup e r =>
    have er := ints_rp r
    subst er
    refine ⟨_, _, rfl, .inr (SqT.of (s _ _ e)), rfl, flat_ints _, ?_⟩
    rw [inV_ints]
    exact q _ H (res2 t fun F => .bl _)
end
end Lc
/-! Lc: walks of tuples, list.index -/
namespace Lc
open PySem L2 RZ
section
variable {E : Ec} {te ta tb tx : TE} {tr : TA} {Γ : List Cell} {α β γ δ : Type} {R : Asr} {H : Hp} {cx : RC}
open Res
theorem sqT_ofR {K : PySem.W.Frag} {a : Addr} {ds : List PyData} {F H : Hp} (s : Same F H) (h : Rp F (.ref a) (.tuple ds)) : ∃ vs, SqT K H a vs ∧ RpAll F vs ds := by
  cases h with
  | tup e r => exact ⟨_, SqT.of (s _ _ e), r⟩
theorem tup_ref {F : Hp} {v : V} {ds : List PyData} (h : Rp F v (.tuple ds)) : ∃ a, v = .ref a := by
  cases h with
  | tup e r => exact ⟨_, rfl⟩
/-- zip(xs, ys), both tuples -/
theorem itok_zipT [Dat α] [Dat β] {K : PySem.W.Frag} {a b : Addr} {xs : List α} {ys : List β} {G : Asr} (h : ∀ F H o, Same F H → G.P F H o → ∃ vs, SqT K H a vs ∧ RpAll F vs (xs.map dat)) (h' : ∀ F H o, Same F H → G.P F H o → ∃ vs, SqT K H b vs ∧ RpAll F vs (ys.map dat)) :
    ItOk (ItzT K a b) ((xs.zip ys).map dat) G where
  goes := fun i H R hi t => by
    obtain ⟨F, o, s, k, p⟩ := t
    obtain ⟨vs, hs, r⟩ := h F H o s (Ent.left F H o s p)
    obtain ⟨ws, hs', r'⟩ := h' F H o s (Ent.left F H o s p)
    have ln := r.len
    have ln' := r'.len
    rw [List.length_map] at hi ln ln'
    rw [List.length_zip] at hi
    exact ⟨vs, ws, vs[i]'(by omega), ws[i]'(by omega), hs, hs', by simp [show i < vs.length by omega], by simp [show i < ws.length by omega]⟩
  stops := fun H R t => by
    obtain ⟨F, o, s, k, p⟩ := t
    obtain ⟨vs, hs, r⟩ := h F H o s (Ent.left F H o s p)
    obtain ⟨ws, hs', r'⟩ := h' F H o s (Ent.left F H o s p)
    have ln := r.len
    have ln' := r'.len
    rw [List.length_map] at ln ln'
    exact ⟨vs, ws, hs, hs', by rw [List.length_map, List.length_zip]; omega⟩
  yields := fun i d H x H' R hd t y => by
    obtain ⟨T, u, w, rfl, hT, rfl, hy, hy'⟩ := y
    rw [List.getElem?_map] at hd
    cases e : (xs.zip ys)[i]? with
    | none =>
      rw [e] at hd
      cases hd
    | some z =>
      rw [e] at hd
      cases hd
      obtain ⟨z1, z2⟩ := z
      obtain ⟨e1, e2⟩ := List.getElem?_zip_eq_some.mp e
      refine (Top.allocT (vs := [u, w]) (ds := [dat z1, dat z2]) t hT fun F o s p => ?_)
      obtain ⟨vs, hs, r⟩ := h F H o s (Ent.left F H o s p)
      obtain ⟨ws, hs', r'⟩ := h' F H o s (Ent.left F H o s p)
      obtain ⟨v, ev, rv⟩ := r.get (i := i) (d := dat z1) (by rw [List.getElem?_map, e1]; rfl)
      obtain ⟨v', ev', rv'⟩ := r'.get (i := i) (d := dat z2) (by rw [List.getElem?_map, e2]; rfl)
      have q1 := hy vs hs
      have q2 := hy' ws hs'
      rw [ev] at q1
      rw [ev'] at q2
      cases q1
      cases q2
      exact .cons rv (.one rv')
theorem ei_zipT [Dat α] [Dat β] {xs : List α} {ys : List β} (h : EvAP E tr Γ [rV (.tuple (xs.map dat)), rV (.tuple (ys.map dat))]) :
    EvI E (iZipA E.K tr) Γ (.ok ()) (fun _ => Γ) (fun _ => (xs.zip ys).map dat) fun _ _ => True := fun σ H R Qi t q =>
  h σ H R _ t fun vs H1 t1 => by
    obtain ⟨x, y, rfl, t2⟩ := two_args t1
    obtain ⟨F, s, z⟩ := top1 t2
    obtain ⟨F', s', z'⟩ := top1 (top_rot t2)
    obtain ⟨a, rfl⟩ := tup_ref z
    obtain ⟨b, rfl⟩ := tup_ref z'
    obtain ⟨us, hu, _⟩ := sqT_ofR (K := E.K) s z
    obtain ⟨ws, hw, _⟩ := sqT_ofR (K := E.K) s' z'
    refine ⟨a, b, us, ws, rfl, .inr ⟨hu, hw, q _ H1 (sep (vA (.tuple (xs.map dat)) (.ref a)) (vA (.tuple (ys.map dat)) (.ref b))) (fun σ' Γ'' _ => itok_zipT (fun F' H' o s z => ?_) fun F' H' o s z => ?_) (t2.ent (Ent.sepR Ent.assoc'))⟩⟩
    · exact sqT_ofR s (Ent.left F' H' o s (Ent.right F' H' o s z))
    · exact sqT_ofR s (Ent.right F' H' o s (Ent.right F' H' o s z))
/-- xs.index(y) -/
def indexR (xs : List Int) (y : Int) : Res Int := match xs.findIdx? (fun x => decide (x = y)) with
  | some j => .ok (j : Int)
  | none => .bad
theorem ev_index {xs : List Int} {m : Res γ} {Γ1 : γ → List Cell} {y : γ → Int} (hx : EvP E tx Γ cx) (hp : PArg E Γ K0 cx (ppS E.K (xs.map dat))) (h : EvJ E te Γ m Γ1 fun a => rV (.int (y a))) (e : Γ1 = fun _ => Γ) :
    EvJ E (tBM E.K "list" (rIndex E.K) tx (tCons te tNil)) Γ (m.bind fun a => indexR xs (y a)) (fun _ => Γ) fun r => rV (.int r) := fun σ H R Q t q => by
  subst e
  refine hx σ H R _ t fun x H1 t1 => ?_
  obtain ⟨a, rfl, hs⟩ := ints_of hp t1
  refine ⟨.inl ⟨rfl, _, hs⟩, ?_⟩
  refine h σ H1 _ _ t1 (wp_mono (wp_bind.mp q) (fun g _ q w H2 t2 => ?_) fun _ x => x.drop)
  have ew := int1 t2
  subst ew
  obtain ⟨a', e2, hs2⟩ := ints_of hp (top_rot t2)
  cases e2
  unfold indexR at q
  cases ej : xs.findIdx? (fun x => decide (x = y g)) with
  | none =>
    rw [ej] at q
    exact (show False from q).elim
  | some j =>
    rw [ej] at q
    obtain ⟨hj, hj1, hj2⟩ := List.findIdx?_eq_some_iff_getElem.mp ej
    refine ⟨a, xs.map V.int, .int (y g), j, .int xs[j], rfl, rfl, hs2, rfl, by simp [flatV], by rw [List.getElem?_map, List.getElem?_eq_getElem hj]; rfl, ?_, fun m z' hm hz => ?_, q _ _ (res1 (t2.ent (Ent.sepR (Ent.sepR Ent.right))) fun F => .int _)⟩
    · have := of_decide_eq_true hj1
      show (xs[j] == y g) = true
      rw [this]
      exact beq_self_eq_true _
    · rw [List.getElem?_map, List.getElem?_eq_getElem (by omega)] at hz
      cases hz
      have := hj2 m hm
      show (xs[m] == y g) = false
      simpa using this
theorem rn_lenU [Dat α] {xs : List α} : RnP E (rLen E.K) [rV (.tuple (xs.map dat))] Γ (rV (.int xs.length)) := by
  have := rn_lenT (E := E) (Γ := Γ) (ds := xs.map dat)
  rwa [List.length_map] at this
end
section
variable {E : Ec} {tr : TA} {Γ : List Cell} {α β δ : Type}
open Res
theorem ev_callSe {ma : Res δ} {Γ1 : δ → List Cell} {Γ2 : δ × β → List Cell} {cs : δ → List RC} {ps : α → List PP} {m : α → Res β} {cb : β → V → Asr} (x : δ → α) (h : EvA E tr Γ ma Γ1 cs) (hp : ∀ a, Pars E (Γ1 a) K0 (cs a) (ps (x a))) (hx : ∀ a, XOk E (Γ1 a)) (e : ∀ r, Γ1 r.1 = Γ2 r) :
    EvJ E (tCallS (Sp0 E.ec ps m cb) (WE E.W) tr) Γ (ma.bind fun a => (m (x a)).bind fun b => .ok (a, b)) Γ2 (fun p _ => cb p.2) := by
  have e2 : Γ2 = fun r => Γ1 r.1 := funext fun r => (e r).symm
  rw [e2]
  exact ev_callS x h hp hx
end
theorem indexK {X : Cx} (K : PySem.W.Frag) (h : X.K = K) : MtR X "list.index" (rIndex K) := h ▸ mt_index
end Lc
/-! Lc: dicts of one's own, texts or tuples of numbers by numbers -/
namespace Lc
open PySem L2
instance {α : Type} [DecidableEq α] : DecidableEq (Tu α) := fun a b => if h : a.l = b.l then isTrue (by cases a; cases b; cases h; rfl) else isFalse fun e => h (congrArg Tu.l e)
def getK {κ : Type} [DecidableEq κ] (kvs : List (κ × Int)) (k : κ) : Option Int := (kvs.find? fun kv => decide (kv.1 = k)).map (·.2)
def putKd {κ : Type} [DecidableEq κ] (kvs : List (κ × Int)) (k : κ) (v : Int) : List (κ × Int) :=
  if (kvs.any fun kv => decide (kv.1 = k)) = true then kvs.map (fun kv => if kv.1 = k then (kv.1, v) else kv) else kvs ++ [(k, v)]
section
variable {κ g : Type} [DecidableEq κ] [DecidableEq g] {e : κ → g}
theorem valV_enc (inj : ∀ a b, e a = e b → a = b) (k : κ) : ∀ kvs : List (κ × Int), valV (kvs.map fun p => (e p.1, V.int p.2)) (e k) = (getK kvs k).map V.int
  | [] => rfl
  | p :: r => by
    have ih := valV_enc inj k r
    rw [List.map_cons]
    by_cases q : p.1 = k
    · rw [valV_pos (p := (e p.1, V.int p.2)) (congrArg e q)]
      unfold getK
      simp [List.find?_cons, q]
    · rw [valV_neg (p := (e p.1, V.int p.2)) (fun z => q (inj _ _ z)), ih]
      unfold getK
      simp [List.find?_cons, q]
theorem putK_enc (inj : ∀ a b, e a = e b → a = b) (kvs : List (κ × Int)) (k : κ) (v : Int) : putK (kvs.map fun p => (e p.1, V.int p.2)) (e k) (V.int v) = (putKd kvs k v).map fun p => (e p.1, V.int p.2) := by
  have ha : ((kvs.map fun p => (e p.1, V.int p.2)).any fun kv => decide (kv.1 = e k)) = kvs.any fun kv => decide (kv.1 = k) := by
    rw [List.any_map]
    congr 1
    funext p
    have : (e p.1 = e k) ↔ p.1 = k := ⟨inj _ _, congrArg e⟩
    simp [this]
  unfold putK putKd
  rw [ha]
  split
  · rw [List.map_map, List.map_map]
    refine List.map_congr_left fun p _ => ?_
    simp only [Function.comp_apply]
    by_cases q : p.1 = k
    · simp [q]
    · have : ¬ e p.1 = e k := fun z => q (inj _ _ z)
      simp [q, this]
  · rw [List.map_append]
    rfl
end
/-- what can be a dict's key -/
class DKey (κ : Type) [Dat κ] [DecidableEq κ] where
  ob : List (κ × Int) → HO
  isD : ∀ {H : Hp} {a : Addr} {kvs : List (κ × Int)}, H a = some (ob kvs) → IsD H a
  get : ∀ {F H : Hp} {a : Addr} {y : V} {kvs : List (κ × Int)} {k : κ}, Same F H → H a = some (ob kvs) → Rp F y (dat k) → DGet H a y ((getK kvs k).map V.int)
  put : ∀ {F H : Hp} {a : Addr} {y : V} {kvs : List (κ × Int)} {k : κ} {v : Int}, Same F H → H a = some (ob kvs) → Rp F y (dat k) → kvs.length < sizeLine → DPut H a y (.int v) (upd H a (ob (putKd kvs k v)))
instance : DKey Str where
  ob kvs := .dK (kvs.map fun p => ((Sum.inr p.1 : Key), V.int p.2))
  isD h := .inl ⟨_, .inl h⟩
  get {F H a y kvs k} s h r := by
    have r : Rp F y (.str k) := r
    cases r
    have := DGet.k (k := (Sum.inr k : Key)) h
    rwa [valV_enc (e := fun x : Str => (Sum.inr x : Key)) (fun a b z => Sum.inr.inj z)] at this
  put {F H a y kvs k v} s h r hl := by
    have r : Rp F y (.str k) := r
    cases r
    have := DPut.k (k := (Sum.inr k : Key)) (v := V.int v) h (by rw [List.length_map]; exact hl)
    rwa [putK_enc (e := fun x : Str => (Sum.inr x : Key)) (fun a b z => Sum.inr.inj z)] at this
theorem tu_enc : ∀ a b : Tu Int, a.l.map (Sum.inl : Int → Key) = b.l.map Sum.inl → a = b := fun a b h => by
  cases a; cases b
  rw [List.map_inj_right (fun x y z => Sum.inl.inj z)] at h
  exact congrArg Tu.mk h
theorem tu_at {F H : Hp} {y : V} {k : Tu Int} (s : Same F H) (r : Rp F y (dat k)) : ∃ b, y = .ref b ∧ H b = some (.tup ((k.l.map (Sum.inl : Int → Key)).map kV)) := by
  have r : Rp F y (.tuple (k.l.map dat)) := r
  cases r with
  | tup e r =>
    refine ⟨_, rfl, ?_⟩
    rw [s _ _ e, RpAll.ints r, List.map_map]
    rfl
instance : DKey (Tu Int) where
  ob kvs := .dT (kvs.map fun p => (p.1.l.map (Sum.inl : Int → Key), V.int p.2))
  isD h := .inr ⟨_, .inl h⟩
  get {F H a y kvs k} s h r := by
    obtain ⟨b, rfl, eb⟩ := tu_at s r
    have := DGet.t h eb
    rwa [valV_enc (e := fun x : Tu Int => x.l.map (Sum.inl : Int → Key)) tu_enc] at this
  put {F H a y kvs k v} s h r hl := by
    obtain ⟨b, rfl, eb⟩ := tu_at s r
    have := DPut.t (v := V.int v) h eb (by rw [List.length_map]; exact hl)
    rwa [putK_enc (e := fun x : Tu Int => x.l.map (Sum.inl : Int → Key)) tu_enc] at this
section
variable {κ : Type} [Dat κ] [DecidableEq κ] [DKey κ]
/-- an owned dict -/
def kA (p : Addr) (kvs : List (κ × Int)) : Asr where
  P := fun F H o => o p ∧ H p = some (DKey.ob kvs)
  st := fun s k ⟨h, e⟩ => ⟨h, (k p h).trans e⟩
  up := fun u ⟨h, e⟩ => ⟨u p h, e⟩
def rK (kvs : List (κ × Int)) : RC := fun _ v => exA fun p : Addr => sep (pur (v = .ref p)) (kA p kvs)
def cK (kvs : List (κ × Int)) : Cell := fun o => match o with
  | some v => rK kvs [] v
  | none => bot
theorem no_K {kvs : List (κ × Int)} : ∀ F H o, ¬ (cK kvs none).P F H o := fun _ _ _ h => h
theorem sto_K {kvs : List (κ × Int)} : Sto (rK kvs) (cK kvs) := fun _ _ _ _ t => t
end
section
variable {κ : Type} [Dat κ] [DecidableEq κ] [DKey κ] {E : Ec} {te ta tx ty : TE} {tr : TA} {t : TS} {Γ : List Cell} {α β γ δ : Type} {A B R : Asr} {H : Hp} {cx cy : RC} {i j : Nat} {kvs : List (κ × Int)}
open Res
theorem Top.allocK {p : Addr} {kvs : List (κ × Int)} (t : Top A H) (hp : H p = none) : Top (sep (kA p kvs) A) (upd H p (DKey.ob kvs)) := by
  obtain ⟨F, o, s, k, a⟩ := t
  have ne : ∀ q, o q → q ≠ p := fun q hq e => (k q hq).2 (e ▸ hp)
  have fp : F p = none := by
    cases e : F p with
    | none => rfl
    | some u => rw [s p u e] at hp; cases hp
  refine ⟨F, fun q => q = p ∨ o q, fun b u e => ?_, fun q hq => ?_, (fun q => q = p), o, fun _ z => .inl z, fun _ z => .inr z, fun q e hq => ne q hq e, ⟨rfl, upd_same⟩, A.st (Same.refl F) (fun q hq => upd_ne (ne q hq)) a⟩
  · rw [upd_ne (fun z => by rw [z, fp] at e; cases e)]
    exact s b u e
  · rcases hq with hq | hq
    · rw [hq]
      exact ⟨fp, by rw [upd_same]; exact fun z => by cases z⟩
    · exact ⟨(k q hq).1, by rw [upd_ne (ne q hq)]; exact (k q hq).2⟩
theorem Top.writeK {p : Addr} {kvs kvs' : List (κ × Int)} (t : Top (sep A (kA p kvs)) H) : Top (sep A (kA p kvs')) (upd H p (DKey.ob kvs')) := by
  obtain ⟨F, o, s, k, o1, o2, h1, h2, d, a, ⟨hp, e⟩⟩ := t
  have fp : F p = none := (k p (h2 p hp)).1
  refine ⟨F, o, fun b u e' => ?_, fun q hq => ?_, o1, o2, h1, h2, d, A.st (Same.refl F) (fun q hq => upd_ne fun z => d q hq (z ▸ hp)) a, ⟨hp, upd_same⟩⟩
  · rw [upd_ne (fun z => by rw [z, fp] at e'; cases e')]
    exact s b u e'
  · by_cases hb : q = p
    · rw [hb]
      exact ⟨fp, by rw [upd_same]; exact fun z => by cases z⟩
    · rw [upd_ne hb]
      exact k q hq
theorem ev_knew {tD : TE} (h : ∀ σ H Q, (∀ p, H p = none → Q (.ref p) (upd H p (DKey.ob ([] : List (κ × Int))))) → tD σ H Q) : EvP E tD Γ (rK ([] : List (κ × Int))) := fun σ H R Q t q =>
  h σ H Q fun p hp => q _ _ (((Top.allocK t hp).ent (Ent.sepL fun F H o s z => (⟨p, sep_pers (fun _ => rfl) z⟩ : (rK ([] : List (κ × Int)) σ (.ref p)).P F H o))).ent frontE)
theorem ev_knewS : EvP E tDNewK Γ (rK ([] : List (Str × Int))) := ev_knew fun σ H Q h => h
theorem ev_knewT : EvP E tDNewT Γ (rK ([] : List (Tu Int × Int))) := ev_knew fun σ H Q h => h
/-- slot i's dict, taken out of the state -/
theorem take_K {σ : L2.St} (hi : Γ[i]? = some (cK kvs)) (t : Top (sep (base E σ Γ) A) H) :
    ∃ p, σ[i]? = some (some (.ref p)) ∧ Top (sep (sep (base E σ (Γ.set i cAny)) A) (kA p kvs)) H ∧ ∀ kvs' : List (κ × Int), Ent (sep (sep (base E σ (Γ.set i cAny)) A) (kA p kvs')) (sep (base E σ (Γ.set i (cK kvs'))) A) := by
  obtain ⟨F, o, s, kk, o1, o2, h1, h2, e, ⟨o3, o4, h3, h4, e', a, b⟩, r⟩ := t
  obtain ⟨x, ex, o5, o6, h5, h6, e2, cx, rest⟩ := sl_take hi a
  have hlt : i < Γ.length := (List.getElem?_eq_some_iff.mp hi).1
  cases x with
  | none => exact (show False from cx).elim
  | some v =>
    obtain ⟨p, o7, o8, h7, h8, d7, ev, z⟩ := cx
    have ev : v = .ref p := ev
    subst ev
    refine ⟨p, ex, ⟨F, o, s, kk, fun q => o6 q ∨ o4 q ∨ o2 q, o8, fun q z => ?_, fun q z => h1 q (h3 q (h5 q (h8 q z))), fun q z w => ?_, ⟨fun q => o6 q ∨ o4 q, o2, fun q z => z.elim .inl fun z => .inr (.inl z), fun q z => .inr (.inr z), fun q z w => ?_, ⟨o6, o4, fun _ z => .inl z, fun _ z => .inr z, fun q z w => e' q (h6 q z) w, rest, b⟩, r⟩, z⟩, fun kvs' => put_cell (c := cK kvs') hlt ex fun F H o s z => ⟨p, sep_pers (fun _ => rfl) z⟩⟩
    · rcases z with z | z | z
      · exact h1 q (h3 q (h6 q z))
      · exact h1 q (h4 q z)
      · exact h2 q z
    · rcases z with z | z | z
      · exact e2 q (h8 q w) z
      · exact e' q (h5 q (h8 q w)) z
      · exact e q (h3 q (h5 q (h8 q w))) z
    · rcases z with z | z
      · exact e q (h3 q (h6 q z)) w
      · exact e q (h4 q z) w
theorem k_at {σ : L2.St} {p : Addr} (t : Top (sep A (kA p kvs)) H) : H p = some (DKey.ob kvs) := t.fact fun F o s ⟨_, _, _, _, _, _, ⟨_, z⟩⟩ => z
/-- the frozen heap knows key and dict -/
theorem k_read {σ : L2.St} {k : κ} {y : V} (hi : Γ[i]? = some (cK kvs)) (t : Top (sep (base E σ Γ) (sep (vA (dat k) y) R)) H) : ∃ p F, σ[i]? = some (some (.ref p)) ∧ Same F H ∧ H p = some (DKey.ob kvs) ∧ Rp F y (dat k) := by
  obtain ⟨p, hs, t2, _⟩ := take_K (A := sep (vA (dat k) y) R) hi t
  obtain ⟨F, s, z⟩ := top1 t
  exact ⟨p, F, hs, s, k_at (σ := σ) t2, z⟩
/-- d[k] -/
theorem ev_kget {m1 : Res γ} {Γ1 : γ → List Cell} {k : γ → κ} (hi : Γ[i]? = some (cK kvs)) (h1 : EvJ E ty Γ m1 Γ1 fun a => rV (dat (k a))) (e1 : Γ1 = fun _ => Γ) :
    EvJ E (tDGet (tVar i) ty) Γ (m1.bind fun a => optR (getK kvs (k a))) (fun _ => Γ) fun r => rV (.int r) := fun σ H R Q t q => by
  subst e1
  obtain ⟨p, hs, _, _⟩ := take_K (A := R) hi t
  refine ⟨.ref p, hs, ?_⟩
  refine h1 σ H R _ t (wp_mono (wp_bind.mp q) (fun a _ q y H1 t1 => ?_) fun _ x => x)
  obtain ⟨p', F, hs', s, ep, r⟩ := k_read hi t1
  rw [hs] at hs'
  cases hs'
  cases e : getK kvs (k a) with
  | none =>
    rw [e] at q
    exact (show False from q).elim
  | some v =>
    rw [e] at q
    have q : ∀ w H', Top (sep (base E σ Γ) (sep (vA (.int v) w) R)) H' → Q w H' := q
    refine ⟨p, .int v, rfl, ?_, q _ H1 (res1 t1 fun F => .int _)⟩
    have := DKey.get s ep r
    rw [e] at this
    exact this
/-- k in d -/
theorem ev_kin {m1 : Res γ} {Γ1 : γ → List Cell} {k : γ → κ} (hi : Γ[i]? = some (cK kvs)) (h1 : EvJ E ty Γ m1 Γ1 fun a => rV (dat (k a))) (e1 : Γ1 = fun _ => Γ) :
    EvJ E (tDIn ty (tVar i)) Γ (m1.bind fun a => .ok (getK kvs (k a)).isSome) (fun _ => Γ) fun r => rV (.bool r) := fun σ H R Q t q => by
  subst e1
  refine h1 σ H R _ t (wp_mono (wp_bind.mp q) (fun a _ q y H1 t1 => ?_) fun _ x => x)
  obtain ⟨p, F, hs, s, ep, r⟩ := k_read hi t1
  refine ⟨.ref p, hs, p, _, rfl, DKey.get s ep r, ?_⟩
  have e : ((getK kvs (k a)).map V.int).isSome = (getK kvs (k a)).isSome := by cases getK kvs (k a) <;> rfl
  rw [e]
  have q : ∀ w H', Top (sep (base E σ Γ) (sep (vA (.bool (getK kvs (k a)).isSome) w) R)) H' → Q w H' := q
  exact q _ H1 (res1 t1 fun F => .bl _)
theorem ev_knin {m1 : Res γ} {Γ1 : γ → List Cell} {k : γ → κ} (hi : Γ[i]? = some (cK kvs)) (h1 : EvJ E ty Γ m1 Γ1 fun a => rV (dat (k a))) (e1 : Γ1 = fun _ => Γ) :
    EvJ E (tDNotIn ty (tVar i)) Γ (m1.bind fun a => .ok (!(getK kvs (k a)).isSome)) (fun _ => Γ) fun r => rV (.bool r) := fun σ H R Q t q => by
  subst e1
  refine h1 σ H R _ t (wp_mono (wp_bind.mp q) (fun a _ q y H1 t1 => ?_) fun _ x => x)
  obtain ⟨p, F, hs, s, ep, r⟩ := k_read hi t1
  refine ⟨.ref p, hs, p, _, rfl, DKey.get s ep r, ?_⟩
  have e : ((getK kvs (k a)).map V.int).isSome = (getK kvs (k a)).isSome := by cases getK kvs (k a) <;> rfl
  rw [e]
  have q : ∀ w H', Top (sep (base E σ Γ) (sep (vA (.bool (!(getK kvs (k a)).isSome)) w) R)) H' → Q w H' := q
  exact q _ H1 (res1 t1 fun F => .bl _)
/-- d[k] = n, the number first -/
theorem es_kput {v : Int} {m2 : Res γ} {Γ1 : γ → List Cell} {k : γ → κ} (hi : Γ[i]? = some (cK kvs)) (h1 : EvP E tx Γ (rV (.int v))) (h2 : EvJ E ty Γ m2 Γ1 fun a => rV (dat (k a))) (e1 : Γ1 = fun _ => Γ) :
    EvS1 E (sDPut (tVar i) ty tx) Γ (m2.bind fun a => need (kvs.length < lim) (.ok (putKd kvs (k a) v))) fun r => Γ.set i (cK r) := fun σ H R D t q => by
  subst e1
  refine h1 σ H R _ t fun x H1 t1 => ?_
  have ex := int1 t1
  subst ex
  have t1' := t1.ent (Ent.sepR (B' := R) Ent.right)
  obtain ⟨p, hs, _, _⟩ := take_K (A := R) hi t1'
  refine ⟨.ref p, hs, ?_⟩
  refine h2 σ H1 R _ t1' (wp_mono (wp_bind.mp q) (fun a _ q y H2 t2 => ?_) fun _ x => x σ)
  obtain ⟨hn, q⟩ := wp_need q
  obtain ⟨p', F, hs', s, ep, r⟩ := k_read hi t2
  rw [hs] at hs'
  cases hs'
  obtain ⟨p2, hs2, t4, back⟩ := take_K (A := R) hi (t2.ent (Ent.sepR Ent.right))
  rw [hs] at hs2
  cases hs2
  refine ⟨p, _, rfl, DKey.put s ep r (lim_lt hn), q σ _ ?_⟩
  exact (t4.writeK).ent (back _)
end
end Lc
/-! Lc: objects of own classes: made by __init__, frozen, read, asked -/
namespace Lc
open PySem L2 PySem.Spec PyProof.Rows
/-- a field as it is told: frozen data, or the name of a list of one's own -/
inductive FV where
  | z (d : PyData) | l (q : Addr)
def FvOk (F : Hp) (v : V) : FV → Prop
  | .z d => Rp F v d
  | .l q => v = .ref q
theorem FvOk.mono {F G : Hp} (s : Same F G) {v : V} : ∀ {g : FV}, FvOk F v g → FvOk G v g
  | .z _, h => Rp.mono s h
  | .l _, h => h
def FdOk (F : Hp) (fs : List (Str × V)) (gs : List (Str × FV)) : Prop :=
  (∀ f, match gs.lookup f with | none => fs.lookup f = none | some g => ∃ v, fs.lookup f = some v ∧ FvOk F v g) ∧ fs.length ≤ gs.length
theorem FdOk.mono {F G : Hp} (s : Same F G) {fs : List (Str × V)} {gs : List (Str × FV)} (h : FdOk F fs gs) : FdOk G fs gs := ⟨fun f => by
  have := h.1 f
  cases e : gs.lookup f with
  | none => rw [e] at this; exact this
  | some g =>
    rw [e] at this
    obtain ⟨v, a, b⟩ := this
    exact ⟨v, a, b.mono s⟩, h.2⟩
theorem FdOk.nil {F : Hp} : FdOk F [] [] := ⟨fun _ => rfl, Nat.le_refl _⟩
theorem FdOk.put {F : Hp} {fs : List (Str × V)} {gs : List (Str × FV)} {f : Str} {y : V} {g : FV} (h : FdOk F fs gs) (r : FvOk F y g) : FdOk F (putF f y fs) ((f, g) :: gs) := ⟨fun k => by
  rw [List.lookup_cons, lookup_putF]
  by_cases e : k = f
  · subst e
    rw [if_pos rfl]
    simp only [beq_self_eq_true]
    exact ⟨y, rfl, r⟩
  · have e2 : (k == f) = false := by simpa using e
    rw [if_neg e, e2]
    exact h.1 k, by
  have := length_putF f y fs
  have := h.2
  rw [List.length_cons]
  omega⟩
theorem FdOk.get {F : Hp} {fs : List (Str × V)} {gs : List (Str × FV)} {f : Str} {g : FV} (h : FdOk F fs gs) (e : gs.lookup f = some g) : ∃ v, fs.lookup f = some v ∧ FvOk F v g := by
  have := h.1 f
  rw [e] at this
  exact this
theorem FdOk.no {F : Hp} {fs : List (Str × V)} {gs : List (Str × FV)} {f : Str} (h : FdOk F fs gs) (e : gs.lookup f = none) : fs.lookup f = none := by
  have := h.1 f
  rw [e] at this
  exact this
/-- the lists of one's own frozen -/
def fzV (ds : List PyData) : FV → FV
  | .z d => .z d
  | .l _ => .z (.list ds)
def OnlyQ (q : Addr) : List (Str × FV) → Prop
  | [] => True
  | (_, .z _) :: gs => OnlyQ q gs
  | (_, .l q') :: gs => q' = q ∧ OnlyQ q gs
theorem lookup_fz (ds : List PyData) (f : Str) : ∀ gs : List (Str × FV), (gs.map fun g => (g.1, fzV ds g.2)).lookup f = (gs.lookup f).map (fzV ds)
  | [] => rfl
  | (k, g) :: gs => by
    rw [List.map_cons, List.lookup_cons, List.lookup_cons]
    cases f == k with
    | true => rfl
    | false => exact lookup_fz ds f gs
theorem onlyQ_of {q : Addr} {f : Str} {q' : Addr} : ∀ {gs : List (Str × FV)}, OnlyQ q gs → gs.lookup f = some (.l q') → q' = q
  | [], _, e => by cases e
  | (k, .z d) :: gs, h, e => by
    rw [List.lookup_cons] at e
    cases e2 : f == k with
    | true => rw [e2] at e; cases e
    | false => rw [e2] at e; exact onlyQ_of (gs := gs) h e
  | (k, .l p) :: gs, h, e => by
    rw [List.lookup_cons] at e
    cases e2 : f == k with
    | true => rw [e2] at e; cases e; exact h.1
    | false => rw [e2] at e; exact onlyQ_of (gs := gs) h.2 e
theorem FdOk.fz {F : Hp} {fs : List (Str × V)} {gs : List (Str × FV)} {q : Addr} {ds : List PyData} (h : FdOk F fs gs) (ho : OnlyQ q gs) (r : Rp F (.ref q) (.list ds)) : FdOk F fs (gs.map fun g => (g.1, fzV ds g.2)) := ⟨fun f => by
  rw [lookup_fz]
  cases e : gs.lookup f with
  | none => exact h.no e
  | some g =>
    obtain ⟨v, a, b⟩ := h.get e
    refine ⟨v, a, ?_⟩
    cases g with
    | z d => exact b
    | l q' =>
      have := onlyQ_of ho e
      subst this
      have b : v = .ref q' := b
      subst b
      exact r, by rw [List.length_map]; exact h.2⟩
/-- an owned instance -/
def iA (C p : Addr) (gs : List (Str × FV)) : Asr where
  P := fun F H o => o p ∧ ∃ dx fs, H p = some (.ins C dx fs) ∧ FdOk F fs gs
  st := fun s k ⟨h, dx, fs, e, r⟩ => ⟨h, dx, fs, (k p h).trans e, r.mono s⟩
  up := fun u ⟨h, r⟩ => ⟨u p h, r⟩
/-- an instance in slot .., A beside it -/
def cI (C p : Addr) (gs : List (Str × FV)) (A : Asr) : Cell := fun o => sep (pur (o = some (.ref p))) (sep (iA C p gs) A)
/-- a frozen instance -/
def fA (C : Addr) (gs : List (Str × FV)) (v : V) : Asr := ⟨fun F _ _ => ∃ p dx fs, v = .ref p ∧ F p = some (.ins C dx fs) ∧ FdOk F fs gs, fun s _ ⟨p, dx, fs, e, h, r⟩ => ⟨p, dx, fs, e, s _ _ h, r.mono s⟩, fun _ h => h⟩
def rF (C : Addr) (gs : List (Str × FV)) : RC := fun _ v => fA C gs v
def cF (C : Addr) (gs : List (Str × FV)) : Cell := fun o => match o with | some v => fA C gs v | none => bot
def rAt (q : Addr) : RC := fun _ v => pur (v = .ref q)
theorem no_F {C : Addr} {gs : List (Str × FV)} : ∀ F H o, ¬ (cF C gs none).P F H o := fun _ _ _ h => h
theorem sto_F {C : Addr} {gs : List (Str × FV)} : Sto (rF C gs) (cF C gs) := fun _ _ _ _ t => t
def ppF (C : Addr) (gs : List (Str × FV)) : PP := fun v F _ => ∃ p dx fs, v = .ref p ∧ F p = some (.ins C dx fs) ∧ FdOk F fs gs
section
variable {E : Ec} {te ta tx : TE} {tr : TA} {t u : TS} {Γ : List Cell} {α β γ δ : Type} {A B R : Asr} {H : Hp} {cx : RC} {i : Nat} {C p q : Addr} {gs : List (Str × FV)} {f : Str} {d : PyData} {ds : List PyData}
open Res
/-- a cell, taken out of the state -/
theorem take_cell {σ : L2.St} {c : Cell} (hi : Γ[i]? = some c) (t : Top (sep (base E σ Γ) A) H) : ∃ x, σ[i]? = some x ∧ Top (sep (sep (base E σ (Γ.set i cAny)) A) (c x)) H := by
  obtain ⟨F, o, s, kk, o1, o2, h1, h2, e, ⟨o3, o4, h3, h4, e', a, b⟩, r⟩ := t
  obtain ⟨x, ex, o5, o6, h5, h6, e2, cx, rest⟩ := sl_take hi a
  refine ⟨x, ex, F, o, s, kk, fun q => o6 q ∨ o4 q ∨ o2 q, o5, fun q z => ?_, fun q z => h1 q (h3 q (h5 q z)), fun q z w => ?_, ⟨fun q => o6 q ∨ o4 q, o2, fun q z => z.elim .inl fun z => .inr (.inl z), fun q z => .inr (.inr z), fun q z w => ?_, ⟨o6, o4, fun _ z => .inl z, fun _ z => .inr z, fun q z w => e' q (h6 q z) w, rest, b⟩, r⟩, cx⟩
  · rcases z with z | z | z
    · exact h1 q (h3 q (h6 q z))
    · exact h1 q (h4 q z)
    · exact h2 q z
  · rcases z with z | z | z
    · exact e2 q w z
    · exact e' q (h5 q w) z
    · exact e q (h3 q (h5 q w)) z
  · rcases z with z | z
    · exact e q (h3 q (h6 q z)) w
    · exact e q (h4 q z) w
/-- the instance of slot i -/
theorem take_I {σ : L2.St} (hi : Γ[i]? = some (cI C p gs B)) (t : Top (sep (base E σ Γ) A) H) :
    σ[i]? = some (some (.ref p)) ∧ Top (sep (sep (sep (base E σ (Γ.set i cAny)) A) B) (iA C p gs)) H ∧ ∀ gs' B', Ent (sep (sep (sep (base E σ (Γ.set i cAny)) A) B') (iA C p gs')) (sep (base E σ (Γ.set i (cI C p gs' B'))) A) := by
  have hlt : i < Γ.length := (List.getElem?_eq_some_iff.mp hi).1
  obtain ⟨x, ex, t1⟩ := take_cell hi t
  have ex' : x = some (.ref p) := t1.fact fun F o s ⟨_, _, _, _, _, _, ⟨_, _, _, _, _, z, _⟩⟩ => z
  subst ex'
  refine ⟨ex, (t1.ent (Ent.sepR (Ent.right.trans Ent.comm))).ent Ent.assoc', fun gs' B' => ?_⟩
  exact (Ent.assoc.trans (Ent.sepR Ent.comm)).trans (put_cell (c := cI C p gs' B') hlt ex fun F H o s z => sep_pers (fun _ => rfl) z)
theorem i_at {σ : L2.St} (t : Top (sep A (iA C p gs)) H) : ∃ F dx fs, Same F H ∧ H p = some (.ins C dx fs) ∧ FdOk F fs gs := by
  obtain ⟨F, o, s, _, _, _, _, _, _, _, ⟨_, dx, fs, e, r⟩⟩ := t
  exact ⟨F, dx, fs, s, e, r⟩
theorem Top.writeI {gs' : List (Str × FV)} {C' dx : Addr} {fs' : List (Str × V)} (t : Top (sep A (iA C p gs)) H) (r : ∀ F o, Same F H → A.P F H o → ∀ dx' fs, H p = some (.ins C dx' fs) → FdOk F fs gs → FdOk F fs' gs') : Top (sep A (iA C p gs')) (upd H p (.ins C dx fs')) := by
  obtain ⟨F, o, s, k, o1, o2, h1, h2, d, a, ⟨hp, dx', fs, e, rv⟩⟩ := t
  have fp : F p = none := (k p (h2 p hp)).1
  refine ⟨F, o, fun b u e' => ?_, fun q hq => ?_, o1, o2, h1, h2, d, A.st (Same.refl F) (fun q hq => upd_ne fun z => d q hq (z ▸ hp)) a, ⟨hp, dx, fs', upd_same, r F o1 s a dx' fs e rv⟩⟩
  · rw [upd_ne (fun z => by rw [z, fp] at e'; cases e')]
    exact s b u e'
  · by_cases hb : q = p
    · rw [hb]
      exact ⟨fp, by rw [upd_same]; exact fun z => by cases z⟩
    · rw [upd_ne hb]
      exact k q hq
/-- self.f, frozen -/
theorem ev_fldz (hi : Γ[i]? = some (cI C p gs B)) (hl : gs.lookup f = some (.z d)) (hc : Cls E.K C) (hn : NoAttr E.K C f) : EvP E (tFld E.K (tVar i) f) Γ (rV d) := fun σ H R Q t q => by
  obtain ⟨hs, t1, _⟩ := take_I (A := R) hi t
  obtain ⟨F, o, s, k, o1, o2, h1, h2, dd, a, ⟨hp, dx, fs, e, r⟩⟩ := t1
  obtain ⟨v, lv, rv⟩ := r.get hl
  have rv : Rp F v d := rv
  refine ⟨_, hs, p, C, dx, fs, v, rfl, e, hc, hn, lv, q v H ?_⟩
  obtain ⟨_, _, back⟩ := take_I (A := R) hi t
  have t2 : Top (sep (sep (sep (base E σ (Γ.set i cAny)) R) B) (iA C p gs)) H := ⟨F, o, s, k, o1, o2, h1, h2, dd, a, ⟨hp, dx, fs, e, r⟩⟩
  have t3 : Top (sep (vA d v) (sep (sep (sep (base E σ (Γ.set i cAny)) R) B) (iA C p gs))) H := by
    exact ⟨F, o, s, k, sep_pers (fun _ => rv) ⟨o1, o2, h1, h2, dd, a, ⟨hp, dx, fs, e, r⟩⟩⟩
  have e1 : Γ.set i (cI C p gs B) = Γ := by
    obtain ⟨hl, e⟩ := List.getElem?_eq_some_iff.mp hi
    rw [← e, List.set_getElem_self]
  have b := back gs B
  rw [e1] at b
  exact (t3.ent (Ent.sepR b)).ent frontE
/-- self.f, a list of one's own -/
theorem ev_fldl (hi : Γ[i]? = some (cI C p gs B)) (hl : gs.lookup f = some (.l q)) (hc : Cls E.K C) (hn : NoAttr E.K C f) : EvP E (tFld E.K (tVar i) f) Γ (rAt q) := fun σ H R Q t qq => by
  obtain ⟨hs, t1, _⟩ := take_I (A := R) hi t
  obtain ⟨F, dx, fs, s, e, r⟩ := i_at (σ := σ) t1
  obtain ⟨v, lv, rv⟩ := r.get hl
  have rv : v = .ref q := rv
  exact ⟨_, hs, p, C, dx, fs, v, rfl, e, hc, hn, lv, qq v H ((t.addP rv).ent frontE)⟩
theorem pa_fldl {Kn : L2.St → Prop} (hi : Γ[i]? = some (cI C p gs (oA q ds))) : PArg E Γ Kn (rAt q) (ppL ds) := fun σ w F H o _ s ⟨_, _, _, _, _, ⟨_, _, _, _, _, a, _⟩, x⟩ => by
  have x : w = .ref q := x
  obtain ⟨y, _, ⟨_, _, _, _, _, _, ⟨_, _, _, _, _, _, ⟨_, vs, e, r⟩⟩⟩⟩ := sl_get hi a
  exact ⟨q, vs, x, e, r⟩
theorem src_fldl (hi : Γ[i]? = some (cI C p gs (oA q ds))) : Src E Γ (rAt q) ds fun Δ => Δ[i]? = some (cI C p gs (oA q ds)) := fun σ H R x t => by
  have ex : x = .ref q := t.fact fun F o s ⟨_, _, _, _, _, _, ⟨_, _, _, _, _, z, _⟩⟩ => z
  subst ex
  refine ⟨q, emp, rfl, ?_, fun σ' Γ'' hk F H' o s ⟨o1, _, h1, _, _, b, _⟩ => ?_, t.ent (Ent.sepR (Ent.sepL Ent.emp))⟩
  · obtain ⟨F, o, s, _, o1, _, _, _, _, b, _⟩ := t
    obtain ⟨_, vs, _, e, _⟩ := pa_fldl (Kn := K0) hi σ (.ref q) F H o1 trivial s (sep_pers (A := emp) (fun _ => trivial) b |> Ent.comm F H _ s |> fun z => by
      obtain ⟨a1, a2, b1, b2, dd, x, y⟩ := z
      exact ⟨a1, a2, b1, b2, dd, x, rfl⟩)
    cases ‹V.ref q = V.ref _›
    exact ⟨vs, SqL.of e⟩
  · obtain ⟨_, vs, e0, e, r⟩ := pa_fldl (Kn := K0) hk σ' (.ref q) F H' o1 trivial s (by
      have z : (sep (base E σ' Γ'') emp).P F H' o1 := Ent.comm F H' _ s (sep_pers (A := emp) (fun _ => trivial) b)
      obtain ⟨a1, a2, b1, b2, dd, x, y⟩ := z
      exact ⟨a1, a2, b1, b2, dd, x, rfl⟩)
    cases e0
    exact ⟨vs, SqL.of e, r⟩
/-- self.f = e, a frozen value -/
theorem es_fldz {m : Res γ} {Γ1 : γ → List Cell} {d : γ → PyData} (h : EvJ E te Γ m Γ1 fun a => rV (d a)) (hi : ∀ a, (Γ1 a)[i]? = some (cI C p gs B)) (hc : Cls E.K C) (hn : NoAttr E.K C f) (hl : gs.length < 900) :
    EvS1 E (sFld E.K (tVar i) te f) Γ m fun a => (Γ1 a).set i (cI C p ((f, .z (d a)) :: gs) B) := fun σ H R D t q =>
  h σ H R _ t (wp_mono q (fun a _ q w H1 t1 => by
    obtain ⟨hs, t2, back⟩ := take_I (A := sep (rV (d a) σ w) R) (hi a) t1
    obtain ⟨F, dx, fs, s, e, r⟩ := i_at (σ := σ) t2
    refine ⟨_, hs, p, C, dx, fs, rfl, e, hc, hn, by have := r.2; omega, q σ _ ?_⟩
    have t3 := Top.writeI (C' := C) (dx := dx) (fs' := putF f w fs) (gs' := (f, .z (d a)) :: gs) t2 fun F o s z dx' fs2 e2 r2 => by
      rw [e] at e2
      cases e2
      obtain ⟨_, _, _, _, _, ⟨_, _, _, _, _, _, ⟨_, _, _, _, _, rw, _⟩⟩, _⟩ := z
      exact r2.put rw
    exact (t3.ent (back _ B)).ent (Ent.sepR Ent.right)) fun _ x => x σ)
/-- self.f = a new list, which stays one's own -/
theorem es_fldl {m : Res γ} {post : γ → Fin} (h : EvP E te Γ (rO ds)) (hi : Γ[i]? = some (cI C p gs emp)) (hc : Cls E.K C) (hn : NoAttr E.K C f) (hl : gs.length < 900) (k : ∀ q, EvS E u (Γ.set i (cI C p ((f, .l q) :: gs) (oA q ds))) m post) :
    EvS E (tSeq (sFld E.K (tVar i) te f) u) Γ m post := fun σ H R D t qq => by
  refine h σ H R _ t fun w H1 t1 => ?_
  obtain ⟨q, rfl⟩ : ∃ q, w = .ref q := t1.fact fun F o s ⟨_, _, _, _, _, _, ⟨_, _, _, _, _, ⟨q, e, _⟩, _⟩⟩ => ⟨q, e⟩
  obtain ⟨hs, t2, back⟩ := take_I (A := sep (rO ds σ (.ref q)) R) hi t1
  obtain ⟨F, dx, fs, s, e, r⟩ := i_at (σ := σ) t2
  refine ⟨_, hs, p, C, dx, fs, rfl, e, hc, hn, by have := r.2; omega, ?_⟩
  have t3 := Top.writeI (C' := C) (dx := dx) (fs' := putF f (.ref q) fs) (gs' := (f, .l q) :: gs) t2 fun F o s z dx' fs2 e2 r2 => by
    rw [e] at e2
    cases e2
    exact r2.put (g := .l q) rfl
  have e1 : Ent (rO ds σ (.ref q)) (oA q ds) := fun F H o s h => by
    obtain ⟨q', e', z⟩ := h
    cases e'
    exact z
  have en : Ent (sep (sep (sep (base E σ (Γ.set i cAny)) (sep (rO ds σ (.ref q)) R)) emp) (iA C p ((f, .l q) :: gs))) (sep (sep (sep (base E σ (Γ.set i cAny)) R) (oA q ds)) (iA C p ((f, .l q) :: gs))) :=
    Ent.sepL (Ent.left.trans ((Ent.sepR ((Ent.sepL e1).trans Ent.comm)).trans Ent.assoc'))
  obtain ⟨_, _, back2⟩ := take_I (A := R) hi (t1.ent (Ent.sepR Ent.right))
  exact k q σ _ R D ((t3.ent en).ent (back2 ((f, .l q) :: gs) (oA q ds))) qq
/-- self.f.append(e) -/
theorem es_fldapp [Dat α] {xs : List α} {a : α} {c : RC} (h : EvP E te Γ c) (fz : Fz c (dat a)) (hi : Γ[i]? = some (cI C p gs (oA q (xs.map dat)))) (hl : gs.lookup f = some (.l q)) (hc : Cls E.K C) (hn : NoAttr E.K C f) :
    EvS1 E (tDrop (tBM E.K "list" rAppend (tFld E.K (tVar i) f) (tCons te tNil))) Γ (need (xs.length < lim) (.ok ())) fun _ => Γ.set i (cI C p gs (oA q ((xs ++ [a]).map dat))) := fun σ H R D t qq => by
  obtain ⟨hn2, qq⟩ := wp_need qq
  refine ev_fldl hi hl hc hn σ H R (fun x H1 => tyV E.K "list" x H1 ∧ tCons te tNil σ H1 fun xs H2 => rAppend x xs H2 fun _ H3 => D.nx σ H3) t fun v H1 t1 => ?_
  have ev : v = .ref q := t1.fact fun F o s ⟨_, _, _, _, _, _, ⟨_, _, _, _, _, z, _⟩⟩ => z
  subst ev
  have t1 := t1.ent (Ent.sepR (B' := R) Ent.right)
  obtain ⟨hs, t2, _⟩ := take_I (A := R) hi t1
  obtain ⟨vs, ep, _⟩ := own_at (t2.ent Ent.left)
  refine ⟨.inl ⟨rfl, vs, SqL.of ep⟩, ?_⟩
  refine h σ H1 R _ t1 fun w H2 t3 => ?_
  have t4 : Top (sep (base E σ Γ) (sep (vA (dat a) w) R)) H2 := (fz σ w _ H2 (t3.ent frontE)).ent frontE
  obtain ⟨hs', t5, back⟩ := take_I (A := sep (vA (dat a) w) R) hi t4
  have t6 : Top (sep (sep (sep (base E σ (Γ.set i cAny)) (sep (vA (dat a) w) R)) (iA C p gs)) (oA q (xs.map dat))) H2 := t5.ent ((Ent.assoc.trans (Ent.sepR Ent.comm)).trans Ent.assoc')
  obtain ⟨vs', ep', ln⟩ := own_at t6
  rw [List.length_map] at ln
  refine ⟨q, vs', w, rfl, rfl, ep', by rw [ln]; exact lim_lt hn2, qq σ _ ?_⟩
  have t7 := own_write (σ := σ) (es := (xs ++ [a]).map dat) (ws := vs' ++ [w]) t6 fun F o vs'' s z e2 r => by
    rw [ep'] at e2
    cases e2
    obtain ⟨_, _, _, _, _, ⟨_, _, _, _, _, _, ⟨_, _, _, _, _, rw, _⟩⟩, _⟩ := z
    rw [List.map_append]
    exact r.append (.one rw)
  exact ((t7.ent ((Ent.assoc.trans (Ent.sepR Ent.comm)).trans Ent.assoc')).ent (back _ _)).ent (Ent.sepR Ent.right)
/-- the instance and its list are frozen -/
theorem Top.freezeI (t : Top (sep A (iA C p gs)) H) (hz : ∀ F fs, FdOk F fs gs → FdOk F fs gs) : Top (sep (fA C gs (.ref p)) A) H := by
  obtain ⟨F, o, s, k, o1, o2, h1, h2, d, a, ⟨hp, dx, fs, e, r⟩⟩ := t
  have fp : F p = none := (k p (h2 p hp)).1
  have sF : Same F (upd F p (.ins C dx fs)) := fun b u e' => by
    rw [upd_ne (fun z => by rw [z, fp] at e'; cases e')]
    exact e'
  refine ⟨upd F p (.ins C dx fs), o1, fun b u e' => ?_, fun q hq => ?_, sep_pers (fun _ => ⟨p, dx, fs, rfl, upd_same, r.mono sF⟩) (A.st sF (fun _ _ => rfl) a)⟩
  · by_cases hb : b = p
    · subst hb
      rw [upd_same] at e'
      rw [← e']
      exact e
    · rw [upd_ne hb] at e'
      exact s b u e'
  · have ne : q ≠ p := fun z => d q hq (z ▸ hp)
    rw [upd_ne ne]
    exact k q (h1 q hq)
/-- an instance that is frozen, its address told -/
def cFp (C p : Addr) (gs : List (Str × FV)) : Cell := fun o => sep (pur (o = some (.ref p))) (fA C gs (.ref p))
theorem es_objfrz {m : Res γ} {post : γ → Fin} (hi : Γ[i]? = some (cI C p gs (oA q ds))) (ho : OnlyQ q gs) (k : EvS E t (Γ.set i (cFp C p (gs.map fun g => (g.1, fzV ds g.2)))) m post) : EvS E t Γ m post := fun σ H R D t0 qq => by
  have hlt : i < Γ.length := (List.getElem?_eq_some_iff.mp hi).1
  obtain ⟨hs, t1, _⟩ := take_I (A := R) hi t0
  have t2 : Top (sep (oA q ds) (sep (sep (base E σ (Γ.set i cAny)) R) (iA C p gs))) H := (t1.ent (Ent.sepL Ent.comm)).ent Ent.assoc
  have t3 := t2.freeze
  have t4 : Top (sep (sep (base E σ (Γ.set i cAny)) R) (iA C p (gs.map fun g => (g.1, fzV ds g.2)))) H := by
    obtain ⟨F, o, s, kk, o1, o2, h1, h2, dd, a, ⟨o3, o4, h3, h4, d', b, ⟨hp, dx, fs, e, r⟩⟩⟩ := t3
    exact ⟨F, o, s, kk, o3, o4, fun z w => h2 z (h3 z w), fun z w => h2 z (h4 z w), d', b, hp, dx, fs, e, r.fz ho a⟩
  have t5 := (t4.freezeI (fun _ _ h => h)).ent Ent.comm
  exact k σ H R D (t5.ent (put_cell (c := cFp C p (gs.map fun g => (g.1, fzV ds g.2))) hlt hs fun F H o s z => sep_pers (fun _ => rfl) z)) qq
/-! ### objects made -/
def SpI {α β : Type} (C : Addr) (ps : α → List PP) (m : α → Res β) (gs : β → List (Str × FV)) : Sp := fun vs H Q E => ∃ (p : Addr) (ws : List V) (x : α) (B : Asr), vs = .ref p :: ws ∧ Top (sep B (iA C p [])) H ∧ (∀ F H o, Same F H → B.P F H o → parOk (ps x) ws F H) ∧
  (m x).wp (fun b => ∀ H', Top (sep B (fA C (gs b) (.ref p))) H' → Q .non H') fun _ => False
theorem Top.allocI {dx : Addr} (t : Top A H) (hp : H p = none) : Top (sep (iA C p []) A) (upd H p (.ins C dx [])) := by
  obtain ⟨F, o, s, k, a⟩ := t
  have ne : ∀ q, o q → q ≠ p := fun q hq e => (k q hq).2 (e ▸ hp)
  have fp : F p = none := by
    cases e : F p with
    | none => rfl
    | some u => rw [s p u e] at hp; cases hp
  refine ⟨F, fun q => q = p ∨ o q, fun b u e => ?_, fun q hq => ?_, (fun q => q = p), o, fun _ z => .inl z, fun _ z => .inr z, fun q e hq => ne q hq e, ⟨rfl, dx, [], upd_same, FdOk.nil⟩, A.st (Same.refl F) (fun q hq => upd_ne (ne q hq)) a⟩
  · rw [upd_ne (fun z => by rw [z, fp] at e; cases e)]
    exact s b u e
  · rcases hq with hq | hq
    · rw [hq]
      exact ⟨fp, by rw [upd_same]; exact fun z => by cases z⟩
    · exact ⟨(k q hq).1, by rw [upd_ne (ne q hq)]; exact (k q hq).2⟩
theorem evp_make {cs : List RC} {ps : α → List PP} {m : α → Res β} {gs : β → List (Str × FV)} (x : α) (h : EvAP E tr Γ cs) (hp : Pars E Γ K0 cs (ps x)) :
    EvJ E (tMake C (SpI C ps m gs) [] E0 tr) Γ (noErr (m x)) (fun _ => Γ) (fun b => rF C (gs b)) := fun σ H R Q t q =>
  h σ H R _ t fun vs H1 t1 => fun y dx hy hdx hne => by
    rw [List.append_nil]
    have t2 : Top (sep (base E σ Γ) (sep (csA cs σ vs) R)) (upd H1 dx (.own y)) := t1.grow hdx
    have hy2 : (upd H1 dx (.own y)) y = none := by
      rw [upd_ne (Ne.symm hne)]
      exact hy
    have t3 := Top.allocI (C := C) (dx := dx) t2 hy2
    refine ⟨y, vs, x, _, rfl, t3.ent Ent.comm, fun F H o s z => hp σ vs F H o trivial s (Ent.left F H o s (Ent.assoc' F H o s z)), wp_mono (wp_noErr q) (fun b _ q1 H' t' => ⟨rfl, q1 _ H' ?_⟩) fun _ z => z⟩
    exact (t'.ent Ent.comm).ent (frontE.trans (Ent.sepR (Ent.sepR Ent.right)))
/-! ### objects asked -/
theorem ev_varF {gs : List (Str × FV)} (h : Γ[i]? = some (cF C gs)) : EvP E (tVar i) Γ (rF C gs) := fun σ H R Q t q => by
  obtain ⟨F, o, s, kk, o1, o2, h1, h2, e, ⟨o3, o4, h3, h4, e', a, b⟩, b2⟩ := t
  obtain ⟨x, ex, hx⟩ := sl_get h a
  cases x with
  | none => exact (show False from hx).elim
  | some v => exact ⟨v, ex, q v H ⟨F, o, s, kk, o1, o2, h1, h2, e, ⟨o3, o4, h3, h4, e', a, b⟩, sep_pers (fun _ => hx) b2⟩⟩
theorem ev_varFp {gs : List (Str × FV)} (h : Γ[i]? = some (cFp C p gs)) : EvP E (tVar i) Γ (rF C gs) := fun σ H R Q t q => by
  obtain ⟨F, o, s, kk, o1, o2, h1, h2, e, ⟨o3, o4, h3, h4, e', a, b⟩, b2⟩ := t
  obtain ⟨x, ex, _, _, _, _, _, hx, z⟩ := sl_get h a
  have hx : x = some (.ref p) := hx
  subst hx
  exact ⟨_, ex, q _ H ⟨F, o, s, kk, o1, o2, h1, h2, e, ⟨o3, o4, h3, h4, e', a, b⟩, sep_pers (fun _ => z) b2⟩⟩
theorem pa_f {Kn : L2.St → Prop} : PArg E Γ Kn (rF C gs) (ppF C gs) := fun _ _ _ _ _ _ _ ⟨_, _, _, _, _, _, x⟩ => x
/-- o.f of a frozen object -/
theorem ev_fldF (h : EvP E ta Γ (rF C gs)) (hl : gs.lookup f = some (.z d)) (hc : Cls E.K C) (hn : NoAttr E.K C f) : EvP E (tFld E.K ta f) Γ (rV d) := fun σ H R Q t q =>
  h σ H R _ t fun x H1 t1 => by
    obtain ⟨F, o, s, kk, o1, o2, h1, h2, e, b, ⟨o3, o4, h3, h4, e', ⟨p, dx, fs, ex, ef, r⟩, rr⟩⟩ := t1
    obtain ⟨v, lv, rv⟩ := r.get hl
    exact ⟨p, C, dx, fs, v, ex, s _ _ ef, hc, hn, lv, q v H1 ⟨F, o, s, kk, o1, o2, h1, h2, e, b, sep_pers (fun _ => rv) (R.up h4 rr)⟩⟩
theorem ev_meth {ma : Res δ} {Γ1 : δ → List Cell} {gs : δ → List (Str × FV)} {nm : Str} {cs : List RC} {ps : α → List PP} {m : α → Res β} {cb : β → V → Asr} (x : δ → α) (hf : EvJ E ta Γ ma Γ1 fun a => rF C (gs a)) (e1 : Γ1 = fun _ => Γ) (hm : ∀ a, (gs a).lookup nm = none) (h : EvAP E tr Γ cs) (hp : ∀ a, Pars E Γ K0 (rF C (gs a) :: cs) (ps (x a))) :
    EvJ E (tMeth C nm (Sp0 E.ec ps m cb) [] E0 ta tr) Γ (ma.bind fun a => noErr (m (x a))) (fun _ => Γ) (fun b _ => cb b) := fun σ H R Q t q => by
  subst e1
  refine hf σ H R _ t (wp_mono (wp_bind.mp q) (fun a _ q1 v H1 t1 => ?_) fun _ z => z)
  obtain ⟨F, s, p, dx, fs, ex, ef, r⟩ : ∃ F, Same F H1 ∧ ∃ p dx fs, v = .ref p ∧ F p = some (.ins C dx fs) ∧ FdOk F fs (gs a) := by
    obtain ⟨F, o, s, _, _, _, _, _, _, _, ⟨_, _, _, _, _, z, _⟩⟩ := t1
    exact ⟨F, s, z⟩
  refine ⟨p, dx, fs, ex, s _ _ ef, r.no (hm a), ?_⟩
  refine h σ H1 (sep (rF C (gs a) σ v) R) _ t1 fun vs H2 t2 => ?_
  rw [List.append_nil]
  have t3 : Top (sep (base E σ Γ) (sep (csA (rF C (gs a) :: cs) σ (v :: vs)) R)) H2 := t2.ent (Ent.sepR ((Ent.assoc'.trans (Ent.sepL Ent.comm))))
  refine ⟨x a, _, t3, fun F H o s z => hp a σ (v :: vs) F H o trivial s (Ent.left F H o s (Ent.assoc' F H o s z)), wp_mono (wp_noErr q1) (fun b _ q2 w H' t' => q2 w H' ?_) fun k z => (show False from z).elim⟩
  exact (t'.ent Ent.comm).ent (frontE.trans (Ent.sepR (Ent.sepR Ent.right)))
end
/-! ### the end of __init__ -/
section
variable {K : PySem.W.Frag} {ec : Nat → Value} {B : Asr} {Q : VK} {Ex : XK} {H : Hp} {σ : L2.St} {t : TS} {β : Type} {m : Res β} {Γr : β → List Cell} {C p : Addr}
open Res
theorem finI {i : Nat} {gs : β → List (Str × FV)} {Γ : List Cell} (hT : Top (sep B (iA C p [])) H) (hi : i < Γ.length) (hs : σ[i]? = some (some (.ref p))) (hin : ∀ F o, Same F H → B.P F H o → allP F H σ (Γ.set i cAny)) (hr : ∀ b, (Γr b)[i]? = some (cFp C p (gs b)))
    (hw : WP m (fun b => ∀ H', Top (sep B (fA C (gs b) (.ref p))) H' → Q .non H') fun _ => False)
    (hb : EvS (Ecf K Ex ec B) t (Γ.set i (cI C p [] emp)) m fun b => .nx (Γr b)) : t { nx := fun _ H' => Q .non H', rt := Q } σ H := by
  obtain ⟨F, o, s, k, o1, o2, h1, h2, d, pc, po⟩ := hT
  refine hb σ H emp _ ⟨F, o, s, k, ?_⟩ (wp_mono hw.wp (fun b _ q σ' H' t' => q H' (t'.ent (Ent.left.trans fun F H o s ⟨o3, o4, h3, h4, e, a, b'⟩ => ?_))) fun _ z => z.elim)
  · refine Ent.comm F H o s (sep_pers (A := emp) (fun _ => trivial) ⟨o2, o1, h2, h1, fun q z w => d q w z, ?_, pc⟩)
    exact sl_put hi hs ⟨o2, fun _ => False, fun _ z => z, fun _ z => z.elim, fun _ _ z => z, sep_pers (fun _ => rfl) (Ent.comm F H o2 s (sep_pers (A := emp) (fun _ => trivial) po)), sl_all _ (hin F o1 s pc)⟩
  · obtain ⟨x, ex, _, _, _, _, _, _, z⟩ := sl_get (hr b) a
    exact Ent.comm F H o s (sep_pers (fun _ => z) (B.up h4 b'))
end
theorem spI_go {α β : Type} {C : Addr} {ps : α → List PP} {m : α → Res β} {gs : β → List (Str × FV)} {vs : List V} {H : Hp} {Q : VK} {X : XK} {G : Prop} (h : SpI C ps m gs vs H Q X)
    (k : ∀ (p : Addr) (ws : List V) (x : α) (B : Asr), vs = .ref p :: ws → Top (sep B (iA C p [])) H → (∀ F H o, Same F H → B.P F H o → parOk (ps x) ws F H) → WP (m x) (fun b => ∀ H', Top (sep B (fA C (gs b) (.ref p))) H' → Q .non H') (fun _ => False) → G) : G := by
  obtain ⟨p, ws, x, B, e, a, b, d⟩ := h
  exact k p ws x B e a b ⟨d⟩
/-! ### the rules for defs under FnG -/
theorem RoomG.make {gp : Prop} {k : Nat} {A : Around} (r : RoomG gp (k + 1) A) (C : Addr) (us : List Value) (kw : List (Str × Value)) : RoomG gp k (A.under (.builtin "type.__call__" ⟨.ref C :: us, kw⟩)) := ⟨r.rm.make C us kw, r.gd⟩
section
variable {X : Cx} {CX : CXT} {k : Nat} {f C : Addr} {fd : FuncData} {ps : List Str} {sp : Sp} {E : XK} {x m : Str} {p pos apos : Pos} {e o : Expr} {es : List Expr} {ta : TE} {t : TA}
theorem run_fnB {pins : List (Addr × Obj)} {σ : L2.St} {H : Hp} {s : Shared} {Q : VK} {us : List Value} {vs : List V} (F : FnG gp X.prog X.w X.K X.mg X.base CX k f fd ps sp) (hr : RoomG gp k X.A) (hb : Binds X.K fd ps []) (hx : Passes CX X E)
    (I : Inv X pins σ H s) (r : Vals vs us) (h : sp vs H Q E) : wpAny (model X.prog X.w) X.A (call (.ref f) us) (EP X pins σ Q) X.xe s := by
  have hl : us.length = ps.length := by rw [← r.length]; exact F.len _ _ _ _ h
  have b := hb s us I.kIn (by rw [List.append_nil]; exact hl)
  rw [List.append_nil] at b
  refine wpAny_call (codeAny_mono (F.run X.A X.stack s H ⟨us, []⟩ us vs Q E hr I.env0 b r h) fun r s' hq => ?_)
  cases r with
  | error e => exact hx pins σ H s e s' I hq
  | ok fl =>
    cases fl with
    | ret u => exact I.after hq
    | next => exact False.elim hq
    | brk => exact False.elim hq
    | cont => exact False.elim hq
/-- o.m(e, ..) -/
theorem pe_methG {pl : Sem Bool} (he : PE X o ta) (c : Cls X.K C) (hm : Meth X.K C m f) (F : FnG gp X.prog X.w X.K X.mg X.base CX k f fd ps sp) (hr : RoomG gp k X.A) (hb : Binds X.K fd ps []) (hx : Passes CX X E) (ha : PA X (e :: es) t)
    (hst : starEach (e :: es) X.env = (false, eval e X.env) :: starEach es X.env := by rfl) (hpl : (backTo pos (starEach es X.env)).any (·.1) = false := by rfl)
    (ht : eval (.Call (.Attribute o m apos) (e :: es) [] pos) X.env = (do
      let ov ← eval o X.env
      standAt apos.atName
      let (f, first) ← holding [ov] (getMethod ov m pl)
      callWith pos f first (backTo pos (starEach (e :: es) X.env)) (backToKw pos (keywordEach [] X.env))) := by rfl) :
    PE X (.Call (.Attribute o m apos) (e :: es) [] pos) (tMeth C m sp [] E ta t) := by
  refine ⟨fun pins s σ H Q I h => ?_⟩
  refine PySem.W.methodCall_KW (pl := pl) (thn (he.run pins s σ H _ I h) fun u s1 ⟨x, H1, I1, rx, a, dx, fs, ex, ea, l, q⟩ => ?_) ht
  subst ex
  obtain rfl : u = Value.ref a := rx
  refine getmeth_ok I1 ea c hm l ?_
  refine PySem.W.callWith_K (first := [.ref a]) (h₀ := X.base) I.ok.mod.kin hm.kp (thn (ha.run pos pins s1 σ H1 _ I1 q) fun us s2 ⟨vs, H2, I2, r, q2⟩ => ⟨I2.kIn, ?_⟩) hst hpl
  have q2 : sp (V.ref a :: (vs ++ [])) H2 Q E := q2
  rw [List.append_nil] at q2
  exact run_fnB (us := .ref a :: us) (vs := .ref a :: vs) F hr hb hx I2 (.cons rfl r) q2
theorem run_makeG {pins : List (Addr × Obj)} {σ : L2.St} {H : Hp} {s : Shared} {Q : VK} {us : List Value} {vs : List V} (M : Mk X.K C f) (F : FnG gp X.prog X.w X.K X.mg X.base CX k f fd ps sp) (hr : RoomG gp (k + 1) X.A) (hb : Binds X.K fd ps [])
    (hx : Passes CX X E) (I : Inv X pins σ H s) (r : Vals vs us)
    (h : ∀ x dx, H x = none → H dx = none → dx ≠ x → sp (.ref x :: (vs ++ [])) (upd (upd H dx (.own x)) x (.ins C dx [])) (fun v H2 => v = .non ∧ Q (.ref x) H2) E) :
    wpAny (model X.prog X.w) X.A (call (.ref C) us) (EP X pins σ Q) X.xe s := by
  have hq := h (s.heap.objs.size + 1) s.heap.objs.size (I.hok.fresh (Nat.le_succ _)) (I.hok.fresh (Nat.le_refl _)) (Nat.ne_of_lt (Nat.lt_succ_self _))
  rw [List.append_nil] at hq
  have I2 := Inv.made (C := C) I
  have r2 : Vals (V.ref (s.heap.objs.size + 1) :: vs) (Value.ref (s.heap.objs.size + 1) :: us) := .cons rfl r
  have hl : (Value.ref (s.heap.objs.size + 1) :: us).length = ps.length := by
    rw [← r2.length, F.len _ _ _ _ hq]
  have b := hb { s with heap := (s.heap.push PySem.W.emptyDict).push (PySem.W.instObj C s.heap.objs.size) } (Value.ref (s.heap.objs.size + 1) :: us) I2.kIn (by rw [List.append_nil]; exact hl)
  rw [List.append_nil] at b
  refine wpAny_call (make_map (f := f) I.kIn M.makes M.init (beq_iff_eq.mp M.fn) (codeAny_mono (F.run _ X.stack _ _ ⟨Value.ref (s.heap.objs.size + 1) :: us, []⟩ (Value.ref (s.heap.objs.size + 1) :: us) _ _ E (hr.make C us [])
    (I2.env0.make C us []) b r2 hq) fun r s' hq' => ?_))
  cases r with
  | error e => exact hx pins σ _ _ e s' I2 hq'
  | ok fl =>
    cases fl with
    | ret u =>
      obtain ⟨v, H', I3, rv, ev, q3⟩ := I2.after hq'
      subst ev
      exact ⟨rv, ⟨V.ref (s.heap.objs.size + 1), H', I3, rfl, q3⟩⟩
    | next => exact False.elim hq'
    | brk => exact False.elim hq'
    | cont => exact False.elim hq'
theorem pe_makeG (M : Mk X.K C f) (F : FnG gp X.prog X.w X.K X.mg X.base CX k f fd ps sp) (hr : RoomG gp (k + 1) X.A) (hg : Gl X x) (hm : X.mg x = some (.ref C)) (hb : Binds X.K fd ps []) (hx : Passes CX X E)
    (ha : PA X (e :: es) t) (hdb : (x == ("__debug__" : Str)) = false := by decide) (he : starEach (e :: es) X.env = (false, eval e X.env) :: starEach es X.env := by rfl) (hpl : (backTo pos (starEach es X.env)).any (·.1) = false := by rfl) :
    PE X (.Call (.Name x p) (e :: es) [] pos) (tMake C sp [] E t) := by
  refine ⟨fun pins s σ H Q I h => ?_⟩
  refine wpAny_Call_Name_kw (ld_glob I hg hm ?_ hdb)
  refine PySem.W.callWith_K (h₀ := X.base) I.ok.mod.kin M.kp (thn (ha.run pos pins s σ H _ I h) fun us s1 ⟨vs, H1, I1, r, q⟩ => ⟨I1.kIn, ?_⟩) he hpl
  exact run_makeG M F hr hb hx I1 r q
end
end Lc
/-! Lc: rules with K given; xs[computed] += e -/
namespace Lc
open PySem L2
section
variable {E : Ec} {te ti : TE} {tr : TA} {Γ : List Cell} {α β γ δ : Type} {R : Asr} {H : Hp} {cx : RC} {i : Nat} {mk : List PyData → Cell}
open Res
theorem es_augitemI {f : Int → Int → Int} {e : Int} {xs : List Int} {m : Res γ} {Γ1 : γ → List Cell} {k : γ → Int} (hk : OwnC mk) (h : EvP E te Γ (rV (.int e))) (h2 : EvJ E ti Γ m Γ1 fun a => rV (.int (k a))) (e1 : Γ1 = fun _ => Γ) (hi : Γ[i]? = some (mk (xs.map dat))) :
    EvS1 E (tAugS (tVar i) ti te (rIxL E.K) (ipI f) rSetL) Γ (m.bind fun a => (getI xs (k a)).bind fun z => setR xs (k a) (f z e)) fun ys => Γ.set i (mk (ys.map dat)) := fun σ H R D t q => by
  subst e1
  obtain ⟨p, hs, t2, _⟩ := take_own (A := R) hk hi t
  refine ⟨_, hs, h2 σ H R _ t (wp_mono (wp_bind.mp q) (fun g _ q ik H1 t1 => ?_) fun _ x => x σ)⟩
  have ek := int1 t1
  subst ek
  have t1 := t1.ent (Ent.sepR (B' := R) Ent.right)
  obtain ⟨p', hs', t3, _⟩ := take_own (A := R) hk hi t1
  rw [hs] at hs'
  cases hs'
  obtain ⟨F, o, s, _, _, _, _, _, _, _, ⟨_, vs, ep, r⟩⟩ := t3
  cases ea : atI xs (k g) with
  | none =>
    unfold getI at q
    rw [ea] at q
    exact (show False from q).elim
  | some a =>
    rw [getI_some ea, Res.bind_ok] at q
    obtain ⟨v, ev, rv⟩ := atI_rp r (show atI (xs.map dat) (k g) = some (dat a) by rw [atI_map, ea]; rfl)
    have ev2 : v = .int a := by cases (show Rp F v (.int a) from rv); rfl
    subst ev2
    refine ⟨p, vs, k g, .int a, rfl, rfl, SqL.of ep, ev, h σ H1 R _ t1 fun w H2 t4 => ?_⟩
    have ew := int1 t4
    subst ew
    refine ⟨a, e, rfl, rfl, ?_⟩
    have t5 : Top (sep (base E σ Γ) (sep (vA (dat (f a e)) (.int (f a e))) R)) H2 := res1 t4 fun F => .int _
    refine set_core hk hi hs rfl t5 ?_
    cases es : setR xs (k g) (f a e) with
    | ok ys =>
      rw [es] at q
      exact fun H' t' => q σ H' t'
    | err n => unfold setR at es; split at es <;> cases es
    | bad =>
      rw [es] at q
      exact q
end
section
variable {X : Cx} {e o value : Expr} {f : Str} {pos pos' : Pos} {ta tv : TE} (K : PySem.W.Frag) (h : X.K = K)
include h
theorem pe_fldK (he : PE X e ta) (hb : attributeBase e f X.env (eval e X.env) = eval e X.env := by rfl) : PE X (.Attribute e f pos) (tFld K ta f) := h ▸ pe_fld he hb
theorem ps_fldK (ha : PE X o ta) (hv : PE X value tv) (hs : swapsWith value (some (.Attribute o f pos')) pos.line X.env = pure false := by rfl) : PS X (.Assign [.Attribute o f pos'] value pos) (sFld K ta tv f) := h ▸ ps_fld ha hv hs
theorem tupleK : CallR X (.type "tuple") (rTu K) := by
  subst h
  exact call_tuple_of
end
end Lc
/-! Lc: and / or of tests that change states -/
namespace Lc
open PySem L2
section
open Res
variable {E : Ec} {te ti : TE} {tr : TA} {tt tu : TT} {Γ : List Cell} {α β γ δ : Type}
theorem et_orS {ma : Res α} {ba : α → Bool} {Γa : α → List Cell} {mb : α → Res γ} {g : α → γ} {Γ2 : γ → List Cell} {c : γ → Bool} (h : EvT E tt Γ ma Γa ba) (h2 : ∀ a, EvT E tu (Γa a) (mb a) Γ2 c) (hg : ∀ a, Γ2 (g a) = Γa a) (hc : ∀ a, c (g a) = true) :
    EvT E (tOr tt tu) Γ (ma.bind fun a => if ba a then .ok (g a) else mb a) Γ2 c := fun σ H R Q t q =>
  h σ H R _ t (wp_mono (wp_bind.mp q) (fun a _ q1 H1 t1 => by
    cases hb : ba a with
    | true =>
      rw [hb, if_pos rfl] at q1
      have e := q1 H1 ((hg a).symm ▸ t1)
      rw [hc a] at e
      exact e
    | false =>
      rw [hb, if_neg (by decide)] at q1
      exact h2 a σ H1 R Q t1 q1) fun _ x => x)
theorem et_andS {ma : Res α} {ba : α → Bool} {Γa : α → List Cell} {mb : α → Res γ} {g : α → γ} {Γ2 : γ → List Cell} {c : γ → Bool} (h : EvT E tt Γ ma Γa ba) (h2 : ∀ a, EvT E tu (Γa a) (mb a) Γ2 c) (hg : ∀ a, Γ2 (g a) = Γa a) (hc : ∀ a, c (g a) = false) :
    EvT E (tAnd tt tu) Γ (ma.bind fun a => if ba a then mb a else .ok (g a)) Γ2 c := fun σ H R Q t q =>
  h σ H R _ t (wp_mono (wp_bind.mp q) (fun a _ q1 H1 t1 => by
    cases hb : ba a with
    | true =>
      rw [hb, if_pos rfl] at q1
      exact h2 a σ H1 R Q t1 q1
    | false =>
      rw [hb, if_neg (by decide)] at q1
      have e := q1 H1 ((hg a).symm ▸ t1)
      rw [hc a] at e
      exact e) fun _ x => x)
theorem et_pack {m : Res α} {b : α → Bool} {Γa : α → List Cell} {g : α → γ} {Γ2 : γ → List Cell} {c : γ → Bool} (h : EvT E tt Γ m Γa b) (hg : ∀ a, Γ2 (g a) = Γa a) (hc : ∀ a, c (g a) = b a) : EvT E tt Γ (m.bind fun a => .ok (g a)) Γ2 c := fun σ H R Q t q =>
  h σ H R _ t (wp_mono (wp_bind.mp q) (fun a _ q1 H1 t1 => (hc a) ▸ q1 H1 ((hg a).symm ▸ t1)) fun _ x => x)
theorem ixTK {X : Cx} (K : PySem.W.Frag) (h : X.K = K) : IxR X (rIxT K) := h ▸ ix_tup
/-! a tuple of one's own lists -/
/-- the tuple object alone -/
def tA (p : Addr) (vs : List V) : Asr where
  P := fun F H o => o p ∧ H p = some (.tup vs)
  st := fun s k ⟨h, e⟩ => ⟨h, (k p h).trans e⟩
  up := fun u ⟨h, e⟩ => ⟨u p h, e⟩
def tO (dss : List (List PyData)) (v : V) : Asr := exA fun x : Addr × List V => sep (pur (v = .ref x.1)) (sep (tA x.1 x.2) (oOs dss x.2))
def rTO (dss : List (List PyData)) : RC := fun _ v => tO dss v
theorem Top.allocTO {A : Asr} {H : Hp} {p : Addr} {vs : List V} (t : Top A H) (hp : H p = none) : Top (sep (tA p vs) A) (upd H p (.tup vs)) := by
  obtain ⟨F, o, s, k, a⟩ := t
  have ne : ∀ q, o q → q ≠ p := fun q hq e => (k q hq).2 (e ▸ hp)
  have fp : F p = none := by
    cases e : F p with
    | none => rfl
    | some u => rw [s p u e] at hp; cases hp
  refine ⟨F, fun q => q = p ∨ o q, fun b u e => ?_, fun q hq => ?_, (fun q => q = p), o, fun _ z => .inl z, fun _ z => .inr z, fun q e hq => ne q hq e, ⟨rfl, upd_same⟩, A.st (Same.refl F) (fun q hq => upd_ne (ne q hq)) a⟩
  · rw [upd_ne (fun z => by rw [z, fp] at e; cases e)]
    exact s b u e
  · rcases hq with hq | hq
    · rw [hq]
      exact ⟨fp, by rw [upd_same]; exact fun z => by cases z⟩
    · exact ⟨(k q hq).1, by rw [upd_ne (ne q hq)]; exact (k q hq).2⟩
theorem oOs_cs {σ : L2.St} : ∀ {dss : List (List PyData)} {vs : List V}, Ent (oOs dss vs) (csA (dss.map rO) σ vs)
  | [], [] => Ent.refl _
  | _ :: dss, _ :: vs => Ent.sepR (oOs_cs (dss := dss) (vs := vs))
  | [], _ :: _ => fun _ _ _ _ h => (show False from h).elim
  | _ :: _, [] => fun _ _ _ _ h => (show False from h).elim
/-- values computed, lists among them taken out of their slots -/
def MvAll (E : Ec) (Γ : List Cell) (cs : List RC) (Γ' : List Cell) (dss : List (List PyData)) : Prop := ∀ (σ : L2.St) (vs : List V) (R : Asr) (H : Hp), Top (sep (base E σ Γ) (sep (csA cs σ vs) R)) H → Top (sep (base E σ Γ') (sep (oOs dss vs) R)) H
theorem mv_nil : MvAll E Γ [] Γ [] := fun σ vs R H t => by
  cases vs with
  | nil => exact t
  | cons v vs => exact (t.fact (φ := False) fun _ _ _ ⟨_, _, _, _, _, _, ⟨_, _, _, _, _, a, _⟩⟩ => a).elim
theorem mv_o {ds : List PyData} {cs : List RC} {Γ' : List Cell} {dss : List (List PyData)} (h : MvAll E Γ cs Γ' dss) : MvAll E Γ (rO ds :: cs) Γ' (ds :: dss) := fun σ vs R H t => by
  cases vs with
  | nil => exact (t.fact (φ := False) fun _ _ _ ⟨_, _, _, _, _, _, ⟨_, _, _, _, _, a, _⟩⟩ => a).elim
  | cons v vs =>
    have t1 : Top (sep (base E σ Γ) (sep (csA cs σ vs) (sep (oV ds v) R))) H := t.ent (Ent.sepR ((Ent.sepL Ent.comm).trans Ent.assoc))
    exact (h σ vs _ H t1).ent (Ent.sepR (Ent.assoc'.trans (Ent.sepL Ent.comm)))
theorem mv_s {mk : List PyData → Cell} {i : Nat} {ds : List PyData} {cs : List RC} {Γ' : List Cell} {dss : List (List PyData)} (hk : OwnC mk) (hi : Γ[i]? = some (mk ds)) (h : MvAll E (Γ.set i cAny) cs Γ' dss) : MvAll E Γ (rS i :: cs) Γ' (ds :: dss) := fun σ vs R H t => by
  cases vs with
  | nil => exact (t.fact (φ := False) fun _ _ _ ⟨_, _, _, _, _, _, ⟨_, _, _, _, _, a, _⟩⟩ => a).elim
  | cons v vs =>
    have t1 : Top (sep (base E σ Γ) (sep (rS i σ v) (sep (csA cs σ vs) R))) H := t.ent (Ent.sepR Ent.assoc)
    have t2 := ret_own hk hi (Le.refl _) σ v _ H t1
    have t3 : Top (sep (base E σ (Γ.set i cAny)) (sep (csA cs σ vs) (sep (oV ds v) R))) H := t2.ent (Ent.sepR (Ent.assoc'.trans ((Ent.sepL Ent.comm).trans Ent.assoc)))
    exact (h σ vs _ H t3).ent (Ent.sepR (Ent.assoc'.trans (Ent.sepL Ent.comm)))
/-- (xs, ys, ..) of one's own lists -/
theorem ev_tupO {ma : Res α} {Γ1 Γ2 : α → List Cell} {cs : α → List RC} {dss : α → List (List PyData)} (h : EvA E tr Γ ma Γ1 cs) (mv : ∀ a, MvAll E (Γ1 a) (cs a) (Γ2 a) (dss a)) (hl : ∀ a, (dss a).length ≤ 1000 := by exact fun _ => Nat.le_of_ble_eq_true rfl) :
    EvJ E (tTup tr) Γ ma Γ2 fun a => rTO (dss a) := fun σ H R Q t q => by
  refine h σ H R _ t (wp_mono q (fun a _ q vs H1 t1 => ?_) fun _ x => x)
  have t2 := mv a σ vs R H1 t1
  have ln : vs.length = (dss a).length := t2.fact fun F o s ⟨_, _, _, _, _, _, ⟨o1, _, _, _, _, z, _⟩⟩ => oOs_len (o := o) ⟨o1, z⟩
  refine ⟨by rw [ln]; exact Nat.le_trans (hl a) (by decide), fun p hp => q _ _ ?_⟩
  refine ((t2.allocTO hp).ent frontE).ent (Ent.sepR (Ent.assoc'.trans (Ent.sepL ?_)))
  exact fun F H o s z => ⟨(p, vs), sep_pers (fun _ => rfl) z⟩
/-- a, b = f(..), a tuple of one's own lists -/
theorem es_unpO {m : Res γ} {Γ1 : γ → List Cell} {dss : γ → List (List PyData)} {g : TGs} {n : Nat} {Γ' : γ → List Cell} (h : EvJ E te Γ m Γ1 fun a => rTO (dss a)) (hg : ∀ a, GlJ E g ((dss a).map rO) (Γ1 a) (Γ' a)) (hn : ∀ a, (dss a).length = n) :
    EvS1 E (tAsg te (gTup E.K n g)) Γ m Γ' := fun σ H R D t q =>
  h σ H R _ t (wp_mono q (fun a _ q v H' t' => by
    have f : ∃ p vs, v = .ref p ∧ H' p = some (.tup vs) ∧ Top (sep (base E σ (Γ1 a)) (sep (oOs (dss a) vs) R)) H' := by
      obtain ⟨F, o, s, k, o1, o2, h1, h2, e, b, o3, o4, h3, h4, e', ⟨⟨p, vs⟩, o5, o6, h5, h6, e2, ev, o7, o8, h7, h8, e3, ⟨hp, et⟩, z⟩, r⟩ := t'
      exact ⟨p, vs, ev, et, F, o, s, k, o1, o2, h1, h2, e, b, o8, o4, fun q z => h3 q (h6 q (h8 q z)), h4, fun q z w => e' q (h6 q (h8 q z)) w, z, r⟩
    obtain ⟨p, vs, rfl, et, t2⟩ := f
    have ln : vs.length = n := (t2.fact fun F o s ⟨_, _, _, _, _, _, ⟨o1, _, _, _, _, z, _⟩⟩ => oOs_len (o := o) ⟨o1, z⟩).trans (hn a)
    exact ⟨p, vs, rfl, SqT.of et, ln, hg a σ σ _ R _ vs (t2.ent (Ent.sepR (Ent.sepL oOs_cs))) q⟩) fun _ x => x σ)
/-! + of lists that may stand in the frame's own heap -/
def rCatS (K : PySem.W.Frag) : R2 := fun x y H Q => ∃ l b xs zs, x = .ref l ∧ y = .ref b ∧ SqL K H l xs ∧ SqL K H b zs ∧ xs.length + zs.length ≤ sizeLine ∧ ∀ p, H p = none → Q (.ref p) (upd H p (.lst (xs ++ zs)))
theorem op_catS {X : Cx} : OpR X (binaryOp .Add) (rCatS X.K) := by
  intro pins s σ H x y v u Q I rx ry h
  obtain ⟨l, b, xs, zs, rfl, rfl, hH, hB, hz, q⟩ := h
  cases rx
  cases ry
  obtain ⟨its, r, hl, _⟩ := I.list hH
  obtain ⟨its2, r2, hl2, _⟩ := I.list hB
  have el := r.length
  have el2 := r2.length
  obtain ⟨⟨cls, dd, data, sl⟩, n, ho, hc, _, hd⟩ := id hl
  obtain ⟨⟨cls2, dd2, data2, sl2⟩, n2, ho2, hc2, _, hd2⟩ := id hl2
  simp only at hc hd hc2 hd2
  subst hc hd hc2 hd2
  have e : its.toArray ++ its2.toArray = (its ++ its2).toArray := by simp
  refine concat_meets ⟨_, ho, rfl⟩ ⟨_, ho2, rfl⟩ noFill_list_add seq_list_add PySem.F.slot_list_add PySem.F.entry_list_add (PySem.F.args_list_add_2 _ _) (PyProof.Rows.list_addW l b its.toArray its2.toArray n n2 dd dd2 sl sl2 (by rw [List.size_toArray, List.size_toArray]; omega)) ⟨ho, ho2, ?_⟩
  rw [e]
  exact ⟨.ref _, _, I.lnew (t' := s.toks) (r.append r2) (by rw [List.length_append]; omega), rfl, q _ I.fresh⟩
theorem opcS {X : Cx} (K : PySem.W.Frag) (h : X.K = K) : OpR X (binaryOp .Add) (rCatS K) := h ▸ op_catS
theorem r2_catS {cx cy : RC} [Dat α] {xs ys : List α} (h1 : PArg E Γ K0 cx (ppS E.K (xs.map dat))) (h2 : PArg E Γ K0 cy (ppS E.K (ys.map dat))) : R2J E (rCatS E.K) cx cy Γ (catR xs ys) (fun _ => Γ) fun zs => rO (zs.map dat) := fun σ H R Q x y t q => by
  obtain ⟨hn, q⟩ := wp_need q
  obtain ⟨F, o, s, k, p⟩ := t
  obtain ⟨a, vs, rfl, ea, ra⟩ := h1 σ x F H o trivial s (Ent.left F H o s (Ent.assoc' F H o s p))
  obtain ⟨b, ws, rfl, eb, rb⟩ := h2 σ y F H o trivial s (Ent.left F H o s (Ent.assoc' F H o s (rotE F H o s p)))
  have la := ra.len
  have lb := rb.len
  rw [List.length_map] at la lb
  have t2 := addAs s k p (ra.append rb)
  refine ⟨a, b, vs, ws, rfl, rfl, ea, eb, by rw [la, lb]; exact lim_le hn, fun l hl => q _ _ ((newL t2 hl fun F' o s' z => ?_).ent (Ent.sepR (Ent.sepR (Ent.right.trans (Ent.right.trans Ent.right)))))⟩
  rw [List.map_append]
  exact as_of F' o s' z
/-! xs.insert(k, e) -/
def insI {α : Type} (xs : List α) (k : Int) (a : α) : List α := xs.take k.toNat ++ [a] ++ xs.drop k.toNat
def rInsert : V → List V → Hp → VK → Prop := fun x vs H Q => ∃ (l : Addr) (xs : List V) (i : Int) (y : V), x = .ref l ∧ vs = [.int i, y] ∧ H l = some (.lst xs) ∧ xs.length < sizeLine ∧ 0 ≤ i ∧ i < 2 ^ 63 ∧
    Q .non (upd H l (.lst (xs.take i.toNat ++ [y] ++ xs.drop i.toNat)))
theorem mt_insertR {X : Cx} : MtR X "list.insert" rInsert := mt_insert
theorem es_insertTM {mk : List PyData → Cell} {i : Nat} [Dat α] {m : Res γ} {Γ1 : γ → List Cell} {xs : γ → List α} {a : γ → α} {c : γ → RC} {ds0 : List PyData} {k : Int} (hk : OwnC mk) (h1 : EvP E ti Γ (rV (.int k))) (h : EvJ E te Γ m Γ1 c) (f : ∀ g, Fz (c g) (dat (a g))) (h0 : Γ[i]? = some (mk ds0)) (hi : ∀ g, (Γ1 g)[i]? = some (mk ((xs g).map dat)))
    (k0 : 0 ≤ k := by decide) (k1 : k < 2 ^ 63 := by decide) :
    EvS1 E (tDrop (tBM E.K "list" rInsert (tVar i) (tCons ti (tCons te tNil)))) Γ (m.bind fun g => need ((xs g).length < lim) (.ok g)) fun g => (Γ1 g).set i (mk ((insI (xs g) k (a g)).map dat)) := fun σ H R D t q => by
  obtain ⟨p, hs, t2, _⟩ := take_own (A := R) hk h0 t
  obtain ⟨vs, ep, _⟩ := own_at t2
  refine ⟨_, hs, .inl ⟨rfl, vs, SqL.of ep⟩, ?_⟩
  refine h1 σ H R _ t fun u H0 t0 => ?_
  have eu := int1 t0
  subst eu
  refine h σ H0 R _ (t0.ent (Ent.sepR Ent.right)) (wp_mono (wp_bind.mp q) (fun g _ q w H1 t1 => ?_) fun _ x => x σ)
  obtain ⟨hn, q⟩ := wp_need q
  have t3 : Top (sep (base E σ (Γ1 g)) (sep (vA (dat (a g)) w) R)) H1 := (f g σ w _ H1 (t1.ent frontE)).ent frontE
  obtain ⟨p', hs', t4, back⟩ := take_own hk (hi g) t3
  rw [hs] at hs'
  cases hs'
  obtain ⟨vs', ep', ln⟩ := own_at t4
  rw [List.length_map] at ln
  refine ⟨p, vs', k, w, rfl, rfl, ep', by rw [ln]; exact lim_lt hn, k0, k1, q σ _ ?_⟩
  have e3 : (insI (xs g) k (a g)).map (dat : α → PyData) = ((xs g).map dat).take k.toNat ++ [dat (a g)] ++ ((xs g).map dat).drop k.toNat := by
    unfold insI
    rw [List.map_append, List.map_append, List.map_take, List.map_drop]
    rfl
  show Top (sep (base E σ ((Γ1 g).set i (mk ((insI (xs g) k (a g)).map dat)))) R) _
  rw [e3]
  have t5 := own_write (σ := σ) (es := ((xs g).map dat).take k.toNat ++ [dat (a g)] ++ ((xs g).map dat).drop k.toNat) (ws := vs'.take k.toNat ++ [w] ++ vs'.drop k.toNat) t4 fun F o vs'' s a e2 r => by
    rw [ep'] at e2
    cases e2
    obtain ⟨_, _, _, _, _, _, ⟨_, _, _, _, _, z, _⟩⟩ := a
    exact ((r.take _).append (.one z)).append (r.drop _)
  exact (t5.ent (back _)).ent (Ent.sepR Ent.right)
/-! repr of a number or None -/
def rReprO : List V → Hp → VK → Prop := fun xs H Q => (xs = [.non] ∧ Q (.str "None") H) ∨ ∃ i : Int, xs = [.int i] ∧ i.natAbs.log2 < 1920 ∧ Q (.str (toString i : String)) H
theorem reprOK {X : Cx} : CallR X (.builtin "repr") rReprO := by
  intro pins s σ H xs us Q I r h
  rcases h with ⟨rfl, q⟩ | ⟨i, rfl, hz, q⟩
  · obtain ⟨u, rfl, rv⟩ := vals1 r
    obtain rfl : u = Value.none := rv
    exact PySem.P.repr_of_none ⟨.str _, H, I.tok _, ⟨_, rfl⟩, q⟩
  · exact SkE.call_repr_int pins s σ H _ us Q I r ⟨i, rfl, hz, q⟩
def reprO : Option Int → Res Str
  | none => .ok "None"
  | some i => reprI i
theorem rn_reprO {Γ : List Cell} {d : Option Int} : RnJ E rReprO [rV (dat d)] Γ (reprO d) (fun _ => Γ) fun s => rV (.str s) := fun σ H R Q vs t q => by
  obtain ⟨x, rfl, t1⟩ := one_arg t
  obtain ⟨F, s, z⟩ := top1 t1
  cases d with
  | none =>
    have e : x = .non := by cases z; rfl
    subst e
    exact .inl ⟨rfl, q _ H (res1 t1 fun F => .str _)⟩
  | some n =>
    obtain ⟨hn, q⟩ := Res.wp_need (show (reprI n).wp _ _ from q)
    have e : x = .int n := by cases z; rfl
    subst e
    exact .inr ⟨n, rfl, hn, q _ H (res1 t1 fun F => .str _)⟩
end
end Lc
/-! Lc: for in a generator def -/
namespace Lc
open PySem L2 PySem.Spec PyProof.Rows GenW
section
variable {prog : Program} {w : World} {A : Around} {R : GenEnd} {Y : Protocol} {n : Nat} {s₀ : Shared} {fs : List Frame} {s : Shared} {env : Env}
def forK (target : Expr) (it : Value) (body : List Stmt) (env : Env) (f : Flow) : Sem PySem.Fin := match f with
  | .next | .cont => .pure (.again (.forLoop target it body [] env))
  | .brk => .pure (.done .next)
  | .ret v => .pure (.done (.ret v))
theorem seg_forLoop {target : Expr} {it : Value} {body : List Stmt}
    (h : wpAny (model prog w) (A.over (.forLoop target it body [] env) fs) (pyNext it) (fun r s1 => match r with
      | none => Seg (model prog w) A R Y n s₀ (.forLoop target it body [] env) (.pure (.again (.block [] env))) fs s1
      | some v => wpAny (model prog w) (A.over (.forLoop target it body [] env) fs) (letOwnedTupleGo target it v) (fun _ s1' => wpAny (model prog w) (A.over (.forLoop target it body [] env) fs) (assign target env v) (fun _ s2 =>
          Seg (model prog w) A R Y n s₀ (.forLoop target it body [] env) ((execs body env).wrap (forK target it body env) (fun e => (do noteFrame e env; theTreesLotGoes e : Sem Unit).wrap (fun _ => .raise e) .raise id id) id id) fs s2)
          (fun x s' => Seg (model prog w) A R Y n s₀ (.forLoop target it body [] env) ((do noteFrame x env; theTreesLotGoes x : Sem Unit).wrap (fun _ => .raise x) .raise id id) fs s') s1')
          (fun x s' => Seg (model prog w) A R Y n s₀ (.forLoop target it body [] env) ((do noteFrame x env; theTreesLotGoes x : Sem Unit).wrap (fun _ => .raise x) .raise id id) fs s') s1)
      (fun x s' => Seg (model prog w) A R Y n s₀ (.forLoop target it body [] env) ((do noteFrame x env; theTreesLotGoes x : Sem Unit).wrap (fun _ => .raise x) .raise id id) fs s') s) :
    Seg (model prog w) A R Y n s₀ (.forLoop target it body [] env) ((model prog w).den (.forLoop target it body [] env)) fs s := by
  have eE : (fun e => ((do noteFrame e env; theTreesLotGoes e : Sem Unit)).bind fun _ => (.raise e : Sem PySem.Fin)) = fun e => (do noteFrame e env; theTreesLotGoes e : Sem Unit).wrap (fun _ => .raise e) .raise id id := by
    funext e
    exact Sem.bind_eq_wrap _ _
  show Seg _ A R Y n s₀ _ ((forTurn target it body [] env).onRaise (fun x => do noteFrame x env; theTreesLotGoes x)) fs s
  rw [Sem.onRaise_eq_wrap, eE]
  unfold forTurn
  refine seg_at ?_
  refine seg_bind_wrap (wpAny_pure ?_)
  refine seg_bind_wrap (wpAny_onRaise (wpAny_mono h (fun r s1 h1 => ?_) fun x s' hx => wpAny_standAt hx))
  cases r with
  | none => exact h1
  | some v =>
    refine seg_bind_wrap (wpAny_mono h1 (fun _ s1' h2 => ?_) fun x s' hx => hx)
    refine seg_bind_wrap (wpAny_mono h2 (fun _ s2 h3 => ?_) fun x s' hx => hx)
    rw [Sem.bind_eq_wrap', Sem.wrap_wrap]
    refine Eq.mp (congrArg (fun t => Seg (model prog w) A R Y n s₀ (.forLoop target it body [] env) t fs s2) (Sem.wrap_congr (execs body env) id id (fun f => ?_) (fun e => ?_))) h3
    · cases f <;> rfl
    · rfl
end
section
variable {X : Cx}
def tGFor (wi : TI) (g : TG) (tb : TGn) : TGn := fun D ys σ H => wi σ H fun J H1 => ∃ W : Nat → Nat → List V → L2.St → Hp → Prop, (∃ m, W 0 m ys σ H1) ∧ ∀ i m ys σ H, W i m ys σ H →
  (J.stop i H ∧ D.nx ys σ H) ∨ (J.go i H ∧ ∃ N : List V → L2.St → Hp → Prop, (∀ ys' σ' H', N ys' σ' H' → ∃ m', m' < m ∧ W (i + 1) m' ys' σ' H') ∧ ∀ x H', J.yld i H x H' → g x σ H' fun σ2 H2 => tb { D with nx := N, ct := N, bk := D.nx } ys σ2 H2)
theorem gs_for {target iter : Expr} {body : List Stmt} {pos : Pos} {wi : TI} {g : TG} {tb : TGn} (hp : PassesOwn (model X.prog X.w) X.A X.env X.xe) (hc : X.calm = true) (hi : PI X target iter wi) (hg : PG X target g) (hb : GSs X body tb)
    (hs : ∀ x, foldedSetIterable iter X.env x = pure x := by intro _; rfl) : GS X (.For target iter body [] pos) (tGFor wi g tb) := by
  refine ⟨fun A S ip R n ys s₀ c fs K J gd lv s σ H D gc hn k hI ht => ?_⟩
  rw [exec_For]
  refine seg_at ?_
  refine seg_bind_wrap (wpAny_pure ?_)
  refine seg_bind_wrap ?_
  rw [gc.over]
  obtain ⟨acc, cc, r, I⟩ := hI
  refine wpAny_mono (hi.run _ s σ H _ I ht) (fun v s1 h1 => ?_) fun x s' hx => k.exc n s₀ x s' hx
  refine seg_bind_wrap (wpAny_of_eq (hs v) ?_)
  refine seg_at ?_
  refine seg_bind_wrap (wpAny_pure ?_)
  refine seg_bind_wrap (wpAny_holding ?_)
  rw [gc.over]
  refine wpAny_mono h1 (fun itv s2 h2 => ?_) fun x s' hx => k.exc n s₀ x s' hx
  obtain ⟨it, fp, tn, Jt, H2, e, I2, T, st2, f2, W, ⟨m0, w0⟩, turn⟩ := h2
  subst e
  have stat : ∀ {H' : Hp}, (∀ b ∈ fp, H' b = none) → ∀ b ∈ fp, FpOk X ((S, lstObj acc cc) :: ip) H' b := fun hn b hb => ⟨hn b hb, (f2 b hb).2⟩
  have fpS : ∀ b ∈ fp, b ≠ S := fun b hb z => (f2 b hb).2.2.2.2.2 (S, lstObj acc cc) (List.mem_append_right _ List.mem_cons_self) z.symm
  have fpI : ∀ p ∈ ip, p.1 ∉ fp := fun p hp hb => (f2 p.1 hb).2.2.2.2.2 p (List.mem_append_right _ (List.mem_cons_of_mem _ hp)) rfl
  have fpP : ∀ p ∈ X.pn, p.1 ∉ fp := fun p hp hb => (f2 p.1 hb).2.2.2.2.2 p (List.mem_append_left _ hp) rfl
  refine seg_call fun p => ?_
  have gl := fun (kk : Result → Sem PySem.Fin) => gc_loop (k := kk) (c' := .forLoop target (.ref it) body [] X.env) (l := lv []) (kp := []) (p := p) gc rfl rfl
  have gl1 := gl (fun r => ((match r with | .ok f => (.pure f : Sem Flow) | .error e => .raise e).onRaise (cameBack X.env)).wrap K J gd lv)
  have loop : ∀ (m i n : Nat) (ys : List V) (s₀ s : Shared) (σ : L2.St) (H : Hp), n + ys.length = sizeLine → W i m ys σ H → GI X S ip ys σ H s → tn i s.heap → (∀ b ∈ fp, H b = none) →
      Seg (model X.prog X.w) A R (GY X S) n s₀ (.forLoop target (.ref it) body [] X.env) ((model X.prog X.w).den (.forLoop target (.ref it) body [] X.env))
        (.ret (fun r => ((match r with | .ok f => (.pure f : Sem Flow) | .error e => .raise e).onRaise (cameBack X.env)).wrap K J gd lv) none (gd false) (lv []) c p [] :: fs) s := by
    intro m
    induction m using Nat.strongRecOn with
    | ind m ih =>
      intro i n ys s₀ s σ H hn w hI st fr
      have ee : ∀ (n : Nat) (s₀ : Shared) (x : Value) (s' : Shared), X.xe x s' → Seg (model X.prog X.w) A R (GY X S) n s₀ (.forLoop target (.ref it) body [] X.env)
          ((do noteFrame x X.env; theTreesLotGoes x : Sem Unit).wrap (fun _ => .raise x) .raise id id)
          (.ret (fun r => ((match r with | .ok f => (.pure f : Sem Flow) | .error e => .raise e).onRaise (cameBack X.env)).wrap K J gd lv) none (gd false) (lv []) c p [] :: fs) s' := fun n s₀ x s' hx => by
        refine seg_wrap ?_
        rw [(gl _).over]
        refine wpAny_bind (wpAny_mono (hp x s' hx) (fun _ s'' hcb => wpAny_theTreesLotGoes ?_) fun y s'' hcb => ?_)
        · exact seg_leaf (.error x) (seg_cameBack gc k hcb)
        · exact seg_leaf (.error y) (seg_cameBack gc k hcb)
      refine seg_forLoop ?_
      rw [(gl _).over]
      obtain ⟨acc, cc, r, I⟩ := hI
      have stat : ∀ {H' : Hp}, (∀ b ∈ fp, H' b = none) → ∀ b ∈ fp, FpOk X ((S, lstObj acc cc) :: ip) H' b := fun hn b hb => by
        obtain ⟨_, a1, a2, a3, a4, a5⟩ := f2 b hb
        refine ⟨hn b hb, a1, a2, a3, a4, fun p hp => ?_⟩
        rcases List.mem_append.mp hp with z | z
        · exact a5 p (List.mem_append_left _ z)
        · rcases List.mem_cons.mp z with z | z
          · rw [z]
            exact Ne.symm (fpS b hb)
          · exact a5 p (List.mem_append_right _ (List.mem_cons_of_mem _ z))
      rcases turn i m ys σ H w with ⟨stop, qn⟩ | ⟨go, N, hN, step⟩
      · refine wpAny_mono (T.done X rfl rfl rfl hc i _ s σ H X.xe I (stat fr) st stop) (fun q s4 hq => ?_) fun x s' hx => ee n s₀ x s' hx
        obtain ⟨hr, I4⟩ := hq
        subst hr
        refine seg_again rfl ?_
        exact seg_leaf (.ok .next) (k.ok n ys s₀ s4 .next hn ⟨σ, H, ⟨acc, cc, r, I4⟩, qn⟩)
      · refine wpAny_mono (T.item X rfl rfl rfl hc i _ s σ H X.xe I (stat fr) st go) (fun q s4 hq => ?_) fun x s' hx => ee n s₀ x s' hx
        obtain ⟨u, hr, h4⟩ := hq
        subst hr
        refine wpAny_mono h4 (fun _ s5 h5 => ?_) fun x s' hx => ee n s₀ x s' hx
        obtain ⟨x, H5, I5, r5, y5, st5, fr5⟩ := h5
        have I5' := I5.pinned (stat fr5) (T.obj _ _ st5)
        refine wpAny_mono (hg.run _ s5 σ H5 x u _ I5' r5 (step x H5 y5)) (fun _ s6 h6 => ?_) fun x s' hx => ee n s₀ x s' hx
        obtain ⟨σ6, H6, I6, q6⟩ := h6
        have hip : ∀ p ∈ ip ++ pinsAt fp s5.heap, p.1 ≠ S := fun p hp => by
          rcases List.mem_append.mp hp with z | z
          · exact gc.ip p z
          · exact fpS p.1 (of_pinsAt z).1
        have back : ∀ {ys' : List V} {σ' : L2.St} {H' : Hp} {s' : Shared}, GI X S (ip ++ pinsAt fp s5.heap) ys' σ' H' s' → GI X S ip ys' σ' H' s' ∧ tn (i + 1) s'.heap ∧ ∀ b ∈ fp, H' b = none := fun {ys' σ' H' s'} h' => by
          obtain ⟨acc', cc', r', I'⟩ := h'
          refine ⟨⟨acc', cc', r', I'.pins_of fun p hp => I'.pin p ?_⟩, T.keep _ _ _ st5 fun b hb o e => (I'.pin (b, o) (List.mem_append_right _ (List.mem_cons_of_mem _ (List.mem_append_right _ (mem_pinsAt hb e))))).1, fun b hb => ?_⟩
          · rcases List.mem_cons.mp hp with z | z
            · rw [z]
              exact List.mem_append_right _ List.mem_cons_self
            · exact List.mem_append_right _ (List.mem_cons_of_mem _ (List.mem_append_left _ z))
          · obtain ⟨o, e, d⟩ := T.obj _ _ st5 b hb
            exact (I'.pin (b, o) (List.mem_append_right _ (List.mem_cons_of_mem _ (List.mem_append_right _ (mem_pinsAt hb e))))).2.1
        refine hb.run A S (ip ++ pinsAt fp s5.heap) R n ys s₀ _ _ _ _ id id s6 σ6 H6 { D with nx := N, ct := N, bk := D.nx } ⟨gl1.pn, hip, gl1.apart, gl1.over, gl1.split, gl1.guard, rfl⟩ hn ⟨fun n' ys' s₀' s7 f hn' hs => ?_, fun n' s₀' x s7 hx => ee n' s₀' x s7 hx⟩ ⟨acc, cc, r, I6⟩ q6
        cases f with
        | next =>
          obtain ⟨σ7, H7, I7, n7⟩ := hs
          obtain ⟨m', hm, w7⟩ := hN ys' σ7 H7 n7
          obtain ⟨b1, b2, b3⟩ := back I7
          exact seg_again rfl (ih m' hm (i + 1) n' ys' s₀' s7 σ7 H7 hn' w7 b1 b2 b3)
        | cont =>
          obtain ⟨σ7, H7, I7, n7⟩ := hs
          obtain ⟨m', hm, w7⟩ := hN ys' σ7 H7 n7
          obtain ⟨b1, b2, b3⟩ := back I7
          exact seg_again rfl (ih m' hm (i + 1) n' ys' s₀' s7 σ7 H7 hn' w7 b1 b2 b3)
        | brk =>
          obtain ⟨σ7, H7, I7, q7⟩ := hs
          exact seg_leaf (.ok .next) (k.ok n' ys' s₀' s7 .next hn' ⟨σ7, H7, (back I7).1, q7⟩)
        | ret v =>
          obtain ⟨x7, σ7, H7, I7, r7, q7⟩ := hs
          exact seg_leaf (.ok (.ret v)) (k.ok n' ys' s₀' s7 (.ret v) hn' ⟨x7, σ7, H7, (back I7).1, r7, q7⟩)
  exact loop m0 0 n ys s₀ s2 σ H2 hn w0 ⟨acc, cc, r, I2⟩ st2 fun b hb => (f2 b hb).1
end
/-! ### a generator def's body, its outs among the state -/
section
open Res
variable {E : Ec} {te ti : TE} {tr : TA} {Γ : List Cell} {α β γ δ ι τ : Type} {t u : TGn} {ts : TS} {wi : TI} {g : TG} {o : List PyData} {Γ' : β → List Cell} {o' : β → List PyData}
def EvGB (E : Ec) (t : TGn) (Γ : List Cell) (o : List PyData) {β : Type} (m : Res β) (Γ' : β → List Cell) (o' : β → List PyData) : Prop :=
  ∀ (σ : L2.St) (H : Hp) (R : Asr) (D : GEnds) (ys : List V), Top (sep (base E σ Γ) (sep (vAs o ys) R)) H → m.wp (fun b => ∀ σ' H' ys', Top (sep (base E σ' (Γ' b)) (sep (vAs (o' b) ys') R)) H' → D.nx ys' σ' H') (fun _ => False) → t D ys σ H
theorem EvGB.is {m : Res β} {Δ : List Cell} {oo : List PyData} (e : Γ = Δ) (eo : o = oo) (h : EvGB E t Δ oo m Γ' o') : EvGB E t Γ o m Γ' o' := e ▸ eo ▸ h
theorem geb_nil {b : β} (l : Le Γ (Γ' b)) (e : o' b = o) : EvGB E tG0 Γ o (.ok b) Γ' o' := fun σ H R D ys t q => q σ H ys (by rw [e]; exact t.ent (Ent.sepL (Ent.sepL l.ent)))
theorem geb_plain {m1 : Res α} {Γ1 : α → List Cell} {m2 : α → Res β} (h : EvS1 E ts Γ m1 Γ1) (k : ∀ a, EvGB E u (Γ1 a) o (m2 a) Γ' o') : EvGB E (tGThen (tPlain ts) u) Γ o (m1.bind m2) Γ' o' := fun σ H R D ys t q =>
  h σ H (sep (vAs o ys) R) _ t (wp_mono (wp_bind.mp q) (fun a _ q σ1 H1 t1 => k a σ1 H1 R D ys t1 q) fun _ x => x.elim)
theorem geb_plainP {Γ1 : List Cell} {m2 : Res β} (h : EvS1 E ts Γ (.ok ()) fun _ => Γ1) (k : EvGB E u Γ1 o m2 Γ' o') : EvGB E (tGThen (tPlain ts) u) Γ o m2 Γ' o' := geb_plain (m2 := fun _ => m2) h fun _ => k
theorem vAs_snoc {F H : Hp} {oo : Addr → Prop} {ds : List PyData} {d : PyData} {vs : List V} {v : V} (h : (vAs ds vs).P F H oo) (k : Rp F v d) : (vAs (ds ++ [d]) (vs ++ [v])).P F H oo := RpAll.append h (.one k)
theorem geb_yield {m1 : Res α} {Γ1 : α → List Cell} {c : α → RC} {d : α → PyData} {m2 : α → Res β} (h : EvJ E te Γ m1 Γ1 c) (f : ∀ a, Fz (c a) (d a)) (k : ∀ a, EvGB E u (Γ1 a) (o ++ [d a]) (m2 a) Γ' o') :
    EvGB E (tGThen (tGYield te) u) Γ o (need (o.length < lim) (m1.bind m2)) Γ' o' := fun σ H R D ys t q => by
  obtain ⟨hn, q⟩ := wp_need q
  have ln : ys.length = o.length := t.fact fun F H' s ⟨_, _, _, _, _, _, ⟨_, _, _, _, _, z, _⟩⟩ => (show RpAll F ys o from z).len
  refine ⟨by rw [ln]; exact lim_lt hn, h σ H (sep (vAs o ys) R) _ t (wp_mono (wp_bind.mp q) (fun a _ q v H1 t1 => ?_) fun _ x => x.elim)⟩
  have t2 : Top (sep (base E σ (Γ1 a)) (sep (vA (d a) v) (sep (vAs o ys) R))) H1 := (f a σ v _ H1 (t1.ent frontE)).ent frontE
  refine k a σ H1 R D (ys ++ [v]) (t2.ent (Ent.sepR fun F H o2 s ⟨o3, o4, h3, h4, e, a1, o5, o6, h5, h6, e2, a2, r⟩ => ?_)) q
  exact ⟨o5, o6, fun q z => h4 q (h5 q z), fun q z => h4 q (h6 q z), e2, vAs_snoc a2 a1, r⟩
/-- a for that only goes on -/
theorem geb_for [Dat α] {mi : Res ι} {Γ0 : ι → List Cell} {xs : ι → List α} {Kp : ι → List Cell → Prop} {Γs : τ → List Cell} {os : τ → List PyData} {Γt : τ → α → List Cell} {s0 : ι → τ} {f : τ → α → Res τ} {m2 : τ → Res β} {tb : TGn}
    (hi : EvI E wi Γ mi Γ0 (fun a => (xs a).map dat) Kp) (hk : ∀ a s, Kp a (Γs s)) (h0 : ∀ a, Le (Γ0 a) (Γs (s0 a))) (h1 : ∀ a, os (s0 a) = o) {ix : List Nat} (hg : ∀ s x, EvG E g (dat x) (Γs s) (Γt s x) ix) (hb : ∀ s x, EvGB E tb (Γt s x) (os s) (f s x) Γs os)
    (k : ∀ s, EvGB E u (Γs s) (os s) (m2 s) Γ' o') :
    EvGB E (tGThen (tGFor wi g tb) u) Γ o ((mi.bind fun a => foldR (xs a) (s0 a) f).bind m2) Γ' o' := fun σ H R D ys t q => by
  refine hi σ H (sep (vAs o ys) R) _ t (wp_mono (wp_bind.mp (wp_bind.mp q)) (fun a _ q J H1 B hJ t1 => ?_) fun _ x => x.elim)
  have t1' : Top (sep (base E σ (Γs (s0 a))) (sep (vAs (os (s0 a)) ys) (sep B R))) H1 := by
    rw [h1 a]
    exact (t1.ent (Ent.sepL (Ent.sepL (h0 a).ent))).ent (Ent.sepR (Ent.assoc'.trans ((Ent.sepL Ent.comm).trans Ent.assoc)))
  refine ⟨fun i mm ys' σ' H' => mm = (xs a).length - i ∧ i ≤ (xs a).length ∧ ∃ s, Top (sep (base E σ' (Γs s)) (sep (vAs (os s) ys') (sep B R))) H' ∧ (foldR ((xs a).drop i) s f).wp (fun b => (m2 b).wp (fun b => ∀ σ' H' ys', Top (sep (base E σ' (Γ' b)) (sep (vAs (o' b) ys') R)) H' → D.nx ys' σ' H') (fun _ => False)) (fun _ => False),
    ⟨_, rfl, Nat.zero_le _, s0 a, t1', q⟩, ?_⟩
  rintro i mm ys' σ' H' ⟨rfl, hle, s, t2, q2⟩
  have ok := hJ σ' (Γs s) (hk a s)
  have t2' : Top (sep (sep (base E σ' (Γs s)) B) (sep (vAs (os s) ys') R)) H' := t2.ent ((Ent.sepR (Ent.assoc'.trans ((Ent.sepL Ent.comm).trans Ent.assoc))).trans Ent.assoc')
  by_cases hlt : i < (xs a).length
  · refine .inr ⟨ok.goes i H' _ (by rw [List.length_map]; exact hlt) t2', ?_⟩
    have ed : (xs a).drop i = (xs a)[i] :: (xs a).drop (i + 1) := List.drop_eq_getElem_cons hlt
    rw [ed] at q2
    refine ⟨fun ys2 σ2 H2 => ∃ s', Top (sep (base E σ2 (Γs s')) (sep (vAs (os s') ys2) (sep B R))) H2 ∧ (foldR ((xs a).drop (i + 1)) s' f).wp (fun b => (m2 b).wp (fun b => ∀ σ' H' ys', Top (sep (base E σ' (Γ' b)) (sep (vAs (o' b) ys') R)) H' → D.nx ys' σ' H') (fun _ => False)) (fun _ => False),
      fun ys2 σ2 H2 ⟨s', t3, q3⟩ => ⟨_, by omega, rfl, hlt, s', t3, q3⟩, fun x H2 hy => ?_⟩
    have t3 := ok.yields i (dat (xs a)[i]) H' x H2 _ (by simp [hlt]) t2' hy
    have t4 : Top (sep (base E σ' (Γs s)) (sep (vA (dat (xs a)[i]) x) (sep (vAs (os s) ys') (sep B R)))) H2 := ((t3.ent (Ent.sepR Ent.assoc)).ent frontE).ent (Ent.sepR (Ent.sepR (Ent.assoc'.trans ((Ent.sepL Ent.comm).trans Ent.assoc))))
    refine hg s (xs a)[i] σ' H2 _ _ x t4 fun σ3 H3 _ t5 => ?_
    exact hb s (xs a)[i] σ3 H3 (sep B R) _ ys' t5 (wp_mono (wp_bind.mp q2) (fun s' _ q3 σ4 H4 ys4 t6 => ⟨s', t6, q3⟩) fun _ x => x)
  · have e : i = (xs a).length := by omega
    subst e
    rw [List.drop_length] at q2
    have z := ok.stops H' _ t2'
    rw [List.length_map] at z
    refine .inl ⟨z, ?_⟩
    exact k s σ' H' R D ys' (t2.ent (Ent.sepR (Ent.sepR Ent.right))) q2
/-! the def's promise, its list -/
def SpG0 {α β : Type} (ps : α → List PP) (m : α → Res β) (o : β → List PyData) : SpG := fun vs H Q E => ∃ (x : α) (C : Asr), Top C H ∧ (∀ F H o, Same F H → C.P F H o → parOk (ps x) vs F H) ∧
  (m x).wp (fun b => ∀ ys H', Top (sep C (vAs (o b) ys)) H' → Q ys H') fun _ => False
theorem spg_go {ps : α → List PP} {m : α → Res β} {o : β → List PyData} {vs : List V} {H : Hp} {Q : List V → Hp → Prop} {Ex : XK} {G : Prop} (h : SpG0 ps m o vs H Q Ex)
    (k : ∀ (x : α) (C : Asr), Top C H → (∀ F H o, Same F H → C.P F H o → parOk (ps x) vs F H) → WP (m x) (fun b => ∀ ys H', Top (sep C (vAs (o b) ys)) H' → Q ys H') (fun _ => False) → G) : G := by
  obtain ⟨x, C, h1, h2, h3⟩ := h
  exact k x C h1 h2 ⟨h3⟩
theorem finG {K : PySem.W.Frag} {Ex : XK} {ec : Nat → Value} {C : Asr} {Q : List V → Hp → Prop} {H : Hp} {σ : L2.St} {t : TGn} {m : Res β} {Γ0 : List Cell} {Γr : β → List Cell} {o : β → List PyData} (hT : Top C H) (hin : ∀ F o, Same F H → C.P F H o → allP F H σ Γ0)
    (hw : WP m (fun b => ∀ ys H', Top (sep C (vAs (o b) ys)) H' → Q ys H') (fun _ => False)) (hb : EvGB (Ecf K Ex ec C) t Γ0 [] m Γr o) : t { nx := fun ys _ H' => Q ys H', rt := fun ys v H' => v = .non ∧ Q ys H' } [] σ H := by
  obtain ⟨F, oo, s, k, p⟩ := hT
  refine hb σ H emp _ [] ⟨F, oo, s, k, ?_⟩ (wp_mono hw.wp (fun b _ q σ' H' ys' t' => q ys' H' (t'.ent (Ent.sep Ent.right Ent.left))) fun _ x => x)
  exact Ent.comm F H oo s (sep_pers (A := sep (vAs [] []) emp) (fun w => sep_pers (fun _ => RpAll.nil) trivial) (sep_pers (fun w => sl_all w (hin F oo s p)) p))
theorem FunG.okGen {P : Program} {w : World} {K : PySem.W.Frag} {mg : Str → Option Value} {base : Heap} {x qual : Str} {st : Stmt} {f : Addr} {fd : FuncData} {N ps : List Str} {k : Nat} {sp : SpG} (F : FunG K x qual st f fd) (S : GScope N ps (defScope st)) (len : ∀ vs H Q E, sp vs H Q E → vs.length = ps.length)
    (hbody : ∀ (cdv : Value) (A : Around) (outer : List Env) (s : Shared) (H : Hp) (vs : List V) (Q : List V → Hp → Prop) (E : XK) (pn : List (Addr × Obj)), RoomG False k (A.deeper (envOfC qual (defScope st) s.heap.objs.size f cdv)) → sp vs H Q E →
      ∃ t, GSs (gcxOf P w K mg base N qual (defScope st) f cdv A outer s H E pn) (defBody st) t ∧ t { nx := fun ys _ H' => Q ys H', rt := fun ys v H' => v = .non ∧ Q ys H' } [] (start N vs) H) : GFn P w K mg base (k + 1) f fd ps sp := by
  obtain ⟨oc, od, dV, kV, doc, pm, an, cdv, ct, osl, rfl, lk, hcd⟩ := F.ex
  exact gfn_of lk hcd S len fun A outer s H vs Q E pn hr hsp => hbody cdv A outer s H vs Q E pn ⟨hr, fun h => h.elim⟩ hsp
/-- list(g(e, ..)) -/
theorem pe_listGen {X : Cx} {k : Nat} {f : Addr} {fd : FuncData} {ps : List Str} {sp : SpG} {x : Str} {p p2 pos pos' : Pos} {e : Expr} {es : List Expr} {t : TA} (F : GFn X.prog X.w X.K X.mg X.base k f fd ps sp) (hr : Room (k + 3) X.A) (hg : Gl X x) (hm : X.mg x = some (.ref f)) (hk : PySem.W.keepIn X.K (.ref f) = true) (hb : Binds X.K fd ps [])
    (ha : PA X (e :: es) t) (hgl : Gl X "list") (hml : X.mg "list" = none) (hdb : (x == ("__debug__" : Str)) = false := by decide) (he : starEach (e :: es) X.env = (false, eval e X.env) :: starEach es X.env := by rfl) (hpl : (backTo pos' (starEach es X.env)).any (·.1) = false := by rfl)
    (he2 : starEach [Expr.Call (.Name x p2) (e :: es) [] pos'] X.env = (false, eval (Expr.Call (.Name x p2) (e :: es) [] pos') X.env) :: starEach [] X.env := by rfl) :
    PE X (.Call (.Name "list" p) [.Call (.Name x p2) (e :: es) [] pos'] [] pos) (tListG (tCallG sp [] (fun _ _ _ => False) t)) :=
  pe_listG (pgen_call F (hr.mono (by omega)) hg hm hk hb .nil ha hdb he hpl) (fun pins σ H s e s' I ⟨_, _, _, _, _, _, _, _, _, _, _, _, z⟩ => z.elim) (fun _ _ _ z => z.elim) hr hgl hml (by decide +kernel) (by decide +kernel) (by decide +kernel) he2
theorem ev_listGen {ma : Res δ} {Γ1 : δ → List Cell} {cs : δ → List RC} {ps : α → List PP} {m : α → Res β} {o : β → List PyData} {Ex : XK} (x : δ → α) (h : EvA E tr Γ ma Γ1 cs) (hp : ∀ a, Pars E (Γ1 a) K0 (cs a) (ps (x a))) :
    EvJ E (tListG (tCallG (SpG0 ps m o) [] Ex tr)) Γ (ma.bind fun a => (noErr (m (x a))).bind fun b => .ok (a, b)) (fun p => Γ1 p.1) fun p => rO (o p.2) := fun σ H R Q t q =>
  h σ H R _ t (wp_mono (wp_bind.mp q) (fun a _ q1 vs H1 t1 => by
    show SpG0 ps m o (vs ++ []) H1 _ Ex
    rw [List.append_nil]
    refine ⟨x a, _, t1, fun F H o s h => hp a σ vs F H o trivial s (Ent.sepR Ent.left F H o s h), wp_mono (wp_noErr (wp_bind.mp q1)) (fun b _ q2 ys H' t' p hp => q2 _ _ ?_) fun _ x => x⟩
    have t2 : Top (sep (base E σ (Γ1 a)) (sep (vAs (o b) ys) R)) H' := t'.ent (Ent.assoc.trans (Ent.sepR ((Ent.sepL Ent.right).trans Ent.comm)))
    exact (newL t2 hp fun F o' s z => as_of F o' s z).ent (Ent.sepR (Ent.sepR Ent.right))) fun _ z => z)
end
end Lc
/-! Ma: plain facts on what the mirrors are made of -/
namespace Lc
open PySem L2
/-- m ends well, with P -/
def Ok {α : Type} (m : Res α) (P : α → Prop) : Prop := ∃ a, m = .ok a ∧ P a
theorem Ok.bind {α β : Type} {m : Res α} {f : α → Res β} {P : α → Prop} {Q : β → Prop} (h : Ok m P) (k : ∀ a, P a → Ok (f a) Q) : Ok (m.bind f) Q := by
  obtain ⟨a, rfl, p⟩ := h
  exact k a p
theorem Ok.assoc {α β γ : Type} {m : Res α} {f : α → Res β} {g : β → Res γ} {P : γ → Prop} (h : Ok (m.bind fun a => (f a).bind g) P) : Ok ((m.bind f).bind g) P := by
  rw [Res.bind_assoc]
  exact h
theorem Ok.okb {α β : Type} {a : α} {f : α → Res β} {P : β → Prop} (h : Ok (f a) P) : Ok ((Res.ok a).bind f) P := h
theorem Ok.pure {α : Type} {a : α} {P : α → Prop} (h : P a) : Ok (.ok a) P := ⟨a, rfl, h⟩
theorem Ok.imp {α : Type} {m : Res α} {P Q : α → Prop} (h : Ok m P) (k : ∀ a, P a → Q a) : Ok m Q := by
  obtain ⟨a, e, p⟩ := h
  exact ⟨a, e, k a p⟩
theorem Ok.noErr {α : Type} {m : Res α} {P : α → Prop} (h : Ok m P) : Ok (noErr m) P := by
  obtain ⟨a, rfl, p⟩ := h
  exact ⟨a, rfl, p⟩
theorem Ok.need {α : Type} {c : Prop} [Decidable c] {m : Res α} {P : α → Prop} (hc : c) (h : Ok m P) : Ok (Res.need c m) P := by
  rw [Res.need_of hc]
  exact h
theorem Ok.of_eq {α : Type} {m : Res α} {a : α} (h : m = .ok a) : Ok m fun b => b = a := ⟨a, h, rfl⟩
theorem Ok.eq {α : Type} {m : Res α} {a : α} (h : Ok m fun b => b = a) : m = .ok a := by
  obtain ⟨b, e, rfl⟩ := h
  exact e
theorem getI_pos {α : Type} {xs : List α} {i : Int} (h0 : 0 ≤ i) (h1 : i < xs.length) : getI xs i = .ok (xs[i.toNat]'(by omega)) := by
  refine getI_some ?_
  unfold atI ixN
  rw [if_pos h0, if_pos (by omega)]
  simp
theorem getI_nat {α : Type} {xs : List α} {i : Nat} {a : α} (h : xs[i]? = some a) : getI xs (i : Int) = .ok a := by
  have hl : i < xs.length := (List.getElem?_eq_some_iff.mp h).1
  rw [getI_pos (Int.natCast_nonneg i) (by omega)]
  have e : xs[(i : Int).toNat]'(by omega) = a := by
    have := (List.getElem?_eq_some_iff.mp h).2
    simpa using this
  rw [e]
theorem getI_ok {α : Type} {xs : List α} {i : Int} (h0 : 0 ≤ i) (h1 : i < xs.length) : Ok (getI xs i) fun a => a ∈ xs := ⟨_, getI_pos h0 h1, List.getElem_mem _⟩
theorem getI_last {α : Type} {xs : List α} (h : xs ≠ []) : Ok (getI xs (-1)) fun a => a ∈ xs := by
  have hl : 0 < xs.length := List.length_pos_iff.mpr h
  refine ⟨xs[xs.length - 1]'(by omega), getI_some ?_, List.getElem_mem _⟩
  unfold atI ixN
  rw [if_neg (by omega), if_pos (by omega)]
  have e : ((-1 : Int) + (xs.length : Int)).toNat = xs.length - 1 := by omega
  simp only [Option.bind_some]
  rw [e]
  simp
theorem setR_pos {α : Type} {xs : List α} {i : Int} {a : α} (h0 : 0 ≤ i) (h1 : i < xs.length) : setR xs i a = .ok (xs.set i.toNat a) := by
  unfold setR ixN
  rw [if_pos h0, if_pos (by omega)]
theorem foldR_ok {α σ : Type} {f : σ → α → Res σ} (I : Nat → σ → Prop) : ∀ (xs : List α) (s : σ) (n : Nat), I n s → (∀ i s a, a ∈ xs → n ≤ i → i < n + xs.length → I i s → Ok (f s a) (I (i + 1))) → Ok (foldR xs s f) (I (n + xs.length))
  | [], s, n, h, _ => ⟨s, rfl, h⟩
  | a :: l, s, n, h, k => by
    unfold foldR
    refine Ok.bind (k n s a List.mem_cons_self (Nat.le_refl n) (by simp) h) fun s' h' => ?_
    have e : n + (a :: l).length = (n + 1) + l.length := by simp; omega
    rw [e]
    exact foldR_ok I l s' (n + 1) h' fun i s b hb h1 h2 => k i s b (List.mem_cons_of_mem _ hb) (by omega) (by rw [List.length_cons]; omega)
/-- an invariant at every step of a walk over a range -/
theorem foldR_range {σ : Type} {f : σ → Int → Res σ} (I : Int → σ → Prop) (b : Int) (hs : ∀ i s, i < b → I i s → Ok (f s i) (I (i + 1))) : ∀ (n : Nat) (a : Int) (s : σ), (b - a).toNat = n → a ≤ b → I a s → Ok (foldR (rangeL a b) s f) (I b)
  | 0, a, s, hn, hab, h => by
    have e : a = b := by omega
    subst e
    have : rangeL a a = [] := by unfold rangeL; simp
    rw [this]
    exact ⟨s, rfl, h⟩
  | n + 1, a, s, hn, hab, h => by
    have e : rangeL a b = a :: rangeL (a + 1) b := by
      unfold rangeL
      have : (b - a).toNat = (b - (a + 1)).toNat + 1 := by omega
      rw [this, List.range_succ_eq_map]
      simp [List.map_map, Function.comp_def]
      intro k _
      omega
    rw [e]
    unfold foldR
    exact Ok.bind (hs a s (by omega) h) fun s' h' => foldR_range I b hs n (a + 1) s' (by omega) (by omega) h'
theorem compR_ok {α β τ : Type} {f : τ → α → Res (Option β × τ)} (I : Nat → List β → τ → Prop) : ∀ (xs : List α) (s : τ) (acc : List β) (n : Nat), I n acc s → acc.length + xs.length ≤ lim →
    (∀ i s acc a, a ∈ xs → n ≤ i → i < n + xs.length → I i acc s → Ok (f s a) fun r => match r.1 with | some b => I (i + 1) (acc ++ [b]) r.2 | none => I (i + 1) acc r.2) →
    Ok (compR xs s acc f) fun r => I (n + xs.length) r.1 r.2
  | [], s, acc, n, h, _, _ => ⟨_, rfl, h⟩
  | a :: l, s, acc, n, h, hl, k => by
    rw [List.length_cons] at hl
    unfold compR
    refine Ok.bind (Ok.noErr (k n s acc a List.mem_cons_self (Nat.le_refl n) (by simp) h)) fun r h' => ?_
    have e : n + (a :: l).length = (n + 1) + l.length := by simp; omega
    rw [e]
    obtain ⟨ob, s'⟩ := r
    cases ob with
    | none => exact compR_ok I l s' acc (n + 1) h' (by omega) fun i s acc b hb h1 h2 => k i s acc b (List.mem_cons_of_mem _ hb) (by omega) (by rw [List.length_cons]; omega)
    | some b => exact Ok.need (by omega) (compR_ok I l s' (acc ++ [b]) (n + 1) h' (by simp; omega) fun i s acc b hb h1 h2 => k i s acc b (List.mem_cons_of_mem _ hb) (by omega) (by rw [List.length_cons]; omega))
theorem forR_ok {α σ ρ : Type} {f : σ → α → Res (Lp σ ρ)} (I : σ → Prop) : ∀ (xs : List α) (s : σ), I s → (∀ s a, a ∈ xs → I s → Ok (f s a) fun r => ∃ s', r = .next s' ∧ I s') → Ok (forR xs s f) fun r => ∃ s', r = .go s' ∧ I s'
  | [], s, h, _ => ⟨_, rfl, s, rfl, h⟩
  | a :: l, s, h, k => by
    unfold forR
    refine Ok.bind (k s a List.mem_cons_self h) fun r ⟨s', e, h'⟩ => ?_
    subst e
    exact forR_ok I l s' h' fun s b hb => k s b (List.mem_cons_of_mem _ hb)
theorem forR_idx {α σ ρ : Type} {f : σ → α → Res (Lp σ ρ)} (I : Nat → σ → Prop) : ∀ (xs : List α) (s : σ) (n : Nat), I n s → (∀ i s a, i < n + xs.length → I i s → Ok (f s a) fun r => ∃ s', r = .next s' ∧ I (i + 1) s') → Ok (forR xs s f) fun r => ∃ s', r = .go s' ∧ I (n + xs.length) s'
  | [], s, n, h, _ => ⟨_, rfl, s, rfl, h⟩
  | a :: l, s, n, h, k => by
    unfold forR
    refine Ok.bind (k n s a (by simp) h) fun r ⟨s', e, h'⟩ => ?_
    subst e
    have e : n + (a :: l).length = (n + 1) + l.length := by simp; omega
    rw [e]
    exact forR_idx I l s' (n + 1) h' fun i s b h1 => k i s b (by rw [List.length_cons]; omega)
theorem sq_ok {τ ρ β : Type} {m : Res (Jn τ ρ)} {k : τ → Res β} {g : ρ → β} {P : τ → Prop} {Q : β → Prop} (h : Ok m fun r => ∃ s', r = .go s' ∧ P s') (hk : ∀ s, P s → Ok (k s) Q) : Ok (Jn.sq m k g) Q := by
  obtain ⟨r, rfl, s, rfl, p⟩ := h
  exact hk s p
theorem rangeR_ok {a b : Int} (h1 : -(2 ^ 62) ≤ a) (h2 : a < 2 ^ 62) (h3 : -(2 ^ 62) ≤ b) (h4 : b < 2 ^ 62) : rangeR a b = .ok (rangeL a b) := Res.need_of ⟨h1, h2, h3, h4⟩
theorem mem_range {a b i : Int} (h : i ∈ rangeL a b) : a ≤ i ∧ i < b := by
  unfold rangeL at h
  simp at h
  obtain ⟨k, h1, rfl⟩ := h
  omega
theorem catR_ok {α : Type} {xs ys : List α} (h : xs.length + ys.length ≤ lim) : catR xs ys = .ok (xs ++ ys) := Res.need_of h
theorem modR_ok {i j : Int} (h : 0 < j) : modR i j = .ok (i % j) := Res.need_of h
theorem log2_lt {n k : Nat} (h : n < 2 ^ k) : n.log2 ≤ k := by
  by_cases h0 : n = 0
  · subst h0
    simp
  · exact Nat.le_of_lt ((Nat.log2_lt h0).mpr h)
theorem divR_ok {i j : Int} (h : 0 < j) (h2 : j < 2 ^ 300) : divR i j = .ok (i / j) := Res.need_of ⟨h, by
  have := log2_lt (n := j.natAbs) (k := 300) (by omega)
  omega⟩
theorem mulA_okL {i j : Int} (h : -(2 ^ 64) < i) (h2 : i < 2 ^ 64) : mulA i j = .ok (i * j) := Res.need_of (.inl (.inl ⟨h, h2⟩))
theorem mulA_okR {i j : Int} (h : -(2 ^ 64) < j) (h2 : j < 2 ^ 64) : mulA i j = .ok (i * j) := Res.need_of (.inl (.inr ⟨h, h2⟩))
theorem cutL_to {α : Type} (xs : List α) {k : Int} (h : 0 ≤ k) : cutL xs none (some k) = xs.take k.toNat := by
  obtain ⟨n, rfl⟩ := Int.eq_ofNat_of_zero_le h
  unfold cutL
  rw [HT.sIx_none, HT.sIx_nat, List.drop_zero, Nat.sub_zero, Int.toNat_natCast]
  by_cases hn : n ≤ xs.length
  · rw [Nat.min_eq_left hn]
  · rw [Nat.min_eq_right (by omega), List.take_of_length_le (Nat.le_refl _), List.take_of_length_le (by omega)]
theorem cutL_from {α : Type} (xs : List α) {k : Int} (h : 0 ≤ k) : cutL xs (some k) none = xs.drop k.toNat := by
  obtain ⟨n, rfl⟩ := Int.eq_ofNat_of_zero_le h
  unfold cutL
  rw [HT.sIx_none, HT.sIx_nat, Int.toNat_natCast]
  by_cases hn : n ≤ xs.length
  · rw [Nat.min_eq_left hn, List.take_of_length_le (by rw [List.length_drop]; exact Nat.le_refl _)]
  · rw [List.drop_of_length_le (by omega), List.drop_of_length_le (by omega)]
    simp
theorem cutL_mid {α : Type} (xs : List α) {i j : Int} (h : 0 ≤ i) (hj : i ≤ j) : cutL xs (some i) (some j) = (xs.drop i.toNat).take (j.toNat - i.toNat) := by
  obtain ⟨n, rfl⟩ := Int.eq_ofNat_of_zero_le h
  obtain ⟨m, rfl⟩ := Int.eq_ofNat_of_zero_le (Int.le_trans h hj)
  unfold cutL
  rw [HT.sIx_nat, HT.sIx_nat, Int.toNat_natCast, Int.toNat_natCast]
  have hnm : n ≤ m := by omega
  by_cases hn : n ≤ xs.length
  · rw [Nat.min_eq_left hn]
    by_cases hm : m ≤ xs.length
    · rw [Nat.min_eq_left hm]
    · rw [Nat.min_eq_right (by omega), List.take_of_length_le (by rw [List.length_drop]; exact Nat.le_refl _), List.take_of_length_le (by rw [List.length_drop]; omega)]
  · rw [Nat.min_eq_right (by omega), Nat.min_eq_right (by omega), List.drop_of_length_le (by omega), List.drop_of_length_le (by omega)]
    simp
theorem cutL_mem {α : Type} {xs : List α} {lo hi : Option Int} {a : α} (h : a ∈ cutL xs lo hi) : a ∈ xs := List.mem_of_mem_drop (List.mem_of_mem_take h)
theorem cutL_len {α : Type} (xs : List α) (lo hi : Option Int) : (cutL xs lo hi).length ≤ xs.length := by
  unfold cutL
  rw [List.length_take, List.length_drop]
  omega
theorem ints_dat (ns : List Int) : ns.map dat = ns.map PyData.int := rfl
end Lc
/-! Ma: what repr asks -/
namespace Lc
open PySem L2
mutual
def smallD : PyData → Bool
  | .none | .bool _ => true
  | .int i => decide (i.natAbs < 2 ^ 400)
  | .str _ => false
  | .list xs | .tuple xs => smallAll xs
  | .dict _ => false
def smallAll : List PyData → Bool
  | [] => true
  | x :: xs => smallD x && smallAll xs
end
mutual
def nodes : PyData → Nat
  | .list xs | .tuple xs => nodesAll xs + 1
  | _ => 1
def nodesAll : List PyData → Nat
  | [] => 0
  | x :: xs => nodes x + nodesAll xs
end
theorem int_log {i : Int} (h : i.natAbs < 2 ^ 400) : i.natAbs.log2 < 401 := by
  have := log2_lt h
  omega
mutual
theorem smallD_dict : ∀ {d : PyData}, smallD d = true → d.hasDict = false
  | .none, _ => by simp only [PyData.hasDict]
  | .bool _, _ => by simp only [PyData.hasDict]
  | .int _, _ => by simp only [PyData.hasDict]
  | .str _, h => by simp [smallD] at h
  | .list xs, h => by
    simp only [PyData.hasDict]
    exact smallAll_dict (by simpa [smallD] using h)
  | .tuple xs, h => by
    simp only [PyData.hasDict]
    exact smallAll_dict (by simpa [smallD] using h)
  | .dict _, h => by simp [smallD] at h
theorem smallAll_dict : ∀ {xs : List PyData}, smallAll xs = true → PyData.hasDictAll xs = false
  | [], _ => rfl
  | x :: xs, h => by
    have h : smallD x = true ∧ smallAll xs = true := by simpa [smallAll] using h
    simp only [PyData.hasDictAll, smallD_dict h.1, smallAll_dict h.2, Bool.or_self]
end
mutual
theorem smallD_show : ∀ {d : PyData}, smallD d = true → d.showable = true
  | .none, _ => by simp only [PyData.showable]
  | .bool _, _ => by simp only [PyData.showable]
  | .int i, h => by
    have h : i.natAbs < 2 ^ 400 := by simpa [smallD] using h
    simp only [PyData.showable, decide_eq_true_eq]
    have := int_log h
    omega
  | .str _, h => by simp [smallD] at h
  | .list xs, h => by
    simp only [PyData.showable]
    exact smallAll_show (by simpa [smallD] using h)
  | .tuple xs, h => by
    simp only [PyData.showable]
    exact smallAll_show (by simpa [smallD] using h)
  | .dict _, h => by simp [smallD] at h
theorem smallAll_show : ∀ {xs : List PyData}, smallAll xs = true → PyData.showableAll xs = true
  | [], _ => rfl
  | x :: xs, h => by
    have h : smallD x = true ∧ smallAll xs = true := by simpa [smallAll] using h
    simp only [PyData.showableAll, smallD_show h.1, smallAll_show h.2, Bool.and_self]
end
mutual
theorem smallD_len : ∀ {d : PyData}, smallD d = true → d.shown.length + 2 ≤ 410 * nodes d
  | .none, _ => by
    have e : (PyData.shown .none).length = 4 := rfl
    simp only [nodes]
    omega
  | .bool b, _ => by
    have e : (PyData.shown (.bool b)).length ≤ 5 := by cases b <;> decide
    simp only [nodes]
    omega
  | .int i, h => by
    have h : i.natAbs < 2 ^ 400 := by simpa [smallD] using h
    have e := PySem.int_text_length_le (a := i) (k := 401) (by decide) (int_log h)
    rw [PyData.shown_int]
    simp only [nodes]
    have e2 : ((toString i : String) : Str).length = (toString i).length := ofString_length _
    omega
  | .str _, h => by simp [smallD] at h
  | .list xs, h => by
    have h1 := smallAll_len (xs := xs) (by simpa [smallD] using h)
    have h2 := listText_len_le (PyData.shownAll xs)
    have h3 := PyData.shownAll_length xs
    simp only [PyData.shown, nodes]
    omega
  | .tuple xs, h => by
    have h1 := smallAll_len (xs := xs) (by simpa [smallD] using h)
    have h2 := tupleText_len_le (PyData.shownAll xs)
    have h3 := PyData.shownAll_length xs
    simp only [PyData.shown, nodes]
    omega
  | .dict _, h => by simp [smallD] at h
theorem smallAll_len : ∀ {xs : List PyData}, smallAll xs = true → ((PyData.shownAll xs).map (·.length)).sum + 2 * xs.length ≤ 410 * nodesAll xs
  | [], _ => by simp [PyData.shownAll, nodesAll]
  | x :: xs, h => by
    have h : smallD x = true ∧ smallAll xs = true := by simpa [smallAll] using h
    have h1 := smallD_len h.1
    have h2 := smallAll_len h.2
    simp only [PyData.shownAll, List.map_cons, List.sum_cons, List.length_cons, nodesAll]
    omega
end
theorem reprR_ok {d : PyData} (h : smallD d = true) (hd : d.depth ≤ 50) (hn : nodes d ≤ 40900) : reprR d = .ok d.shown := by
  refine Res.need_of ?_
  unfold reprOk
  simp only [Bool.and_eq_true, decide_eq_true_eq, Bool.not_eq_true']
  refine ⟨⟨⟨smallD_show h, smallD_dict h⟩, hd⟩, ?_⟩
  have := smallD_len h
  have : sizeLine = 16777216 := by decide
  omega
/-- typed data -/
theorem smallAll_map {α : Type} [Dat α] : ∀ {xs : List α}, (∀ x ∈ xs, smallD (dat x) = true) → smallAll (xs.map dat) = true
  | [], _ => rfl
  | x :: xs, h => by
    simp only [List.map_cons, smallAll, Bool.and_eq_true]
    exact ⟨h x List.mem_cons_self, smallAll_map fun y hy => h y (List.mem_cons_of_mem _ hy)⟩
theorem nodesAll_map {α : Type} [Dat α] (k : Nat) : ∀ {xs : List α}, (∀ x ∈ xs, nodes (dat x) ≤ k) → nodesAll (xs.map dat) ≤ k * xs.length
  | [], _ => by simp [nodesAll]
  | x :: xs, h => by
    have h1 := h x List.mem_cons_self
    have h2 := nodesAll_map k fun y hy => h y (List.mem_cons_of_mem _ hy)
    simp only [List.map_cons, nodesAll, List.length_cons]
    rw [Nat.mul_add]
    omega
theorem depthAll_map {α : Type} [Dat α] (k : Nat) : ∀ {xs : List α}, (∀ x ∈ xs, (dat x).depth ≤ k) → PyData.depthAll (xs.map dat) ≤ k
  | [], _ => Nat.zero_le _
  | x :: xs, h => Nat.max_le.mpr ⟨h x List.mem_cons_self, depthAll_map k fun y hy => h y (List.mem_cons_of_mem _ hy)⟩
/-- what is needed of a datum: its numbers are small, its nodes, its depth -/
structure Rp' (d : PyData) (n k : Nat) : Prop where
  s : smallD d = true
  n : nodes d ≤ n
  d : d.depth ≤ k
theorem Rp'.int {i : Int} (h : -(2 ^ 400) < i) (h2 : i < 2 ^ 400) : Rp' (.int i) 1 0 := ⟨by simp only [smallD, decide_eq_true_eq]; omega, Nat.le_refl _, by simp [PyData.depth]⟩
structure RpAll' (ds : List PyData) (n k : Nat) : Prop where
  s : smallAll ds = true
  n : nodesAll ds ≤ n
  d : PyData.depthAll ds ≤ k
theorem RpAll'.nil : RpAll' [] 0 0 := ⟨rfl, Nat.le_refl _, Nat.le_refl _⟩
theorem RpAll'.cons {d : PyData} {ds : List PyData} {n k m j : Nat} (h : Rp' d n k) (r : RpAll' ds m j) : RpAll' (d :: ds) (n + m) (max k j) :=
  ⟨by simp only [smallAll, h.s, r.s, Bool.and_self], Nat.add_le_add h.n r.n, by
    have := h.d
    have := r.d
    show max d.depth (PyData.depthAll ds) ≤ _
    omega⟩
theorem RpAll'.list {ds : List PyData} {n k : Nat} (h : RpAll' ds n k) : Rp' (.list ds) (n + 1) (k + 1) := ⟨by simpa only [smallD] using h.s, by simpa only [nodes] using Nat.succ_le_succ h.n, by simpa only [PyData.depth] using Nat.succ_le_succ h.d⟩
theorem RpAll'.tuple {ds : List PyData} {n k : Nat} (h : RpAll' ds n k) : Rp' (.tuple ds) (n + 1) (k + 1) := ⟨by simpa only [smallD] using h.s, by simpa only [nodes] using Nat.succ_le_succ h.n, by simpa only [PyData.depth] using Nat.succ_le_succ h.d⟩
theorem RpAll'.map {α : Type} [Dat α] {xs : List α} {n k m : Nat} (h : ∀ x ∈ xs, Rp' (dat x) n k) (hl : xs.length ≤ m) : RpAll' (xs.map dat) (n * m) k :=
  ⟨smallAll_map fun x hx => (h x hx).s, Nat.le_trans (nodesAll_map n fun x hx => (h x hx).n) (Nat.mul_le_mul_left _ hl), depthAll_map k fun x hx => (h x hx).d⟩
theorem RpAll'.ints {xs : List Int} {m : Nat} (h : ∀ x ∈ xs, -(2 ^ 400) < x ∧ x < 2 ^ 400) (hl : xs.length ≤ m) : RpAll' (xs.map dat) (1 * m) 0 := RpAll'.map (fun x hx => Rp'.int (h x hx).1 (h x hx).2) hl
theorem Rp'.ok {d : PyData} {n k : Nat} (h : Rp' d n k) (hn : n ≤ 40900) (hk : k ≤ 50) : reprR d = .ok d.shown := reprR_ok h.s (Nat.le_trans h.d hk) (Nat.le_trans h.n hn)
end Lc
namespace Lw
open PySem L2 Lc
def top (i : Nat) : Stmt := PySem.Challenge.pw_lowcolumns_k79_whole_layouts_turned_and.main.body.getD i (.Pass ⟨0, 0, 0, 0⟩)
abbrev s_is_integer : Stmt := top 10
abbrev s_is_start : Stmt := top 11
abbrev s_is_cards : Stmt := top 12
abbrev s_check_start : Stmt := top 13
abbrev s_check_cards : Stmt := top 14
abbrev s_lowest_in : Stmt := top 15
abbrev s_laid : Stmt := top 16
abbrev s_tops_in : Stmt := top 17
abbrev s_end_in : Stmt := top 18
abbrev s_layout : Stmt := top 19
abbrev s_tops_of : Stmt := top 20
abbrev s_end_of : Stmt := top 21
abbrev s_steps : Stmt := top 22
abbrev s_cards_in : Stmt := top 23
abbrev s__law_cell_at : Stmt := top 25
abbrev s__law_pool : Stmt := top 26
abbrev s__law_draw : Stmt := top 27
abbrev s__law_begun : Stmt := top 28
abbrev s__law_cards : Stmt := top 29
abbrev s__law_small : Stmt := top 30
abbrev s__law_turned_right : Stmt := top 31
abbrev s__law_scaled_right : Stmt := top 32
abbrev s__law_cut_right : Stmt := top 33
abbrev s_law : Stmt := top 34
structure Ad where
  a_is_integer : Addr
  d_is_integer : FuncData
  a_is_start : Addr
  d_is_start : FuncData
  a_is_cards : Addr
  d_is_cards : FuncData
  a_check_start : Addr
  d_check_start : FuncData
  a_check_cards : Addr
  d_check_cards : FuncData
  a_lowest_in : Addr
  d_lowest_in : FuncData
  a_laid : Addr
  d_laid : FuncData
  a_tops_in : Addr
  d_tops_in : FuncData
  a_end_in : Addr
  d_end_in : FuncData
  a_layout : Addr
  d_layout : FuncData
  a_tops_of : Addr
  d_tops_of : FuncData
  a_end_of : Addr
  d_end_of : FuncData
  a_steps : Addr
  d_steps : FuncData
  a_cards_in : Addr
  d_cards_in : FuncData
  a__law_cell_at : Addr
  d__law_cell_at : FuncData
  a__law_pool : Addr
  d__law_pool : FuncData
  a__law_draw : Addr
  d__law_draw : FuncData
  a__law_begun : Addr
  d__law_begun : FuncData
  a__law_cards : Addr
  d__law_cards : FuncData
  a__law_small : Addr
  d__law_small : FuncData
  a__law_turned_right : Addr
  d__law_turned_right : FuncData
  a__law_scaled_right : Addr
  d__law_scaled_right : FuncData
  a__law_cut_right : Addr
  d__law_cut_right : FuncData
  a_law : Addr
  d_law : FuncData
  t_MOST_CARDS : Tok
  t_MOST_COLUMNS : Tok
  t_MOST_HEIGHT : Tok
def ecOf (_ad : Ad) : Nat → Value := fun _ => .none
structure Txt (K : PySem.W.Frag) (mg : Str → Option Value) (ad : Ad) : Prop where
  F_is_integer : FunG K "is_integer" "is_integer" s_is_integer ad.a_is_integer ad.d_is_integer
  g_is_integer : mg "is_integer" = some (.ref ad.a_is_integer)
  b_is_integer : Binds K ad.d_is_integer ["value", "least", "most"] []
  F_is_start : FunG K "is_start" "is_start" s_is_start ad.a_is_start ad.d_is_start
  g_is_start : mg "is_start" = some (.ref ad.a_is_start)
  b_is_start : Binds K ad.d_is_start ["value"] []
  F_is_cards : FunG K "is_cards" "is_cards" s_is_cards ad.a_is_cards ad.d_is_cards
  g_is_cards : mg "is_cards" = some (.ref ad.a_is_cards)
  b_is_cards : Binds K ad.d_is_cards ["value"] []
  F_check_start : FunG K "check_start" "check_start" s_check_start ad.a_check_start ad.d_check_start
  g_check_start : mg "check_start" = some (.ref ad.a_check_start)
  b_check_start : Binds K ad.d_check_start ["start"] []
  F_check_cards : FunG K "check_cards" "check_cards" s_check_cards ad.a_check_cards ad.d_check_cards
  g_check_cards : mg "check_cards" = some (.ref ad.a_check_cards)
  b_check_cards : Binds K ad.d_check_cards ["heights"] []
  F_lowest_in : FunG K "lowest_in" "lowest_in" s_lowest_in ad.a_lowest_in ad.d_lowest_in
  g_lowest_in : mg "lowest_in" = some (.ref ad.a_lowest_in)
  b_lowest_in : Binds K ad.d_lowest_in ["columns", "right"] []
  F_laid : FunG K "laid" "laid" s_laid ad.a_laid ad.d_laid
  g_laid : mg "laid" = some (.ref ad.a_laid)
  b_laid : Binds K ad.d_laid ["start", "heights", "right", "gap"] []
  F_tops_in : FunG K "tops_in" "tops_in" s_tops_in ad.a_tops_in ad.d_tops_in
  g_tops_in : mg "tops_in" = some (.ref ad.a_tops_in)
  b_tops_in : Binds K ad.d_tops_in ["start", "heights"] []
  F_end_in : FunG K "end_in" "end_in" s_end_in ad.a_end_in ad.d_end_in
  g_end_in : mg "end_in" = some (.ref ad.a_end_in)
  b_end_in : Binds K ad.d_end_in ["start", "heights"] []
  F_layout : FunG K "layout" "layout" s_layout ad.a_layout ad.d_layout
  g_layout : mg "layout" = some (.ref ad.a_layout)
  F_tops_of : FunG K "tops_of" "tops_of" s_tops_of ad.a_tops_of ad.d_tops_of
  g_tops_of : mg "tops_of" = some (.ref ad.a_tops_of)
  b_tops_of : Binds K ad.d_tops_of ["start", "heights"] []
  F_end_of : FunG K "end_of" "end_of" s_end_of ad.a_end_of ad.d_end_of
  g_end_of : mg "end_of" = some (.ref ad.a_end_of)
  b_end_of : Binds K ad.d_end_of ["start", "heights"] []
  F_steps : FunG K "steps" "steps" s_steps ad.a_steps ad.d_steps
  g_steps : mg "steps" = some (.ref ad.a_steps)
  b_steps : Binds K ad.d_steps ["start", "heights"] []
  F_cards_in : FunG K "cards_in" "cards_in" s_cards_in ad.a_cards_in ad.d_cards_in
  g_cards_in : mg "cards_in" = some (.ref ad.a_cards_in)
  b_cards_in : Binds K ad.d_cards_in ["start", "heights", "column"] []
  F__law_cell_at : FunG K "_law_cell_at" "_law_cell_at" s__law_cell_at ad.a__law_cell_at ad.d__law_cell_at
  g__law_cell_at : mg "_law_cell_at" = some (.ref ad.a__law_cell_at)
  b__law_cell_at : Binds K ad.d__law_cell_at ["script", "k"] []
  F__law_pool : FunG K "_law_pool" "_law_pool" s__law_pool ad.a__law_pool ad.d__law_pool
  g__law_pool : mg "_law_pool" = some (.ref ad.a__law_pool)
  b__law_pool : Binds K ad.d__law_pool ["cell", "place"] []
  F__law_draw : FunG K "_law_draw" "_law_draw" s__law_draw ad.a__law_draw ad.d__law_draw
  g__law_draw : mg "_law_draw" = some (.ref ad.a__law_draw)
  b__law_draw : Binds K ad.d__law_draw ["pool", "many"] []
  F__law_begun : FunG K "_law_begun" "_law_begun" s__law_begun ad.a__law_begun ad.d__law_begun
  g__law_begun : mg "_law_begun" = some (.ref ad.a__law_begun)
  b__law_begun : Binds K ad.d__law_begun ["pool", "script"] []
  F__law_cards : FunG K "_law_cards" "_law_cards" s__law_cards ad.a__law_cards ad.d__law_cards
  g__law_cards : mg "_law_cards" = some (.ref ad.a__law_cards)
  b__law_cards : Binds K ad.d__law_cards ["pool", "script"] []
  F__law_small : FunG K "_law_small" "_law_small" s__law_small ad.a__law_small ad.d__law_small
  g__law_small : mg "_law_small" = some (.ref ad.a__law_small)
  b__law_small : Binds K ad.d__law_small ["row"] []
  F__law_turned_right : FunG K "_law_turned_right" "_law_turned_right" s__law_turned_right ad.a__law_turned_right ad.d__law_turned_right
  g__law_turned_right : mg "_law_turned_right" = some (.ref ad.a__law_turned_right)
  b__law_turned_right : Binds K ad.d__law_turned_right ["begun", "cards"] []
  F__law_scaled_right : FunG K "_law_scaled_right" "_law_scaled_right" s__law_scaled_right ad.a__law_scaled_right ad.d__law_scaled_right
  g__law_scaled_right : mg "_law_scaled_right" = some (.ref ad.a__law_scaled_right)
  b__law_scaled_right : Binds K ad.d__law_scaled_right ["begun", "cards", "factor", "more"] []
  F__law_cut_right : FunG K "_law_cut_right" "_law_cut_right" s__law_cut_right ad.a__law_cut_right ad.d__law_cut_right
  g__law_cut_right : mg "_law_cut_right" = some (.ref ad.a__law_cut_right)
  b__law_cut_right : Binds K ad.d__law_cut_right ["begun", "cards", "cut", "other"] []
  F_law : FunG K "law" "law" s_law ad.a_law ad.d_law
  g_law : mg "law" = some (.ref ad.a_law)
  b_law : Binds K ad.d_law ["script"] []
  k_layout_s1 : KB K ad.d_layout ["start", "heights", "right"] 2 [] fun l => Pm .none [0, 1, 2] (l ++ [(Value.bool false)])
  k_layout_s2 : KB K ad.d_layout ["start", "heights", "right"] 2 ["right"] fun l => Pm .none [0, 1, 2] (l ++ [])
  c_MOST_CARDS : mg "MOST_CARDS" = some (.int 200 ad.t_MOST_CARDS)
  c_MOST_COLUMNS : mg "MOST_COLUMNS" = some (.int 30 ad.t_MOST_COLUMNS)
  c_MOST_HEIGHT : mg "MOST_HEIGHT" = some (.int 1000000000000000000000000000000 ad.t_MOST_HEIGHT)
  z_all : mg "all" = none
  z_bool : mg "bool" = none
  z_enumerate : mg "enumerate" = none
  z_int : mg "int" = none
  z_isinstance : mg "isinstance" = none
  z_len : mg "len" = none
  z_list : mg "list" = none
  z_max : mg "max" = none
  z_min : mg "min" = none
  z_range : mg "range" = none
  z_sum : mg "sum" = none
  z_zip : mg "zip" = none
section
variable {P : Program} {w : World} {K : PySem.W.Frag} {mg : Str → Option Value} {base : Heap} {ad : Ad}
abbrev N_is_integer : List Str := ["value", "least", "most"]
theorem sc_is_integer : FnScope N_is_integer ["value", "least", "most"] (defScope s_is_integer) := ⟨rfl, rfl, rfl, by decide +kernel, rfl, by decide +kernel, by decide +kernel⟩
def m_is_integer (v : PyData) (a b : Int) : Res Bool := .ok (isIntD v a b)
abbrev ps_is_integer (K : PySem.W.Frag) (x : PyData × Int × Int) : List PP := [ppX x.1, ppV (.int x.2.1), ppV (.int x.2.2)]
abbrev c_is_integer (b : Bool) : V → Asr := vA (.bool b)
set_option maxHeartbeats 1600000 in
theorem ok_is_integer (T : Txt K mg ad) : FnG gp P w K mg base (L2.CX P w) 1 ad.a_is_integer ad.d_is_integer ["value", "least", "most"] (Sp0 (ecOf ad) (ps_is_integer K) (fun x => m_is_integer x.1 x.2.1 x.2.2) c_is_integer) := by
  refine T.F_is_integer.okX sc_is_integer (fun vs H Q E h => ?_) (fun cdv A outer s H vs Q E hr h => ?_)
  · obtain ⟨x, C, hT, hC, hw⟩ := h
    exact len_of hT hC
  · obtain ⟨⟨d, a, b⟩, C, hT, hC, hw⟩ := h
    have hl : vs.length = 3 := len_of hT hC
    obtain ⟨v0, v1, v2, rfl⟩ := len3 hl
    have h0 : Bw (Ecf K E (ecOf ad) C) v0 (ppX d) := fun F H o s c => (hC F H o s c).1
    have nd : ∀ kvs, d ≠ .dict kvs := hT.fact fun F o s c => nd_of (hC F H o s c).1
    refine ⟨_, (pss_cons (ps_ret (pe_and (pe_callB call_isi (by rfl) T.z_isinstance (by decide +kernel) (pa_cons (pv 0) (pa_cons (pe_bltn (v := .ty "int") rfl T.z_int (by decide +kernel) rfl) pa_nil))) (pe_and (pe_not (pe_callB call_isi (by rfl) T.z_isinstance (by decide +kernel) (pa_cons (pv 0) (pa_cons (pe_bltn (v := .ty "bool") rfl T.z_bool (by decide +kernel) rfl) pa_nil)))) (pe_one (pe_chain op_le op_le (pv 1) (pv 0) (pv 2)))))) pss_nil), ?_⟩
    refine fin0 (K := K) (Γ0 := [cIs v0, cV (.int a), cV (.int b)]) (Γr := fun b : Bool => [cAny, cAny, cAny]) (c := c_is_integer) hT (fun F o s c => ⟨fun _ => rfl, fun _ => (hC F H o s c).2.1, fun _ => (hC F H o s c).2.2.1, trivial⟩) hw ?_
    exact es_retP (b := isIntD d a b) (ev_is_integer rfl rfl rfl h0 nd) rfl (ret_le (.any (.any (.any .nil))))
abbrev N_is_start : List Str := ["value", "height"]
theorem sc_is_start : FnScope N_is_start ["value"] (defScope s_is_start) := ⟨rfl, rfl, rfl, by decide +kernel, rfl, by decide +kernel, by decide +kernel⟩
def m_is_start (v : PyData) : Res Bool := .ok (isStartD v)
def m_is_startL (ds : List PyData) : Res Bool :=
  (if ((!true) || (!(decide (1 ≤ ((ds).length : Int)) && decide (((ds).length : Int) ≤ 30)))) then (Res.ok false) else (((((Res.ok ()).bind fun a_6 => compR ds () [] fun s_8 x_7 => (m_is_integer x_7 0 1000000000000000000000000000000).bind fun r_9 => Res.ok (some r_9, s_8)).bind fun a_10 => (Res.ok ()).bind fun r_11 => Res.ok (a_10, r_11)).bind fun p_12 => Res.ok (p_12.1.1.all id)).bind fun r_13 => Res.ok r_13))
theorem m_is_startL_eq (ds : List PyData) : m_is_startL ds = .ok (isStartD (.list ds)) := by
  unfold m_is_startL isStartD
  by_cases h : 1 ≤ ds.length ∧ ds.length ≤ 30
  · rw [if_neg (by simp; omega)]
    simp only [Res.bind_ok]
    rw [compR_map (g := fun d => isIntD d 0 1000000000000000000000000000000) ds [] (fun _ _ => rfl) (by show 0 + ds.length ≤ 16000000; omega)]
    simp only [Res.bind_ok, List.nil_append, List.all_map]
    simp [h, Function.comp_def]
  · rw [if_pos (by simp; omega)]
    simp
    omega
abbrev ps_is_start (K : PySem.W.Frag) (x : PyData) : List PP := [ppX x]
abbrev c_is_start (b : Bool) : V → Asr := vA (.bool b)
set_option maxHeartbeats 1600000 in
theorem ok_is_start (T : Txt K mg ad) : FnG gp P w K mg base (L2.CX P w) 2 ad.a_is_start ad.d_is_start ["value"] (Sp0 (ecOf ad) (ps_is_start K) (fun x => m_is_start x) c_is_start) := by
  have G_is_integer : FnG gp P w K mg base (L2.CX P w) 1 ad.a_is_integer ad.d_is_integer ["value", "least", "most"] (Sp0 (ecOf ad) (ps_is_integer K) (fun x => m_is_integer x.1 x.2.1 x.2.2) c_is_integer) := ok_is_integer T
  refine T.F_is_start.okX sc_is_start (fun vs H Q E h => ?_) (fun cdv A outer s H vs Q E hr h => ?_)
  · obtain ⟨x, C, hT, hC, hw⟩ := h
    exact len_of hT hC
  · obtain ⟨d, C, hT, hC, hw⟩ := h
    have hl : vs.length = 1 := len_of hT hC
    obtain ⟨v0, rfl⟩ := len1 hl
    have h0 : Bw (Ecf K E (ecOf ad) C) v0 (ppX d) := fun F H o s c => (hC F H o s c).1
    have nd : ∀ kvs, d ≠ .dict kvs := hT.fact fun F o s c => nd_of (hC F H o s c).1
    have tk : Takes (cxOf (L2.CX P w) P w K mg base N_is_start "is_start" (defScope s_is_start) ad.a_is_start cdv A outer s H E) (fun cls d _ H => E cls d H) := takes_of rfl rfl rfl rfl
    refine ⟨_, (pss_cons (ps_if (PW.pt (pw_or (pt_not (pt_val (pe_callB call_isi (by rfl) T.z_isinstance (by decide +kernel) (pa_cons (pv 0) (pa_cons (pe_bltn (v := .ty "list") rfl T.z_list (by decide +kernel) rfl) pa_nil))))) (pw_or1 (pt_not (pt_chain op_le op_le pe_int (pe_callB (lenK K rfl) (by rfl) T.z_len PySem.boot_len (pa_cons (pv 0) pa_nil)) (pe_glob (v := .int 30) rfl T.c_MOST_COLUMNS ⟨_, rfl⟩)))))) (pss_cons (ps_ret pe_bl) pss_nil) pss_nil) (pss_cons (ps_ret (pe_callB (allK K rfl rfl) (by rfl) T.z_all (by decide +kernel) (pa_cons (pe_lc (own := [("height", 1)]) rfl sc_is_start.nd (pi_list (pv 0)) (blkOk_by (own := [("height", 1)]) (N := N_is_start) (sc := defScope s_is_start) (by decide +kernel)) (fun _ _ _ _ _ => (pg_name (i := 1) sc_is_start.nd rfl (Or.inl rfl) (.inr rfl))) (fun _ _ _ _ _ => pts_nil) (fun _ _ _ _ _ => (pe_callG0 G_is_integer (hr.mono (by decide)) (by rfl) T.g_is_integer T.F_is_integer.kp T.b_is_integer .nil passL (pa_cons (pv 1) (pa_cons pe_int (pa_cons (pe_glob (v := .int 1000000000000000000000000000000) rfl T.c_MOST_HEIGHT ⟨_, rfl⟩) pa_nil)))))) pa_nil))) pss_nil)), ?_⟩
    by_cases hd : ∃ ds, d = .list ds
    · obtain ⟨ds, rfl⟩ := hd
      have h1 := bwL_of h0
      refine fin0 (K := K) (Γ0 := [cIs v0, cAny]) (Γr := fun b : Bool => [cAny, cAny]) (c := c_is_start) hT (fun F o s c => ⟨fun _ => rfl, fun _ => trivial, trivial⟩) (m := m_is_startL ds) (by rw [m_is_startL_eq]; exact hw) ?_
      exact (es_ifT (etp_or (etp_not (et_val (b := fun _ => true) (evp_cb (eap_cons (ev_slot (i := 0) rfl no_Is) (eap_cons ev_ty eap_nil)) (rn_isiL (b := true) (pa_bw rfl h1) (kit_ty (show kitB "list" "list" = some true by decide +kernel)))))) (etp_not (et_val (b := fun _ => (decide (1 ≤ ((ds).length : Int)) && decide (((ds).length : Int) ≤ 30))) (evp_chain (p := (fun i j => decide (i ≤ j))) (p' := (fun i j => decide (i ≤ j))) ev_int (evp_cb (eap_cons (ev_slot (i := 0) rfl no_Is) eap_nil) (rn_len (xs := ds) (pa_S (pa_bw rfl h1)))) ev_int (ch_B0 (g := (fun i j => decide (i ≤ j)))) (ch_B0 (g := (fun i j => decide (i ≤ j)))))))) (by exact (es_retP (b := false) ev_bl rfl (ret_le (.any (.same .nil))))) (by exact (es_ret (g := fun r_13 : Bool => r_13) (ev_cb (ea_cons (Γ1 := fun (a_10 : (List Bool × Unit)) => [cIs v0, cAny]) (el_comp (xs := fun a_6 : Unit => ds) (Γs := fun s_8 : Unit => [cIs v0, cAny]) (Γt := fun (s_8 : Unit) (x_7 : PyData) => [cIs v0, cV x_7]) (s0 := fun a_6 => ()) (ei_list (ds := fun _ => (ds.map dat)) (ev_slot (i := 0) rfl no_Is) fun _ => (src_b rfl (bwS h1))) (fun _ _ => trivial) (fun a_6 => (.same (.same .nil))) (fun s_8 => (hv_cons rfl hv_nil)) (fun s_8 x_7 => (eg_name (lt_len rfl))) (by decide) (fun s_8 x_7 => elj_yes (b := fun r_9 : Bool => r_9) (s := fun r_9 => s_8) (evp_call0 (x_7, 0, 1000000000000000000000000000000) (eap_cons (ev_var rfl) (eap_cons ev_int (eap_cons ev_int eap_nil))) (pars_cons pa_xv (pars_cons pa_v (pars_cons pa_v pars_nil))) xok_calm calm_calm) (fun _ => fz_v) (fun r_9 => (.same (.any (.nil)))))) fun (a_10 : (List Bool × Unit)) => ea_nil) (fun p_12 => (rn_to (p_12.1.1.all id) (Γ' := fun r : Bool => [cIs v0, cAny]) (c := fun r : Bool => rV (PyData.bool r)) (rn_all (ns := p_12.1.1) (pa_S pa_lo))))) (fun _ => rfl) (fun r_13 => (ret_le (.any (.same .nil)))))))
    · have nl : ∀ ds, d ≠ .list ds := fun ds e => hd ⟨ds, e⟩
      have e : m_is_start d = .ok false := by
        cases d with
        | list ds => exact (nl ds rfl).elim
        | _ => rfl
      change (m_is_start d).wp _ _ at hw
      rw [e] at hw
      refine fin0 (K := K) (Γ0 := [cIs v0, cAny]) (Γr := fun b : Bool => [cAny, cAny]) (c := c_is_start) hT (fun F o s c => ⟨fun _ => rfl, fun _ => trivial, trivial⟩) hw ?_
      exact es_ifTT (etp_orT (et_nolist rfl h0 nl nd)) (es_retP (b := false) ev_bl rfl (ret_le (.any (.same .nil))))
abbrev N_is_cards : List Str := ["value", "height"]
theorem sc_is_cards : FnScope N_is_cards ["value"] (defScope s_is_cards) := ⟨rfl, rfl, rfl, by decide +kernel, rfl, by decide +kernel, by decide +kernel⟩
def m_is_cards (v : PyData) : Res Bool := .ok (isCardsD v)
def m_is_cardsL (ds : List PyData) : Res Bool :=
  (if ((!true) || (decide (200 < ((ds).length : Int)))) then (Res.ok false) else (((((Res.ok ()).bind fun a_19 => compR ds () [] fun s_21 x_20 => (m_is_integer x_20 1 1000000000000000000000000000000).bind fun r_22 => Res.ok (some r_22, s_21)).bind fun a_23 => (Res.ok ()).bind fun r_24 => Res.ok (a_23, r_24)).bind fun p_25 => Res.ok (p_25.1.1.all id)).bind fun r_26 => Res.ok r_26))
theorem m_is_cardsL_eq (ds : List PyData) : m_is_cardsL ds = .ok (isCardsD (.list ds)) := by
  unfold m_is_cardsL isCardsD
  by_cases h : ds.length ≤ 200
  · rw [if_neg (by simp; omega)]
    simp only [Res.bind_ok]
    rw [compR_map (g := fun d => isIntD d 1 1000000000000000000000000000000) ds [] (fun _ _ => rfl) (by show 0 + ds.length ≤ 16000000; omega)]
    simp only [Res.bind_ok, List.nil_append, List.all_map]
    simp [h, Function.comp_def]
  · rw [if_pos (by simp; omega)]
    simp
    omega
abbrev ps_is_cards (K : PySem.W.Frag) (x : PyData) : List PP := [ppX x]
abbrev c_is_cards (b : Bool) : V → Asr := vA (.bool b)
set_option maxHeartbeats 1600000 in
theorem ok_is_cards (T : Txt K mg ad) : FnG gp P w K mg base (L2.CX P w) 2 ad.a_is_cards ad.d_is_cards ["value"] (Sp0 (ecOf ad) (ps_is_cards K) (fun x => m_is_cards x) c_is_cards) := by
  have G_is_integer : FnG gp P w K mg base (L2.CX P w) 1 ad.a_is_integer ad.d_is_integer ["value", "least", "most"] (Sp0 (ecOf ad) (ps_is_integer K) (fun x => m_is_integer x.1 x.2.1 x.2.2) c_is_integer) := ok_is_integer T
  refine T.F_is_cards.okX sc_is_cards (fun vs H Q E h => ?_) (fun cdv A outer s H vs Q E hr h => ?_)
  · obtain ⟨x, C, hT, hC, hw⟩ := h
    exact len_of hT hC
  · obtain ⟨d, C, hT, hC, hw⟩ := h
    have hl : vs.length = 1 := len_of hT hC
    obtain ⟨v0, rfl⟩ := len1 hl
    have h0 : Bw (Ecf K E (ecOf ad) C) v0 (ppX d) := fun F H o s c => (hC F H o s c).1
    have nd : ∀ kvs, d ≠ .dict kvs := hT.fact fun F o s c => nd_of (hC F H o s c).1
    have tk : Takes (cxOf (L2.CX P w) P w K mg base N_is_cards "is_cards" (defScope s_is_cards) ad.a_is_cards cdv A outer s H E) (fun cls d _ H => E cls d H) := takes_of rfl rfl rfl rfl
    refine ⟨_, (pss_cons (ps_if (PW.pt (pw_or (pt_not (pt_val (pe_callB call_isi (by rfl) T.z_isinstance (by decide +kernel) (pa_cons (pv 0) (pa_cons (pe_bltn (v := .ty "list") rfl T.z_list (by decide +kernel) rfl) pa_nil))))) (pw_or1 (pt_cmpR op_gt (pe_callB (lenK K rfl) (by rfl) T.z_len PySem.boot_len (pa_cons (pv 0) pa_nil)) (pe_glob (v := .int 200) rfl T.c_MOST_CARDS ⟨_, rfl⟩) (nomark _))))) (pss_cons (ps_ret pe_bl) pss_nil) pss_nil) (pss_cons (ps_ret (pe_callB (allK K rfl rfl) (by rfl) T.z_all (by decide +kernel) (pa_cons (pe_lc (own := [("height", 1)]) rfl sc_is_cards.nd (pi_list (pv 0)) (blkOk_by (own := [("height", 1)]) (N := N_is_cards) (sc := defScope s_is_cards) (by decide +kernel)) (fun _ _ _ _ _ => (pg_name (i := 1) sc_is_cards.nd rfl (Or.inl rfl) (.inr rfl))) (fun _ _ _ _ _ => pts_nil) (fun _ _ _ _ _ => (pe_callG0 G_is_integer (hr.mono (by decide)) (by rfl) T.g_is_integer T.F_is_integer.kp T.b_is_integer .nil passL (pa_cons (pv 1) (pa_cons pe_int (pa_cons (pe_glob (v := .int 1000000000000000000000000000000) rfl T.c_MOST_HEIGHT ⟨_, rfl⟩) pa_nil)))))) pa_nil))) pss_nil)), ?_⟩
    by_cases hd : ∃ ds, d = .list ds
    · obtain ⟨ds, rfl⟩ := hd
      have h1 := bwL_of h0
      refine fin0 (K := K) (Γ0 := [cIs v0, cAny]) (Γr := fun b : Bool => [cAny, cAny]) (c := c_is_cards) hT (fun F o s c => ⟨fun _ => rfl, fun _ => trivial, trivial⟩) (m := m_is_cardsL ds) (by rw [m_is_cardsL_eq]; exact hw) ?_
      exact (es_ifT (etp_or (etp_not (et_val (b := fun _ => true) (evp_cb (eap_cons (ev_slot (i := 0) rfl no_Is) (eap_cons ev_ty eap_nil)) (rn_isiL (b := true) (pa_bw rfl h1) (kit_ty (show kitB "list" "list" = some true by decide +kernel)))))) (et_val (b := fun _ => (decide (200 < ((ds).length : Int)))) (evp_op (evp_cb (eap_cons (ev_slot (i := 0) rfl no_Is) eap_nil) (rn_len (xs := ds) (pa_S (pa_bw rfl h1)))) ev_int r2_B0))) (by exact (es_retP (b := false) ev_bl rfl (ret_le (.any (.same .nil))))) (by exact (es_ret (g := fun r_26 : Bool => r_26) (ev_cb (ea_cons (Γ1 := fun (a_23 : (List Bool × Unit)) => [cIs v0, cAny]) (el_comp (xs := fun a_19 : Unit => ds) (Γs := fun s_21 : Unit => [cIs v0, cAny]) (Γt := fun (s_21 : Unit) (x_20 : PyData) => [cIs v0, cV x_20]) (s0 := fun a_19 => ()) (ei_list (ds := fun _ => (ds.map dat)) (ev_slot (i := 0) rfl no_Is) fun _ => (src_b rfl (bwS h1))) (fun _ _ => trivial) (fun a_19 => (.same (.same .nil))) (fun s_21 => (hv_cons rfl hv_nil)) (fun s_21 x_20 => (eg_name (lt_len rfl))) (by decide) (fun s_21 x_20 => elj_yes (b := fun r_22 : Bool => r_22) (s := fun r_22 => s_21) (evp_call0 (x_20, 1, 1000000000000000000000000000000) (eap_cons (ev_var rfl) (eap_cons ev_int (eap_cons ev_int eap_nil))) (pars_cons pa_xv (pars_cons pa_v (pars_cons pa_v pars_nil))) xok_calm calm_calm) (fun _ => fz_v) (fun r_22 => (.same (.any (.nil)))))) fun (a_23 : (List Bool × Unit)) => ea_nil) (fun p_25 => (rn_to (p_25.1.1.all id) (Γ' := fun r : Bool => [cIs v0, cAny]) (c := fun r : Bool => rV (PyData.bool r)) (rn_all (ns := p_25.1.1) (pa_S pa_lo))))) (fun _ => rfl) (fun r_26 => (ret_le (.any (.same .nil)))))))
    · have nl : ∀ ds, d ≠ .list ds := fun ds e => hd ⟨ds, e⟩
      have e : m_is_cards d = .ok false := by
        cases d with
        | list ds => exact (nl ds rfl).elim
        | _ => rfl
      change (m_is_cards d).wp _ _ at hw
      rw [e] at hw
      refine fin0 (K := K) (Γ0 := [cIs v0, cAny]) (Γr := fun b : Bool => [cAny, cAny]) (c := c_is_cards) hT (fun F o s c => ⟨fun _ => rfl, fun _ => trivial, trivial⟩) hw ?_
      exact es_ifTT (etp_orT (et_nolist rfl h0 nl nd)) (es_retP (b := false) ev_bl rfl (ret_le (.any (.same .nil))))
abbrev N_check_start : List Str := ["start"]
theorem sc_check_start : FnScope N_check_start ["start"] (defScope s_check_start) := ⟨rfl, rfl, rfl, by decide +kernel, rfl, by decide +kernel, by decide +kernel⟩
def m_check_start (start_p : PyData) : Res Unit :=
  ((m_is_start start_p).bind fun c_27 => if (!c_27) then Res.bad else (Res.ok ()))
abbrev ps_check_start (K : PySem.W.Frag) (x : PyData) : List PP := [ppX x]
abbrev c_check_start (b : Unit) : V → Asr := vA PyData.none
set_option maxHeartbeats 1600000 in
theorem ok_check_start (T : Txt K mg ad) : FnG gp P w K mg base (L2.CX P w) 3 ad.a_check_start ad.d_check_start ["start"] (Sp0 (ecOf ad) (ps_check_start K) (fun x => m_check_start x) c_check_start) := by
  have G_is_start : FnG gp P w K mg base (L2.CX P w) 2 ad.a_is_start ad.d_is_start ["value"] (Sp0 (ecOf ad) (ps_is_start K) (fun x => m_is_start x) c_is_start) := ok_is_start T
  refine T.F_check_start.okX sc_check_start (fun vs H Q E h => sp0_go h fun x C hT hC hw => ?_) (fun cdv A outer s H vs Q E hr h => sp0_go h fun x C hT hC hw => ?_)
  · exact len_of hT hC
  · revert hT hC hw
    revert x
    intro start_p hT hC hw
    have hl : vs.length = 1 := len_of hT hC
    obtain ⟨v0, rfl⟩ := len1 hl
    have h0 : Bw (Ecf K E (ecOf ad) C) v0 (ppX start_p) := fun F H o s c => (hC F H o s c).1
    have hU : (A.deeper (PyProof.Rows.envOfC "check_start" (defScope s_check_start) s.heap.objs.size ad.a_check_start cdv)).units + 64 < cLine := Nat.lt_of_le_of_lt (by omega) hr.un
    have tk : Takes (cxOf (L2.CX P w) P w K mg base N_check_start "check_start" (defScope s_check_start) ad.a_check_start cdv A outer s H E) (fun cls d _ H => E cls d H) := takes_of rfl rfl rfl rfl
    refine ⟨_, (pss_cons (ps_if (pt_not (pt_val (pe_callG G_is_start (hr.mono (by decide)) (by rfl) T.g_is_start T.F_is_start.kp T.b_is_start (fun σ => passAt tk σ) (pa_cons (pv 0) pa_nil)))) (pss_cons ps_never pss_nil) pss_nil) pss_nil), ?_⟩
    have hw : WP (m_check_start start_p) (fun b => ∀ v H', Top (sep C (c_check_start b v)) H' → Q v H') (fun k => ∀ H', Top C H' → E (ecOf ad k) none H') := hw
    refine fin0NW (K := K) (Γ0 := [cIs v0]) (Γr := fun b : Unit => [cAny]) hT (fun F o s c => ⟨fun _ => rfl, trivial⟩) hw ?_
    exact (es_ifTM (b := fun c_27 : Bool => (!c_27)) (et_not (b := fun r : Bool => r) (et_val (b := fun r : Bool => r) (evp_callS start_p (eap_cons (ev_slot (i := 0) rfl no_Is) eap_nil) (pars_cons (pa_bw rfl h0) pars_nil) xok_emp))) (fun c_27 => by exact es_never) (fun c_27 => by exact (es_end (b := ()) rfl (.any (.nil)))))
abbrev N_check_cards : List Str := ["heights"]
theorem sc_check_cards : FnScope N_check_cards ["heights"] (defScope s_check_cards) := ⟨rfl, rfl, rfl, by decide +kernel, rfl, by decide +kernel, by decide +kernel⟩
def m_check_cards (heights_p : PyData) : Res Unit :=
  ((m_is_cards heights_p).bind fun c_28 => if (!c_28) then Res.bad else (Res.ok ()))
abbrev ps_check_cards (K : PySem.W.Frag) (x : PyData) : List PP := [ppX x]
abbrev c_check_cards (b : Unit) : V → Asr := vA PyData.none
set_option maxHeartbeats 1600000 in
theorem ok_check_cards (T : Txt K mg ad) : FnG gp P w K mg base (L2.CX P w) 3 ad.a_check_cards ad.d_check_cards ["heights"] (Sp0 (ecOf ad) (ps_check_cards K) (fun x => m_check_cards x) c_check_cards) := by
  have G_is_cards : FnG gp P w K mg base (L2.CX P w) 2 ad.a_is_cards ad.d_is_cards ["value"] (Sp0 (ecOf ad) (ps_is_cards K) (fun x => m_is_cards x) c_is_cards) := ok_is_cards T
  refine T.F_check_cards.okX sc_check_cards (fun vs H Q E h => sp0_go h fun x C hT hC hw => ?_) (fun cdv A outer s H vs Q E hr h => sp0_go h fun x C hT hC hw => ?_)
  · exact len_of hT hC
  · revert hT hC hw
    revert x
    intro heights_p hT hC hw
    have hl : vs.length = 1 := len_of hT hC
    obtain ⟨v0, rfl⟩ := len1 hl
    have h0 : Bw (Ecf K E (ecOf ad) C) v0 (ppX heights_p) := fun F H o s c => (hC F H o s c).1
    have hU : (A.deeper (PyProof.Rows.envOfC "check_cards" (defScope s_check_cards) s.heap.objs.size ad.a_check_cards cdv)).units + 64 < cLine := Nat.lt_of_le_of_lt (by omega) hr.un
    have tk : Takes (cxOf (L2.CX P w) P w K mg base N_check_cards "check_cards" (defScope s_check_cards) ad.a_check_cards cdv A outer s H E) (fun cls d _ H => E cls d H) := takes_of rfl rfl rfl rfl
    refine ⟨_, (pss_cons (ps_if (pt_not (pt_val (pe_callG G_is_cards (hr.mono (by decide)) (by rfl) T.g_is_cards T.F_is_cards.kp T.b_is_cards (fun σ => passAt tk σ) (pa_cons (pv 0) pa_nil)))) (pss_cons ps_never pss_nil) pss_nil) pss_nil), ?_⟩
    have hw : WP (m_check_cards heights_p) (fun b => ∀ v H', Top (sep C (c_check_cards b v)) H' → Q v H') (fun k => ∀ H', Top C H' → E (ecOf ad k) none H') := hw
    refine fin0NW (K := K) (Γ0 := [cIs v0]) (Γr := fun b : Unit => [cAny]) hT (fun F o s c => ⟨fun _ => rfl, trivial⟩) hw ?_
    exact (es_ifTM (b := fun c_28 : Bool => (!c_28)) (et_not (b := fun r : Bool => r) (et_val (b := fun r : Bool => r) (evp_callS heights_p (eap_cons (ev_slot (i := 0) rfl no_Is) eap_nil) (pars_cons (pa_bw rfl h0) pars_nil) xok_emp))) (fun c_28 => by exact es_never) (fun c_28 => by exact (es_end (b := ()) rfl (.any (.nil)))))
abbrev N_lowest_in : List Str := ["columns", "right", "lowest", "places", "height", "place"]
theorem sc_lowest_in : FnScope N_lowest_in ["columns", "right"] (defScope s_lowest_in) := ⟨rfl, rfl, rfl, by decide +kernel, rfl, by decide +kernel, by decide +kernel⟩
def m_lowest_in (columns_p : (List Int)) (right_p : Bool) : Res Int :=
  ((minR columns_p).bind fun r_29 => (((Res.ok ()).bind fun a_30 => compR (enumL columns_p) () [] fun s_32 x_31 => if (decide (x_31.2 = r_29)) then Res.ok (some x_31.1, s_32) else Res.ok (none, s_32)).bind fun r_33 => ((if right_p then (getI r_33.1 (-1)) else (getI r_33.1 0)).bind fun r_34 => Res.ok r_34)))
abbrev ps_lowest_in (K : PySem.W.Frag) (x : (List Int) × Bool) : List PP := [ppL (x.1.map dat), ppV (PyData.bool x.2)]
abbrev c_lowest_in (b : Int) : V → Asr := vA (PyData.int b)
set_option maxHeartbeats 1600000 in
theorem ok_lowest_in (T : Txt K mg ad) : FnG gp P w K mg base (L2.CX P w) 1 ad.a_lowest_in ad.d_lowest_in ["columns", "right"] (Sp0 (ecOf ad) (ps_lowest_in K) (fun x => m_lowest_in x.1 x.2) c_lowest_in) := by
  refine T.F_lowest_in.okX sc_lowest_in (fun vs H Q E h => sp0_go h fun x C hT hC hw => ?_) (fun cdv A outer s H vs Q E hr h => sp0_go h fun x C hT hC hw => ?_)
  · exact len_of hT hC
  · obtain ⟨columns_p, right_p⟩ := x
    have hl : vs.length = 2 := len_of hT hC
    obtain ⟨v0, v1, rfl⟩ := len2 hl
    have h0 : Bw (Ecf K E (ecOf ad) C) v0 (ppL (columns_p.map dat)) := fun F H o s c => (hC F H o s c).1
    have hU : (A.deeper (PyProof.Rows.envOfC "lowest_in" (defScope s_lowest_in) s.heap.objs.size ad.a_lowest_in cdv)).units + 64 < cLine := Nat.lt_of_le_of_lt (by omega) hr.un
    have tk : Takes (cxOf (L2.CX P w) P w K mg base N_lowest_in "lowest_in" (defScope s_lowest_in) ad.a_lowest_in cdv A outer s H E) (fun cls d _ H => E cls d H) := takes_of rfl rfl rfl rfl
    refine ⟨_, (pss_cons (ps_set (i := 2) sc_lowest_in.nd rfl (Or.inr rfl) (pe_callB (minK K rfl rfl) (by rfl) T.z_min (by decide +kernel) (pa_cons (pv 0) pa_nil))) (pss_cons (ps_setLc (i := 3) (own := [("place", 5), ("height", 4)]) rfl sc_lowest_in.nd rfl rfl (sw_true rfl rfl rfl (by decide +kernel)) (pi_enum (by rfl) T.z_enumerate (pa_cons (pv 0) pa_nil)) (blkOk_by (own := [("place", 5), ("height", 4)]) (N := N_lowest_in) (sc := defScope s_lowest_in) (by decide +kernel)) (fun _ _ _ _ _ => (pg_tupK K 2 rfl rfl (pgs_cons (pg_name (i := 5) sc_lowest_in.nd rfl (Or.inl rfl) (.inr rfl)) (pgs_cons (pg_name (i := 4) sc_lowest_in.nd rfl (Or.inl rfl) (.inr rfl)) pgs_nil)) rfl rfl)) (fun _ _ _ _ _ => pts_one (pt_cmpR op_eq (pv 4) (pv 2) (nomark _))) (fun _ _ _ _ _ => (pv 5))) (pss_cons (ps_ret (pe_ifExp (pt_val (pv 1)) (pe_ix (ixK K rfl) (pv 3) (pe_un un_neg pe_int) (fun _ _ => rfl)) (pe_ix (ixK K rfl) (pv 3) pe_int (fun _ _ => rfl)))) pss_nil))), ?_⟩
    have hw : WP (m_lowest_in columns_p right_p) (fun b => ∀ v H', Top (sep C (c_lowest_in b v)) H' → Q v H') (fun k => ∀ H', Top C H' → E (ecOf ad k) none H') := hw
    refine fin0W (K := K) (Γ0 := [cIs v0, cV (PyData.bool right_p), cAny, cAny, cAny, cAny]) (Γr := fun b : Int => [cAny, cAny, cAny, cAny, cAny, cAny]) (c := c_lowest_in) hT (fun F o s c => ⟨fun _ => rfl, fun _ => (hC F H o s c).2.1, fun _ => trivial, fun _ => trivial, fun _ => trivial, fun _ => trivial, trivial⟩) hw ?_
    exact (es_seq (es_asg (evp_cb (eap_cons (ev_slot (i := 0) rfl no_Is) eap_nil) (rn_min (ns := columns_p) (pa_S (pa_bw rfl h0)))) (fun _ => sto_v) (fun _ => lt_len rfl)) fun (r_29 : Int) => by exact EvS.is (Δ := [cIs v0, cV (PyData.bool right_p), cV (PyData.int r_29), cAny, cAny, cAny]) rfl (es_seq (es_asg (el_comp (xs := fun a_30 : Unit => (enumL columns_p)) (Γs := fun s_32 : Unit => [cIs v0, cV (PyData.bool right_p), cV (PyData.int r_29), cAny, cAny, cAny]) (Γt := fun (s_32 : Unit) (x_31 : (Int × Int)) => [cIs v0, cV (PyData.bool right_p), cV (PyData.int r_29), cAny, cV (PyData.int x_31.2), cV (PyData.int x_31.1)]) (s0 := fun a_30 => ()) (ei_enum (xs := columns_p) (eap_cons (ev_slot (i := 0) rfl no_Is) eap_nil) (src_b rfl (bwS h0))) (fun _ _ => trivial) (fun a_30 => (.same (.same (.same (.same (.same (.same .nil))))))) (fun s_32 => (hv_cons rfl (hv_cons rfl hv_nil))) (fun s_32 x_31 => (eg_tup (egs_cons (eg_name (lt_len rfl)) (egs_cons (eg_name (lt_len rfl)) egs_nil)) rfl)) (by decide) (fun s_32 x_31 => elj_ifP (b := x_31.1) (s := s_32) (et_val (b := fun _ => (decide (x_31.2 = r_29))) (evp_op (ev_var rfl) (ev_var rfl) r2_eqI)) (ev_var rfl) fz_v (.same (.same (.same (.same (.any (.any (.nil))))))))) (fun _ => sto_f) (fun _ => lt_len rfl)) fun (r_33 : (List Int × Unit)) => by exact EvS.is (Δ := [cIs v0, cV (PyData.bool right_p), cV (PyData.int r_29), cV (PyData.list (r_33.1.map dat)), cAny, cAny]) rfl (es_ret (g := fun r_34 : Int => r_34) (evp_if (et_val (b := fun _ => right_p) (ev_var rfl)) (evp_op (ev_var rfl) (evp_un ev_int r1_neg) (r2_ix (pa_S pa_lv))) (evp_op (ev_var rfl) ev_int (r2_ix (pa_S pa_lv)))) (fun _ => rfl) (fun r_34 => (ret_le (.any (.any (.any (.any (.same (.same .nil)))))))))))
abbrev N_laid : List Str := ["start", "heights", "right", "gap", "columns", "found", "height", "place"]
theorem sc_laid : FnScope N_laid ["start", "heights", "right", "gap"] (defScope s_laid) := ⟨rfl, rfl, rfl, by decide +kernel, rfl, by decide +kernel, by decide +kernel⟩
def m_laid (start_p : (List Int)) (heights_p : (List Int)) (right_p : Bool) (gap_p : Int) : Res (List (Int × Int)) :=
  (((Res.ok ()).bind fun a_35 => foldR heights_p (start_p, ([] : (List (Int × Int)))) fun s_37 x_36 => ((m_lowest_in s_37.1 right_p).bind fun r_38 => ((((Res.ok (r_38 : Int)).bind fun a_39 => ((getI s_37.1 r_38).bind fun a_40 => (Res.ok ()).bind fun r_41 => Res.ok (a_40, r_41)).bind fun r_42 => Res.ok (a_39, r_42)).bind fun q_43 => Res.need (s_37.2.length < lim) (Res.ok q_43)).bind fun r_44 => (((getI s_37.1 r_38).bind fun z_45 => setR s_37.1 r_38 (z_45 + (x_36 + gap_p))).bind fun r_46 => (Res.ok (r_46, (s_37.2 ++ [(r_44.1, r_44.2.1)]))))))).bind fun j_47 => (Res.ok j_47.2))
abbrev ps_laid (K : PySem.W.Frag) (x : (List Int) × (List Int) × Bool × Int) : List PP := [ppL (x.1.map dat), ppL (x.2.1.map dat), ppV (PyData.bool x.2.2.1), ppV (PyData.int x.2.2.2)]
abbrev c_laid (b : (List (Int × Int))) : V → Asr := oV (b.map dat)
set_option maxHeartbeats 1600000 in
theorem ok_laid (T : Txt K mg ad) : FnG gp P w K mg base (L2.CX P w) 2 ad.a_laid ad.d_laid ["start", "heights", "right", "gap"] (Sp0 (ecOf ad) (ps_laid K) (fun x => m_laid x.1 x.2.1 x.2.2.1 x.2.2.2) c_laid) := by
  have G_lowest_in : FnG gp P w K mg base (L2.CX P w) 1 ad.a_lowest_in ad.d_lowest_in ["columns", "right"] (Sp0 (ecOf ad) (ps_lowest_in K) (fun x => m_lowest_in x.1 x.2) c_lowest_in) := ok_lowest_in T
  refine T.F_laid.okX sc_laid (fun vs H Q E h => sp0_go h fun x C hT hC hw => ?_) (fun cdv A outer s H vs Q E hr h => sp0_go h fun x C hT hC hw => ?_)
  · exact len_of hT hC
  · obtain ⟨start_p, heights_p, right_p, gap_p⟩ := x
    have hl : vs.length = 4 := len_of hT hC
    obtain ⟨v0, v1, v2, v3, rfl⟩ := len4 hl
    have h0 : Bw (Ecf K E (ecOf ad) C) v0 (ppL (start_p.map dat)) := fun F H o s c => (hC F H o s c).1
    have h1 : Bw (Ecf K E (ecOf ad) C) v1 (ppL (heights_p.map dat)) := fun F H o s c => (hC F H o s c).2.1
    have hU : (A.deeper (PyProof.Rows.envOfC "laid" (defScope s_laid) s.heap.objs.size ad.a_laid cdv)).units + 64 < cLine := Nat.lt_of_le_of_lt (by omega) hr.un
    have tk : Takes (cxOf (L2.CX P w) P w K mg base N_laid "laid" (defScope s_laid) ad.a_laid cdv A outer s H E) (fun cls d _ H => E cls d H) := takes_of rfl rfl rfl rfl
    refine ⟨_, (pss_cons (ps_set (i := 4) sc_laid.nd rfl (Or.inl rfl) (pe_callTy (listK K rfl) (by rfl) T.z_list (by decide +kernel) (pa_cons (pv 0) pa_nil))) (pss_cons (ps_set (i := 5) sc_laid.nd rfl (Or.inl rfl) (pe_lst pa_nil)) (pss_cons (ps_for (passes_of rfl) rfl (pi_list (pv 1)) (pg_name (i := 6) sc_laid.nd rfl (Or.inl rfl)) (pss_cons (ps_set (i := 7) sc_laid.nd rfl (Or.inl rfl) (pe_callG G_lowest_in (hr.mono (by decide)) (by rfl) T.g_lowest_in T.F_lowest_in.kp T.b_lowest_in (fun σ => passAt tk σ) (pa_cons (pv 4) (pa_cons (pv 2) pa_nil)))) (pss_cons (ps_expr (pe_bm PySem.F.plainAttrs_list PySem.F.slot_list_append PySem.F.type_list_append mt_append (pv 5) (pa_cons (pe_tup (pa_cons (pv 7) (pa_cons (pe_ix (ixK K rfl) (pv 4) (pv 7) (fun _ _ => rfl)) pa_nil))) pa_nil))) (pss_cons (ps_augS (pv 4) (pv 7) pget_list (pe_op op_add (pv 6) (pv 3)) ip_add set_list) pss_nil)))) (pss_cons (ps_ret (pv 5)) pss_nil)))), ?_⟩
    have hw : WP (m_laid start_p heights_p right_p gap_p) (fun b => ∀ v H', Top (sep C (c_laid b v)) H' → Q v H') (fun k => ∀ H', Top C H' → E (ecOf ad k) none H') := hw
    refine fin0W (K := K) (Γ0 := [cIs v0, cIs v1, cV (PyData.bool right_p), cV (PyData.int gap_p), cAny, cAny, cAny, cAny]) (Γr := fun b : (List (Int × Int)) => [cAny, cAny, cAny, cAny, cAny, cAny, cAny, cAny]) (c := c_laid) hT (fun F o s c => ⟨fun _ => rfl, fun _ => rfl, fun _ => (hC F H o s c).2.2.1, fun _ => (hC F H o s c).2.2.2.1, fun _ => trivial, fun _ => trivial, fun _ => trivial, fun _ => trivial, trivial⟩) hw ?_
    exact (es_seqP (es_asgP (evp_cb (eap_cons (ev_slot (i := 0) rfl no_Is) eap_nil) (rn_list (ds := (start_p.map dat)) (pa_S (pa_bw rfl h0)))) sto_o (lt_len rfl)) (by exact EvS.is (Δ := [cIs v0, cIs v1, cV (PyData.bool right_p), cV (PyData.int gap_p), cO (start_p.map dat), cAny, cAny, cAny]) rfl (es_seqP (es_asgP (evp_lst (ds := []) eap_nil .nil) sto_o (lt_len rfl)) (by exact EvS.is (Δ := [cIs v0, cIs v1, cV (PyData.bool right_p), cV (PyData.int gap_p), cO (start_p.map dat), cO (([] : (List (Int × Int))).map dat), cAny, cAny]) rfl (es_seq (es_for0 (xs := fun a_35 : Unit => heights_p) (Γs := fun s_37 : ((List Int) × (List (Int × Int))) => [cIs v0, cIs v1, cV (PyData.bool right_p), cV (PyData.int gap_p), cO (s_37.1.map dat), cO (s_37.2.map dat), cAny, cAny]) (Γt := fun (s_37 : ((List Int) × (List (Int × Int)))) (x_36 : Int) => [cIs v0, cIs v1, cV (PyData.bool right_p), cV (PyData.int gap_p), cO (s_37.1.map dat), cO (s_37.2.map dat), cV (PyData.int x_36), cAny]) (s0 := fun a_35 => (start_p, ([] : (List (Int × Int))))) (ei_list (ds := fun _ => (heights_p.map dat)) (ev_slot (i := 1) rfl no_Is) fun _ => (src_b rfl (bwS h1))) (fun _ _ => trivial) (fun a_35 => (.same (.same (.same (.same (.same (.same (.same (.same .nil))))))))) (fun s_37 x_36 => (eg_name (lt_len rfl))) (fun s_37 x_36 => by exact (es_seq (es_asg (evp_callS (s_37.1, right_p) (eap_cons (ev_slot (i := 4) rfl no_O) (eap_cons (ev_var rfl) eap_nil)) (pars_cons (pa_own own_O rfl) (pars_cons pa_v pars_nil)) xok_emp) (fun _ => sto_v) (fun _ => lt_len rfl)) fun (r_38 : Int) => by exact EvS.is (Δ := [cIs v0, cIs v1, cV (PyData.bool right_p), cV (PyData.int gap_p), cO (s_37.1.map dat), cO (s_37.2.map dat), cV (PyData.int x_36), cV (PyData.int r_38)]) rfl (es_seq (es_appendTM (xs := fun q_43 : (Int × Int × Unit) => s_37.2) (a := fun q_43 => (q_43.1, q_43.2.1)) own_O (ev_tup (ds := fun p : (Int × Int × Unit) => [(PyData.int p.1), (PyData.int p.2.1)]) (ea_cons (Γ1 := fun (a_39 : Int) => [cIs v0, cIs v1, cV (PyData.bool right_p), cV (PyData.int gap_p), cO (s_37.1.map dat), cO (s_37.2.map dat), cV (PyData.int x_36), cV (PyData.int r_38)]) (ev_pure (a := r_38) (cc := fun r : Int => rV (PyData.int r)) (ev_var rfl)) fun (a_39 : Int) => (ea_cons (Γ1 := fun (a_40 : Int) => [cIs v0, cIs v1, cV (PyData.bool right_p), cV (PyData.int gap_p), cO (s_37.1.map dat), cO (s_37.2.map dat), cV (PyData.int x_36), cV (PyData.int r_38)]) (evp_op (ev_slot (i := 4) rfl no_O) (ev_var rfl) (r2_ix (pa_S (pa_own own_O rfl)))) fun (a_40 : Int) => ea_nil)) fun p => (.cons fz_v (.cons fz_v .nil))) (fun _ => fz_v) rfl (fun _ => rfl)) fun (r_44 : (Int × Int × Unit)) => by exact EvS.is (Δ := [cIs v0, cIs v1, cV (PyData.bool right_p), cV (PyData.int gap_p), cO (s_37.1.map dat), cO ((s_37.2 ++ [(r_44.1, r_44.2.1)]).map dat), cV (PyData.int x_36), cV (PyData.int r_38)]) rfl (es_seq (es_augitem (f := (fun i j => i + j)) (xs := s_37.1) own_O (evp_op (ev_var rfl) (ev_var rfl) r2_I0) (ev_var rfl) rfl) fun (r_46 : (List Int)) => by exact EvS.is (Δ := [cIs v0, cIs v1, cV (PyData.bool right_p), cV (PyData.int gap_p), cO (r_46.map dat), cO ((s_37.2 ++ [(r_44.1, r_44.2.1)]).map dat), cV (PyData.int x_36), cV (PyData.int r_38)]) rfl (es_endL (b := (r_46, (s_37.2 ++ [(r_44.1, r_44.2.1)]))) rfl (.same (.same (.same (.same (.same (.same (.any (.any (.nil))))))))))))))) fun (j_47 : ((List Int) × (List (Int × Int)))) => by exact EvS.is (Δ := [cIs v0, cIs v1, cV (PyData.bool right_p), cV (PyData.int gap_p), cO (j_47.1.map dat), cO (j_47.2.map dat), cAny, cAny]) rfl (es_retP (b := j_47.2) (ev_slot (i := 5) rfl no_O) rfl (ret_own own_O rfl (.any (.any (.any (.any (.any (.same (.same (.same .nil)))))))))))))))
abbrev N_tops_in : List Str := ["start", "heights", "place", "top"]
theorem sc_tops_in : FnScope N_tops_in ["start", "heights"] (defScope s_tops_in) := ⟨rfl, rfl, rfl, by decide +kernel, rfl, by decide +kernel, by decide +kernel⟩
def m_tops_in (start_p : (List Int)) (heights_p : (List Int)) : Res (List Int) :=
  (((m_laid start_p heights_p false 0).bind fun a_48 => compR a_48 () [] fun s_50 x_49 => Res.ok (some x_49.2, s_50)).bind fun r_51 => Res.ok r_51.1)
abbrev ps_tops_in (K : PySem.W.Frag) (x : (List Int) × (List Int)) : List PP := [ppL (x.1.map dat), ppL (x.2.map dat)]
abbrev c_tops_in (b : (List Int)) : V → Asr := oV (b.map dat)
set_option maxHeartbeats 1600000 in
theorem ok_tops_in (T : Txt K mg ad) : FnG gp P w K mg base (L2.CX P w) 3 ad.a_tops_in ad.d_tops_in ["start", "heights"] (Sp0 (ecOf ad) (ps_tops_in K) (fun x => m_tops_in x.1 x.2) c_tops_in) := by
  have G_laid : FnG gp P w K mg base (L2.CX P w) 2 ad.a_laid ad.d_laid ["start", "heights", "right", "gap"] (Sp0 (ecOf ad) (ps_laid K) (fun x => m_laid x.1 x.2.1 x.2.2.1 x.2.2.2) c_laid) := ok_laid T
  refine T.F_tops_in.okX sc_tops_in (fun vs H Q E h => sp0_go h fun x C hT hC hw => ?_) (fun cdv A outer s H vs Q E hr h => sp0_go h fun x C hT hC hw => ?_)
  · exact len_of hT hC
  · obtain ⟨start_p, heights_p⟩ := x
    have hl : vs.length = 2 := len_of hT hC
    obtain ⟨v0, v1, rfl⟩ := len2 hl
    have h0 : Bw (Ecf K E (ecOf ad) C) v0 (ppL (start_p.map dat)) := fun F H o s c => (hC F H o s c).1
    have h1 : Bw (Ecf K E (ecOf ad) C) v1 (ppL (heights_p.map dat)) := fun F H o s c => (hC F H o s c).2.1
    have hU : (A.deeper (PyProof.Rows.envOfC "tops_in" (defScope s_tops_in) s.heap.objs.size ad.a_tops_in cdv)).units + 64 < cLine := Nat.lt_of_le_of_lt (by omega) hr.un
    have tk : Takes (cxOf (L2.CX P w) P w K mg base N_tops_in "tops_in" (defScope s_tops_in) ad.a_tops_in cdv A outer s H E) (fun cls d _ H => E cls d H) := takes_of rfl rfl rfl rfl
    refine ⟨_, (pss_cons (ps_ret (pe_lc (own := [("place", 2), ("top", 3)]) rfl sc_tops_in.nd (pi_list (pe_callG G_laid (hr.mono (by decide)) (by rfl) T.g_laid T.F_laid.kp T.b_laid (fun σ => passAt tk σ) (pa_cons (pv 0) (pa_cons (pv 1) (pa_cons pe_bl (pa_cons pe_int pa_nil)))))) (blkOk_by (own := [("place", 2), ("top", 3)]) (N := N_tops_in) (sc := defScope s_tops_in) (by decide +kernel)) (fun _ _ _ _ _ => (pg_tupK K 2 rfl rfl (pgs_cons (pg_name (i := 2) sc_tops_in.nd rfl (Or.inl rfl) (.inr rfl)) (pgs_cons (pg_name (i := 3) sc_tops_in.nd rfl (Or.inl rfl) (.inr rfl)) pgs_nil)) rfl rfl)) (fun _ _ _ _ _ => pts_nil) (fun _ _ _ _ _ => (pv 3)))) pss_nil), ?_⟩
    have hw : WP (m_tops_in start_p heights_p) (fun b => ∀ v H', Top (sep C (c_tops_in b v)) H' → Q v H') (fun k => ∀ H', Top C H' → E (ecOf ad k) none H') := hw
    refine fin0W (K := K) (Γ0 := [cIs v0, cIs v1, cAny, cAny]) (Γr := fun b : (List Int) => [cAny, cAny, cAny, cAny]) (c := c_tops_in) hT (fun F o s c => ⟨fun _ => rfl, fun _ => rfl, fun _ => trivial, fun _ => trivial, trivial⟩) hw ?_
    exact (es_ret (g := fun r_51 : (List Int × Unit) => r_51.1) (el_comp (xs := fun a_48 : (List (Int × Int)) => a_48) (Γs := fun s_50 : Unit => [cIs v0, cIs v1, cAny, cAny]) (Γt := fun (s_50 : Unit) (x_49 : (Int × Int)) => [cIs v0, cIs v1, cV (PyData.int x_49.1), cV (PyData.int x_49.2)]) (s0 := fun a_48 => ()) (ei_list (ds := fun r : (List (Int × Int)) => (r.map dat)) (evp_callS (start_p, heights_p, false, 0) (eap_cons (ev_slot (i := 0) rfl no_Is) (eap_cons (ev_slot (i := 1) rfl no_Is) (eap_cons ev_bl (eap_cons ev_int eap_nil)))) (pars_cons (pa_bw rfl h0) (pars_cons (pa_bw rfl h1) (pars_cons pa_v (pars_cons pa_v pars_nil)))) xok_emp) fun r => src_o) (fun _ _ => trivial) (fun a_48 => (.same (.same (.same (.same .nil))))) (fun s_50 => (hv_cons rfl (hv_cons rfl hv_nil))) (fun s_50 x_49 => (eg_tup (egs_cons (eg_name (lt_len rfl)) (egs_cons (eg_name (lt_len rfl)) egs_nil)) rfl)) (by decide) (fun s_50 x_49 => elj_yesP (b := x_49.2) (s := s_50) (ev_var rfl) fz_v (.same (.same (.any (.any (.nil))))))) (fun _ => rfl) (fun r_51 => (ret_le (.any (.any (.same (.same .nil)))))))
abbrev N_end_in : List Str := ["start", "heights", "columns", "height", "place", "top"]
theorem sc_end_in : FnScope N_end_in ["start", "heights"] (defScope s_end_in) := ⟨rfl, rfl, rfl, by decide +kernel, rfl, by decide +kernel, by decide +kernel⟩
def m_end_in (start_p : (List Int)) (heights_p : (List Int)) : Res (List Int) :=
  ((((Res.ok ()).bind fun a_52 => ((m_laid start_p heights_p false 0).bind fun a_53 => (Res.ok ()).bind fun r_54 => Res.ok (a_53, r_54)).bind fun r_55 => Res.ok (a_52, r_55)).bind fun a_57 => foldR (heights_p.zip a_57.2.1) start_p fun s_59 x_58 => ((setR s_59 x_58.2.1 (x_58.2.2 + x_58.1)).bind fun r_60 => (Res.ok r_60))).bind fun j_61 => (Res.ok j_61))
abbrev ps_end_in (K : PySem.W.Frag) (x : (List Int) × (List Int)) : List PP := [ppL (x.1.map dat), ppL (x.2.map dat)]
abbrev c_end_in (b : (List Int)) : V → Asr := oV (b.map dat)
set_option maxHeartbeats 1600000 in
theorem ok_end_in (T : Txt K mg ad) : FnG gp P w K mg base (L2.CX P w) 3 ad.a_end_in ad.d_end_in ["start", "heights"] (Sp0 (ecOf ad) (ps_end_in K) (fun x => m_end_in x.1 x.2) c_end_in) := by
  have G_laid : FnG gp P w K mg base (L2.CX P w) 2 ad.a_laid ad.d_laid ["start", "heights", "right", "gap"] (Sp0 (ecOf ad) (ps_laid K) (fun x => m_laid x.1 x.2.1 x.2.2.1 x.2.2.2) c_laid) := ok_laid T
  refine T.F_end_in.okX sc_end_in (fun vs H Q E h => sp0_go h fun x C hT hC hw => ?_) (fun cdv A outer s H vs Q E hr h => sp0_go h fun x C hT hC hw => ?_)
  · exact len_of hT hC
  · obtain ⟨start_p, heights_p⟩ := x
    have hl : vs.length = 2 := len_of hT hC
    obtain ⟨v0, v1, rfl⟩ := len2 hl
    have h0 : Bw (Ecf K E (ecOf ad) C) v0 (ppL (start_p.map dat)) := fun F H o s c => (hC F H o s c).1
    have h1 : Bw (Ecf K E (ecOf ad) C) v1 (ppL (heights_p.map dat)) := fun F H o s c => (hC F H o s c).2.1
    have hU : (A.deeper (PyProof.Rows.envOfC "end_in" (defScope s_end_in) s.heap.objs.size ad.a_end_in cdv)).units + 64 < cLine := Nat.lt_of_le_of_lt (by omega) hr.un
    have tk : Takes (cxOf (L2.CX P w) P w K mg base N_end_in "end_in" (defScope s_end_in) ad.a_end_in cdv A outer s H E) (fun cls d _ H => E cls d H) := takes_of rfl rfl rfl rfl
    refine ⟨_, (pss_cons (ps_set (i := 2) sc_end_in.nd rfl (Or.inl rfl) (pe_callTy (listK K rfl) (by rfl) T.z_list (by decide +kernel) (pa_cons (pv 0) pa_nil))) (pss_cons (ps_for (passes_of rfl) rfl (pi_zip (by rfl) T.z_zip (pa_cons (pv 1) (pa_cons (pe_callG G_laid (hr.mono (by decide)) (by rfl) T.g_laid T.F_laid.kp T.b_laid (fun σ => passAt tk σ) (pa_cons (pv 0) (pa_cons (pv 1) (pa_cons pe_bl (pa_cons pe_int pa_nil))))) pa_nil))) (pg_tupK K 2 rfl rfl (pgs_cons (pg_name (i := 3) sc_end_in.nd rfl (Or.inl rfl)) (pgs_cons (pg_tupK K 2 rfl rfl (pgs_cons (pg_name (i := 4) sc_end_in.nd rfl (Or.inl rfl)) (pgs_cons (pg_name (i := 5) sc_end_in.nd rfl (Or.inl rfl)) pgs_nil)) rfl rfl) pgs_nil)) rfl rfl) (pss_cons (ps_asg (pe_op op_add (pv 5) (pv 3)) (pg_sub (pv 2) (pv 4) set_list)) pss_nil)) (pss_cons (ps_ret (pv 2)) pss_nil))), ?_⟩
    have hw : WP (m_end_in start_p heights_p) (fun b => ∀ v H', Top (sep C (c_end_in b v)) H' → Q v H') (fun k => ∀ H', Top C H' → E (ecOf ad k) none H') := hw
    refine fin0W (K := K) (Γ0 := [cIs v0, cIs v1, cAny, cAny, cAny, cAny]) (Γr := fun b : (List Int) => [cAny, cAny, cAny, cAny, cAny, cAny]) (c := c_end_in) hT (fun F o s c => ⟨fun _ => rfl, fun _ => rfl, fun _ => trivial, fun _ => trivial, fun _ => trivial, fun _ => trivial, trivial⟩) hw ?_
    exact (es_seqP (es_asgP (evp_cb (eap_cons (ev_slot (i := 0) rfl no_Is) eap_nil) (rn_list (ds := (start_p.map dat)) (pa_S (pa_bw rfl h0)))) sto_o (lt_len rfl)) (by exact EvS.is (Δ := [cIs v0, cIs v1, cO (start_p.map dat), cAny, cAny, cAny]) rfl (es_seq (es_for0 (xs := fun a_57 : (Unit × (List (Int × Int)) × Unit) => (heights_p.zip a_57.2.1)) (Γs := fun s_59 : (List Int) => [cIs v0, cIs v1, cO (s_59.map dat), cAny, cAny, cAny]) (Γt := fun (s_59 : (List Int)) (x_58 : (Int × (Int × Int))) => [cIs v0, cIs v1, cO (s_59.map dat), cV (PyData.int x_58.1), cV (PyData.int x_58.2.1), cV (PyData.int x_58.2.2)]) (s0 := fun a_57 => start_p) (ei_zipC (c := fun p : (Unit × (List (Int × Int)) × Unit) => rS 1) (c' := fun p : (Unit × (List (Int × Int)) × Unit) => rO (p.2.1.map dat)) (xs := fun p : (Unit × (List (Int × Int)) × Unit) => heights_p) (ys := fun p : (Unit × (List (Int × Int)) × Unit) => p.2.1) (ea_cons (Γ1 := fun (a_52 : Unit) => [cIs v0, cIs v1, cO (start_p.map dat), cAny, cAny, cAny]) (ev_pure (a := ()) (cc := fun _ => rS 1) (ev_slot (i := 1) rfl no_Is)) fun (a_52 : Unit) => (ea_cons (Γ1 := fun (a_53 : (List (Int × Int))) => [cIs v0, cIs v1, cO (start_p.map dat), cAny, cAny, cAny]) (evp_callS (start_p, heights_p, false, 0) (eap_cons (ev_slot (i := 0) rfl no_Is) (eap_cons (ev_slot (i := 1) rfl no_Is) (eap_cons ev_bl (eap_cons ev_int eap_nil)))) (pars_cons (pa_bw rfl h0) (pars_cons (pa_bw rfl h1) (pars_cons pa_v (pars_cons pa_v pars_nil)))) xok_emp) fun (a_53 : (List (Int × Int))) => ea_nil)) rfl (fun p => (src_b rfl (bwS h1))) (fun p => src_o)) (fun a s => ⟨(fun _ _ => trivial) a s, (fun _ _ => trivial) a s⟩) (fun a_57 => (.same (.same (.same (.same (.same (.same .nil))))))) (fun s_59 x_58 => (eg_tup (egs_cons (eg_name (lt_len rfl)) (egs_cons (eg_tup (egs_cons (eg_name (lt_len rfl)) (egs_cons (eg_name (lt_len rfl)) egs_nil)) rfl) egs_nil)) rfl)) (fun s_59 x_58 => by exact (es_seq (es_setitemP (a := (x_58.2.2 + x_58.1)) own_O (evp_op (ev_var rfl) (ev_var rfl) r2_I0) fz_v (ev_var rfl) rfl) fun (r_60 : (List Int)) => by exact EvS.is (Δ := [cIs v0, cIs v1, cO (r_60.map dat), cV (PyData.int x_58.1), cV (PyData.int x_58.2.1), cV (PyData.int x_58.2.2)]) rfl (es_endL (b := r_60) rfl (.same (.same (.same (.any (.any (.any (.nil))))))))))) fun (j_61 : (List Int)) => by exact EvS.is (Δ := [cIs v0, cIs v1, cO (j_61.map dat), cAny, cAny, cAny]) rfl (es_retP (b := j_61) (ev_slot (i := 2) rfl no_O) rfl (ret_own own_O rfl (.any (.any (.same (.same (.same (.same .nil)))))))))))
abbrev N_layout : List Str := ["start", "heights", "right"]
theorem sc_layout : FnScope N_layout ["start", "heights", "right"] (defScope s_layout) := ⟨rfl, rfl, rfl, by decide +kernel, rfl, by decide +kernel, by decide +kernel⟩
def m_layout (start_p : (List Int)) (heights_p : (List Int)) (right_p : Bool) : Res (List (Int × Int)) :=
  ((m_check_start (PyData.list (start_p.map dat))).bind fun r_62 => ((m_check_cards (PyData.list (heights_p.map dat))).bind fun r_63 => ((m_laid start_p heights_p right_p 0).bind fun r_65 => Res.ok r_65)))
abbrev ps_layout (K : PySem.W.Frag) (x : (List Int) × (List Int) × Bool) : List PP := [ppL (x.1.map dat), ppL (x.2.1.map dat), ppV (PyData.bool x.2.2)]
abbrev c_layout (b : (List (Int × Int))) : V → Asr := oV (b.map dat)
set_option maxHeartbeats 1600000 in
theorem ok_layout (T : Txt K mg ad) : FnG gp P w K mg base (L2.CX P w) 4 ad.a_layout ad.d_layout ["start", "heights", "right"] (Sp0 (ecOf ad) (ps_layout K) (fun x => m_layout x.1 x.2.1 x.2.2) c_layout) := by
  have G_check_cards : FnG gp P w K mg base (L2.CX P w) 3 ad.a_check_cards ad.d_check_cards ["heights"] (Sp0 (ecOf ad) (ps_check_cards K) (fun x => m_check_cards x) c_check_cards) := ok_check_cards T
  have G_check_start : FnG gp P w K mg base (L2.CX P w) 3 ad.a_check_start ad.d_check_start ["start"] (Sp0 (ecOf ad) (ps_check_start K) (fun x => m_check_start x) c_check_start) := ok_check_start T
  have G_laid : FnG gp P w K mg base (L2.CX P w) 2 ad.a_laid ad.d_laid ["start", "heights", "right", "gap"] (Sp0 (ecOf ad) (ps_laid K) (fun x => m_laid x.1 x.2.1 x.2.2.1 x.2.2.2) c_laid) := ok_laid T
  refine T.F_layout.okX sc_layout (fun vs H Q E h => sp0_go h fun x C hT hC hw => ?_) (fun cdv A outer s H vs Q E hr h => sp0_go h fun x C hT hC hw => ?_)
  · exact len_of hT hC
  · obtain ⟨start_p, heights_p, right_p⟩ := x
    have hl : vs.length = 3 := len_of hT hC
    obtain ⟨v0, v1, v2, rfl⟩ := len3 hl
    have h0 : Bw (Ecf K E (ecOf ad) C) v0 (ppL (start_p.map dat)) := fun F H o s c => (hC F H o s c).1
    have h1 : Bw (Ecf K E (ecOf ad) C) v1 (ppL (heights_p.map dat)) := fun F H o s c => (hC F H o s c).2.1
    have hU : (A.deeper (PyProof.Rows.envOfC "layout" (defScope s_layout) s.heap.objs.size ad.a_layout cdv)).units + 64 < cLine := Nat.lt_of_le_of_lt (by omega) hr.un
    have tk : Takes (cxOf (L2.CX P w) P w K mg base N_layout "layout" (defScope s_layout) ad.a_layout cdv A outer s H E) (fun cls d _ H => E cls d H) := takes_of rfl rfl rfl rfl
    refine ⟨_, (pss_cons (ps_expr (pe_callG G_check_start (hr.mono (by decide)) (by rfl) T.g_check_start T.F_check_start.kp T.b_check_start (fun σ => passAt tk σ) (pa_cons (pv 0) pa_nil))) (pss_cons (ps_expr (pe_callG G_check_cards (hr.mono (by decide)) (by rfl) T.g_check_cards T.F_check_cards.kp T.b_check_cards (fun σ => passAt tk σ) (pa_cons (pv 1) pa_nil))) (pss_cons (ps_if (pt_not (pt_val (pe_callB call_isi (by rfl) T.z_isinstance (by decide +kernel) (pa_cons (pv 2) (pa_cons (pe_bltn (v := .ty "bool") rfl T.z_bool (by decide +kernel) rfl) pa_nil))))) pss_never pss_nil) (pss_cons (ps_ret (pe_callG G_laid (hr.mono (by decide)) (by rfl) T.g_laid T.F_laid.kp T.b_laid (fun σ => passAt tk σ) (pa_cons (pv 0) (pa_cons (pv 1) (pa_cons (pv 2) (pa_cons pe_int pa_nil)))))) pss_nil)))), ?_⟩
    have hw : WP (m_layout start_p heights_p right_p) (fun b => ∀ v H', Top (sep C (c_layout b v)) H' → Q v H') (fun k => ∀ H', Top C H' → E (ecOf ad k) none H') := hw
    refine fin0W (K := K) (Γ0 := [cIs v0, cIs v1, cV (PyData.bool right_p)]) (Γr := fun b : (List (Int × Int)) => [cAny, cAny, cAny]) (c := c_layout) hT (fun F o s c => ⟨fun _ => rfl, fun _ => rfl, fun _ => (hC F H o s c).2.2.1, trivial⟩) hw ?_
    exact (es_seq (es_drop (evp_callS (PyData.list (start_p.map dat)) (eap_cons (ev_slot (i := 0) rfl no_Is) eap_nil) (pars_cons (pa_xl (pa_bw rfl h0)) pars_nil) xok_emp)) fun (r_62 : Unit) => by exact EvS.is (Δ := [cIs v0, cIs v1, cV (PyData.bool right_p)]) rfl (es_seq (es_drop (evp_callS (PyData.list (heights_p.map dat)) (eap_cons (ev_slot (i := 1) rfl no_Is) eap_nil) (pars_cons (pa_xl (pa_bw rfl h1)) pars_nil) xok_emp)) fun (r_63 : Unit) => by exact EvS.is (Δ := [cIs v0, cIs v1, cV (PyData.bool right_p)]) rfl (es_ifFF (etp_eq (etp_not (et_val (b := fun _ => true) (evp_cb (eap_cons (ev_var rfl) (eap_cons ev_ty eap_nil)) (rn_isi (d := (PyData.bool right_p)) (b := true) (kit_ty (show kitB "bool" "bool" = some true by decide +kernel)))))) (by first | rfl | decide)) (by exact (es_ret (g := fun r_65 : (List (Int × Int)) => r_65) (evp_callS (start_p, heights_p, right_p, 0) (eap_cons (ev_slot (i := 0) rfl no_Is) (eap_cons (ev_slot (i := 1) rfl no_Is) (eap_cons (ev_var rfl) (eap_cons ev_int eap_nil)))) (pars_cons (pa_bw rfl h0) (pars_cons (pa_bw rfl h1) (pars_cons pa_v (pars_cons pa_v pars_nil)))) xok_emp) (fun _ => rfl) (fun r_65 => (ret_le (.any (.any (.any (.nil)))))))))))
abbrev N_tops_of : List Str := ["start", "heights"]
theorem sc_tops_of : FnScope N_tops_of ["start", "heights"] (defScope s_tops_of) := ⟨rfl, rfl, rfl, by decide +kernel, rfl, by decide +kernel, by decide +kernel⟩
def m_tops_of (start_p : (List Int)) (heights_p : (List Int)) : Res (List Int) :=
  ((m_check_start (PyData.list (start_p.map dat))).bind fun r_66 => ((m_check_cards (PyData.list (heights_p.map dat))).bind fun r_67 => ((m_tops_in start_p heights_p).bind fun r_68 => Res.ok r_68)))
abbrev ps_tops_of (K : PySem.W.Frag) (x : (List Int) × (List Int)) : List PP := [ppL (x.1.map dat), ppL (x.2.map dat)]
abbrev c_tops_of (b : (List Int)) : V → Asr := oV (b.map dat)
set_option maxHeartbeats 1600000 in
theorem ok_tops_of (T : Txt K mg ad) : FnG gp P w K mg base (L2.CX P w) 4 ad.a_tops_of ad.d_tops_of ["start", "heights"] (Sp0 (ecOf ad) (ps_tops_of K) (fun x => m_tops_of x.1 x.2) c_tops_of) := by
  have G_check_cards : FnG gp P w K mg base (L2.CX P w) 3 ad.a_check_cards ad.d_check_cards ["heights"] (Sp0 (ecOf ad) (ps_check_cards K) (fun x => m_check_cards x) c_check_cards) := ok_check_cards T
  have G_check_start : FnG gp P w K mg base (L2.CX P w) 3 ad.a_check_start ad.d_check_start ["start"] (Sp0 (ecOf ad) (ps_check_start K) (fun x => m_check_start x) c_check_start) := ok_check_start T
  have G_tops_in : FnG gp P w K mg base (L2.CX P w) 3 ad.a_tops_in ad.d_tops_in ["start", "heights"] (Sp0 (ecOf ad) (ps_tops_in K) (fun x => m_tops_in x.1 x.2) c_tops_in) := ok_tops_in T
  refine T.F_tops_of.okX sc_tops_of (fun vs H Q E h => sp0_go h fun x C hT hC hw => ?_) (fun cdv A outer s H vs Q E hr h => sp0_go h fun x C hT hC hw => ?_)
  · exact len_of hT hC
  · obtain ⟨start_p, heights_p⟩ := x
    have hl : vs.length = 2 := len_of hT hC
    obtain ⟨v0, v1, rfl⟩ := len2 hl
    have h0 : Bw (Ecf K E (ecOf ad) C) v0 (ppL (start_p.map dat)) := fun F H o s c => (hC F H o s c).1
    have h1 : Bw (Ecf K E (ecOf ad) C) v1 (ppL (heights_p.map dat)) := fun F H o s c => (hC F H o s c).2.1
    have hU : (A.deeper (PyProof.Rows.envOfC "tops_of" (defScope s_tops_of) s.heap.objs.size ad.a_tops_of cdv)).units + 64 < cLine := Nat.lt_of_le_of_lt (by omega) hr.un
    have tk : Takes (cxOf (L2.CX P w) P w K mg base N_tops_of "tops_of" (defScope s_tops_of) ad.a_tops_of cdv A outer s H E) (fun cls d _ H => E cls d H) := takes_of rfl rfl rfl rfl
    refine ⟨_, (pss_cons (ps_expr (pe_callG G_check_start (hr.mono (by decide)) (by rfl) T.g_check_start T.F_check_start.kp T.b_check_start (fun σ => passAt tk σ) (pa_cons (pv 0) pa_nil))) (pss_cons (ps_expr (pe_callG G_check_cards (hr.mono (by decide)) (by rfl) T.g_check_cards T.F_check_cards.kp T.b_check_cards (fun σ => passAt tk σ) (pa_cons (pv 1) pa_nil))) (pss_cons (ps_ret (pe_callG G_tops_in (hr.mono (by decide)) (by rfl) T.g_tops_in T.F_tops_in.kp T.b_tops_in (fun σ => passAt tk σ) (pa_cons (pv 0) (pa_cons (pv 1) pa_nil)))) pss_nil))), ?_⟩
    have hw : WP (m_tops_of start_p heights_p) (fun b => ∀ v H', Top (sep C (c_tops_of b v)) H' → Q v H') (fun k => ∀ H', Top C H' → E (ecOf ad k) none H') := hw
    refine fin0W (K := K) (Γ0 := [cIs v0, cIs v1]) (Γr := fun b : (List Int) => [cAny, cAny]) (c := c_tops_of) hT (fun F o s c => ⟨fun _ => rfl, fun _ => rfl, trivial⟩) hw ?_
    exact (es_seq (es_drop (evp_callS (PyData.list (start_p.map dat)) (eap_cons (ev_slot (i := 0) rfl no_Is) eap_nil) (pars_cons (pa_xl (pa_bw rfl h0)) pars_nil) xok_emp)) fun (r_66 : Unit) => by exact EvS.is (Δ := [cIs v0, cIs v1]) rfl (es_seq (es_drop (evp_callS (PyData.list (heights_p.map dat)) (eap_cons (ev_slot (i := 1) rfl no_Is) eap_nil) (pars_cons (pa_xl (pa_bw rfl h1)) pars_nil) xok_emp)) fun (r_67 : Unit) => by exact EvS.is (Δ := [cIs v0, cIs v1]) rfl (es_ret (g := fun r_68 : (List Int) => r_68) (evp_callS (start_p, heights_p) (eap_cons (ev_slot (i := 0) rfl no_Is) (eap_cons (ev_slot (i := 1) rfl no_Is) eap_nil)) (pars_cons (pa_bw rfl h0) (pars_cons (pa_bw rfl h1) pars_nil)) xok_emp) (fun _ => rfl) (fun r_68 => (ret_le (.any (.any (.nil))))))))
abbrev N_end_of : List Str := ["start", "heights"]
theorem sc_end_of : FnScope N_end_of ["start", "heights"] (defScope s_end_of) := ⟨rfl, rfl, rfl, by decide +kernel, rfl, by decide +kernel, by decide +kernel⟩
def m_end_of (start_p : (List Int)) (heights_p : (List Int)) : Res (List Int) :=
  ((m_check_start (PyData.list (start_p.map dat))).bind fun r_69 => ((m_check_cards (PyData.list (heights_p.map dat))).bind fun r_70 => ((m_end_in start_p heights_p).bind fun r_71 => Res.ok r_71)))
abbrev ps_end_of (K : PySem.W.Frag) (x : (List Int) × (List Int)) : List PP := [ppL (x.1.map dat), ppL (x.2.map dat)]
abbrev c_end_of (b : (List Int)) : V → Asr := oV (b.map dat)
set_option maxHeartbeats 1600000 in
theorem ok_end_of (T : Txt K mg ad) : FnG gp P w K mg base (L2.CX P w) 4 ad.a_end_of ad.d_end_of ["start", "heights"] (Sp0 (ecOf ad) (ps_end_of K) (fun x => m_end_of x.1 x.2) c_end_of) := by
  have G_check_cards : FnG gp P w K mg base (L2.CX P w) 3 ad.a_check_cards ad.d_check_cards ["heights"] (Sp0 (ecOf ad) (ps_check_cards K) (fun x => m_check_cards x) c_check_cards) := ok_check_cards T
  have G_check_start : FnG gp P w K mg base (L2.CX P w) 3 ad.a_check_start ad.d_check_start ["start"] (Sp0 (ecOf ad) (ps_check_start K) (fun x => m_check_start x) c_check_start) := ok_check_start T
  have G_end_in : FnG gp P w K mg base (L2.CX P w) 3 ad.a_end_in ad.d_end_in ["start", "heights"] (Sp0 (ecOf ad) (ps_end_in K) (fun x => m_end_in x.1 x.2) c_end_in) := ok_end_in T
  refine T.F_end_of.okX sc_end_of (fun vs H Q E h => sp0_go h fun x C hT hC hw => ?_) (fun cdv A outer s H vs Q E hr h => sp0_go h fun x C hT hC hw => ?_)
  · exact len_of hT hC
  · obtain ⟨start_p, heights_p⟩ := x
    have hl : vs.length = 2 := len_of hT hC
    obtain ⟨v0, v1, rfl⟩ := len2 hl
    have h0 : Bw (Ecf K E (ecOf ad) C) v0 (ppL (start_p.map dat)) := fun F H o s c => (hC F H o s c).1
    have h1 : Bw (Ecf K E (ecOf ad) C) v1 (ppL (heights_p.map dat)) := fun F H o s c => (hC F H o s c).2.1
    have hU : (A.deeper (PyProof.Rows.envOfC "end_of" (defScope s_end_of) s.heap.objs.size ad.a_end_of cdv)).units + 64 < cLine := Nat.lt_of_le_of_lt (by omega) hr.un
    have tk : Takes (cxOf (L2.CX P w) P w K mg base N_end_of "end_of" (defScope s_end_of) ad.a_end_of cdv A outer s H E) (fun cls d _ H => E cls d H) := takes_of rfl rfl rfl rfl
    refine ⟨_, (pss_cons (ps_expr (pe_callG G_check_start (hr.mono (by decide)) (by rfl) T.g_check_start T.F_check_start.kp T.b_check_start (fun σ => passAt tk σ) (pa_cons (pv 0) pa_nil))) (pss_cons (ps_expr (pe_callG G_check_cards (hr.mono (by decide)) (by rfl) T.g_check_cards T.F_check_cards.kp T.b_check_cards (fun σ => passAt tk σ) (pa_cons (pv 1) pa_nil))) (pss_cons (ps_ret (pe_callG G_end_in (hr.mono (by decide)) (by rfl) T.g_end_in T.F_end_in.kp T.b_end_in (fun σ => passAt tk σ) (pa_cons (pv 0) (pa_cons (pv 1) pa_nil)))) pss_nil))), ?_⟩
    have hw : WP (m_end_of start_p heights_p) (fun b => ∀ v H', Top (sep C (c_end_of b v)) H' → Q v H') (fun k => ∀ H', Top C H' → E (ecOf ad k) none H') := hw
    refine fin0W (K := K) (Γ0 := [cIs v0, cIs v1]) (Γr := fun b : (List Int) => [cAny, cAny]) (c := c_end_of) hT (fun F o s c => ⟨fun _ => rfl, fun _ => rfl, trivial⟩) hw ?_
    exact (es_seq (es_drop (evp_callS (PyData.list (start_p.map dat)) (eap_cons (ev_slot (i := 0) rfl no_Is) eap_nil) (pars_cons (pa_xl (pa_bw rfl h0)) pars_nil) xok_emp)) fun (r_69 : Unit) => by exact EvS.is (Δ := [cIs v0, cIs v1]) rfl (es_seq (es_drop (evp_callS (PyData.list (heights_p.map dat)) (eap_cons (ev_slot (i := 1) rfl no_Is) eap_nil) (pars_cons (pa_xl (pa_bw rfl h1)) pars_nil) xok_emp)) fun (r_70 : Unit) => by exact EvS.is (Δ := [cIs v0, cIs v1]) rfl (es_ret (g := fun r_71 : (List Int) => r_71) (evp_callS (start_p, heights_p) (eap_cons (ev_slot (i := 0) rfl no_Is) (eap_cons (ev_slot (i := 1) rfl no_Is) eap_nil)) (pars_cons (pa_bw rfl h0) (pars_cons (pa_bw rfl h1) pars_nil)) xok_emp) (fun _ => rfl) (fun r_71 => (ret_le (.any (.any (.nil))))))))
abbrev N_steps : List Str := ["start", "heights", "columns", "height"]
theorem sc_steps : GScope N_steps ["start", "heights"] (defScope s_steps) := ⟨rfl, rfl, rfl, by decide +kernel, rfl, by decide +kernel, by decide +kernel⟩
def m_steps (start_p : (List Int)) (heights_p : (List Int)) : Res (List (List Int)) :=
  ((m_check_start (PyData.list (start_p.map dat))).bind fun r_72 => ((m_check_cards (PyData.list (heights_p.map dat))).bind fun r_73 => (Res.need (((([] : List (List Int)).map dat)).length < lim) ((Res.ok (start_p : (List Int))).bind fun q_74 => (((Res.ok ()).bind fun a_75 => foldR heights_p ((([] : List (List Int)) ++ [q_74]), start_p) fun s_77 x_76 => (((m_lowest_in s_77.2 false).bind fun d_79 => (getI s_77.2 d_79).bind fun z_78 => setR s_77.2 d_79 (z_78 + x_76)).bind fun r_80 => (Res.need (((s_77.1.map dat)).length < lim) ((Res.ok (r_80 : (List Int))).bind fun q_81 => (Res.ok ((s_77.1 ++ [q_81]), r_80)))))).bind fun j_82 => (Res.ok j_82.1))))))
abbrev ps_steps (K : PySem.W.Frag) (x : (List Int) × (List Int)) : List PP := [ppL (x.1.map dat), ppL (x.2.map dat)]
set_option maxHeartbeats 1600000 in
theorem ok_steps (T : Txt K mg ad) : GFn P w K mg base 4 ad.a_steps ad.d_steps ["start", "heights"] (SpG0 (ps_steps K) (fun x : (List Int) × (List Int) => m_steps x.1 x.2) (fun b : List (List Int) => (b.map dat))) := by
  have G_check_cards : FnG False P w K mg base (L2.CX P w) 3 ad.a_check_cards ad.d_check_cards ["heights"] (Sp0 (ecOf ad) (ps_check_cards K) (fun x => m_check_cards x) c_check_cards) := ok_check_cards T
  have G_check_start : FnG False P w K mg base (L2.CX P w) 3 ad.a_check_start ad.d_check_start ["start"] (Sp0 (ecOf ad) (ps_check_start K) (fun x => m_check_start x) c_check_start) := ok_check_start T
  have G_lowest_in : FnG False P w K mg base (L2.CX P w) 1 ad.a_lowest_in ad.d_lowest_in ["columns", "right"] (Sp0 (ecOf ad) (ps_lowest_in K) (fun x => m_lowest_in x.1 x.2) c_lowest_in) := ok_lowest_in T
  refine T.F_steps.okGen sc_steps (fun vs H Q E h => spg_go h fun x C hT hC hw => ?_) (fun cdv A outer s H vs Q E pn hr h => spg_go h fun x C hT hC hw => ?_)
  · exact len_of hT hC
  · obtain ⟨start_p, heights_p⟩ := x
    have hl : vs.length = 2 := len_of hT hC
    obtain ⟨v0, v1, rfl⟩ := len2 hl
    have h0 : Bw (Ecf K E (ecOf ad) C) v0 (ppL (start_p.map dat)) := fun F H o s c => (hC F H o s c).1
    have h1 : Bw (Ecf K E (ecOf ad) C) v1 (ppL (heights_p.map dat)) := fun F H o s c => (hC F H o s c).2.1
    have hU : (A.deeper (PyProof.Rows.envOfC "steps" (defScope s_steps) s.heap.objs.size ad.a_steps cdv)).units + 64 < cLine := Nat.lt_of_le_of_lt (by omega) hr.un
    have tk : Takes (gcxOf P w K mg base N_steps "steps" (defScope s_steps) ad.a_steps cdv A outer s H E pn) (fun cls d _ H => E cls d H) := takes_gcx
    refine ⟨_, (gss_cons (gs_ps (ps_expr (pe_callG G_check_start (hr.mono (by decide)) (by rfl) T.g_check_start T.F_check_start.kp T.b_check_start (fun σ => passAt tk σ) (pa_cons (pv 0) pa_nil)))) (gss_cons (gs_ps (ps_expr (pe_callG G_check_cards (hr.mono (by decide)) (by rfl) T.g_check_cards T.F_check_cards.kp T.b_check_cards (fun σ => passAt tk σ) (pa_cons (pv 1) pa_nil)))) (gss_cons (gs_ps (ps_set (i := 2) sc_steps.nd rfl (Or.inl rfl) (pe_callTy (listK K rfl) (by rfl) T.z_list (by decide +kernel) (pa_cons (pv 0) pa_nil)))) (gss_cons (gs_yield (pe_callTy (listK K rfl) (by rfl) T.z_list (by decide +kernel) (pa_cons (pv 2) pa_nil))) (gss_cons (gs_for owns_gcx rfl (pi_list (pe_callTy (listK K rfl) (by rfl) T.z_list (by decide +kernel) (pa_cons (pv 1) pa_nil))) (pg_name (i := 3) sc_steps.nd rfl (Or.inl rfl)) (gss_cons (gs_ps (ps_augS (pv 2) (pe_callG G_lowest_in (hr.mono (by decide)) (by rfl) T.g_lowest_in T.F_lowest_in.kp T.b_lowest_in (fun σ => passAt tk σ) (pa_cons (pv 2) (pa_cons pe_bl pa_nil))) pget_list (pv 3) ip_add set_list)) (gss_cons (gs_yield (pe_callTy (listK K rfl) (by rfl) T.z_list (by decide +kernel) (pa_cons (pv 2) pa_nil))) gss_nil))) gss_nil))))), ?_⟩
    have hw : WP (m_steps start_p heights_p) (fun b => ∀ ys H', Top (sep C (vAs ((b.map dat)) ys)) H' → Q ys H') (fun _ => False) := hw
    refine finG (K := K) (Ex := E) (ec := ecOf ad) (Γ0 := [cIs v0, cIs v1, cAny, cAny]) (Γr := fun b : List (List Int) => [cAny, cAny, cAny, cAny]) (o := fun b : List (List Int) => (b.map dat)) hT (fun F o s c => ⟨fun _ => rfl, fun _ => rfl, fun _ => trivial, fun _ => trivial, trivial⟩) hw (EvGB.is (Δ := [cIs v0, cIs v1, cAny, cAny]) (oo := (([] : List (List Int)).map dat)) rfl rfl ?_)
    exact (geb_plain (es_drop (evp_callS (PyData.list (start_p.map dat)) (eap_cons (ev_slot (i := 0) rfl no_Is) eap_nil) (pars_cons (pa_xl (pa_bw rfl h0)) pars_nil) xok_emp)) fun (r_72 : Unit) => by exact EvGB.is (Δ := [cIs v0, cIs v1, cAny, cAny]) (oo := (([] : List (List Int)).map dat)) rfl rfl (geb_plain (es_drop (evp_callS (PyData.list (heights_p.map dat)) (eap_cons (ev_slot (i := 1) rfl no_Is) eap_nil) (pars_cons (pa_xl (pa_bw rfl h1)) pars_nil) xok_emp)) fun (r_73 : Unit) => by exact EvGB.is (Δ := [cIs v0, cIs v1, cAny, cAny]) (oo := (([] : List (List Int)).map dat)) rfl rfl (geb_plainP (es_asgP (evp_cb (eap_cons (ev_slot (i := 0) rfl no_Is) eap_nil) (rn_list (ds := (start_p.map dat)) (pa_S (pa_bw rfl h0)))) sto_o (lt_len rfl)) (by exact EvGB.is (Δ := [cIs v0, cIs v1, cO (start_p.map dat), cAny]) (oo := (([] : List (List Int)).map dat)) rfl rfl (geb_yield (d := fun q_74 : (List Int) => (PyData.list (q_74.map dat))) (ev_pure (a := start_p) (cc := fun r : (List Int) => rO (r.map dat)) (evp_cb (eap_cons (ev_slot (i := 2) rfl no_O) eap_nil) (rn_list (ds := (start_p.map dat)) (pa_S (pa_own own_O rfl))))) (fun _ => fz_o) fun (q_74 : (List Int)) => by exact EvGB.is (Δ := [cIs v0, cIs v1, cO (start_p.map dat), cAny]) (oo := ((([] : List (List Int)) ++ [q_74]).map dat)) rfl (by rw [List.map_append]; rfl) (geb_for (xs := fun a_75 : Unit => heights_p) (Γs := fun s_77 : (List (List Int) × (List Int)) => [cIs v0, cIs v1, cO (s_77.2.map dat), cAny]) (os := fun s_77 : (List (List Int) × (List Int)) => (s_77.1.map dat)) (Γt := fun (s_77 : (List (List Int) × (List Int))) (x_76 : Int) => [cIs v0, cIs v1, cO (s_77.2.map dat), cV (PyData.int x_76)]) (s0 := fun a_75 => ((([] : List (List Int)) ++ [q_74]), start_p)) (ei_list (ds := fun _ => (heights_p.map dat)) (evp_cb (eap_cons (ev_slot (i := 1) rfl no_Is) eap_nil) (rn_list (ds := (heights_p.map dat)) (pa_S (pa_bw rfl h1)))) fun _ => src_o) (fun _ _ => trivial) (fun a_75 => (.same (.same (.same (.same .nil))))) (fun _ => rfl) (fun s_77 x_76 => (eg_name (lt_len rfl))) (fun s_77 x_76 => by exact (geb_plain (es_augitemI (f := (fun i j => i + j)) (xs := s_77.2) (k := fun d_79 : Int => d_79) own_O (ev_var rfl) (evp_callS (s_77.2, false) (eap_cons (ev_slot (i := 2) rfl no_O) (eap_cons ev_bl eap_nil)) (pars_cons (pa_own own_O rfl) (pars_cons pa_v pars_nil)) xok_emp) rfl rfl) fun (r_80 : (List Int)) => by exact EvGB.is (Δ := [cIs v0, cIs v1, cO (r_80.map dat), cV (PyData.int x_76)]) (oo := (s_77.1.map dat)) rfl rfl (geb_yield (d := fun q_81 : (List Int) => (PyData.list (q_81.map dat))) (ev_pure (a := r_80) (cc := fun r : (List Int) => rO (r.map dat)) (evp_cb (eap_cons (ev_slot (i := 2) rfl no_O) eap_nil) (rn_list (ds := (r_80.map dat)) (pa_S (pa_own own_O rfl))))) (fun _ => fz_o) fun (q_81 : (List Int)) => by exact EvGB.is (Δ := [cIs v0, cIs v1, cO (r_80.map dat), cV (PyData.int x_76)]) (oo := ((s_77.1 ++ [q_81]).map dat)) rfl (by rw [List.map_append]; rfl) (geb_nil (b := ((s_77.1 ++ [q_81]), r_80)) ((.same (.same (.same (.any (.nil)))))) rfl)))) fun (j_82 : (List (List Int) × (List Int))) => by exact EvGB.is (Δ := [cIs v0, cIs v1, cO (j_82.2.map dat), cAny]) (oo := (j_82.1.map dat)) rfl rfl (geb_nil (b := j_82.1) ((.any (.any (.any (.same .nil))))) rfl)))))))
abbrev N_cards_in : List Str := ["start", "heights", "column", "card", "top", "place"]
theorem sc_cards_in : FnScope N_cards_in ["start", "heights", "column"] (defScope s_cards_in) := ⟨rfl, rfl, rfl, by decide +kernel, rfl, by decide +kernel, by decide +kernel⟩
def m_cards_in (start_p : (List Int)) (heights_p : (List Int)) (column_p : Int) : Res (List Int) :=
  ((m_check_start (PyData.list (start_p.map dat))).bind fun r_83 => ((m_check_cards (PyData.list (heights_p.map dat))).bind fun r_84 => ((m_is_integer (PyData.int column_p) 0 (((start_p).length : Int) - 1)).bind fun c_85 => if (!c_85) then Res.bad else ((((m_laid start_p heights_p false 0).bind fun a_86 => (Res.ok ()).bind fun r_87 => Res.ok (a_86, r_87)).bind fun a_88 => compR (enumL a_88.1) () [] fun s_90 x_89 => if (decide (x_89.2.1 = column_p)) then Res.ok (some x_89.1, s_90) else Res.ok (none, s_90)).bind fun r_91 => Res.ok r_91.1))))
abbrev ps_cards_in (K : PySem.W.Frag) (x : (List Int) × (List Int) × Int) : List PP := [ppL (x.1.map dat), ppL (x.2.1.map dat), ppV (PyData.int x.2.2)]
abbrev c_cards_in (b : (List Int)) : V → Asr := oV (b.map dat)
set_option maxHeartbeats 1600000 in
theorem ok_cards_in (T : Txt K mg ad) : FnG gp P w K mg base (L2.CX P w) 4 ad.a_cards_in ad.d_cards_in ["start", "heights", "column"] (Sp0 (ecOf ad) (ps_cards_in K) (fun x => m_cards_in x.1 x.2.1 x.2.2) c_cards_in) := by
  have G_check_cards : FnG gp P w K mg base (L2.CX P w) 3 ad.a_check_cards ad.d_check_cards ["heights"] (Sp0 (ecOf ad) (ps_check_cards K) (fun x => m_check_cards x) c_check_cards) := ok_check_cards T
  have G_check_start : FnG gp P w K mg base (L2.CX P w) 3 ad.a_check_start ad.d_check_start ["start"] (Sp0 (ecOf ad) (ps_check_start K) (fun x => m_check_start x) c_check_start) := ok_check_start T
  have G_is_integer : FnG gp P w K mg base (L2.CX P w) 1 ad.a_is_integer ad.d_is_integer ["value", "least", "most"] (Sp0 (ecOf ad) (ps_is_integer K) (fun x => m_is_integer x.1 x.2.1 x.2.2) c_is_integer) := ok_is_integer T
  have G_laid : FnG gp P w K mg base (L2.CX P w) 2 ad.a_laid ad.d_laid ["start", "heights", "right", "gap"] (Sp0 (ecOf ad) (ps_laid K) (fun x => m_laid x.1 x.2.1 x.2.2.1 x.2.2.2) c_laid) := ok_laid T
  refine T.F_cards_in.okX sc_cards_in (fun vs H Q E h => sp0_go h fun x C hT hC hw => ?_) (fun cdv A outer s H vs Q E hr h => sp0_go h fun x C hT hC hw => ?_)
  · exact len_of hT hC
  · obtain ⟨start_p, heights_p, column_p⟩ := x
    have hl : vs.length = 3 := len_of hT hC
    obtain ⟨v0, v1, v2, rfl⟩ := len3 hl
    have h0 : Bw (Ecf K E (ecOf ad) C) v0 (ppL (start_p.map dat)) := fun F H o s c => (hC F H o s c).1
    have h1 : Bw (Ecf K E (ecOf ad) C) v1 (ppL (heights_p.map dat)) := fun F H o s c => (hC F H o s c).2.1
    have hU : (A.deeper (PyProof.Rows.envOfC "cards_in" (defScope s_cards_in) s.heap.objs.size ad.a_cards_in cdv)).units + 64 < cLine := Nat.lt_of_le_of_lt (by omega) hr.un
    have tk : Takes (cxOf (L2.CX P w) P w K mg base N_cards_in "cards_in" (defScope s_cards_in) ad.a_cards_in cdv A outer s H E) (fun cls d _ H => E cls d H) := takes_of rfl rfl rfl rfl
    refine ⟨_, (pss_cons (ps_expr (pe_callG G_check_start (hr.mono (by decide)) (by rfl) T.g_check_start T.F_check_start.kp T.b_check_start (fun σ => passAt tk σ) (pa_cons (pv 0) pa_nil))) (pss_cons (ps_expr (pe_callG G_check_cards (hr.mono (by decide)) (by rfl) T.g_check_cards T.F_check_cards.kp T.b_check_cards (fun σ => passAt tk σ) (pa_cons (pv 1) pa_nil))) (pss_cons (ps_if (pt_not (pt_val (pe_callG G_is_integer (hr.mono (by decide)) (by rfl) T.g_is_integer T.F_is_integer.kp T.b_is_integer (fun σ => passAt tk σ) (pa_cons (pv 2) (pa_cons pe_int (pa_cons (pe_op op_sub (pe_callB (lenK K rfl) (by rfl) T.z_len PySem.boot_len (pa_cons (pv 0) pa_nil)) pe_int) pa_nil)))))) (pss_cons ps_never pss_nil) pss_nil) (pss_cons (ps_ret (pe_lc (own := [("card", 3), ("place", 5), ("top", 4)]) rfl sc_cards_in.nd (pi_enum (by rfl) T.z_enumerate (pa_cons (pe_callG G_laid (hr.mono (by decide)) (by rfl) T.g_laid T.F_laid.kp T.b_laid (fun σ => passAt tk σ) (pa_cons (pv 0) (pa_cons (pv 1) (pa_cons pe_bl (pa_cons pe_int pa_nil))))) pa_nil)) (blkOk_by (own := [("card", 3), ("place", 5), ("top", 4)]) (N := N_cards_in) (sc := defScope s_cards_in) (by decide +kernel)) (fun _ _ _ _ _ => (pg_tupK K 2 rfl rfl (pgs_cons (pg_name (i := 3) sc_cards_in.nd rfl (Or.inl rfl) (.inr rfl)) (pgs_cons (pg_tupK K 2 rfl rfl (pgs_cons (pg_name (i := 5) sc_cards_in.nd rfl (Or.inl rfl) (.inr rfl)) (pgs_cons (pg_name (i := 4) sc_cards_in.nd rfl (Or.inl rfl) (.inr rfl)) pgs_nil)) rfl rfl) pgs_nil)) rfl rfl)) (fun _ _ _ _ _ => pts_one (pt_cmpR op_eq (pv 5) (pv 2) (nomark _))) (fun _ _ _ _ _ => (pv 3)))) pss_nil)))), ?_⟩
    have hw : WP (m_cards_in start_p heights_p column_p) (fun b => ∀ v H', Top (sep C (c_cards_in b v)) H' → Q v H') (fun k => ∀ H', Top C H' → E (ecOf ad k) none H') := hw
    refine fin0W (K := K) (Γ0 := [cIs v0, cIs v1, cV (PyData.int column_p), cAny, cAny, cAny]) (Γr := fun b : (List Int) => [cAny, cAny, cAny, cAny, cAny, cAny]) (c := c_cards_in) hT (fun F o s c => ⟨fun _ => rfl, fun _ => rfl, fun _ => (hC F H o s c).2.2.1, fun _ => trivial, fun _ => trivial, fun _ => trivial, trivial⟩) hw ?_
    exact (es_seq (es_drop (evp_callS (PyData.list (start_p.map dat)) (eap_cons (ev_slot (i := 0) rfl no_Is) eap_nil) (pars_cons (pa_xl (pa_bw rfl h0)) pars_nil) xok_emp)) fun (r_83 : Unit) => by exact EvS.is (Δ := [cIs v0, cIs v1, cV (PyData.int column_p), cAny, cAny, cAny]) rfl (es_seq (es_drop (evp_callS (PyData.list (heights_p.map dat)) (eap_cons (ev_slot (i := 1) rfl no_Is) eap_nil) (pars_cons (pa_xl (pa_bw rfl h1)) pars_nil) xok_emp)) fun (r_84 : Unit) => by exact EvS.is (Δ := [cIs v0, cIs v1, cV (PyData.int column_p), cAny, cAny, cAny]) rfl (es_ifTM (b := fun c_85 : Bool => (!c_85)) (et_not (b := fun r : Bool => r) (et_val (b := fun r : Bool => r) (evp_callS ((PyData.int column_p), 0, (((start_p).length : Int) - 1)) (eap_cons (ev_var rfl) (eap_cons ev_int (eap_cons (evp_op (evp_cb (eap_cons (ev_slot (i := 0) rfl no_Is) eap_nil) (rn_len (xs := start_p) (pa_S (pa_bw rfl h0)))) ev_int r2_I0) eap_nil))) (pars_cons pa_xv (pars_cons pa_v (pars_cons pa_v pars_nil))) xok_emp))) (fun c_85 => by exact es_never) (fun c_85 => by exact (es_ret (g := fun r_91 : (List Int × Unit) => r_91.1) (el_comp (xs := fun a_88 : ((List (Int × Int)) × Unit) => (enumL a_88.1)) (Γs := fun s_90 : Unit => [cIs v0, cIs v1, cV (PyData.int column_p), cAny, cAny, cAny]) (Γt := fun (s_90 : Unit) (x_89 : (Int × (Int × Int))) => [cIs v0, cIs v1, cV (PyData.int column_p), cV (PyData.int x_89.1), cV (PyData.int x_89.2.2), cV (PyData.int x_89.2.1)]) (s0 := fun a_88 => ()) (ei_enumC (c := fun p : ((List (Int × Int)) × Unit) => rO (p.1.map dat)) (xs := fun p : ((List (Int × Int)) × Unit) => p.1) (ea_cons (Γ1 := fun (a_86 : (List (Int × Int))) => [cIs v0, cIs v1, cV (PyData.int column_p), cAny, cAny, cAny]) (evp_callS (start_p, heights_p, false, 0) (eap_cons (ev_slot (i := 0) rfl no_Is) (eap_cons (ev_slot (i := 1) rfl no_Is) (eap_cons ev_bl (eap_cons ev_int eap_nil)))) (pars_cons (pa_bw rfl h0) (pars_cons (pa_bw rfl h1) (pars_cons pa_v (pars_cons pa_v pars_nil)))) xok_emp) fun (a_86 : (List (Int × Int))) => ea_nil) rfl fun p => src_o) (fun _ _ => trivial) (fun a_88 => (.same (.same (.same (.same (.same (.same .nil))))))) (fun s_90 => (hv_cons rfl (hv_cons rfl (hv_cons rfl hv_nil)))) (fun s_90 x_89 => (eg_tup (egs_cons (eg_name (lt_len rfl)) (egs_cons (eg_tup (egs_cons (eg_name (lt_len rfl)) (egs_cons (eg_name (lt_len rfl)) egs_nil)) rfl) egs_nil)) rfl)) (by decide) (fun s_90 x_89 => elj_ifP (b := x_89.1) (s := s_90) (et_val (b := fun _ => (decide (x_89.2.1 = column_p))) (evp_op (ev_var rfl) (ev_var rfl) r2_eqI)) (ev_var rfl) fz_v (.same (.same (.same (.any (.any (.any (.nil))))))))) (fun _ => rfl) (fun r_91 => (ret_le (.any (.any (.any (.same (.same (.same .nil)))))))))))))
abbrev N__law_cell_at : List Str := ["script", "k"]
theorem sc__law_cell_at : FnScope N__law_cell_at ["script", "k"] (defScope s__law_cell_at) := ⟨rfl, rfl, rfl, by decide +kernel, rfl, by decide +kernel, by decide +kernel⟩
def m__law_cell_at (script_p : (List Int)) (k_p : Int) : Res Int :=
  (if (decide (k_p < ((script_p).length : Int))) then ((getI script_p k_p).bind fun r_93 => Res.ok r_93) else (Res.ok 0))
abbrev ps__law_cell_at (K : PySem.W.Frag) (x : (List Int) × Int) : List PP := [ppS K (x.1.map dat), ppV (PyData.int x.2)]
abbrev c__law_cell_at (b : Int) : V → Asr := vA (PyData.int b)
set_option maxHeartbeats 1600000 in
theorem ok__law_cell_at (T : Txt K mg ad) : FnG gp P w K mg base (L2.CX P w) 1 ad.a__law_cell_at ad.d__law_cell_at ["script", "k"] (Sp0 (ecOf ad) (ps__law_cell_at K) (fun x => m__law_cell_at x.1 x.2) c__law_cell_at) := by
  refine T.F__law_cell_at.okX sc__law_cell_at (fun vs H Q E h => sp0_go h fun x C hT hC hw => ?_) (fun cdv A outer s H vs Q E hr h => sp0_go h fun x C hT hC hw => ?_)
  · exact len_of hT hC
  · obtain ⟨script_p, k_p⟩ := x
    have hl : vs.length = 2 := len_of hT hC
    obtain ⟨v0, v1, rfl⟩ := len2 hl
    have h0 : Bw (Ecf K E (ecOf ad) C) v0 (ppS K (script_p.map dat)) := fun F H o s c => (hC F H o s c).1
    have hU : (A.deeper (PyProof.Rows.envOfC "_law_cell_at" (defScope s__law_cell_at) s.heap.objs.size ad.a__law_cell_at cdv)).units + 64 < cLine := Nat.lt_of_le_of_lt (by omega) hr.un
    have tk : Takes (cxOf (L2.CX P w) P w K mg base N__law_cell_at "_law_cell_at" (defScope s__law_cell_at) ad.a__law_cell_at cdv A outer s H E) (fun cls d _ H => E cls d H) := takes_of rfl rfl rfl rfl
    refine ⟨_, (pss_cons (ps_if (pt_cmpR op_lt (pv 1) (pe_callB (lenK K rfl) (by rfl) T.z_len PySem.boot_len (pa_cons (pv 0) pa_nil)) (nomark _)) (pss_cons (ps_ret (pe_ix (ixK K rfl) (pv 0) (pv 1) (fun _ _ => rfl))) pss_nil) pss_nil) (pss_cons (ps_ret pe_int) pss_nil)), ?_⟩
    have hw : WP (m__law_cell_at script_p k_p) (fun b => ∀ v H', Top (sep C (c__law_cell_at b v)) H' → Q v H') (fun k => ∀ H', Top C H' → E (ecOf ad k) none H') := hw
    refine fin0W (K := K) (Γ0 := [cIs v0, cV (PyData.int k_p)]) (Γr := fun b : Int => [cAny, cAny]) (c := c__law_cell_at) hT (fun F o s c => ⟨fun _ => rfl, fun _ => (hC F H o s c).2.1, trivial⟩) hw ?_
    exact (es_ifT (et_val (b := fun _ => (decide (k_p < ((script_p).length : Int)))) (evp_op (ev_var rfl) (evp_cb (eap_cons (ev_slot (i := 0) rfl no_Is) eap_nil) (rn_len (xs := script_p) (pa_bw rfl h0))) r2_B0)) (by exact (es_ret (g := fun r_93 : Int => r_93) (evp_op (ev_slot (i := 0) rfl no_Is) (ev_var rfl) (r2_ix (pa_bw rfl h0))) (fun _ => rfl) (fun r_93 => (ret_le (.any (.any (.nil))))))) (by exact (es_retP (b := 0) ev_int rfl (ret_le (.any (.any (.nil)))))))
abbrev N__law_pool : List Str := ["cell", "place"]
theorem sc__law_pool : FnScope N__law_pool ["cell", "place"] (defScope s__law_pool) := ⟨rfl, rfl, rfl, by decide +kernel, rfl, by decide +kernel, by decide +kernel⟩
def m__law_pool (cell_p : Int) (place_p : Int) : Res (List Int) :=
  (((Res.ok ((max (cell_p - 1000000000000000000) 0) : Int)).bind fun a_99 => ((((modR cell_p 2147483629).bind fun x_100 => (mulA 51001 place_p).bind fun y_101 => Res.ok (x_100 + y_101)).bind fun x_102 => (Res.ok (2147483629 : Int)).bind fun y_103 => (modR x_102 y_103)).bind fun a_105 => ((Res.ok (0 : Int)).bind fun a_106 => (Res.ok ()).bind fun r_107 => Res.ok (a_106, r_107)).bind fun r_108 => Res.ok (a_105, r_108)).bind fun r_109 => Res.ok (a_99, r_109)).bind fun r_110 => Res.ok ([r_110.1, r_110.2.1, r_110.2.2.1] : List Int))
abbrev ps__law_pool (K : PySem.W.Frag) (x : Int × Int) : List PP := [ppV (PyData.int x.1), ppV (PyData.int x.2)]
abbrev c__law_pool (b : (List Int)) : V → Asr := oV (b.map dat)
set_option maxHeartbeats 1600000 in
theorem ok__law_pool (T : Txt K mg ad) : FnG gp P w K mg base (L2.CX P w) 1 ad.a__law_pool ad.d__law_pool ["cell", "place"] (Sp0 (ecOf ad) (ps__law_pool K) (fun x => m__law_pool x.1 x.2) c__law_pool) := by
  refine T.F__law_pool.okX sc__law_pool (fun vs H Q E h => sp0_go h fun x C hT hC hw => ?_) (fun cdv A outer s H vs Q E hr h => sp0_go h fun x C hT hC hw => ?_)
  · exact len_of hT hC
  · obtain ⟨cell_p, place_p⟩ := x
    have hl : vs.length = 2 := len_of hT hC
    obtain ⟨v0, v1, rfl⟩ := len2 hl
    have hU : (A.deeper (PyProof.Rows.envOfC "_law_pool" (defScope s__law_pool) s.heap.objs.size ad.a__law_pool cdv)).units + 64 < cLine := Nat.lt_of_le_of_lt (by omega) hr.un
    have tk : Takes (cxOf (L2.CX P w) P w K mg base N__law_pool "_law_pool" (defScope s__law_pool) ad.a__law_pool cdv A outer s H E) (fun cls d _ H => E cls d H) := takes_of rfl rfl rfl rfl
    refine ⟨_, (pss_cons (ps_ret (pe_lst (pa_cons (pe_callB (call_max2 rfl) (by rfl) T.z_max (by decide +kernel) (pa_cons (pe_op op_sub (pv 0) (pe_op op_pow pe_int pe_int)) (pa_cons pe_int pa_nil))) (pa_cons (pe_op op_mod (pe_op op_add (pe_op op_mod (pv 0) pe_int) (pe_op op_mulA pe_int (pv 1))) pe_int) (pa_cons pe_int pa_nil))))) pss_nil), ?_⟩
    have hw : WP (m__law_pool cell_p place_p) (fun b => ∀ v H', Top (sep C (c__law_pool b v)) H' → Q v H') (fun k => ∀ H', Top C H' → E (ecOf ad k) none H') := hw
    refine fin0W (K := K) (Γ0 := [cV (PyData.int cell_p), cV (PyData.int place_p)]) (Γr := fun b : (List Int) => [cAny, cAny]) (c := c__law_pool) hT (fun F o s c => ⟨fun _ => (hC F H o s c).1, fun _ => (hC F H o s c).2.1, trivial⟩) hw ?_
    exact (es_ret (g := fun r_110 : (Int × Int × Int × Unit) => ([r_110.1, r_110.2.1, r_110.2.2.1] : List Int)) (ev_lst (ds := fun p : (Int × Int × Int × Unit) => [(PyData.int p.1), (PyData.int p.2.1), (PyData.int p.2.2.1)]) (ea_cons (Γ1 := fun (a_99 : Int) => [cV (PyData.int cell_p), cV (PyData.int place_p)]) (ev_pure (a := (max (cell_p - 1000000000000000000) 0)) (cc := fun r : Int => rV (PyData.int r)) (evp_cb (eap_cons (evp_op (ev_var rfl) (evp_op ev_int ev_int (r2_pow (k := 1000000000000000000) (by unfold CPow; decide +kernel) (by decide +kernel))) r2_I0) (eap_cons ev_int eap_nil)) rn_max2)) fun (a_99 : Int) => (ea_cons (Γ1 := fun (a_105 : Int) => [cV (PyData.int cell_p), cV (PyData.int place_p)]) (ev_op (ev_op (evp_op (ev_var rfl) ev_int r2_mod) (fun (x_100 : Int) => (evp_op ev_int (ev_var rfl) r2_mulA)) (fun (x_100 : Int) (y_101 : Int) => (r2_to (x_100 + y_101) (Γ' := fun r : Int => [cV (PyData.int cell_p), cV (PyData.int place_p)]) (c := fun r : Int => rV (PyData.int r)) r2_I0))) (fun (x_102 : Int) => (ev_pure (a := 2147483629) (cc := fun r : Int => rV (PyData.int r)) ev_int)) (fun (x_102 : Int) (y_103 : Int) => r2_mod)) fun (a_105 : Int) => (ea_cons (Γ1 := fun (a_106 : Int) => [cV (PyData.int cell_p), cV (PyData.int place_p)]) (ev_pure (a := 0) (cc := fun r : Int => rV (PyData.int r)) ev_int) fun (a_106 : Int) => ea_nil))) fun p => (.cons fz_v (.cons fz_v (.cons fz_v .nil)))) (fun _ => rfl) (fun r_110 => (ret_le (.any (.any (.nil))))))
abbrev N__law_draw : List Str := ["pool", "many", "stir", "found"]
theorem sc__law_draw : FnScope N__law_draw ["pool", "many"] (defScope s__law_draw) := ⟨rfl, rfl, rfl, by decide +kernel, rfl, by decide +kernel, by decide +kernel⟩
def m__law_draw (pool_p : (List Int)) (many_p : Int) : Res (Int × List Int) :=
  noErr ((((getI pool_p 2).bind fun x_111 => (Res.ok (1 : Int)).bind fun y_112 => Res.ok (x_111 + y_112)).bind fun g_113 => (Res.ok (2 : Int)).bind fun d_114 => (setR pool_p d_114 g_113).bind fun ys_115 => Res.ok (g_113, d_114, ys_115)).bind fun r_116 => ((((((getI r_116.2.2 1).bind fun x_123 => (((Res.ok (7 : Int)).bind fun x_124 => (getI r_116.2.2 2).bind fun y_125 => (mulA x_124 y_125)).bind fun x_127 => (getI r_116.2.2 2).bind fun y_128 => (mulA x_127 y_128)).bind fun y_130 => Res.ok (x_123 + y_130)).bind fun x_131 => (Res.ok (1 : Int)).bind fun y_132 => Res.ok (x_131 + y_132)).bind fun x_133 => (Res.ok (2 : Int)).bind fun y_134 => (powA x_133 y_134)).bind fun x_136 => (Res.ok (2147483587 : Int)).bind fun y_137 => (modR x_136 y_137)).bind fun r_139 => (((((mulA r_139 69621).bind fun x_143 => ((Res.ok (40692 : Int)).bind fun x_144 => (getI r_116.2.2 2).bind fun y_145 => (mulA x_144 y_145)).bind fun y_147 => Res.ok (x_143 + y_147)).bind fun x_148 => (Res.ok (2147483629 : Int)).bind fun y_149 => (modR x_148 y_149)).bind fun g_151 => (Res.ok (1 : Int)).bind fun d_152 => (setR r_116.2.2 d_152 g_151).bind fun ys_153 => Res.ok (g_151, d_152, ys_153)).bind fun r_154 => ((((getI r_154.2.2 1).bind fun x_155 => (Res.ok (64 : Int)).bind fun y_156 => (divR x_155 y_156)).bind fun x_158 => (Res.ok (many_p : Int)).bind fun y_159 => (modR x_158 y_159)).bind fun r_161 => ((((getI r_154.2.2 0).bind fun x_162 => (Res.ok (0 : Int)).bind fun y_163 => Res.ok (decide (y_163 < x_162))).bind fun c_164 => if c_164 then (((getI r_154.2.2 0).bind fun x_176 => (Res.ok (many_p : Int)).bind fun y_177 => (modR x_176 y_177)).bind fun r_179 => ((((getI r_154.2.2 0).bind fun x_180 => (Res.ok (many_p : Int)).bind fun y_181 => (divR x_180 y_181)).bind fun g_183 => (Res.ok (0 : Int)).bind fun d_184 => (setR r_154.2.2 d_184 g_183).bind fun ys_185 => Res.ok (g_183, d_184, ys_185)).bind fun r_186 => (Res.ok (r_186.2.2, r_179)))) else (Res.ok (r_154.2.2, r_161))).bind fun j_187 => (Res.ok (j_187.2, j_187.1)))))))
abbrev ps__law_draw (K : PySem.W.Frag) (p : Addr) (x : (List Int) × Int) : List PP := [ppAt p, ppV (PyData.int x.2)]
abbrev c__law_draw (b : (Int × List Int)) : V → Asr := vA (PyData.int b.1)
set_option maxHeartbeats 1600000 in
theorem ok__law_draw (T : Txt K mg ad) : FnG gp P w K mg base (L2.CX P w) 1 ad.a__law_draw ad.d__law_draw ["pool", "many"] (Sp1 (ecOf ad) (ps__law_draw K) (fun x : (List Int) × Int => (x.1.map dat)) (fun x => m__law_draw x.1 x.2) (fun b => (b.2.map dat)) c__law_draw) := by
  refine T.F__law_draw.okX sc__law_draw (fun vs H Q E h => sp1_go h fun p x C hT hC hw => ?_) (fun cdv A outer s H vs Q E hr h => sp1_go h fun p x C hT hC hw => ?_)
  · exact len_of1 hT (hC)
  · obtain ⟨pool_p, many_p⟩ := x
    have hl : vs.length = 2 := len_of1 hT hC
    obtain ⟨v0, v1, rfl⟩ := len2 hl
    obtain rfl : v0 = V.ref p := hT.fact fun F o s ⟨_, _, _, _, _, c, _⟩ => (hC F H _ s c).1
    have hU : (A.deeper (PyProof.Rows.envOfC "_law_draw" (defScope s__law_draw) s.heap.objs.size ad.a__law_draw cdv)).units + 64 < cLine := Nat.lt_of_le_of_lt (by omega) hr.un
    have tk : Takes (cxOf (L2.CX P w) P w K mg base N__law_draw "_law_draw" (defScope s__law_draw) ad.a__law_draw cdv A outer s H E) (fun cls d _ H => E cls d H) := takes_of rfl rfl rfl rfl
    refine ⟨_, (pss_cons (ps_asg (pe_op op_add (pe_ix (ixK K rfl) (pv 0) pe_int (fun _ _ => rfl)) pe_int) (pg_sub (pv 0) pe_int set_list)) (pss_cons (ps_set (i := 2) sc__law_draw.nd rfl (Or.inl rfl) (pe_op op_mod (pe_op op_powA (pe_op op_add (pe_op op_add (pe_ix (ixK K rfl) (pv 0) pe_int (fun _ _ => rfl)) (pe_op op_mulA (pe_op op_mulA pe_int (pe_ix (ixK K rfl) (pv 0) pe_int (fun _ _ => rfl))) (pe_ix (ixK K rfl) (pv 0) pe_int (fun _ _ => rfl)))) pe_int) pe_int) pe_int)) (pss_cons (ps_asg (pe_op op_mod (pe_op op_add (pe_op op_mulA (pv 2) pe_int) (pe_op op_mulA pe_int (pe_ix (ixK K rfl) (pv 0) pe_int (fun _ _ => rfl)))) pe_int) (pg_sub (pv 0) pe_int set_list)) (pss_cons (ps_set (i := 3) sc__law_draw.nd rfl (Or.inl rfl) (pe_op op_mod (pe_op op_fdivW (pe_ix (ixK K rfl) (pv 0) pe_int (fun _ _ => rfl)) pe_int) (pv 1))) (pss_cons (ps_if (pt_cmpR op_gt (pe_ix (ixK K rfl) (pv 0) pe_int (fun _ _ => rfl)) pe_int (nomark _)) (pss_cons (ps_set (i := 3) sc__law_draw.nd rfl (Or.inl rfl) (pe_op op_mod (pe_ix (ixK K rfl) (pv 0) pe_int (fun _ _ => rfl)) (pv 1))) (pss_cons (ps_asg (pe_op op_fdivW (pe_ix (ixK K rfl) (pv 0) pe_int (fun _ _ => rfl)) (pv 1)) (pg_sub (pv 0) pe_int set_list)) pss_nil)) pss_nil) (pss_cons (ps_ret (pv 3)) pss_nil)))))), ?_⟩
    refine fin1W (K := K) (Ex := E) (ec := ecOf ad) (i := 0) (Γ := [cAt p (pool_p.map dat), cV (PyData.int many_p), cAny, cAny]) (Γr := fun b : (Int × List Int) => [cAt p (b.2.map dat), cAny, cAny, cAny]) (i1 := fun b => (b.2.map dat)) (c := c__law_draw) hT (lt_len rfl) rfl (fun F o s c => ⟨fun _ => trivial, fun _ => (hC F H o s c).2.1, fun _ => trivial, fun _ => trivial, trivial⟩) (fun _ => rfl) hw (EvS.is (Δ := [cAt p (pool_p.map dat), cV (PyData.int many_p), cAny, cAny]) rfl ?_)
    exact (es_seq (es_setitem (a := fun g_113 : Int => g_113) (k := fun (g_113 : Int) (d_114 : Int) => d_114) (xs := fun (g_113 : Int) (d_114 : Int) => pool_p) (Γ2 := fun (g_113 : Int) (d_114 : Int) => [cAt p (pool_p.map dat), cV (PyData.int many_p), cAny, cAny]) own_At (ev_op (evp_op (ev_slot (i := 0) rfl no_At) ev_int (r2_ix (pa_S (pa_own own_At rfl)))) (fun (x_111 : Int) => (ev_pure (a := 1) (cc := fun r : Int => rV (PyData.int r)) ev_int)) (fun (x_111 : Int) (y_112 : Int) => (r2_to (x_111 + y_112) (Γ' := fun r : Int => [cAt p (pool_p.map dat), cV (PyData.int many_p), cAny, cAny]) (c := fun r : Int => rV (PyData.int r)) r2_I0))) (fun _ => fz_v) (fun g_113 => (ev_pure (a := 2) (cc := fun r : Int => rV (PyData.int r)) ev_int)) (fun _ => ⟨_, rfl⟩) (fun _ _ => rfl)) fun (r_116 : (Int × Int × (List Int))) => by exact EvS.is (Δ := [cAt p (r_116.2.2.map dat), cV (PyData.int many_p), cAny, cAny]) rfl (es_seq (es_asg (ev_op (ev_op (ev_op (ev_op (evp_op (ev_slot (i := 0) rfl no_At) ev_int (r2_ix (pa_S (pa_own own_At rfl)))) (fun (x_123 : Int) => (ev_op (ev_op (ev_pure (a := 7) (cc := fun r : Int => rV (PyData.int r)) ev_int) (fun (x_124 : Int) => (evp_op (ev_slot (i := 0) rfl no_At) ev_int (r2_ix (pa_S (pa_own own_At rfl))))) (fun (x_124 : Int) (y_125 : Int) => r2_mulA)) (fun (x_127 : Int) => (evp_op (ev_slot (i := 0) rfl no_At) ev_int (r2_ix (pa_S (pa_own own_At rfl))))) (fun (x_127 : Int) (y_128 : Int) => r2_mulA))) (fun (x_123 : Int) (y_130 : Int) => (r2_to (x_123 + y_130) (Γ' := fun r : Int => [cAt p (r_116.2.2.map dat), cV (PyData.int many_p), cAny, cAny]) (c := fun r : Int => rV (PyData.int r)) r2_I0))) (fun (x_131 : Int) => (ev_pure (a := 1) (cc := fun r : Int => rV (PyData.int r)) ev_int)) (fun (x_131 : Int) (y_132 : Int) => (r2_to (x_131 + y_132) (Γ' := fun r : Int => [cAt p (r_116.2.2.map dat), cV (PyData.int many_p), cAny, cAny]) (c := fun r : Int => rV (PyData.int r)) r2_I0))) (fun (x_133 : Int) => (ev_pure (a := 2) (cc := fun r : Int => rV (PyData.int r)) ev_int)) (fun (x_133 : Int) (y_134 : Int) => r2_powA)) (fun (x_136 : Int) => (ev_pure (a := 2147483587) (cc := fun r : Int => rV (PyData.int r)) ev_int)) (fun (x_136 : Int) (y_137 : Int) => r2_mod)) (fun _ => sto_v) (fun _ => lt_len rfl)) fun (r_139 : Int) => by exact EvS.is (Δ := [cAt p (r_116.2.2.map dat), cV (PyData.int many_p), cV (PyData.int r_139), cAny]) rfl (es_seq (es_setitem (a := fun g_151 : Int => g_151) (k := fun (g_151 : Int) (d_152 : Int) => d_152) (xs := fun (g_151 : Int) (d_152 : Int) => r_116.2.2) (Γ2 := fun (g_151 : Int) (d_152 : Int) => [cAt p (r_116.2.2.map dat), cV (PyData.int many_p), cV (PyData.int r_139), cAny]) own_At (ev_op (ev_op (evp_op (ev_var rfl) ev_int r2_mulA) (fun (x_143 : Int) => (ev_op (ev_pure (a := 40692) (cc := fun r : Int => rV (PyData.int r)) ev_int) (fun (x_144 : Int) => (evp_op (ev_slot (i := 0) rfl no_At) ev_int (r2_ix (pa_S (pa_own own_At rfl))))) (fun (x_144 : Int) (y_145 : Int) => r2_mulA))) (fun (x_143 : Int) (y_147 : Int) => (r2_to (x_143 + y_147) (Γ' := fun r : Int => [cAt p (r_116.2.2.map dat), cV (PyData.int many_p), cV (PyData.int r_139), cAny]) (c := fun r : Int => rV (PyData.int r)) r2_I0))) (fun (x_148 : Int) => (ev_pure (a := 2147483629) (cc := fun r : Int => rV (PyData.int r)) ev_int)) (fun (x_148 : Int) (y_149 : Int) => r2_mod)) (fun _ => fz_v) (fun g_151 => (ev_pure (a := 1) (cc := fun r : Int => rV (PyData.int r)) ev_int)) (fun _ => ⟨_, rfl⟩) (fun _ _ => rfl)) fun (r_154 : (Int × Int × (List Int))) => by exact EvS.is (Δ := [cAt p (r_154.2.2.map dat), cV (PyData.int many_p), cV (PyData.int r_139), cAny]) rfl (es_seq (es_asg (ev_op (ev_op (evp_op (ev_slot (i := 0) rfl no_At) ev_int (r2_ix (pa_S (pa_own own_At rfl)))) (fun (x_155 : Int) => (ev_pure (a := 64) (cc := fun r : Int => rV (PyData.int r)) ev_int)) (fun (x_155 : Int) (y_156 : Int) => r2_div)) (fun (x_158 : Int) => (ev_pure (a := many_p) (cc := fun r : Int => rV (PyData.int r)) (ev_var rfl))) (fun (x_158 : Int) (y_159 : Int) => r2_mod)) (fun _ => sto_v) (fun _ => lt_len rfl)) fun (r_161 : Int) => by exact EvS.is (Δ := [cAt p (r_154.2.2.map dat), cV (PyData.int many_p), cV (PyData.int r_139), cV (PyData.int r_161)]) rfl (es_seq (Γ1 := fun j_187 : ((List Int) × Int) => [cAt p (j_187.1.map dat), cV (PyData.int many_p), cV (PyData.int r_139), cV (PyData.int j_187.2)]) (es_ifM (b := fun c_164 : Bool => c_164) (et_val (b := fun r : Bool => r) (ev_op (evp_op (ev_slot (i := 0) rfl no_At) ev_int (r2_ix (pa_S (pa_own own_At rfl)))) (fun (x_162 : Int) => (ev_pure (a := 0) (cc := fun r : Int => rV (PyData.int r)) ev_int)) (fun (x_162 : Int) (y_163 : Int) => (r2_to (decide (y_163 < x_162)) (Γ' := fun r : Bool => [cAt p (r_154.2.2.map dat), cV (PyData.int many_p), cV (PyData.int r_139), cV (PyData.int r_161)]) (c := fun r : Bool => rV (PyData.bool r)) r2_B0)))) (fun c_164 => by exact (es_seq (es_asg (ev_op (evp_op (ev_slot (i := 0) rfl no_At) ev_int (r2_ix (pa_S (pa_own own_At rfl)))) (fun (x_176 : Int) => (ev_pure (a := many_p) (cc := fun r : Int => rV (PyData.int r)) (ev_var rfl))) (fun (x_176 : Int) (y_177 : Int) => r2_mod)) (fun _ => sto_v) (fun _ => lt_len rfl)) fun (r_179 : Int) => by exact EvS.is (Δ := [cAt p (r_154.2.2.map dat), cV (PyData.int many_p), cV (PyData.int r_139), cV (PyData.int r_179)]) rfl (es_seq (es_setitem (a := fun g_183 : Int => g_183) (k := fun (g_183 : Int) (d_184 : Int) => d_184) (xs := fun (g_183 : Int) (d_184 : Int) => r_154.2.2) (Γ2 := fun (g_183 : Int) (d_184 : Int) => [cAt p (r_154.2.2.map dat), cV (PyData.int many_p), cV (PyData.int r_139), cV (PyData.int r_179)]) own_At (ev_op (evp_op (ev_slot (i := 0) rfl no_At) ev_int (r2_ix (pa_S (pa_own own_At rfl)))) (fun (x_180 : Int) => (ev_pure (a := many_p) (cc := fun r : Int => rV (PyData.int r)) (ev_var rfl))) (fun (x_180 : Int) (y_181 : Int) => r2_div)) (fun _ => fz_v) (fun g_183 => (ev_pure (a := 0) (cc := fun r : Int => rV (PyData.int r)) ev_int)) (fun _ => ⟨_, rfl⟩) (fun _ _ => rfl)) fun (r_186 : (Int × Int × (List Int))) => by exact EvS.is (Δ := [cAt p (r_186.2.2.map dat), cV (PyData.int many_p), cV (PyData.int r_139), cV (PyData.int r_179)]) rfl (es_end (b := (r_186.2.2, r_179)) rfl (.same (.same (.same (.same .nil)))))))) (fun c_164 => by exact (es_end (b := (r_154.2.2, r_161)) rfl (.same (.same (.same (.same .nil))))))) fun (j_187 : ((List Int) × Int)) => by exact (es_retP (b := (j_187.2, j_187.1)) (ev_var rfl) rfl (ret_le (.same (.any (.any (.any (.nil))))))))))))
abbrev N__law_begun : List Str := ["pool", "script", "many", "wide", "k"]
theorem sc__law_begun : FnScope N__law_begun ["pool", "script"] (defScope s__law_begun) := ⟨rfl, rfl, rfl, by decide +kernel, rfl, by decide +kernel, by decide +kernel⟩
def m__law_begun (pool_p : (List Int)) (script_p : (List Int)) : Res ((List Int) × List Int) :=
  noErr (if (eqD (script_p : (List Int)) (([] : (List Int)) : (List Int))) then (((rangeR 0 3).bind fun a_189 => compR a_189 pool_p [] fun s_191 x_190 => (m__law_draw s_191 3).bind fun r_192 => Res.ok (some r_192.1, r_192.2)).bind fun r_193 => Res.ok (r_193.1, r_193.2)) else (((((Res.ok (1 : Int)).bind fun x_198 => (m__law_draw pool_p 5).bind fun y_199 => Res.ok ((x_198 + y_199.1), y_199.2)).bind fun a_200 => (((Res.ok (1 : Int)).bind fun x_201 => (m__law_draw a_200.2 30).bind fun y_202 => Res.ok ((x_201 + y_202.1), y_202.2)).bind fun a_203 => ((Res.ok (30 : Int)).bind fun a_204 => (Res.ok ()).bind fun r_205 => Res.ok (a_204, r_205)).bind fun r_206 => Res.ok (a_203, r_206)).bind fun r_207 => Res.ok (a_200, r_207)).bind fun x_208 => (m__law_draw x_208.2.1.2 3).bind fun y_209 => ((getI ([x_208.1.1, x_208.2.1.1, x_208.2.2.1] : List Int) y_209.1)).bind fun z_210 => Res.ok (z_210, y_209.2)).bind fun r_211 => (((Res.ok (([1, 3, 12, (1000000000000000000000000000000 + 1)] : List Int) : (List Int))).bind fun x_212 => (m__law_draw r_211.2 4).bind fun y_213 => ((getI x_212 y_213.1)).bind fun z_214 => Res.ok (z_214, y_213.2)).bind fun r_215 => (((rangeR 0 r_211.1).bind fun a_216 => compR a_216 r_215.2 [] fun s_218 x_217 => (m__law_draw s_218 r_215.1).bind fun r_219 => Res.ok (some r_219.1, r_219.2)).bind fun r_220 => Res.ok (r_220.1, r_220.2)))))
abbrev ps__law_begun (K : PySem.W.Frag) (p : Addr) (x : (List Int) × (List Int)) : List PP := [ppAt p, ppS K (x.2.map dat)]
abbrev c__law_begun (b : ((List Int) × List Int)) : V → Asr := oV (b.1.map dat)
set_option maxHeartbeats 1600000 in
theorem ok__law_begun (T : Txt K mg ad) : FnG gp P w K mg base (L2.CX P w) 2 ad.a__law_begun ad.d__law_begun ["pool", "script"] (Sp1 (ecOf ad) (ps__law_begun K) (fun x : (List Int) × (List Int) => (x.1.map dat)) (fun x => m__law_begun x.1 x.2) (fun b => (b.2.map dat)) c__law_begun) := by
  have G__law_draw : FnG gp P w K mg base (L2.CX P w) 1 ad.a__law_draw ad.d__law_draw ["pool", "many"] (Sp1 (ecOf ad) (ps__law_draw K) (fun x : (List Int) × Int => (x.1.map dat)) (fun x => m__law_draw x.1 x.2) (fun b => (b.2.map dat)) c__law_draw) := ok__law_draw T
  refine T.F__law_begun.okX sc__law_begun (fun vs H Q E h => sp1_go h fun p x C hT hC hw => ?_) (fun cdv A outer s H vs Q E hr h => sp1_go h fun p x C hT hC hw => ?_)
  · exact len_of1 hT (hC)
  · obtain ⟨pool_p, script_p⟩ := x
    have hl : vs.length = 2 := len_of1 hT hC
    obtain ⟨v0, v1, rfl⟩ := len2 hl
    have h1 : Bw (Ecf K E (ecOf ad) C) v1 (ppS K (script_p.map dat)) := fun F H o s c => (hC F H o s c).2.1
    obtain rfl : v0 = V.ref p := hT.fact fun F o s ⟨_, _, _, _, _, c, _⟩ => (hC F H _ s c).1
    have hU : (A.deeper (PyProof.Rows.envOfC "_law_begun" (defScope s__law_begun) s.heap.objs.size ad.a__law_begun cdv)).units + 64 < cLine := Nat.lt_of_le_of_lt (by omega) hr.un
    have tk : Takes (cxOf (L2.CX P w) P w K mg base N__law_begun "_law_begun" (defScope s__law_begun) ad.a__law_begun cdv A outer s H E) (fun cls d _ H => E cls d H) := takes_of rfl rfl rfl rfl
    refine ⟨_, (pss_cons (ps_if (pt_cmpR (eqDK K rfl hU) (pv 1) (pe_lst pa_nil) (nomark _)) (pss_cons (ps_ret (pe_lc (own := [("k", 4)]) rfl sc__law_begun.nd (pi_range1 (by rfl) T.z_range (pa_cons pe_int pa_nil)) (blkOk_by (own := [("k", 4)]) (N := N__law_begun) (sc := defScope s__law_begun) (by decide +kernel)) (fun _ _ _ _ _ => (pg_name (i := 4) sc__law_begun.nd rfl (Or.inl rfl) (.inr rfl))) (fun _ _ _ _ _ => pts_nil) (fun _ _ _ _ _ => (pe_callG0 G__law_draw (hr.mono (by decide)) (by rfl) T.g__law_draw T.F__law_draw.kp T.b__law_draw .nil passL (pa_cons (pv 0) (pa_cons pe_int pa_nil)))))) pss_nil) pss_nil) (pss_cons (ps_set (i := 2) sc__law_begun.nd rfl (Or.inl rfl) (pe_ix (ixK K rfl) (pe_lst (pa_cons (pe_op op_add pe_int (pe_callG G__law_draw (hr.mono (by decide)) (by rfl) T.g__law_draw T.F__law_draw.kp T.b__law_draw (fun σ => passAt tk σ) (pa_cons (pv 0) (pa_cons pe_int pa_nil)))) (pa_cons (pe_op op_add pe_int (pe_callG G__law_draw (hr.mono (by decide)) (by rfl) T.g__law_draw T.F__law_draw.kp T.b__law_draw (fun σ => passAt tk σ) (pa_cons (pv 0) (pa_cons pe_int pa_nil)))) (pa_cons pe_int pa_nil)))) (pe_callG G__law_draw (hr.mono (by decide)) (by rfl) T.g__law_draw T.F__law_draw.kp T.b__law_draw (fun σ => passAt tk σ) (pa_cons (pv 0) (pa_cons pe_int pa_nil))) (fun _ _ => rfl))) (pss_cons (ps_set (i := 3) sc__law_begun.nd rfl (Or.inr rfl) (pe_ix (ixK K rfl) (pe_lst (pa_cons pe_int (pa_cons pe_int (pa_cons pe_int (pa_cons (pe_op op_add (pe_op op_pow pe_int pe_int) pe_int) pa_nil))))) (pe_callG G__law_draw (hr.mono (by decide)) (by rfl) T.g__law_draw T.F__law_draw.kp T.b__law_draw (fun σ => passAt tk σ) (pa_cons (pv 0) (pa_cons pe_int pa_nil))) (fun _ _ => rfl))) (pss_cons (ps_ret (pe_lc (own := [("k", 4)]) rfl sc__law_begun.nd (pi_range1 (by rfl) T.z_range (pa_cons (pv 2) pa_nil)) (blkOk_by (own := [("k", 4)]) (N := N__law_begun) (sc := defScope s__law_begun) (by decide +kernel)) (fun _ _ _ _ _ => (pg_name (i := 4) sc__law_begun.nd rfl (Or.inl rfl) (.inr rfl))) (fun _ _ _ _ _ => pts_nil) (fun _ _ _ _ _ => (pe_callG0 G__law_draw (hr.mono (by decide)) (by rfl) T.g__law_draw T.F__law_draw.kp T.b__law_draw .nil passL (pa_cons (pv 0) (pa_cons (pv 3) pa_nil)))))) pss_nil)))), ?_⟩
    refine fin1W (K := K) (Ex := E) (ec := ecOf ad) (i := 0) (Γ := [cAt p (pool_p.map dat), cIs v1, cAny, cAny, cAny]) (Γr := fun b : ((List Int) × List Int) => [cAt p (b.2.map dat), cAny, cAny, cAny, cAny]) (i1 := fun b => (b.2.map dat)) (c := c__law_begun) hT (lt_len rfl) rfl (fun F o s c => ⟨fun _ => trivial, fun _ => rfl, fun _ => trivial, fun _ => trivial, fun _ => trivial, trivial⟩) (fun _ => rfl) hw (EvS.is (Δ := [cAt p (pool_p.map dat), cIs v1, cAny, cAny, cAny]) rfl ?_)
    exact (es_ifT (et_val (b := fun _ => (eqD (script_p : (List Int)) (([] : (List Int)) : (List Int)))) (evp_op (ev_slot (i := 1) rfl no_Is) (evp_lst (ds := []) eap_nil .nil) (r2_eq (pa_D (pa_bw rfl h1)) (pa_D (pa_S pa_lo)) (shp (α := (List Int)) (a := script_p)) (shp (α := (List Int)) (a := ([] : (List Int))))))) (by exact (es_ret (g := fun r_193 : (List Int × (List Int)) => (r_193.1, r_193.2)) (el_comp (xs := fun a_189 : (List Int) => a_189) (Γs := fun s_191 : (List Int) => [cAt p (s_191.map dat), cIs v1, cAny, cAny, cAny]) (Γt := fun (s_191 : (List Int)) (x_190 : Int) => [cAt p (s_191.map dat), cIs v1, cAny, cAny, cV (PyData.int x_190)]) (s0 := fun a_189 => pool_p) (ei_range1 (eap_cons ev_int eap_nil)) (fun _ _ => trivial) (fun a_189 => (.same (.same (.same (.same (.same .nil)))))) (fun s_191 => (hv_cons rfl hv_nil)) (fun s_191 x_190 => (eg_name (lt_len rfl))) (by decide) (fun s_191 x_190 => elj_yes (b := fun r_192 : (Int × List Int) => r_192.1) (s := fun r_192 => r_192.2) (evp_call01 (i := 0) (s_191, 3) own_At (eap_cons (ev_slot (i := 0) rfl no_At) (eap_cons ev_int eap_nil)) rfl (fun _ => (pars_cons pa_at (pars_cons pa_v pars_nil))) xok_calm calm_calm) (fun _ => fz_v) (fun r_192 => (.same (.same (.same (.same (.any (.nil))))))))) (fun _ => rfl) (fun r_193 => (ret_le (.same (.any (.same (.same (.same .nil))))))))) (by exact (es_seq (es_asg (ev_op (ev_lst (ds := fun p : ((Int × List Int) × (Int × List Int) × Int × Unit) => [(PyData.int p.1.1), (PyData.int p.2.1.1), (PyData.int p.2.2.1)]) (ea_cons (Γ1 := fun (a_200 : (Int × List Int)) => [cAt p (a_200.2.map dat), cIs v1, cAny, cAny, cAny]) (ev_op (ev_pure (a := 1) (cc := fun r : Int => rV (PyData.int r)) ev_int) (fun (x_198 : Int) => (evp_callS1 (i := 0) (pool_p, 5) own_At (eap_cons (ev_slot (i := 0) rfl no_At) (eap_cons ev_int eap_nil)) rfl (fun _ => (pars_cons pa_at (pars_cons pa_v pars_nil))) xok_emp)) (fun (x_198 : Int) (y_199 : (Int × List Int)) => (r2_to ((x_198 + y_199.1), y_199.2) (Γ' := fun r : (Int × List Int) => [cAt p (r.2.map dat), cIs v1, cAny, cAny, cAny]) (c := fun r : (Int × List Int) => rV (PyData.int r.1)) r2_I0))) fun (a_200 : (Int × List Int)) => (ea_cons (Γ1 := fun (a_203 : (Int × List Int)) => [cAt p (a_203.2.map dat), cIs v1, cAny, cAny, cAny]) (ev_op (ev_pure (a := 1) (cc := fun r : Int => rV (PyData.int r)) ev_int) (fun (x_201 : Int) => (evp_callS1 (i := 0) (a_200.2, 30) own_At (eap_cons (ev_slot (i := 0) rfl no_At) (eap_cons ev_int eap_nil)) rfl (fun _ => (pars_cons pa_at (pars_cons pa_v pars_nil))) xok_emp)) (fun (x_201 : Int) (y_202 : (Int × List Int)) => (r2_to ((x_201 + y_202.1), y_202.2) (Γ' := fun r : (Int × List Int) => [cAt p (r.2.map dat), cIs v1, cAny, cAny, cAny]) (c := fun r : (Int × List Int) => rV (PyData.int r.1)) r2_I0))) fun (a_203 : (Int × List Int)) => (ea_cons (Γ1 := fun (a_204 : Int) => [cAt p (a_203.2.map dat), cIs v1, cAny, cAny, cAny]) (ev_pure (a := 30) (cc := fun r : Int => rV (PyData.int r)) ev_int) fun (a_204 : Int) => ea_nil))) fun p => (.cons fz_v (.cons fz_v (.cons fz_v .nil)))) (fun (x_208 : ((Int × List Int) × (Int × List Int) × Int × Unit)) => (evp_callS1 (i := 0) (x_208.2.1.2, 3) own_At (eap_cons (ev_slot (i := 0) rfl no_At) (eap_cons ev_int eap_nil)) rfl (fun _ => (pars_cons pa_at (pars_cons pa_v pars_nil))) xok_emp)) (fun (x_208 : ((Int × List Int) × (Int × List Int) × Int × Unit)) (y_209 : (Int × List Int)) => (r2_map (fun z_210 => (z_210, y_209.2)) (Γ' := fun r : (Int × List Int) => [cAt p (r.2.map dat), cIs v1, cAny, cAny, cAny]) (c := fun r : (Int × List Int) => rV (PyData.int r.1)) (r2_ix (pa_S pa_lo))))) (fun _ => sto_v) (fun _ => lt_len rfl)) fun (r_211 : (Int × List Int)) => by exact EvS.is (Δ := [cAt p (r_211.2.map dat), cIs v1, cV (PyData.int r_211.1), cAny, cAny]) rfl (es_seq (es_asg (ev_op (ev_pure (a := ([1, 3, 12, (1000000000000000000000000000000 + 1)] : List Int)) (cc := fun r : (List Int) => rO (r.map dat)) (evp_lst (ds := [(PyData.int 1), (PyData.int 3), (PyData.int 12), (PyData.int (1000000000000000000000000000000 + 1))]) (eap_cons ev_int (eap_cons ev_int (eap_cons ev_int (eap_cons (evp_op (evp_op ev_int ev_int (r2_pow (k := 1000000000000000000000000000000) (by unfold CPow; decide +kernel) (by decide +kernel))) ev_int r2_I0) eap_nil)))) (.cons fz_v (.cons fz_v (.cons fz_v (.cons fz_v .nil)))))) (fun (x_212 : (List Int)) => (evp_callS1 (i := 0) (r_211.2, 4) own_At (eap_cons (ev_slot (i := 0) rfl no_At) (eap_cons ev_int eap_nil)) rfl (fun _ => (pars_cons pa_at (pars_cons pa_v pars_nil))) xok_emp)) (fun (x_212 : (List Int)) (y_213 : (Int × List Int)) => (r2_map (fun z_214 => (z_214, y_213.2)) (Γ' := fun r : (Int × List Int) => [cAt p (r.2.map dat), cIs v1, cV (PyData.int r_211.1), cAny, cAny]) (c := fun r : (Int × List Int) => rV (PyData.int r.1)) (r2_ix (pa_S pa_lo))))) (fun _ => sto_v) (fun _ => lt_len rfl)) fun (r_215 : (Int × List Int)) => by exact EvS.is (Δ := [cAt p (r_215.2.map dat), cIs v1, cV (PyData.int r_211.1), cV (PyData.int r_215.1), cAny]) rfl (es_ret (g := fun r_220 : (List Int × (List Int)) => (r_220.1, r_220.2)) (el_comp (xs := fun a_216 : (List Int) => a_216) (Γs := fun s_218 : (List Int) => [cAt p (s_218.map dat), cIs v1, cV (PyData.int r_211.1), cV (PyData.int r_215.1), cAny]) (Γt := fun (s_218 : (List Int)) (x_217 : Int) => [cAt p (s_218.map dat), cIs v1, cV (PyData.int r_211.1), cV (PyData.int r_215.1), cV (PyData.int x_217)]) (s0 := fun a_216 => r_215.2) (ei_range1 (eap_cons (ev_var rfl) eap_nil)) (fun _ _ => trivial) (fun a_216 => (.same (.same (.same (.same (.same .nil)))))) (fun s_218 => (hv_cons rfl hv_nil)) (fun s_218 x_217 => (eg_name (lt_len rfl))) (by decide) (fun s_218 x_217 => elj_yes (b := fun r_219 : (Int × List Int) => r_219.1) (s := fun r_219 => r_219.2) (evp_call01 (i := 0) (s_218, r_215.1) own_At (eap_cons (ev_slot (i := 0) rfl no_At) (eap_cons (ev_var rfl) eap_nil)) rfl (fun _ => (pars_cons pa_at (pars_cons pa_v pars_nil))) xok_calm calm_calm) (fun _ => fz_v) (fun r_219 => (.same (.same (.same (.same (.any (.nil))))))))) (fun _ => rfl) (fun r_220 => (ret_le (.same (.any (.any (.any (.same .nil))))))))))))
abbrev N__law_cards : List Str := ["pool", "script", "many", "wide", "found", "style", "k"]
theorem sc__law_cards : FnScope N__law_cards ["pool", "script"] (defScope s__law_cards) := ⟨rfl, rfl, rfl, by decide +kernel, rfl, by decide +kernel, by decide +kernel⟩
def m__law_cards (pool_p : (List Int)) (script_p : (List Int)) : Res ((List Int) × List Int) :=
  noErr (if (eqD (script_p : (List Int)) (([] : (List Int)) : (List Int))) then (((rangeR 0 5).bind fun a_222 => compR a_222 pool_p [] fun s_224 x_223 => ((Res.ok (1 : Int)).bind fun x_227 => (m__law_draw s_224 4).bind fun y_228 => Res.ok ((x_227 + y_228.1), y_228.2)).bind fun r_229 => Res.ok (some r_229.1, r_229.2)).bind fun r_230 => Res.ok (r_230.1, r_230.2)) else ((((m__law_draw pool_p 9).bind fun a_231 => ((m__law_draw a_231.2 201).bind fun a_232 => ((Res.ok (200 : Int)).bind fun a_233 => (Res.ok ()).bind fun r_234 => Res.ok (a_233, r_234)).bind fun r_235 => Res.ok (a_232, r_235)).bind fun r_236 => Res.ok (a_231, r_236)).bind fun x_237 => (m__law_draw x_237.2.1.2 3).bind fun y_238 => ((getI ([x_237.1.1, x_237.2.1.1, x_237.2.2.1] : List Int) y_238.1)).bind fun z_239 => Res.ok (z_239, y_238.2)).bind fun r_240 => (((Res.ok (([1, 2, 5, 40, 1000000000000000000000000000000] : List Int) : (List Int))).bind fun x_241 => (m__law_draw r_240.2 5).bind fun y_242 => ((getI x_241 y_242.1)).bind fun z_243 => Res.ok (z_243, y_242.2)).bind fun r_244 => ((((rangeR 0 r_240.1).bind fun a_253 => compR a_253 r_244.2 [] fun s_255 x_254 => ((Res.ok (1 : Int)).bind fun x_258 => (m__law_draw s_255 r_244.1).bind fun y_259 => Res.ok ((x_258 + y_259.1), y_259.2)).bind fun r_260 => Res.ok (some r_260.1, r_260.2)).bind fun a_261 => ((m__law_draw a_261.2 3).bind fun a_262 => (Res.ok ()).bind fun r_263 => Res.ok (a_262, r_263)).bind fun r_264 => Res.ok (a_261, r_264)).bind fun r_266 => ((if ((!eqD (r_266.1.1 : (List Int)) (([] : (List Int)) : (List Int))) && (decide (r_266.2.1.1 = 1))) then ((((Res.ok (1 : Int)).bind fun x_274 => (m__law_draw r_266.2.1.2 1000000000000000000000000000000).bind fun y_275 => Res.ok ((x_274 + y_275.1), y_275.2)).bind fun g_276 => (m__law_draw g_276.2 r_240.1).bind fun d_277 => (setR r_266.1.1 d_277.1 g_276.1).bind fun ys_278 => Res.ok (g_276, d_277, ys_278)).bind fun r_279 => (Res.ok (r_279.2.1.2, r_279.2.2))) else (Res.ok (r_266.2.1.2, r_266.1.1))).bind fun j_280 => (Res.ok (j_280.2, j_280.1)))))))
abbrev ps__law_cards (K : PySem.W.Frag) (p : Addr) (x : (List Int) × (List Int)) : List PP := [ppAt p, ppS K (x.2.map dat)]
abbrev c__law_cards (b : ((List Int) × List Int)) : V → Asr := oV (b.1.map dat)
set_option maxHeartbeats 1600000 in
theorem ok__law_cards (T : Txt K mg ad) : FnG gp P w K mg base (L2.CX P w) 2 ad.a__law_cards ad.d__law_cards ["pool", "script"] (Sp1 (ecOf ad) (ps__law_cards K) (fun x : (List Int) × (List Int) => (x.1.map dat)) (fun x => m__law_cards x.1 x.2) (fun b => (b.2.map dat)) c__law_cards) := by
  have G__law_draw : FnG gp P w K mg base (L2.CX P w) 1 ad.a__law_draw ad.d__law_draw ["pool", "many"] (Sp1 (ecOf ad) (ps__law_draw K) (fun x : (List Int) × Int => (x.1.map dat)) (fun x => m__law_draw x.1 x.2) (fun b => (b.2.map dat)) c__law_draw) := ok__law_draw T
  refine T.F__law_cards.okX sc__law_cards (fun vs H Q E h => sp1_go h fun p x C hT hC hw => ?_) (fun cdv A outer s H vs Q E hr h => sp1_go h fun p x C hT hC hw => ?_)
  · exact len_of1 hT (hC)
  · obtain ⟨pool_p, script_p⟩ := x
    have hl : vs.length = 2 := len_of1 hT hC
    obtain ⟨v0, v1, rfl⟩ := len2 hl
    have h1 : Bw (Ecf K E (ecOf ad) C) v1 (ppS K (script_p.map dat)) := fun F H o s c => (hC F H o s c).2.1
    obtain rfl : v0 = V.ref p := hT.fact fun F o s ⟨_, _, _, _, _, c, _⟩ => (hC F H _ s c).1
    have hU : (A.deeper (PyProof.Rows.envOfC "_law_cards" (defScope s__law_cards) s.heap.objs.size ad.a__law_cards cdv)).units + 64 < cLine := Nat.lt_of_le_of_lt (by omega) hr.un
    have tk : Takes (cxOf (L2.CX P w) P w K mg base N__law_cards "_law_cards" (defScope s__law_cards) ad.a__law_cards cdv A outer s H E) (fun cls d _ H => E cls d H) := takes_of rfl rfl rfl rfl
    refine ⟨_, (pss_cons (ps_if (pt_cmpR (eqDK K rfl hU) (pv 1) (pe_lst pa_nil) (nomark _)) (pss_cons (ps_ret (pe_lc (own := [("k", 6)]) rfl sc__law_cards.nd (pi_range1 (by rfl) T.z_range (pa_cons pe_int pa_nil)) (blkOk_by (own := [("k", 6)]) (N := N__law_cards) (sc := defScope s__law_cards) (by decide +kernel)) (fun _ _ _ _ _ => (pg_name (i := 6) sc__law_cards.nd rfl (Or.inl rfl) (.inr rfl))) (fun _ _ _ _ _ => pts_nil) (fun _ _ _ _ _ => (pe_op op_add pe_int (pe_callG0 G__law_draw (hr.mono (by decide)) (by rfl) T.g__law_draw T.F__law_draw.kp T.b__law_draw .nil passL (pa_cons (pv 0) (pa_cons pe_int pa_nil))))))) pss_nil) pss_nil) (pss_cons (ps_set (i := 2) sc__law_cards.nd rfl (Or.inl rfl) (pe_ix (ixK K rfl) (pe_lst (pa_cons (pe_callG G__law_draw (hr.mono (by decide)) (by rfl) T.g__law_draw T.F__law_draw.kp T.b__law_draw (fun σ => passAt tk σ) (pa_cons (pv 0) (pa_cons pe_int pa_nil))) (pa_cons (pe_callG G__law_draw (hr.mono (by decide)) (by rfl) T.g__law_draw T.F__law_draw.kp T.b__law_draw (fun σ => passAt tk σ) (pa_cons (pv 0) (pa_cons pe_int pa_nil))) (pa_cons pe_int pa_nil)))) (pe_callG G__law_draw (hr.mono (by decide)) (by rfl) T.g__law_draw T.F__law_draw.kp T.b__law_draw (fun σ => passAt tk σ) (pa_cons (pv 0) (pa_cons pe_int pa_nil))) (fun _ _ => rfl))) (pss_cons (ps_set (i := 3) sc__law_cards.nd rfl (Or.inr rfl) (pe_ix (ixK K rfl) (pe_lst (pa_cons pe_int (pa_cons pe_int (pa_cons pe_int (pa_cons pe_int (pa_cons (pe_op op_pow pe_int pe_int) pa_nil)))))) (pe_callG G__law_draw (hr.mono (by decide)) (by rfl) T.g__law_draw T.F__law_draw.kp T.b__law_draw (fun σ => passAt tk σ) (pa_cons (pv 0) (pa_cons pe_int pa_nil))) (fun _ _ => rfl))) (pss_cons (ps_par (i := 4) (j := 5) rfl sc__law_cards.nd rfl rfl (by decide) rfl rfl (pa_cons (pe_lc (own := [("k", 6)]) rfl sc__law_cards.nd (pi_range1 (by rfl) T.z_range (pa_cons (pv 2) pa_nil)) (blkOk_by (own := [("k", 6)]) (N := N__law_cards) (sc := defScope s__law_cards) (by decide +kernel)) (fun _ _ _ _ _ => (pg_name (i := 6) sc__law_cards.nd rfl (Or.inl rfl) (.inr rfl))) (fun _ _ _ _ _ => pts_nil) (fun _ _ _ _ _ => (pe_op op_add pe_int (pe_callG0 G__law_draw (hr.mono (by decide)) (by rfl) T.g__law_draw T.F__law_draw.kp T.b__law_draw .nil passL (pa_cons (pv 0) (pa_cons (pv 3) pa_nil)))))) (pa_cons (pe_callG G__law_draw (hr.mono (by decide)) (by rfl) T.g__law_draw T.F__law_draw.kp T.b__law_draw (fun σ => passAt tk σ) (pa_cons (pv 0) (pa_cons pe_int pa_nil))) pa_nil)) (by rfl)) (pss_cons (ps_if (PW.pt (pw_and (pt_cmpR (neDK K rfl hU) (pv 4) (pe_lst pa_nil) (nomark _)) (pw_and1 (pt_cmpR op_eq (pv 5) pe_int (nomark _))))) (pss_cons (ps_asg (pe_op op_add pe_int (pe_callG G__law_draw (hr.mono (by decide)) (by rfl) T.g__law_draw T.F__law_draw.kp T.b__law_draw (fun σ => passAt tk σ) (pa_cons (pv 0) (pa_cons (pe_op op_pow pe_int pe_int) pa_nil)))) (pg_sub (pv 4) (pe_callG G__law_draw (hr.mono (by decide)) (by rfl) T.g__law_draw T.F__law_draw.kp T.b__law_draw (fun σ => passAt tk σ) (pa_cons (pv 0) (pa_cons (pv 2) pa_nil))) set_list)) pss_nil) pss_nil) (pss_cons (ps_ret (pv 4)) pss_nil)))))), ?_⟩
    refine fin1W (K := K) (Ex := E) (ec := ecOf ad) (i := 0) (Γ := [cAt p (pool_p.map dat), cIs v1, cAny, cAny, cAny, cAny, cAny]) (Γr := fun b : ((List Int) × List Int) => [cAt p (b.2.map dat), cAny, cAny, cAny, cAny, cAny, cAny]) (i1 := fun b => (b.2.map dat)) (c := c__law_cards) hT (lt_len rfl) rfl (fun F o s c => ⟨fun _ => trivial, fun _ => rfl, fun _ => trivial, fun _ => trivial, fun _ => trivial, fun _ => trivial, fun _ => trivial, trivial⟩) (fun _ => rfl) hw (EvS.is (Δ := [cAt p (pool_p.map dat), cIs v1, cAny, cAny, cAny, cAny, cAny]) rfl ?_)
    exact (es_ifT (et_val (b := fun _ => (eqD (script_p : (List Int)) (([] : (List Int)) : (List Int)))) (evp_op (ev_slot (i := 1) rfl no_Is) (evp_lst (ds := []) eap_nil .nil) (r2_eq (pa_D (pa_bw rfl h1)) (pa_D (pa_S pa_lo)) (shp (α := (List Int)) (a := script_p)) (shp (α := (List Int)) (a := ([] : (List Int))))))) (by exact (es_ret (g := fun r_230 : (List Int × (List Int)) => (r_230.1, r_230.2)) (el_comp (xs := fun a_222 : (List Int) => a_222) (Γs := fun s_224 : (List Int) => [cAt p (s_224.map dat), cIs v1, cAny, cAny, cAny, cAny, cAny]) (Γt := fun (s_224 : (List Int)) (x_223 : Int) => [cAt p (s_224.map dat), cIs v1, cAny, cAny, cAny, cAny, cV (PyData.int x_223)]) (s0 := fun a_222 => pool_p) (ei_range1 (eap_cons ev_int eap_nil)) (fun _ _ => trivial) (fun a_222 => (.same (.same (.same (.same (.same (.same (.same .nil)))))))) (fun s_224 => (hv_cons rfl hv_nil)) (fun s_224 x_223 => (eg_name (lt_len rfl))) (by decide) (fun s_224 x_223 => elj_yes (b := fun r_229 : (Int × List Int) => r_229.1) (s := fun r_229 => r_229.2) (ev_op (ev_pure (a := 1) (cc := fun r : Int => rV (PyData.int r)) ev_int) (fun (x_227 : Int) => (evp_call01 (i := 0) (s_224, 4) own_At (eap_cons (ev_slot (i := 0) rfl no_At) (eap_cons ev_int eap_nil)) rfl (fun _ => (pars_cons pa_at (pars_cons pa_v pars_nil))) xok_calm calm_calm)) (fun (x_227 : Int) (y_228 : (Int × List Int)) => (r2_to ((x_227 + y_228.1), y_228.2) (Γ' := fun r : (Int × List Int) => [cAt p (r.2.map dat), cIs v1, cAny, cAny, cAny, cAny, cV (PyData.int x_223)]) (c := fun r : (Int × List Int) => rV (PyData.int r.1)) r2_I0))) (fun _ => fz_v) (fun r_229 => (.same (.same (.same (.same (.same (.same (.any (.nil))))))))))) (fun _ => rfl) (fun r_230 => (ret_le (.same (.any (.same (.same (.same (.same (.same .nil))))))))))) (by exact (es_seq (es_asg (ev_op (ev_lst (ds := fun p : ((Int × List Int) × (Int × List Int) × Int × Unit) => [(PyData.int p.1.1), (PyData.int p.2.1.1), (PyData.int p.2.2.1)]) (ea_cons (Γ1 := fun (a_231 : (Int × List Int)) => [cAt p (a_231.2.map dat), cIs v1, cAny, cAny, cAny, cAny, cAny]) (evp_callS1 (i := 0) (pool_p, 9) own_At (eap_cons (ev_slot (i := 0) rfl no_At) (eap_cons ev_int eap_nil)) rfl (fun _ => (pars_cons pa_at (pars_cons pa_v pars_nil))) xok_emp) fun (a_231 : (Int × List Int)) => (ea_cons (Γ1 := fun (a_232 : (Int × List Int)) => [cAt p (a_232.2.map dat), cIs v1, cAny, cAny, cAny, cAny, cAny]) (evp_callS1 (i := 0) (a_231.2, 201) own_At (eap_cons (ev_slot (i := 0) rfl no_At) (eap_cons ev_int eap_nil)) rfl (fun _ => (pars_cons pa_at (pars_cons pa_v pars_nil))) xok_emp) fun (a_232 : (Int × List Int)) => (ea_cons (Γ1 := fun (a_233 : Int) => [cAt p (a_232.2.map dat), cIs v1, cAny, cAny, cAny, cAny, cAny]) (ev_pure (a := 200) (cc := fun r : Int => rV (PyData.int r)) ev_int) fun (a_233 : Int) => ea_nil))) fun p => (.cons fz_v (.cons fz_v (.cons fz_v .nil)))) (fun (x_237 : ((Int × List Int) × (Int × List Int) × Int × Unit)) => (evp_callS1 (i := 0) (x_237.2.1.2, 3) own_At (eap_cons (ev_slot (i := 0) rfl no_At) (eap_cons ev_int eap_nil)) rfl (fun _ => (pars_cons pa_at (pars_cons pa_v pars_nil))) xok_emp)) (fun (x_237 : ((Int × List Int) × (Int × List Int) × Int × Unit)) (y_238 : (Int × List Int)) => (r2_map (fun z_239 => (z_239, y_238.2)) (Γ' := fun r : (Int × List Int) => [cAt p (r.2.map dat), cIs v1, cAny, cAny, cAny, cAny, cAny]) (c := fun r : (Int × List Int) => rV (PyData.int r.1)) (r2_ix (pa_S pa_lo))))) (fun _ => sto_v) (fun _ => lt_len rfl)) fun (r_240 : (Int × List Int)) => by exact EvS.is (Δ := [cAt p (r_240.2.map dat), cIs v1, cV (PyData.int r_240.1), cAny, cAny, cAny, cAny]) rfl (es_seq (es_asg (ev_op (ev_pure (a := ([1, 2, 5, 40, 1000000000000000000000000000000] : List Int)) (cc := fun r : (List Int) => rO (r.map dat)) (evp_lst (ds := [(PyData.int 1), (PyData.int 2), (PyData.int 5), (PyData.int 40), (PyData.int 1000000000000000000000000000000)]) (eap_cons ev_int (eap_cons ev_int (eap_cons ev_int (eap_cons ev_int (eap_cons (evp_op ev_int ev_int (r2_pow (k := 1000000000000000000000000000000) (by unfold CPow; decide +kernel) (by decide +kernel))) eap_nil))))) (.cons fz_v (.cons fz_v (.cons fz_v (.cons fz_v (.cons fz_v .nil))))))) (fun (x_241 : (List Int)) => (evp_callS1 (i := 0) (r_240.2, 5) own_At (eap_cons (ev_slot (i := 0) rfl no_At) (eap_cons ev_int eap_nil)) rfl (fun _ => (pars_cons pa_at (pars_cons pa_v pars_nil))) xok_emp)) (fun (x_241 : (List Int)) (y_242 : (Int × List Int)) => (r2_map (fun z_243 => (z_243, y_242.2)) (Γ' := fun r : (Int × List Int) => [cAt p (r.2.map dat), cIs v1, cV (PyData.int r_240.1), cAny, cAny, cAny, cAny]) (c := fun r : (Int × List Int) => rV (PyData.int r.1)) (r2_ix (pa_S pa_lo))))) (fun _ => sto_v) (fun _ => lt_len rfl)) fun (r_244 : (Int × List Int)) => by exact EvS.is (Δ := [cAt p (r_244.2.map dat), cIs v1, cV (PyData.int r_240.1), cV (PyData.int r_244.1), cAny, cAny, cAny]) rfl (es_seq (es_parC (c1 := fun p_265 : ((List Int × (List Int)) × (Int × List Int) × Unit) => rO (p_265.1.1.map dat)) (c2 := fun p_265 : ((List Int × (List Int)) × (Int × List Int) × Unit) => rV (PyData.int p_265.2.1.1)) (ea_cons (Γ1 := fun (a_261 : (List Int × (List Int))) => [cAt p (a_261.2.map dat), cIs v1, cV (PyData.int r_240.1), cV (PyData.int r_244.1), cAny, cAny, cAny]) (el_comp (xs := fun a_253 : (List Int) => a_253) (Γs := fun s_255 : (List Int) => [cAt p (s_255.map dat), cIs v1, cV (PyData.int r_240.1), cV (PyData.int r_244.1), cAny, cAny, cAny]) (Γt := fun (s_255 : (List Int)) (x_254 : Int) => [cAt p (s_255.map dat), cIs v1, cV (PyData.int r_240.1), cV (PyData.int r_244.1), cAny, cAny, cV (PyData.int x_254)]) (s0 := fun a_253 => r_244.2) (ei_range1 (eap_cons (ev_var rfl) eap_nil)) (fun _ _ => trivial) (fun a_253 => (.same (.same (.same (.same (.same (.same (.same .nil)))))))) (fun s_255 => (hv_cons rfl hv_nil)) (fun s_255 x_254 => (eg_name (lt_len rfl))) (by decide) (fun s_255 x_254 => elj_yes (b := fun r_260 : (Int × List Int) => r_260.1) (s := fun r_260 => r_260.2) (ev_op (ev_pure (a := 1) (cc := fun r : Int => rV (PyData.int r)) ev_int) (fun (x_258 : Int) => (evp_call01 (i := 0) (s_255, r_244.1) own_At (eap_cons (ev_slot (i := 0) rfl no_At) (eap_cons (ev_var rfl) eap_nil)) rfl (fun _ => (pars_cons pa_at (pars_cons pa_v pars_nil))) xok_calm calm_calm)) (fun (x_258 : Int) (y_259 : (Int × List Int)) => (r2_to ((x_258 + y_259.1), y_259.2) (Γ' := fun r : (Int × List Int) => [cAt p (r.2.map dat), cIs v1, cV (PyData.int r_240.1), cV (PyData.int r_244.1), cAny, cAny, cV (PyData.int x_254)]) (c := fun r : (Int × List Int) => rV (PyData.int r.1)) r2_I0))) (fun _ => fz_v) (fun r_260 => (.same (.same (.same (.same (.same (.same (.any (.nil))))))))))) fun (a_261 : (List Int × (List Int))) => (ea_cons (Γ1 := fun (a_262 : (Int × List Int)) => [cAt p (a_262.2.map dat), cIs v1, cV (PyData.int r_240.1), cV (PyData.int r_244.1), cAny, cAny, cAny]) (evp_callS1 (i := 0) (a_261.2, 3) own_At (eap_cons (ev_slot (i := 0) rfl no_At) (eap_cons ev_int eap_nil)) rfl (fun _ => (pars_cons pa_at (pars_cons pa_v pars_nil))) xok_emp) fun (a_262 : (Int × List Int)) => ea_nil)) rfl (fun _ => sto_o) (fun _ => sto_v) (fun _ => fl_v) (fun _ => lt_len rfl) (fun _ => lt_len rfl)) fun (r_266 : ((List Int × (List Int)) × (Int × List Int) × Unit)) => by exact EvS.is (Δ := [cAt p (r_266.2.1.2.map dat), cIs v1, cV (PyData.int r_240.1), cV (PyData.int r_244.1), cO (r_266.1.1.map dat), cV (PyData.int r_266.2.1.1), cAny]) rfl (es_seq (Γ1 := fun j_280 : ((List Int) × (List Int)) => [cAt p (j_280.1.map dat), cIs v1, cV (PyData.int r_240.1), cV (PyData.int r_244.1), cO (j_280.2.map dat), cV (PyData.int r_266.2.1.1), cAny]) (es_if (etp_and (et_val (b := fun _ => (!eqD (r_266.1.1 : (List Int)) (([] : (List Int)) : (List Int)))) (evp_op (ev_slot (i := 4) rfl no_O) (evp_lst (ds := []) eap_nil .nil) (r2_ne (pa_D (pa_S (pa_own own_O rfl))) (pa_D (pa_S pa_lo)) (shp (α := (List Int)) (a := r_266.1.1)) (shp (α := (List Int)) (a := ([] : (List Int))))))) (et_val (b := fun _ => (decide (r_266.2.1.1 = 1))) (evp_op (ev_var rfl) ev_int r2_eqI))) (by exact (es_seq (es_setitem (a := fun g_276 : (Int × List Int) => g_276.1) (k := fun (g_276 : (Int × List Int)) (d_277 : (Int × List Int)) => d_277.1) (xs := fun (g_276 : (Int × List Int)) (d_277 : (Int × List Int)) => r_266.1.1) (Γ2 := fun (g_276 : (Int × List Int)) (d_277 : (Int × List Int)) => [cAt p (d_277.2.map dat), cIs v1, cV (PyData.int r_240.1), cV (PyData.int r_244.1), cO (r_266.1.1.map dat), cV (PyData.int r_266.2.1.1), cAny]) own_O (ev_op (ev_pure (a := 1) (cc := fun r : Int => rV (PyData.int r)) ev_int) (fun (x_274 : Int) => (evp_callS1 (i := 0) (r_266.2.1.2, 1000000000000000000000000000000) own_At (eap_cons (ev_slot (i := 0) rfl no_At) (eap_cons (evp_op ev_int ev_int (r2_pow (k := 1000000000000000000000000000000) (by unfold CPow; decide +kernel) (by decide +kernel))) eap_nil)) rfl (fun _ => (pars_cons pa_at (pars_cons pa_v pars_nil))) xok_emp)) (fun (x_274 : Int) (y_275 : (Int × List Int)) => (r2_to ((x_274 + y_275.1), y_275.2) (Γ' := fun r : (Int × List Int) => [cAt p (r.2.map dat), cIs v1, cV (PyData.int r_240.1), cV (PyData.int r_244.1), cO (r_266.1.1.map dat), cV (PyData.int r_266.2.1.1), cAny]) (c := fun r : (Int × List Int) => rV (PyData.int r.1)) r2_I0))) (fun _ => fz_v) (fun g_276 => (evp_callS1 (i := 0) (g_276.2, r_240.1) own_At (eap_cons (ev_slot (i := 0) rfl no_At) (eap_cons (ev_var rfl) eap_nil)) rfl (fun _ => (pars_cons pa_at (pars_cons pa_v pars_nil))) xok_emp)) (fun _ => ⟨_, rfl⟩) (fun _ _ => rfl)) fun (r_279 : ((Int × List Int) × (Int × List Int) × (List Int))) => by exact EvS.is (Δ := [cAt p (r_279.2.1.2.map dat), cIs v1, cV (PyData.int r_240.1), cV (PyData.int r_244.1), cO (r_279.2.2.map dat), cV (PyData.int r_266.2.1.1), cAny]) rfl (es_end (b := (r_279.2.1.2, r_279.2.2)) rfl (.same (.same (.same (.same (.same (.same (.same .nil)))))))))) (by exact (es_end (b := (r_266.2.1.2, r_266.1.1)) rfl (.same (.same (.same (.same (.same (.same (.same .nil)))))))))) fun (j_280 : ((List Int) × (List Int))) => by exact (es_retP (b := (j_280.2, j_280.1)) (ev_slot (i := 4) rfl no_O) rfl (ret_own own_O rfl (.same (.any (.any (.any (.same (.any (.same .nil)))))))))))))))
abbrev N__law_small : List Str := ["row", "one"]
theorem sc__law_small : FnScope N__law_small ["row"] (defScope s__law_small) := ⟨rfl, rfl, rfl, by decide +kernel, rfl, by decide +kernel, by decide +kernel⟩
def m__law_small (row_p : (List Int)) : Res (List Int) :=
  (((Res.ok ()).bind fun a_281 => compR row_p () [] fun s_283 x_282 => ((Res.ok (1 : Int)).bind fun x_284 => (modR x_282 100000000000000).bind fun y_285 => Res.ok (x_284 + y_285)).bind fun r_286 => Res.ok (some r_286, s_283)).bind fun r_287 => Res.ok r_287.1)
abbrev ps__law_small (K : PySem.W.Frag) (x : (List Int)) : List PP := [ppL (x.map dat)]
abbrev c__law_small (b : (List Int)) : V → Asr := oV (b.map dat)
set_option maxHeartbeats 1600000 in
theorem ok__law_small (T : Txt K mg ad) : FnG gp P w K mg base (L2.CX P w) 1 ad.a__law_small ad.d__law_small ["row"] (Sp0 (ecOf ad) (ps__law_small K) (fun x => m__law_small x) c__law_small) := by
  refine T.F__law_small.okX sc__law_small (fun vs H Q E h => sp0_go h fun x C hT hC hw => ?_) (fun cdv A outer s H vs Q E hr h => sp0_go h fun x C hT hC hw => ?_)
  · exact len_of hT hC
  · revert hT hC hw
    revert x
    intro row_p hT hC hw
    have hl : vs.length = 1 := len_of hT hC
    obtain ⟨v0, rfl⟩ := len1 hl
    have h0 : Bw (Ecf K E (ecOf ad) C) v0 (ppL (row_p.map dat)) := fun F H o s c => (hC F H o s c).1
    have hU : (A.deeper (PyProof.Rows.envOfC "_law_small" (defScope s__law_small) s.heap.objs.size ad.a__law_small cdv)).units + 64 < cLine := Nat.lt_of_le_of_lt (by omega) hr.un
    have tk : Takes (cxOf (L2.CX P w) P w K mg base N__law_small "_law_small" (defScope s__law_small) ad.a__law_small cdv A outer s H E) (fun cls d _ H => E cls d H) := takes_of rfl rfl rfl rfl
    refine ⟨_, (pss_cons (ps_ret (pe_lc (own := [("one", 1)]) rfl sc__law_small.nd (pi_list (pv 0)) (blkOk_by (own := [("one", 1)]) (N := N__law_small) (sc := defScope s__law_small) (by decide +kernel)) (fun _ _ _ _ _ => (pg_name (i := 1) sc__law_small.nd rfl (Or.inl rfl) (.inr rfl))) (fun _ _ _ _ _ => pts_nil) (fun _ _ _ _ _ => (pe_op op_add pe_int (pe_op op_mod (pv 1) (pe_op op_pow pe_int pe_int)))))) pss_nil), ?_⟩
    have hw : WP (m__law_small row_p) (fun b => ∀ v H', Top (sep C (c__law_small b v)) H' → Q v H') (fun k => ∀ H', Top C H' → E (ecOf ad k) none H') := hw
    refine fin0W (K := K) (Γ0 := [cIs v0, cAny]) (Γr := fun b : (List Int) => [cAny, cAny]) (c := c__law_small) hT (fun F o s c => ⟨fun _ => rfl, fun _ => trivial, trivial⟩) hw ?_
    exact (es_ret (g := fun r_287 : (List Int × Unit) => r_287.1) (el_comp (xs := fun a_281 : Unit => row_p) (Γs := fun s_283 : Unit => [cIs v0, cAny]) (Γt := fun (s_283 : Unit) (x_282 : Int) => [cIs v0, cV (PyData.int x_282)]) (s0 := fun a_281 => ()) (ei_list (ds := fun _ => (row_p.map dat)) (ev_slot (i := 0) rfl no_Is) fun _ => (src_b rfl (bwS h0))) (fun _ _ => trivial) (fun a_281 => (.same (.same .nil))) (fun s_283 => (hv_cons rfl hv_nil)) (fun s_283 x_282 => (eg_name (lt_len rfl))) (by decide) (fun s_283 x_282 => elj_yes (b := fun r_286 : Int => r_286) (s := fun r_286 => s_283) (ev_op (ev_pure (a := 1) (cc := fun r : Int => rV (PyData.int r)) ev_int) (fun (x_284 : Int) => (evp_op (ev_var rfl) (evp_op ev_int ev_int (r2_pow (k := 100000000000000) (by unfold CPow; decide +kernel) (by decide +kernel))) r2_mod)) (fun (x_284 : Int) (y_285 : Int) => (r2_to (x_284 + y_285) (Γ' := fun r : Int => [cIs v0, cV (PyData.int x_282)]) (c := fun r : Int => rV (PyData.int r)) r2_I0))) (fun _ => fz_v) (fun r_286 => (.same (.any (.nil)))))) (fun _ => rfl) (fun r_287 => (ret_le (.any (.same .nil)))))
def m_layout_s1 (start_p : (List Int)) (heights_p : (List Int)) : Res (List (Int × Int)) := m_layout start_p heights_p false
abbrev ps_layout_s1 (K : PySem.W.Frag) (x : (List Int) × (List Int)) : List PP := [ppL (x.1.map dat), ppL (x.2.map dat)]
theorem spk_layout_s1 : SpK (Sp0 (ecOf ad) (ps_layout K) (fun x => m_layout x.1 x.2.1 x.2.2) c_layout) (Sp0 (ecOf ad) (ps_layout_s1 K) (fun x => m_layout_s1 x.1 x.2) c_layout) 2 [0, 1, 2] [(V.bl false)] := spk (fun x => (x.1, x.2, false)) (fun _ => rfl) (fun x vs F H h => by
  obtain ⟨a0, a1, rfl⟩ := len2 (parOk_len h)
  obtain ⟨h0, h1, _⟩ := h
  exact ⟨h0, h1, (Rp.bl false), trivial⟩) (fun _ => rfl)
def m_layout_s2 (start_p : (List Int)) (heights_p : (List Int)) (right_p : Bool) : Res (List (Int × Int)) := m_layout start_p heights_p right_p
abbrev ps_layout_s2 (K : PySem.W.Frag) (x : (List Int) × (List Int) × Bool) : List PP := [ppL (x.1.map dat), ppL (x.2.1.map dat), ppV (PyData.bool x.2.2)]
theorem spk_layout_s2 : SpK (Sp0 (ecOf ad) (ps_layout K) (fun x => m_layout x.1 x.2.1 x.2.2) c_layout) (Sp0 (ecOf ad) (ps_layout_s2 K) (fun x => m_layout_s2 x.1 x.2.1 x.2.2) c_layout) 3 [0, 1, 2] [] := spk (fun x => (x.1, x.2.1, x.2.2)) (fun _ => rfl) (fun x vs F H h => by
  obtain ⟨a0, a1, a2, rfl⟩ := len3 (parOk_len h)
  obtain ⟨h0, h1, h2, _⟩ := h
  exact ⟨h0, h1, h2, trivial⟩) (fun _ => rfl)
abbrev N__law_turned_right : List Str := ["begun", "cards", "rows", "last", "place", "due", "low", "spot", "card"]
theorem sc__law_turned_right : FnScope N__law_turned_right ["begun", "cards"] (defScope s__law_turned_right) := ⟨rfl, rfl, rfl, by decide +kernel, rfl, by decide +kernel, by decide +kernel⟩
def m__law_turned_right (begun_p : (List Int)) (cards_p : (List Int)) : Res Bool :=
  (((m_layout_s1 begun_p cards_p).bind fun a_288 => ((Res.ok ((((begun_p).length : Int) - 1) : Int)).bind fun a_289 => (Res.ok ()).bind fun r_290 => Res.ok (a_289, r_290)).bind fun r_291 => Res.ok (a_288, r_291)).bind fun r_293 => (((m_layout_s2 (begun_p.reverse) cards_p true).bind fun x_300 => ((Res.ok ()).bind fun a_301 => compR r_293.1 () [] fun s_303 x_302 => Res.ok (some ((r_293.2.1 - x_302.1), x_302.2), s_303)).bind fun y_304 => Res.ok (!eqD (x_300 : (List (Int × Int))) (y_304.1 : (List (Int × Int))))).bind fun c_305 => if c_305 then (Res.ok false) else (((m_tops_of begun_p cards_p).bind fun x_312 => ((Res.ok ()).bind fun a_313 => compR r_293.1 () [] fun s_315 x_314 => Res.ok (some x_314.2, s_315)).bind fun y_316 => Res.ok (!eqD (x_312 : (List Int)) (y_316.1 : (List Int)))).bind fun c_317 => if c_317 then (Res.ok false) else (((((Res.ok ()).bind fun p_318 => (noErr (m_steps begun_p cards_p)).bind fun b_319 => Res.ok (p_318, b_319)).bind fun x_320 => (Res.ok ((-1) : Int)).bind fun y_321 => (getI x_320.2 y_321)).bind fun x_323 => (m_end_of begun_p cards_p).bind fun y_324 => Res.ok (!eqD (x_323 : (List Int)) (y_324 : (List Int)))).bind fun c_325 => if c_325 then (Res.ok false) else (Jn.sq ((rangeR 0 (min 3 ((begun_p).length : Int))).bind fun a_326 => forR a_326 () fun s_328 x_327 => (((Res.ok ()).bind fun a_329 => compR (enumL r_293.1) () [] fun s_331 x_330 => if (decide (x_330.2.1 = x_327)) then Res.ok (some x_330.1, s_331) else Res.ok (none, s_331)).bind fun r_332 => (((m_cards_in begun_p cards_p x_327).bind fun x_333 => (Res.ok (r_332.1 : (List Int))).bind fun y_334 => Res.ok (!eqD (x_333 : (List Int)) (y_334 : (List Int)))).bind fun c_335 => if c_335 then (Res.ok (Lp.ret false)) else (Res.ok (Lp.next ()))))) (fun (j_336 : Unit) => (((((m_end_of begun_p cards_p).bind fun a_337 => (Res.ok ()).bind fun r_338 => Res.ok (a_337, r_338)).bind fun p_339 => Res.ok (p_339.1.sum)).bind fun x_340 => (Res.ok (((begun_p.sum) + (cards_p.sum)) : Int)).bind fun y_341 => Res.ok (decide (x_340 = y_341))).bind fun r_342 => Res.ok r_342)) fun b_343 => b_343)))))
abbrev ps__law_turned_right (K : PySem.W.Frag) (x : (List Int) × (List Int)) : List PP := [ppL (x.1.map dat), ppL (x.2.map dat)]
abbrev c__law_turned_right (b : Bool) : V → Asr := vA (PyData.bool b)
set_option maxHeartbeats 1600000 in
theorem ok__law_turned_right (T : Txt K mg ad) : FnG gp P w K mg base (L2.CX P w) 8 ad.a__law_turned_right ad.d__law_turned_right ["begun", "cards"] (Sp0 (ecOf ad) (ps__law_turned_right K) (fun x => m__law_turned_right x.1 x.2) c__law_turned_right) := by
  have G_cards_in : FnG gp P w K mg base (L2.CX P w) 4 ad.a_cards_in ad.d_cards_in ["start", "heights", "column"] (Sp0 (ecOf ad) (ps_cards_in K) (fun x => m_cards_in x.1 x.2.1 x.2.2) c_cards_in) := ok_cards_in T
  have G_end_of : FnG gp P w K mg base (L2.CX P w) 4 ad.a_end_of ad.d_end_of ["start", "heights"] (Sp0 (ecOf ad) (ps_end_of K) (fun x => m_end_of x.1 x.2) c_end_of) := ok_end_of T
  have G_layout : FnG gp P w K mg base (L2.CX P w) 4 ad.a_layout ad.d_layout ["start", "heights", "right"] (Sp0 (ecOf ad) (ps_layout K) (fun x => m_layout x.1 x.2.1 x.2.2) c_layout) := ok_layout T
  have G_steps : GFn P w K mg base 4 ad.a_steps ad.d_steps ["start", "heights"] (SpG0 (ps_steps K) (fun x : (List Int) × (List Int) => m_steps x.1 x.2) (fun b : List (List Int) => (b.map dat))) := ok_steps T
  have G_tops_of : FnG gp P w K mg base (L2.CX P w) 4 ad.a_tops_of ad.d_tops_of ["start", "heights"] (Sp0 (ecOf ad) (ps_tops_of K) (fun x => m_tops_of x.1 x.2) c_tops_of) := ok_tops_of T
  refine T.F__law_turned_right.okX sc__law_turned_right (fun vs H Q E h => sp0_go h fun x C hT hC hw => ?_) (fun cdv A outer s H vs Q E hr h => sp0_go h fun x C hT hC hw => ?_)
  · exact len_of hT hC
  · obtain ⟨begun_p, cards_p⟩ := x
    have hl : vs.length = 2 := len_of hT hC
    obtain ⟨v0, v1, rfl⟩ := len2 hl
    have h0 : Bw (Ecf K E (ecOf ad) C) v0 (ppL (begun_p.map dat)) := fun F H o s c => (hC F H o s c).1
    have h1 : Bw (Ecf K E (ecOf ad) C) v1 (ppL (cards_p.map dat)) := fun F H o s c => (hC F H o s c).2.1
    have hU : (A.deeper (PyProof.Rows.envOfC "_law_turned_right" (defScope s__law_turned_right) s.heap.objs.size ad.a__law_turned_right cdv)).units + 64 < cLine := Nat.lt_of_le_of_lt (by omega) hr.un
    have tk : Takes (cxOf (L2.CX P w) P w K mg base N__law_turned_right "_law_turned_right" (defScope s__law_turned_right) ad.a__law_turned_right cdv A outer s H E) (fun cls d _ H => E cls d H) := takes_of rfl rfl rfl rfl
    refine ⟨_, (pss_cons (ps_asg (pe_tup (pa_cons (pe_callGK (dv := [(V.bl false)]) (du := [(Value.bool false)]) G_layout (hr.mono (by decide)) (by rfl) T.g_layout T.F_layout.kp T.k_layout_s1 (.cons rfl .nil) (by decide) spk_layout_s1 (fun σ => passAt tk σ) (pka_cons (pv 0) (pka_cons (pv 1) (pka_kw pkn_nil)))) (pa_cons (pe_op op_sub (pe_callB (lenK K rfl) (by rfl) T.z_len PySem.boot_len (pa_cons (pv 0) pa_nil)) pe_int) pa_nil))) (pg_tup rfl (pgs_cons (pg_name (i := 2) sc__law_turned_right.nd rfl (Or.inl rfl)) (pgs_cons (pg_name (i := 3) sc__law_turned_right.nd rfl (Or.inr rfl)) pgs_nil)))) (pss_cons (ps_if (pt_cmpR (neDK K rfl hU) (pe_callGK (dv := []) (du := []) G_layout (hr.mono (by decide)) (by rfl) T.g_layout T.F_layout.kp T.k_layout_s2 .nil (by decide) spk_layout_s2 (fun σ => passAt tk σ) (pka_cons (pe_revL (pv 0)) (pka_cons (pv 1) (pka_kw (pkn_cons pe_bl pkn_nil))))) (pe_lc (own := [("spot", 7), ("low", 6)]) rfl sc__law_turned_right.nd (pi_list (pv 2)) (blkOk_by (own := [("spot", 7), ("low", 6)]) (N := N__law_turned_right) (sc := defScope s__law_turned_right) (by decide +kernel)) (fun _ _ _ _ _ => (pg_tupK K 2 rfl rfl (pgs_cons (pg_name (i := 7) sc__law_turned_right.nd rfl (Or.inl rfl) (.inr rfl)) (pgs_cons (pg_name (i := 6) sc__law_turned_right.nd rfl (Or.inl rfl) (.inr rfl)) pgs_nil)) rfl rfl)) (fun _ _ _ _ _ => pts_nil) (fun _ _ _ _ _ => (pe_tup (pa_cons (pe_op op_sub (pv 3) (pv 7)) (pa_cons (pv 6) pa_nil))))) (nomark _)) (pss_cons (ps_ret pe_bl) pss_nil) pss_nil) (pss_cons (ps_if (pt_cmpR (neDK K rfl hU) (pe_callG G_tops_of (hr.mono (by decide)) (by rfl) T.g_tops_of T.F_tops_of.kp T.b_tops_of (fun σ => passAt tk σ) (pa_cons (pv 0) (pa_cons (pv 1) pa_nil))) (pe_lc (own := [("spot", 7), ("low", 6)]) rfl sc__law_turned_right.nd (pi_list (pv 2)) (blkOk_by (own := [("spot", 7), ("low", 6)]) (N := N__law_turned_right) (sc := defScope s__law_turned_right) (by decide +kernel)) (fun _ _ _ _ _ => (pg_tupK K 2 rfl rfl (pgs_cons (pg_name (i := 7) sc__law_turned_right.nd rfl (Or.inl rfl) (.inr rfl)) (pgs_cons (pg_name (i := 6) sc__law_turned_right.nd rfl (Or.inl rfl) (.inr rfl)) pgs_nil)) rfl rfl)) (fun _ _ _ _ _ => pts_nil) (fun _ _ _ _ _ => (pv 6))) (nomark _)) (pss_cons (ps_ret pe_bl) pss_nil) pss_nil) (pss_cons (ps_if (pt_cmpR (neDK K rfl hU) (pe_ix (ixK K rfl) (pe_listGen G_steps (hr.rm.mono (by decide)) (by rfl) T.g_steps T.F_steps.kp T.b_steps (pa_cons (pv 0) (pa_cons (pv 1) pa_nil)) (by rfl) T.z_list) (pe_un un_neg pe_int) (fun _ _ => rfl)) (pe_callG G_end_of (hr.mono (by decide)) (by rfl) T.g_end_of T.F_end_of.kp T.b_end_of (fun σ => passAt tk σ) (pa_cons (pv 0) (pa_cons (pv 1) pa_nil))) (nomark _)) (pss_cons (ps_ret pe_bl) pss_nil) pss_nil) (pss_cons (ps_for (passes_of rfl) rfl (pi_range1 (by rfl) T.z_range (pa_cons (pe_callB (call_min2 rfl) (by rfl) T.z_min (by decide +kernel) (pa_cons pe_int (pa_cons (pe_callB (lenK K rfl) (by rfl) T.z_len PySem.boot_len (pa_cons (pv 0) pa_nil)) pa_nil))) pa_nil)) (pg_name (i := 4) sc__law_turned_right.nd rfl (Or.inr rfl)) (pss_cons (ps_setLc (i := 5) (own := [("card", 8), ("spot", 7), ("low", 6)]) rfl sc__law_turned_right.nd rfl rfl (sw_true rfl rfl rfl (by decide +kernel)) (pi_enum (by rfl) T.z_enumerate (pa_cons (pv 2) pa_nil)) (blkOk_by (own := [("card", 8), ("spot", 7), ("low", 6)]) (N := N__law_turned_right) (sc := defScope s__law_turned_right) (by decide +kernel)) (fun _ _ _ _ _ => (pg_tupK K 2 rfl rfl (pgs_cons (pg_name (i := 8) sc__law_turned_right.nd rfl (Or.inl rfl) (.inr rfl)) (pgs_cons (pg_tupK K 2 rfl rfl (pgs_cons (pg_name (i := 7) sc__law_turned_right.nd rfl (Or.inl rfl) (.inr rfl)) (pgs_cons (pg_name (i := 6) sc__law_turned_right.nd rfl (Or.inl rfl) (.inr rfl)) pgs_nil)) rfl rfl) pgs_nil)) rfl rfl)) (fun _ _ _ _ _ => pts_one (pt_cmpR op_eq (pv 7) (pv 4) (nomark _))) (fun _ _ _ _ _ => (pv 8))) (pss_cons (ps_if (pt_cmpR (neDK K rfl hU) (pe_callG G_cards_in (hr.mono (by decide)) (by rfl) T.g_cards_in T.F_cards_in.kp T.b_cards_in (fun σ => passAt tk σ) (pa_cons (pv 0) (pa_cons (pv 1) (pa_cons (pv 4) pa_nil)))) (pv 5) (nomark _)) (pss_cons (ps_ret pe_bl) pss_nil) pss_nil) pss_nil))) (pss_cons (ps_ret (pe_cmpR op_eq (pe_callB (sumK K rfl rfl) (by rfl) T.z_sum (by decide +kernel) (pa_cons (pe_callG G_end_of (hr.mono (by decide)) (by rfl) T.g_end_of T.F_end_of.kp T.b_end_of (fun σ => passAt tk σ) (pa_cons (pv 0) (pa_cons (pv 1) pa_nil))) pa_nil)) (pe_op op_add (pe_callB (sumK K rfl rfl) (by rfl) T.z_sum (by decide +kernel) (pa_cons (pv 0) pa_nil)) (pe_callB (sumK K rfl rfl) (by rfl) T.z_sum (by decide +kernel) (pa_cons (pv 1) pa_nil))) (nomark _))) pss_nil)))))), ?_⟩
    have hw : WP (m__law_turned_right begun_p cards_p) (fun b => ∀ v H', Top (sep C (c__law_turned_right b v)) H' → Q v H') (fun k => ∀ H', Top C H' → E (ecOf ad k) none H') := hw
    refine fin0W (K := K) (Γ0 := [cIs v0, cIs v1, cAny, cAny, cAny, cAny, cAny, cAny, cAny]) (Γr := fun b : Bool => [cAny, cAny, cAny, cAny, cAny, cAny, cAny, cAny, cAny]) (c := c__law_turned_right) hT (fun F o s c => ⟨fun _ => rfl, fun _ => rfl, fun _ => trivial, fun _ => trivial, fun _ => trivial, fun _ => trivial, fun _ => trivial, fun _ => trivial, fun _ => trivial, trivial⟩) hw ?_
    exact (es_seq (es_tupasg (n := 2) (ea_cons (Γ1 := fun (a_288 : (List (Int × Int))) => [cIs v0, cIs v1, cAny, cAny, cAny, cAny, cAny, cAny, cAny]) (evp_callS (begun_p, cards_p) (eap_cons (ev_slot (i := 0) rfl no_Is) (eap_cons (ev_slot (i := 1) rfl no_Is) eap_nil)) (pars_cons (pa_bw rfl h0) (pars_cons (pa_bw rfl h1) pars_nil)) xok_emp) fun (a_288 : (List (Int × Int))) => (ea_cons (Γ1 := fun (a_289 : Int) => [cIs v0, cIs v1, cAny, cAny, cAny, cAny, cAny, cAny, cAny]) (ev_pure (a := (((begun_p).length : Int) - 1)) (cc := fun r : Int => rV (PyData.int r)) (evp_op (evp_cb (eap_cons (ev_slot (i := 0) rfl no_Is) eap_nil) (rn_len (xs := begun_p) (pa_S (pa_bw rfl h0)))) ev_int r2_I0)) fun (a_289 : Int) => ea_nil)) (fun p_292 => (gl_cons sto_f fl_o (lt_len rfl) (gl_cons sto_v fl_v (lt_len rfl) gl_nil))) (fun _ => rfl)) fun (r_293 : ((List (Int × Int)) × Int × Unit)) => by exact EvS.is (Δ := [cIs v0, cIs v1, cV (PyData.list (r_293.1.map dat)), cV (PyData.int r_293.2.1), cAny, cAny, cAny, cAny, cAny]) rfl (es_ifTM (b := fun c_305 : Bool => c_305) (et_val (b := fun r : Bool => r) (ev_op (evp_callS ((begun_p.reverse), cards_p, true) (eap_cons (evp_rev (ev_slot (i := 0) rfl no_Is) (pa_S (pa_bw rfl h0))) (eap_cons (ev_slot (i := 1) rfl no_Is) (eap_cons ev_bl eap_nil))) (pars_cons pa_lo (pars_cons (pa_bw rfl h1) (pars_cons pa_v pars_nil))) xok_emp) (fun (x_300 : (List (Int × Int))) => (el_comp (xs := fun a_301 : Unit => r_293.1) (Γs := fun s_303 : Unit => [cIs v0, cIs v1, cV (PyData.list (r_293.1.map dat)), cV (PyData.int r_293.2.1), cAny, cAny, cAny, cAny, cAny]) (Γt := fun (s_303 : Unit) (x_302 : (Int × Int)) => [cIs v0, cIs v1, cV (PyData.list (r_293.1.map dat)), cV (PyData.int r_293.2.1), cAny, cAny, cV (PyData.int x_302.2), cV (PyData.int x_302.1), cAny]) (s0 := fun a_301 => ()) (ei_list (ds := fun _ => (r_293.1.map dat)) (ev_var rfl) fun _ => src_v) (fun _ _ => trivial) (fun a_301 => (.same (.same (.same (.same (.same (.same (.same (.same (.same .nil)))))))))) (fun s_303 => (hv_cons rfl (hv_cons rfl hv_nil))) (fun s_303 x_302 => (eg_tup (egs_cons (eg_name (lt_len rfl)) (egs_cons (eg_name (lt_len rfl)) egs_nil)) rfl)) (by decide) (fun s_303 x_302 => elj_yesP (b := ((r_293.2.1 - x_302.1), x_302.2)) (s := s_303) (evp_tup (ds := [(PyData.int (r_293.2.1 - x_302.1)), (PyData.int x_302.2)]) (eap_cons (evp_op (ev_var rfl) (ev_var rfl) r2_I0) (eap_cons (ev_var rfl) eap_nil)) (.cons fz_v (.cons fz_v .nil))) fz_v (.same (.same (.same (.same (.same (.same (.any (.any (.same .nil)))))))))))) (fun (x_300 : (List (Int × Int))) (y_304 : (List (Int × Int) × Unit)) => (r2_to (!eqD (x_300 : (List (Int × Int))) (y_304.1 : (List (Int × Int)))) (Γ' := fun r : Bool => [cIs v0, cIs v1, cV (PyData.list (r_293.1.map dat)), cV (PyData.int r_293.2.1), cAny, cAny, cAny, cAny, cAny]) (c := fun r : Bool => rV (PyData.bool r)) (r2_ne (pa_D (pa_S pa_lo)) (pa_D (pa_S pa_lo)) (shp (α := (List (Int × Int))) (a := x_300)) (shp (α := (List (Int × Int))) (a := y_304.1))))))) (fun c_305 => by exact (es_retP (b := false) ev_bl rfl (ret_le (.any (.any (.any (.any (.same (.same (.same (.same (.same .nil)))))))))))) (fun c_305 => by exact (es_ifTM (b := fun c_317 : Bool => c_317) (et_val (b := fun r : Bool => r) (ev_op (evp_callS (begun_p, cards_p) (eap_cons (ev_slot (i := 0) rfl no_Is) (eap_cons (ev_slot (i := 1) rfl no_Is) eap_nil)) (pars_cons (pa_bw rfl h0) (pars_cons (pa_bw rfl h1) pars_nil)) xok_emp) (fun (x_312 : (List Int)) => (el_comp (xs := fun a_313 : Unit => r_293.1) (Γs := fun s_315 : Unit => [cIs v0, cIs v1, cV (PyData.list (r_293.1.map dat)), cV (PyData.int r_293.2.1), cAny, cAny, cAny, cAny, cAny]) (Γt := fun (s_315 : Unit) (x_314 : (Int × Int)) => [cIs v0, cIs v1, cV (PyData.list (r_293.1.map dat)), cV (PyData.int r_293.2.1), cAny, cAny, cV (PyData.int x_314.2), cV (PyData.int x_314.1), cAny]) (s0 := fun a_313 => ()) (ei_list (ds := fun _ => (r_293.1.map dat)) (ev_var rfl) fun _ => src_v) (fun _ _ => trivial) (fun a_313 => (.same (.same (.same (.same (.same (.same (.same (.same (.same .nil)))))))))) (fun s_315 => (hv_cons rfl (hv_cons rfl hv_nil))) (fun s_315 x_314 => (eg_tup (egs_cons (eg_name (lt_len rfl)) (egs_cons (eg_name (lt_len rfl)) egs_nil)) rfl)) (by decide) (fun s_315 x_314 => elj_yesP (b := x_314.2) (s := s_315) (ev_var rfl) fz_v (.same (.same (.same (.same (.same (.same (.any (.any (.same .nil)))))))))))) (fun (x_312 : (List Int)) (y_316 : (List Int × Unit)) => (r2_to (!eqD (x_312 : (List Int)) (y_316.1 : (List Int))) (Γ' := fun r : Bool => [cIs v0, cIs v1, cV (PyData.list (r_293.1.map dat)), cV (PyData.int r_293.2.1), cAny, cAny, cAny, cAny, cAny]) (c := fun r : Bool => rV (PyData.bool r)) (r2_ne (pa_D (pa_S pa_lo)) (pa_D (pa_S pa_lo)) (shp (α := (List Int)) (a := x_312)) (shp (α := (List Int)) (a := y_316.1))))))) (fun c_317 => by exact (es_retP (b := false) ev_bl rfl (ret_le (.any (.any (.any (.any (.same (.same (.same (.same (.same .nil)))))))))))) (fun c_317 => by exact (es_ifTM (b := fun c_325 : Bool => c_325) (et_val (b := fun r : Bool => r) (ev_op (ev_op (ev_listGen (o := fun b : (List (List Int)) => (b.map dat)) (fun p_318 : Unit => (begun_p, cards_p)) (ea_pure (a := ()) (cs := fun _ => [rS 0, rS 1]) (eap_cons (ev_slot (i := 0) rfl no_Is) (eap_cons (ev_slot (i := 1) rfl no_Is) eap_nil))) (fun p_318 => (pars_cons (pa_bw rfl h0) (pars_cons (pa_bw rfl h1) pars_nil)))) (fun (x_320 : (Unit × (List (List Int)))) => (ev_pure (a := (-1)) (cc := fun r : Int => rV (PyData.int r)) (evp_un ev_int r1_neg))) (fun (x_320 : (Unit × (List (List Int)))) (y_321 : Int) => (r2_ix (pa_S pa_lo)))) (fun (x_323 : (List Int)) => (evp_callS (begun_p, cards_p) (eap_cons (ev_slot (i := 0) rfl no_Is) (eap_cons (ev_slot (i := 1) rfl no_Is) eap_nil)) (pars_cons (pa_bw rfl h0) (pars_cons (pa_bw rfl h1) pars_nil)) xok_emp)) (fun (x_323 : (List Int)) (y_324 : (List Int)) => (r2_to (!eqD (x_323 : (List Int)) (y_324 : (List Int))) (Γ' := fun r : Bool => [cIs v0, cIs v1, cV (PyData.list (r_293.1.map dat)), cV (PyData.int r_293.2.1), cAny, cAny, cAny, cAny, cAny]) (c := fun r : Bool => rV (PyData.bool r)) (r2_ne pa_dv (pa_D (pa_S pa_lo)) (shp (α := (List Int)) (a := x_323)) (shp (α := (List Int)) (a := y_324))))))) (fun c_325 => by exact (es_retP (b := false) ev_bl rfl (ret_le (.any (.any (.any (.any (.same (.same (.same (.same (.same .nil)))))))))))) (fun c_325 => by exact (es_seqGJ (post0 := (fun b : Bool => .rt [cAny, cAny, cAny, cAny, cAny, cAny, cAny, cAny, cAny] fun _ => c__law_turned_right b)) (fun b_343 => b_343) (fun _ => rfl) (es_for (xs := fun a_326 : (List Int) => a_326) (Γs := fun s_328 : Unit => [cIs v0, cIs v1, cV (PyData.list (r_293.1.map dat)), cV (PyData.int r_293.2.1), cAny, cAny, cAny, cAny, cAny]) (Γt := fun (s_328 : Unit) (x_327 : Int) => [cIs v0, cIs v1, cV (PyData.list (r_293.1.map dat)), cV (PyData.int r_293.2.1), cV (PyData.int x_327), cAny, cAny, cAny, cAny]) (s0 := fun a_326 => ()) (ei_range1 (eap_cons (evp_cb (eap_cons ev_int (eap_cons (evp_cb (eap_cons (ev_slot (i := 0) rfl no_Is) eap_nil) (rn_len (xs := begun_p) (pa_S (pa_bw rfl h0)))) eap_nil)) rn_min2) eap_nil)) (fun _ _ => trivial) (fun a_326 => (.same (.same (.same (.same (.same (.same (.same (.same (.same .nil)))))))))) (fun s_328 x_327 => (eg_name (lt_len rfl))) (fun s_328 x_327 => by exact (es_seq (es_asg (el_comp (xs := fun a_329 : Unit => (enumL r_293.1)) (Γs := fun s_331 : Unit => [cIs v0, cIs v1, cV (PyData.list (r_293.1.map dat)), cV (PyData.int r_293.2.1), cV (PyData.int x_327), cAny, cAny, cAny, cAny]) (Γt := fun (s_331 : Unit) (x_330 : (Int × (Int × Int))) => [cIs v0, cIs v1, cV (PyData.list (r_293.1.map dat)), cV (PyData.int r_293.2.1), cV (PyData.int x_327), cAny, cV (PyData.int x_330.2.2), cV (PyData.int x_330.2.1), cV (PyData.int x_330.1)]) (s0 := fun a_329 => ()) (ei_enum (xs := r_293.1) (eap_cons (ev_var rfl) eap_nil) src_v) (fun _ _ => trivial) (fun a_329 => (.same (.same (.same (.same (.same (.same (.same (.same (.same .nil)))))))))) (fun s_331 => (hv_cons rfl (hv_cons rfl (hv_cons rfl hv_nil)))) (fun s_331 x_330 => (eg_tup (egs_cons (eg_name (lt_len rfl)) (egs_cons (eg_tup (egs_cons (eg_name (lt_len rfl)) (egs_cons (eg_name (lt_len rfl)) egs_nil)) rfl) egs_nil)) rfl)) (by decide) (fun s_331 x_330 => elj_ifP (b := x_330.1) (s := s_331) (et_val (b := fun _ => (decide (x_330.2.1 = x_327))) (evp_op (ev_var rfl) (ev_var rfl) r2_eqI)) (ev_var rfl) fz_v (.same (.same (.same (.same (.same (.same (.any (.any (.any (.nil)))))))))))) (fun _ => sto_f) (fun _ => lt_len rfl)) fun (r_332 : (List Int × Unit)) => by exact EvS.is (Δ := [cIs v0, cIs v1, cV (PyData.list (r_293.1.map dat)), cV (PyData.int r_293.2.1), cV (PyData.int x_327), cV (PyData.list (r_332.1.map dat)), cAny, cAny, cAny]) rfl (es_ifTM (b := fun c_335 : Bool => c_335) (et_val (b := fun r : Bool => r) (ev_op (evp_callS (begun_p, cards_p, x_327) (eap_cons (ev_slot (i := 0) rfl no_Is) (eap_cons (ev_slot (i := 1) rfl no_Is) (eap_cons (ev_var rfl) eap_nil))) (pars_cons (pa_bw rfl h0) (pars_cons (pa_bw rfl h1) (pars_cons pa_v pars_nil))) xok_emp) (fun (x_333 : (List Int)) => (ev_pure (a := r_332.1) (cc := fun r : (List Int) => rV (PyData.list (r.map dat))) (ev_var rfl))) (fun (x_333 : (List Int)) (y_334 : (List Int)) => (r2_to (!eqD (x_333 : (List Int)) (y_334 : (List Int))) (Γ' := fun r : Bool => [cIs v0, cIs v1, cV (PyData.list (r_293.1.map dat)), cV (PyData.int r_293.2.1), cV (PyData.int x_327), cV (PyData.list (r_332.1.map dat)), cAny, cAny, cAny]) (c := fun r : Bool => rV (PyData.bool r)) (r2_ne (pa_D (pa_S pa_lo)) pa_dv (shp (α := (List Int)) (a := x_333)) (shp (α := (List Int)) (a := y_334))))))) (fun c_335 => by exact (es_retP (b := (Lp.ret false)) ev_bl rfl (ret_le (.any (.any (.any (.any (.any (.any (.same (.same (.same .nil)))))))))))) (fun c_335 => by exact (es_endL (b := (Lp.next ())) rfl (.same (.same (.same (.same (.any (.any (.same (.same (.same .nil)))))))))))))) (fun _ => ⟨nofun, nofun, nofun⟩)) fun (j_336 : Unit) => by exact EvS.is (Δ := [cIs v0, cIs v1, cV (PyData.list (r_293.1.map dat)), cV (PyData.int r_293.2.1), cAny, cAny, cAny, cAny, cAny]) rfl (es_ret (g := fun r_342 : Bool => r_342) (ev_op (ev_cb (ea_cons (Γ1 := fun (a_337 : (List Int)) => [cIs v0, cIs v1, cV (PyData.list (r_293.1.map dat)), cV (PyData.int r_293.2.1), cAny, cAny, cAny, cAny, cAny]) (evp_callS (begun_p, cards_p) (eap_cons (ev_slot (i := 0) rfl no_Is) (eap_cons (ev_slot (i := 1) rfl no_Is) eap_nil)) (pars_cons (pa_bw rfl h0) (pars_cons (pa_bw rfl h1) pars_nil)) xok_emp) fun (a_337 : (List Int)) => ea_nil) (fun p_339 => (rn_to (p_339.1.sum) (Γ' := fun r : Int => [cIs v0, cIs v1, cV (PyData.list (r_293.1.map dat)), cV (PyData.int r_293.2.1), cAny, cAny, cAny, cAny, cAny]) (c := fun r : Int => rV (PyData.int r)) (rn_sum (ns := p_339.1) (pa_S pa_lo))))) (fun (x_340 : Int) => (ev_pure (a := ((begun_p.sum) + (cards_p.sum))) (cc := fun r : Int => rV (PyData.int r)) (evp_op (evp_cb (eap_cons (ev_slot (i := 0) rfl no_Is) eap_nil) (rn_sum (ns := begun_p) (pa_S (pa_bw rfl h0)))) (evp_cb (eap_cons (ev_slot (i := 1) rfl no_Is) eap_nil) (rn_sum (ns := cards_p) (pa_S (pa_bw rfl h1)))) r2_I0))) (fun (x_340 : Int) (y_341 : Int) => (r2_to (decide (x_340 = y_341)) (Γ' := fun r : Bool => [cIs v0, cIs v1, cV (PyData.list (r_293.1.map dat)), cV (PyData.int r_293.2.1), cAny, cAny, cAny, cAny, cAny]) (c := fun r : Bool => rV (PyData.bool r)) r2_eqI))) (fun _ => rfl) (fun r_342 => (ret_le (.any (.any (.any (.any (.same (.same (.same (.same (.same .nil))))))))))))))))))))
abbrev N__law_scaled_right : List Str := ["begun", "cards", "factor", "more", "tops", "rest", "wide", "one", "low"]
theorem sc__law_scaled_right : FnScope N__law_scaled_right ["begun", "cards", "factor", "more"] (defScope s__law_scaled_right) := ⟨rfl, rfl, rfl, by decide +kernel, rfl, by decide +kernel, by decide +kernel⟩
def m__law_scaled_right (begun_p : (List Int)) (cards_p : (List Int)) (factor_p : Int) (more_p : Int) : Res Bool :=
  (((m_tops_of begun_p cards_p).bind fun a_344 => ((m_end_of begun_p cards_p).bind fun a_345 => (Res.ok ()).bind fun r_346 => Res.ok (a_345, r_346)).bind fun r_347 => Res.ok (a_344, r_347)).bind fun r_349 => ((((Res.ok ()).bind fun a_358 => compR begun_p () [] fun s_360 x_359 => (mulA x_359 factor_p).bind fun r_361 => Res.ok (some r_361, s_360)).bind fun a_362 => (((Res.ok ()).bind fun a_363 => compR cards_p () [] fun s_365 x_364 => (mulA x_364 factor_p).bind fun r_366 => Res.ok (some r_366, s_365)).bind fun a_367 => (Res.ok ()).bind fun r_368 => Res.ok (a_367, r_368)).bind fun r_369 => Res.ok (a_362, r_369)).bind fun r_370 => (((((getI ([r_370.1.1, r_370.2.1.1] : List (List Int)) 0).bind fun a_371 => ((getI ([r_370.1.1, r_370.2.1.1] : List (List Int)) 1).bind fun a_372 => (Res.ok ()).bind fun r_373 => Res.ok (a_372, r_373)).bind fun r_374 => Res.ok (a_371, r_374)).bind fun p_375 => m_tops_of p_375.1 p_375.2.1).bind fun x_384 => ((Res.ok ()).bind fun a_385 => compR r_349.1 () [] fun s_387 x_386 => (mulA x_386 factor_p).bind fun r_388 => Res.ok (some r_388, s_387)).bind fun y_389 => Res.ok (!eqD (x_384 : (List Int)) (y_389.1 : (List Int)))).bind fun c_390 => if c_390 then (Res.ok false) else ((((((Res.ok ()).bind fun a_394 => compR begun_p () [] fun s_396 x_395 => Res.ok (some (x_395 + more_p), s_396)).bind fun a_397 => ((Res.ok ()).bind fun a_398 => (Res.ok ()).bind fun r_399 => Res.ok (a_398, r_399)).bind fun r_400 => Res.ok (a_397, r_400)).bind fun p_401 => m_end_of p_401.1.1 cards_p).bind fun x_408 => ((Res.ok ()).bind fun a_409 => compR r_349.2.1 () [] fun s_411 x_410 => Res.ok (some (x_410 + more_p), s_411)).bind fun y_412 => Res.ok (!eqD (x_408 : (List Int)) (y_412.1 : (List Int)))).bind fun c_413 => if c_413 then (Res.ok false) else ((((((Res.ok ()).bind fun a_417 => compR begun_p () [] fun s_419 x_418 => Res.ok (some (x_418 + more_p), s_419)).bind fun a_420 => ((Res.ok ()).bind fun a_421 => (Res.ok ()).bind fun r_422 => Res.ok (a_421, r_422)).bind fun r_423 => Res.ok (a_420, r_423)).bind fun p_424 => m_tops_of p_424.1.1 cards_p).bind fun x_431 => ((Res.ok ()).bind fun a_432 => compR r_349.1 () [] fun s_434 x_433 => Res.ok (some (x_433 + more_p), s_434)).bind fun y_435 => Res.ok (eqD (x_431 : (List Int)) (y_435.1 : (List Int)))).bind fun r_436 => Res.ok r_436)))))
abbrev ps__law_scaled_right (K : PySem.W.Frag) (x : (List Int) × (List Int) × Int × Int) : List PP := [ppL (x.1.map dat), ppL (x.2.1.map dat), ppV (PyData.int x.2.2.1), ppV (PyData.int x.2.2.2)]
abbrev c__law_scaled_right (b : Bool) : V → Asr := vA (PyData.bool b)
set_option maxHeartbeats 1600000 in
theorem ok__law_scaled_right (T : Txt K mg ad) : FnG gp P w K mg base (L2.CX P w) 5 ad.a__law_scaled_right ad.d__law_scaled_right ["begun", "cards", "factor", "more"] (Sp0 (ecOf ad) (ps__law_scaled_right K) (fun x => m__law_scaled_right x.1 x.2.1 x.2.2.1 x.2.2.2) c__law_scaled_right) := by
  have G_end_of : FnG gp P w K mg base (L2.CX P w) 4 ad.a_end_of ad.d_end_of ["start", "heights"] (Sp0 (ecOf ad) (ps_end_of K) (fun x => m_end_of x.1 x.2) c_end_of) := ok_end_of T
  have G_tops_of : FnG gp P w K mg base (L2.CX P w) 4 ad.a_tops_of ad.d_tops_of ["start", "heights"] (Sp0 (ecOf ad) (ps_tops_of K) (fun x => m_tops_of x.1 x.2) c_tops_of) := ok_tops_of T
  refine T.F__law_scaled_right.okX sc__law_scaled_right (fun vs H Q E h => sp0_go h fun x C hT hC hw => ?_) (fun cdv A outer s H vs Q E hr h => sp0_go h fun x C hT hC hw => ?_)
  · exact len_of hT hC
  · obtain ⟨begun_p, cards_p, factor_p, more_p⟩ := x
    have hl : vs.length = 4 := len_of hT hC
    obtain ⟨v0, v1, v2, v3, rfl⟩ := len4 hl
    have h0 : Bw (Ecf K E (ecOf ad) C) v0 (ppL (begun_p.map dat)) := fun F H o s c => (hC F H o s c).1
    have h1 : Bw (Ecf K E (ecOf ad) C) v1 (ppL (cards_p.map dat)) := fun F H o s c => (hC F H o s c).2.1
    have hU : (A.deeper (PyProof.Rows.envOfC "_law_scaled_right" (defScope s__law_scaled_right) s.heap.objs.size ad.a__law_scaled_right cdv)).units + 64 < cLine := Nat.lt_of_le_of_lt (by omega) hr.un
    have tk : Takes (cxOf (L2.CX P w) P w K mg base N__law_scaled_right "_law_scaled_right" (defScope s__law_scaled_right) ad.a__law_scaled_right cdv A outer s H E) (fun cls d _ H => E cls d H) := takes_of rfl rfl rfl rfl
    refine ⟨_, (pss_cons (ps_par (i := 4) (j := 5) rfl sc__law_scaled_right.nd rfl rfl (by decide) rfl rfl (pa_cons (pe_callG G_tops_of (hr.mono (by decide)) (by rfl) T.g_tops_of T.F_tops_of.kp T.b_tops_of (fun σ => passAt tk σ) (pa_cons (pv 0) (pa_cons (pv 1) pa_nil))) (pa_cons (pe_callG G_end_of (hr.mono (by decide)) (by rfl) T.g_end_of T.F_end_of.kp T.b_end_of (fun σ => passAt tk σ) (pa_cons (pv 0) (pa_cons (pv 1) pa_nil))) pa_nil)) (by rfl)) (pss_cons (ps_set (i := 6) sc__law_scaled_right.nd rfl (Or.inl rfl) (pe_lst (pa_cons (pe_lc (own := [("one", 7)]) rfl sc__law_scaled_right.nd (pi_list (pv 0)) (blkOk_by (own := [("one", 7)]) (N := N__law_scaled_right) (sc := defScope s__law_scaled_right) (by decide +kernel)) (fun _ _ _ _ _ => (pg_name (i := 7) sc__law_scaled_right.nd rfl (Or.inl rfl) (.inr rfl))) (fun _ _ _ _ _ => pts_nil) (fun _ _ _ _ _ => (pe_op op_mulA (pv 7) (pv 2)))) (pa_cons (pe_lc (own := [("one", 7)]) rfl sc__law_scaled_right.nd (pi_list (pv 1)) (blkOk_by (own := [("one", 7)]) (N := N__law_scaled_right) (sc := defScope s__law_scaled_right) (by decide +kernel)) (fun _ _ _ _ _ => (pg_name (i := 7) sc__law_scaled_right.nd rfl (Or.inl rfl) (.inr rfl))) (fun _ _ _ _ _ => pts_nil) (fun _ _ _ _ _ => (pe_op op_mulA (pv 7) (pv 2)))) pa_nil)))) (pss_cons (ps_if (pt_cmpR (neDK K rfl hU) (pe_callG G_tops_of (hr.mono (by decide)) (by rfl) T.g_tops_of T.F_tops_of.kp T.b_tops_of (fun σ => passAt tk σ) (pa_cons (pe_ix (ixK K rfl) (pv 6) pe_int (fun _ _ => rfl)) (pa_cons (pe_ix (ixK K rfl) (pv 6) pe_int (fun _ _ => rfl)) pa_nil))) (pe_lc (own := [("low", 8)]) rfl sc__law_scaled_right.nd (pi_list (pv 4)) (blkOk_by (own := [("low", 8)]) (N := N__law_scaled_right) (sc := defScope s__law_scaled_right) (by decide +kernel)) (fun _ _ _ _ _ => (pg_name (i := 8) sc__law_scaled_right.nd rfl (Or.inl rfl) (.inr rfl))) (fun _ _ _ _ _ => pts_nil) (fun _ _ _ _ _ => (pe_op op_mulA (pv 8) (pv 2)))) (nomark _)) (pss_cons (ps_ret pe_bl) pss_nil) pss_nil) (pss_cons (ps_if (pt_cmpR (neDK K rfl hU) (pe_callG G_end_of (hr.mono (by decide)) (by rfl) T.g_end_of T.F_end_of.kp T.b_end_of (fun σ => passAt tk σ) (pa_cons (pe_lc (own := [("one", 7)]) rfl sc__law_scaled_right.nd (pi_list (pv 0)) (blkOk_by (own := [("one", 7)]) (N := N__law_scaled_right) (sc := defScope s__law_scaled_right) (by decide +kernel)) (fun _ _ _ _ _ => (pg_name (i := 7) sc__law_scaled_right.nd rfl (Or.inl rfl) (.inr rfl))) (fun _ _ _ _ _ => pts_nil) (fun _ _ _ _ _ => (pe_op op_add (pv 7) (pv 3)))) (pa_cons (pv 1) pa_nil))) (pe_lc (own := [("one", 7)]) rfl sc__law_scaled_right.nd (pi_list (pv 5)) (blkOk_by (own := [("one", 7)]) (N := N__law_scaled_right) (sc := defScope s__law_scaled_right) (by decide +kernel)) (fun _ _ _ _ _ => (pg_name (i := 7) sc__law_scaled_right.nd rfl (Or.inl rfl) (.inr rfl))) (fun _ _ _ _ _ => pts_nil) (fun _ _ _ _ _ => (pe_op op_add (pv 7) (pv 3)))) (nomark _)) (pss_cons (ps_ret pe_bl) pss_nil) pss_nil) (pss_cons (ps_ret (pe_cmpR (eqDK K rfl hU) (pe_callG G_tops_of (hr.mono (by decide)) (by rfl) T.g_tops_of T.F_tops_of.kp T.b_tops_of (fun σ => passAt tk σ) (pa_cons (pe_lc (own := [("one", 7)]) rfl sc__law_scaled_right.nd (pi_list (pv 0)) (blkOk_by (own := [("one", 7)]) (N := N__law_scaled_right) (sc := defScope s__law_scaled_right) (by decide +kernel)) (fun _ _ _ _ _ => (pg_name (i := 7) sc__law_scaled_right.nd rfl (Or.inl rfl) (.inr rfl))) (fun _ _ _ _ _ => pts_nil) (fun _ _ _ _ _ => (pe_op op_add (pv 7) (pv 3)))) (pa_cons (pv 1) pa_nil))) (pe_lc (own := [("low", 8)]) rfl sc__law_scaled_right.nd (pi_list (pv 4)) (blkOk_by (own := [("low", 8)]) (N := N__law_scaled_right) (sc := defScope s__law_scaled_right) (by decide +kernel)) (fun _ _ _ _ _ => (pg_name (i := 8) sc__law_scaled_right.nd rfl (Or.inl rfl) (.inr rfl))) (fun _ _ _ _ _ => pts_nil) (fun _ _ _ _ _ => (pe_op op_add (pv 8) (pv 3)))) (nomark _))) pss_nil))))), ?_⟩
    have hw : WP (m__law_scaled_right begun_p cards_p factor_p more_p) (fun b => ∀ v H', Top (sep C (c__law_scaled_right b v)) H' → Q v H') (fun k => ∀ H', Top C H' → E (ecOf ad k) none H') := hw
    refine fin0W (K := K) (Γ0 := [cIs v0, cIs v1, cV (PyData.int factor_p), cV (PyData.int more_p), cAny, cAny, cAny, cAny, cAny]) (Γr := fun b : Bool => [cAny, cAny, cAny, cAny, cAny, cAny, cAny, cAny, cAny]) (c := c__law_scaled_right) hT (fun F o s c => ⟨fun _ => rfl, fun _ => rfl, fun _ => (hC F H o s c).2.2.1, fun _ => (hC F H o s c).2.2.2.1, fun _ => trivial, fun _ => trivial, fun _ => trivial, fun _ => trivial, fun _ => trivial, trivial⟩) hw ?_
    exact (es_seq (es_parC (c1 := fun p_348 : ((List Int) × (List Int) × Unit) => rO (p_348.1.map dat)) (c2 := fun p_348 : ((List Int) × (List Int) × Unit) => rO (p_348.2.1.map dat)) (ea_cons (Γ1 := fun (a_344 : (List Int)) => [cIs v0, cIs v1, cV (PyData.int factor_p), cV (PyData.int more_p), cAny, cAny, cAny, cAny, cAny]) (evp_callS (begun_p, cards_p) (eap_cons (ev_slot (i := 0) rfl no_Is) (eap_cons (ev_slot (i := 1) rfl no_Is) eap_nil)) (pars_cons (pa_bw rfl h0) (pars_cons (pa_bw rfl h1) pars_nil)) xok_emp) fun (a_344 : (List Int)) => (ea_cons (Γ1 := fun (a_345 : (List Int)) => [cIs v0, cIs v1, cV (PyData.int factor_p), cV (PyData.int more_p), cAny, cAny, cAny, cAny, cAny]) (evp_callS (begun_p, cards_p) (eap_cons (ev_slot (i := 0) rfl no_Is) (eap_cons (ev_slot (i := 1) rfl no_Is) eap_nil)) (pars_cons (pa_bw rfl h0) (pars_cons (pa_bw rfl h1) pars_nil)) xok_emp) fun (a_345 : (List Int)) => ea_nil)) rfl (fun _ => sto_f) (fun _ => sto_f) (fun _ => fl_o) (fun _ => lt_len rfl) (fun _ => lt_len rfl)) fun (r_349 : ((List Int) × (List Int) × Unit)) => by exact EvS.is (Δ := [cIs v0, cIs v1, cV (PyData.int factor_p), cV (PyData.int more_p), cV (PyData.list (r_349.1.map dat)), cV (PyData.list (r_349.2.1.map dat)), cAny, cAny, cAny]) rfl (es_seq (es_asg (ev_lst (ds := fun p : ((List Int × Unit) × (List Int × Unit) × Unit) => [(PyData.list (p.1.1.map dat)), (PyData.list (p.2.1.1.map dat))]) (ea_cons (Γ1 := fun (a_362 : (List Int × Unit)) => [cIs v0, cIs v1, cV (PyData.int factor_p), cV (PyData.int more_p), cV (PyData.list (r_349.1.map dat)), cV (PyData.list (r_349.2.1.map dat)), cAny, cAny, cAny]) (el_comp (xs := fun a_358 : Unit => begun_p) (Γs := fun s_360 : Unit => [cIs v0, cIs v1, cV (PyData.int factor_p), cV (PyData.int more_p), cV (PyData.list (r_349.1.map dat)), cV (PyData.list (r_349.2.1.map dat)), cAny, cAny, cAny]) (Γt := fun (s_360 : Unit) (x_359 : Int) => [cIs v0, cIs v1, cV (PyData.int factor_p), cV (PyData.int more_p), cV (PyData.list (r_349.1.map dat)), cV (PyData.list (r_349.2.1.map dat)), cAny, cV (PyData.int x_359), cAny]) (s0 := fun a_358 => ()) (ei_list (ds := fun _ => (begun_p.map dat)) (ev_slot (i := 0) rfl no_Is) fun _ => (src_b rfl (bwS h0))) (fun _ _ => trivial) (fun a_358 => (.same (.same (.same (.same (.same (.same (.same (.same (.same .nil)))))))))) (fun s_360 => (hv_cons rfl hv_nil)) (fun s_360 x_359 => (eg_name (lt_len rfl))) (by decide) (fun s_360 x_359 => elj_yes (b := fun r_361 : Int => r_361) (s := fun r_361 => s_360) (evp_op (ev_var rfl) (ev_var rfl) r2_mulA) (fun _ => fz_v) (fun r_361 => (.same (.same (.same (.same (.same (.same (.same (.any (.same .nil)))))))))))) fun (a_362 : (List Int × Unit)) => (ea_cons (Γ1 := fun (a_367 : (List Int × Unit)) => [cIs v0, cIs v1, cV (PyData.int factor_p), cV (PyData.int more_p), cV (PyData.list (r_349.1.map dat)), cV (PyData.list (r_349.2.1.map dat)), cAny, cAny, cAny]) (el_comp (xs := fun a_363 : Unit => cards_p) (Γs := fun s_365 : Unit => [cIs v0, cIs v1, cV (PyData.int factor_p), cV (PyData.int more_p), cV (PyData.list (r_349.1.map dat)), cV (PyData.list (r_349.2.1.map dat)), cAny, cAny, cAny]) (Γt := fun (s_365 : Unit) (x_364 : Int) => [cIs v0, cIs v1, cV (PyData.int factor_p), cV (PyData.int more_p), cV (PyData.list (r_349.1.map dat)), cV (PyData.list (r_349.2.1.map dat)), cAny, cV (PyData.int x_364), cAny]) (s0 := fun a_363 => ()) (ei_list (ds := fun _ => (cards_p.map dat)) (ev_slot (i := 1) rfl no_Is) fun _ => (src_b rfl (bwS h1))) (fun _ _ => trivial) (fun a_363 => (.same (.same (.same (.same (.same (.same (.same (.same (.same .nil)))))))))) (fun s_365 => (hv_cons rfl hv_nil)) (fun s_365 x_364 => (eg_name (lt_len rfl))) (by decide) (fun s_365 x_364 => elj_yes (b := fun r_366 : Int => r_366) (s := fun r_366 => s_365) (evp_op (ev_var rfl) (ev_var rfl) r2_mulA) (fun _ => fz_v) (fun r_366 => (.same (.same (.same (.same (.same (.same (.same (.any (.same .nil)))))))))))) fun (a_367 : (List Int × Unit)) => ea_nil)) fun p => (.cons fz_o (.cons fz_o .nil))) (fun _ => sto_f) (fun _ => lt_len rfl)) fun (r_370 : ((List Int × Unit) × (List Int × Unit) × Unit)) => by exact EvS.is (Δ := [cIs v0, cIs v1, cV (PyData.int factor_p), cV (PyData.int more_p), cV (PyData.list (r_349.1.map dat)), cV (PyData.list (r_349.2.1.map dat)), cV (PyData.list (([r_370.1.1, r_370.2.1.1] : List (List Int)).map dat)), cAny, cAny]) rfl (es_ifTM (b := fun c_390 : Bool => c_390) (et_val (b := fun r : Bool => r) (ev_op (ev_callSC (fun p_375 : ((List Int) × (List Int) × Unit) => (p_375.1, p_375.2.1)) (ea_cons (Γ1 := fun (a_371 : (List Int)) => [cIs v0, cIs v1, cV (PyData.int factor_p), cV (PyData.int more_p), cV (PyData.list (r_349.1.map dat)), cV (PyData.list (r_349.2.1.map dat)), cV (PyData.list (([r_370.1.1, r_370.2.1.1] : List (List Int)).map dat)), cAny, cAny]) (evp_op (ev_var rfl) ev_int (r2_ix (pa_S pa_lv))) fun (a_371 : (List Int)) => (ea_cons (Γ1 := fun (a_372 : (List Int)) => [cIs v0, cIs v1, cV (PyData.int factor_p), cV (PyData.int more_p), cV (PyData.list (r_349.1.map dat)), cV (PyData.list (r_349.2.1.map dat)), cV (PyData.list (([r_370.1.1, r_370.2.1.1] : List (List Int)).map dat)), cAny, cAny]) (evp_op (ev_var rfl) ev_int (r2_ix (pa_S pa_lv))) fun (a_372 : (List Int)) => ea_nil)) rfl (fun p_375 => (pars_cons pa_lv (pars_cons pa_lv pars_nil))) xok_emp) (fun (x_384 : (List Int)) => (el_comp (xs := fun a_385 : Unit => r_349.1) (Γs := fun s_387 : Unit => [cIs v0, cIs v1, cV (PyData.int factor_p), cV (PyData.int more_p), cV (PyData.list (r_349.1.map dat)), cV (PyData.list (r_349.2.1.map dat)), cV (PyData.list (([r_370.1.1, r_370.2.1.1] : List (List Int)).map dat)), cAny, cAny]) (Γt := fun (s_387 : Unit) (x_386 : Int) => [cIs v0, cIs v1, cV (PyData.int factor_p), cV (PyData.int more_p), cV (PyData.list (r_349.1.map dat)), cV (PyData.list (r_349.2.1.map dat)), cV (PyData.list (([r_370.1.1, r_370.2.1.1] : List (List Int)).map dat)), cAny, cV (PyData.int x_386)]) (s0 := fun a_385 => ()) (ei_list (ds := fun _ => (r_349.1.map dat)) (ev_var rfl) fun _ => src_v) (fun _ _ => trivial) (fun a_385 => (.same (.same (.same (.same (.same (.same (.same (.same (.same .nil)))))))))) (fun s_387 => (hv_cons rfl hv_nil)) (fun s_387 x_386 => (eg_name (lt_len rfl))) (by decide) (fun s_387 x_386 => elj_yes (b := fun r_388 : Int => r_388) (s := fun r_388 => s_387) (evp_op (ev_var rfl) (ev_var rfl) r2_mulA) (fun _ => fz_v) (fun r_388 => (.same (.same (.same (.same (.same (.same (.same (.same (.any (.nil)))))))))))))) (fun (x_384 : (List Int)) (y_389 : (List Int × Unit)) => (r2_to (!eqD (x_384 : (List Int)) (y_389.1 : (List Int))) (Γ' := fun r : Bool => [cIs v0, cIs v1, cV (PyData.int factor_p), cV (PyData.int more_p), cV (PyData.list (r_349.1.map dat)), cV (PyData.list (r_349.2.1.map dat)), cV (PyData.list (([r_370.1.1, r_370.2.1.1] : List (List Int)).map dat)), cAny, cAny]) (c := fun r : Bool => rV (PyData.bool r)) (r2_ne (pa_D (pa_S pa_lo)) (pa_D (pa_S pa_lo)) (shp (α := (List Int)) (a := x_384)) (shp (α := (List Int)) (a := y_389.1))))))) (fun c_390 => by exact (es_retP (b := false) ev_bl rfl (ret_le (.any (.any (.any (.any (.any (.any (.any (.same (.same .nil)))))))))))) (fun c_390 => by exact (es_ifTM (b := fun c_413 : Bool => c_413) (et_val (b := fun r : Bool => r) (ev_op (ev_callSC (fun p_401 : ((List Int × Unit) × Unit × Unit) => (p_401.1.1, cards_p)) (ea_cons (Γ1 := fun (a_397 : (List Int × Unit)) => [cIs v0, cIs v1, cV (PyData.int factor_p), cV (PyData.int more_p), cV (PyData.list (r_349.1.map dat)), cV (PyData.list (r_349.2.1.map dat)), cV (PyData.list (([r_370.1.1, r_370.2.1.1] : List (List Int)).map dat)), cAny, cAny]) (el_comp (xs := fun a_394 : Unit => begun_p) (Γs := fun s_396 : Unit => [cIs v0, cIs v1, cV (PyData.int factor_p), cV (PyData.int more_p), cV (PyData.list (r_349.1.map dat)), cV (PyData.list (r_349.2.1.map dat)), cV (PyData.list (([r_370.1.1, r_370.2.1.1] : List (List Int)).map dat)), cAny, cAny]) (Γt := fun (s_396 : Unit) (x_395 : Int) => [cIs v0, cIs v1, cV (PyData.int factor_p), cV (PyData.int more_p), cV (PyData.list (r_349.1.map dat)), cV (PyData.list (r_349.2.1.map dat)), cV (PyData.list (([r_370.1.1, r_370.2.1.1] : List (List Int)).map dat)), cV (PyData.int x_395), cAny]) (s0 := fun a_394 => ()) (ei_list (ds := fun _ => (begun_p.map dat)) (ev_slot (i := 0) rfl no_Is) fun _ => (src_b rfl (bwS h0))) (fun _ _ => trivial) (fun a_394 => (.same (.same (.same (.same (.same (.same (.same (.same (.same .nil)))))))))) (fun s_396 => (hv_cons rfl hv_nil)) (fun s_396 x_395 => (eg_name (lt_len rfl))) (by decide) (fun s_396 x_395 => elj_yesP (b := (x_395 + more_p)) (s := s_396) (evp_op (ev_var rfl) (ev_var rfl) r2_I0) fz_v (.same (.same (.same (.same (.same (.same (.same (.any (.same .nil))))))))))) fun (a_397 : (List Int × Unit)) => (ea_cons (Γ1 := fun (a_398 : Unit) => [cIs v0, cIs v1, cV (PyData.int factor_p), cV (PyData.int more_p), cV (PyData.list (r_349.1.map dat)), cV (PyData.list (r_349.2.1.map dat)), cV (PyData.list (([r_370.1.1, r_370.2.1.1] : List (List Int)).map dat)), cAny, cAny]) (ev_pure (a := ()) (cc := fun _ => rS 1) (ev_slot (i := 1) rfl no_Is)) fun (a_398 : Unit) => ea_nil)) rfl (fun p_401 => (pars_cons pa_lo (pars_cons (pa_bw rfl h1) pars_nil))) xok_emp) (fun (x_408 : (List Int)) => (el_comp (xs := fun a_409 : Unit => r_349.2.1) (Γs := fun s_411 : Unit => [cIs v0, cIs v1, cV (PyData.int factor_p), cV (PyData.int more_p), cV (PyData.list (r_349.1.map dat)), cV (PyData.list (r_349.2.1.map dat)), cV (PyData.list (([r_370.1.1, r_370.2.1.1] : List (List Int)).map dat)), cAny, cAny]) (Γt := fun (s_411 : Unit) (x_410 : Int) => [cIs v0, cIs v1, cV (PyData.int factor_p), cV (PyData.int more_p), cV (PyData.list (r_349.1.map dat)), cV (PyData.list (r_349.2.1.map dat)), cV (PyData.list (([r_370.1.1, r_370.2.1.1] : List (List Int)).map dat)), cV (PyData.int x_410), cAny]) (s0 := fun a_409 => ()) (ei_list (ds := fun _ => (r_349.2.1.map dat)) (ev_var rfl) fun _ => src_v) (fun _ _ => trivial) (fun a_409 => (.same (.same (.same (.same (.same (.same (.same (.same (.same .nil)))))))))) (fun s_411 => (hv_cons rfl hv_nil)) (fun s_411 x_410 => (eg_name (lt_len rfl))) (by decide) (fun s_411 x_410 => elj_yesP (b := (x_410 + more_p)) (s := s_411) (evp_op (ev_var rfl) (ev_var rfl) r2_I0) fz_v (.same (.same (.same (.same (.same (.same (.same (.any (.same .nil)))))))))))) (fun (x_408 : (List Int)) (y_412 : (List Int × Unit)) => (r2_to (!eqD (x_408 : (List Int)) (y_412.1 : (List Int))) (Γ' := fun r : Bool => [cIs v0, cIs v1, cV (PyData.int factor_p), cV (PyData.int more_p), cV (PyData.list (r_349.1.map dat)), cV (PyData.list (r_349.2.1.map dat)), cV (PyData.list (([r_370.1.1, r_370.2.1.1] : List (List Int)).map dat)), cAny, cAny]) (c := fun r : Bool => rV (PyData.bool r)) (r2_ne (pa_D (pa_S pa_lo)) (pa_D (pa_S pa_lo)) (shp (α := (List Int)) (a := x_408)) (shp (α := (List Int)) (a := y_412.1))))))) (fun c_413 => by exact (es_retP (b := false) ev_bl rfl (ret_le (.any (.any (.any (.any (.any (.any (.any (.same (.same .nil)))))))))))) (fun c_413 => by exact (es_ret (g := fun r_436 : Bool => r_436) (ev_op (ev_callSC (fun p_424 : ((List Int × Unit) × Unit × Unit) => (p_424.1.1, cards_p)) (ea_cons (Γ1 := fun (a_420 : (List Int × Unit)) => [cIs v0, cIs v1, cV (PyData.int factor_p), cV (PyData.int more_p), cV (PyData.list (r_349.1.map dat)), cV (PyData.list (r_349.2.1.map dat)), cV (PyData.list (([r_370.1.1, r_370.2.1.1] : List (List Int)).map dat)), cAny, cAny]) (el_comp (xs := fun a_417 : Unit => begun_p) (Γs := fun s_419 : Unit => [cIs v0, cIs v1, cV (PyData.int factor_p), cV (PyData.int more_p), cV (PyData.list (r_349.1.map dat)), cV (PyData.list (r_349.2.1.map dat)), cV (PyData.list (([r_370.1.1, r_370.2.1.1] : List (List Int)).map dat)), cAny, cAny]) (Γt := fun (s_419 : Unit) (x_418 : Int) => [cIs v0, cIs v1, cV (PyData.int factor_p), cV (PyData.int more_p), cV (PyData.list (r_349.1.map dat)), cV (PyData.list (r_349.2.1.map dat)), cV (PyData.list (([r_370.1.1, r_370.2.1.1] : List (List Int)).map dat)), cV (PyData.int x_418), cAny]) (s0 := fun a_417 => ()) (ei_list (ds := fun _ => (begun_p.map dat)) (ev_slot (i := 0) rfl no_Is) fun _ => (src_b rfl (bwS h0))) (fun _ _ => trivial) (fun a_417 => (.same (.same (.same (.same (.same (.same (.same (.same (.same .nil)))))))))) (fun s_419 => (hv_cons rfl hv_nil)) (fun s_419 x_418 => (eg_name (lt_len rfl))) (by decide) (fun s_419 x_418 => elj_yesP (b := (x_418 + more_p)) (s := s_419) (evp_op (ev_var rfl) (ev_var rfl) r2_I0) fz_v (.same (.same (.same (.same (.same (.same (.same (.any (.same .nil))))))))))) fun (a_420 : (List Int × Unit)) => (ea_cons (Γ1 := fun (a_421 : Unit) => [cIs v0, cIs v1, cV (PyData.int factor_p), cV (PyData.int more_p), cV (PyData.list (r_349.1.map dat)), cV (PyData.list (r_349.2.1.map dat)), cV (PyData.list (([r_370.1.1, r_370.2.1.1] : List (List Int)).map dat)), cAny, cAny]) (ev_pure (a := ()) (cc := fun _ => rS 1) (ev_slot (i := 1) rfl no_Is)) fun (a_421 : Unit) => ea_nil)) rfl (fun p_424 => (pars_cons pa_lo (pars_cons (pa_bw rfl h1) pars_nil))) xok_emp) (fun (x_431 : (List Int)) => (el_comp (xs := fun a_432 : Unit => r_349.1) (Γs := fun s_434 : Unit => [cIs v0, cIs v1, cV (PyData.int factor_p), cV (PyData.int more_p), cV (PyData.list (r_349.1.map dat)), cV (PyData.list (r_349.2.1.map dat)), cV (PyData.list (([r_370.1.1, r_370.2.1.1] : List (List Int)).map dat)), cAny, cAny]) (Γt := fun (s_434 : Unit) (x_433 : Int) => [cIs v0, cIs v1, cV (PyData.int factor_p), cV (PyData.int more_p), cV (PyData.list (r_349.1.map dat)), cV (PyData.list (r_349.2.1.map dat)), cV (PyData.list (([r_370.1.1, r_370.2.1.1] : List (List Int)).map dat)), cAny, cV (PyData.int x_433)]) (s0 := fun a_432 => ()) (ei_list (ds := fun _ => (r_349.1.map dat)) (ev_var rfl) fun _ => src_v) (fun _ _ => trivial) (fun a_432 => (.same (.same (.same (.same (.same (.same (.same (.same (.same .nil)))))))))) (fun s_434 => (hv_cons rfl hv_nil)) (fun s_434 x_433 => (eg_name (lt_len rfl))) (by decide) (fun s_434 x_433 => elj_yesP (b := (x_433 + more_p)) (s := s_434) (evp_op (ev_var rfl) (ev_var rfl) r2_I0) fz_v (.same (.same (.same (.same (.same (.same (.same (.same (.any (.nil))))))))))))) (fun (x_431 : (List Int)) (y_435 : (List Int × Unit)) => (r2_to (eqD (x_431 : (List Int)) (y_435.1 : (List Int))) (Γ' := fun r : Bool => [cIs v0, cIs v1, cV (PyData.int factor_p), cV (PyData.int more_p), cV (PyData.list (r_349.1.map dat)), cV (PyData.list (r_349.2.1.map dat)), cV (PyData.list (([r_370.1.1, r_370.2.1.1] : List (List Int)).map dat)), cAny, cAny]) (c := fun r : Bool => rV (PyData.bool r)) (r2_eq (pa_D (pa_S pa_lo)) (pa_D (pa_S pa_lo)) (shp (α := (List Int)) (a := x_431)) (shp (α := (List Int)) (a := y_435.1)))))) (fun _ => rfl) (fun r_436 => (ret_le (.any (.any (.any (.any (.any (.any (.any (.same (.same .nil))))))))))))))))))
abbrev N__law_cut_right : List Str := ["begun", "cards", "cut", "other", "middle", "higher", "two", "one", "high", "low"]
theorem sc__law_cut_right : FnScope N__law_cut_right ["begun", "cards", "cut", "other"] (defScope s__law_cut_right) := ⟨rfl, rfl, rfl, by decide +kernel, rfl, by decide +kernel, by decide +kernel⟩
def m__law_cut_right (begun_p : (List Int)) (cards_p : (List Int)) (cut_p : Int) (other_p : (List Int)) : Res Bool :=
  ((m_end_of begun_p (cutL cards_p none (some cut_p))).bind fun r_437 => (((m_layout_s1 begun_p cards_p).bind fun x_444 => ((m_layout_s1 begun_p (cutL cards_p none (some cut_p))).bind fun x_445 => (m_layout_s1 r_437 (cutL cards_p (some cut_p) none)).bind fun y_446 => (catR x_445 y_446)).bind fun y_448 => Res.ok (!eqD (x_444 : (List (Int × Int))) (y_448 : (List (Int × Int))))).bind fun c_449 => if c_449 then (Res.ok false) else ((((m_end_of r_437 (cutL cards_p (some cut_p) none)).bind fun x_450 => (m_end_of begun_p cards_p).bind fun y_451 => Res.ok (!eqD (x_450 : (List Int)) (y_451 : (List Int)))).bind fun b_460 => if b_460 then Res.ok true else ((m_tops_of r_437 ([1] : List Int)).bind fun x_456 => ((minR r_437).bind fun a_457 => (Res.ok ()).bind fun r_458 => Res.ok (a_457, r_458)).bind fun y_459 => Res.ok (!eqD (x_456 : (List Int)) (([y_459.1] : List Int) : (List Int))))).bind fun c_461 => if c_461 then (Res.ok false) else (((Res.ok ()).bind fun a_462 => compR (begun_p.zip other_p) () [] fun s_464 x_463 => Res.ok (some (max x_463.1 x_463.2), s_464)).bind fun r_465 => (((((m_tops_of begun_p cards_p).bind fun a_466 => ((m_tops_of r_465.1 cards_p).bind fun a_467 => (Res.ok ()).bind fun r_468 => Res.ok (a_467, r_468)).bind fun r_469 => Res.ok (a_466, r_469)).bind fun a_471 => compR (a_471.1.zip a_471.2.1) () [] fun s_473 x_472 => if (decide (x_472.2 < x_472.1)) then Res.ok (some 1, s_473) else Res.ok (none, s_473)).bind fun x_474 => (Res.ok (([] : (List Int)) : (List Int))).bind fun y_475 => Res.ok (eqD (x_474.1 : (List Int)) (y_475 : (List Int)))).bind fun r_476 => Res.ok r_476)))))
abbrev ps__law_cut_right (K : PySem.W.Frag) (x : (List Int) × (List Int) × Int × (List Int)) : List PP := [ppL (x.1.map dat), ppL (x.2.1.map dat), ppV (PyData.int x.2.2.1), ppL (x.2.2.2.map dat)]
abbrev c__law_cut_right (b : Bool) : V → Asr := vA (PyData.bool b)
set_option maxHeartbeats 1600000 in
theorem ok__law_cut_right (T : Txt K mg ad) : FnG gp P w K mg base (L2.CX P w) 5 ad.a__law_cut_right ad.d__law_cut_right ["begun", "cards", "cut", "other"] (Sp0 (ecOf ad) (ps__law_cut_right K) (fun x => m__law_cut_right x.1 x.2.1 x.2.2.1 x.2.2.2) c__law_cut_right) := by
  have G_end_of : FnG gp P w K mg base (L2.CX P w) 4 ad.a_end_of ad.d_end_of ["start", "heights"] (Sp0 (ecOf ad) (ps_end_of K) (fun x => m_end_of x.1 x.2) c_end_of) := ok_end_of T
  have G_layout : FnG gp P w K mg base (L2.CX P w) 4 ad.a_layout ad.d_layout ["start", "heights", "right"] (Sp0 (ecOf ad) (ps_layout K) (fun x => m_layout x.1 x.2.1 x.2.2) c_layout) := ok_layout T
  have G_tops_of : FnG gp P w K mg base (L2.CX P w) 4 ad.a_tops_of ad.d_tops_of ["start", "heights"] (Sp0 (ecOf ad) (ps_tops_of K) (fun x => m_tops_of x.1 x.2) c_tops_of) := ok_tops_of T
  refine T.F__law_cut_right.okX sc__law_cut_right (fun vs H Q E h => sp0_go h fun x C hT hC hw => ?_) (fun cdv A outer s H vs Q E hr h => sp0_go h fun x C hT hC hw => ?_)
  · exact len_of hT hC
  · obtain ⟨begun_p, cards_p, cut_p, other_p⟩ := x
    have hl : vs.length = 4 := len_of hT hC
    obtain ⟨v0, v1, v2, v3, rfl⟩ := len4 hl
    have h0 : Bw (Ecf K E (ecOf ad) C) v0 (ppL (begun_p.map dat)) := fun F H o s c => (hC F H o s c).1
    have h1 : Bw (Ecf K E (ecOf ad) C) v1 (ppL (cards_p.map dat)) := fun F H o s c => (hC F H o s c).2.1
    have h3 : Bw (Ecf K E (ecOf ad) C) v3 (ppL (other_p.map dat)) := fun F H o s c => (hC F H o s c).2.2.2.1
    have hU : (A.deeper (PyProof.Rows.envOfC "_law_cut_right" (defScope s__law_cut_right) s.heap.objs.size ad.a__law_cut_right cdv)).units + 64 < cLine := Nat.lt_of_le_of_lt (by omega) hr.un
    have tk : Takes (cxOf (L2.CX P w) P w K mg base N__law_cut_right "_law_cut_right" (defScope s__law_cut_right) ad.a__law_cut_right cdv A outer s H E) (fun cls d _ H => E cls d H) := takes_of rfl rfl rfl rfl
    refine ⟨_, (pss_cons (ps_set (i := 4) sc__law_cut_right.nd rfl (Or.inl rfl) (pe_callG G_end_of (hr.mono (by decide)) (by rfl) T.g_end_of T.F_end_of.kp T.b_end_of (fun σ => passAt tk σ) (pa_cons (pv 0) (pa_cons (pe_slice (slK K rfl) (pv 1) po_none (po_some (pv 2))) pa_nil)))) (pss_cons (ps_if (pt_cmpR (neDK K rfl hU) (pe_callGK (dv := [(V.bl false)]) (du := [(Value.bool false)]) G_layout (hr.mono (by decide)) (by rfl) T.g_layout T.F_layout.kp T.k_layout_s1 (.cons rfl .nil) (by decide) spk_layout_s1 (fun σ => passAt tk σ) (pka_cons (pv 0) (pka_cons (pv 1) (pka_kw pkn_nil)))) (pe_op op_cat (pe_callGK (dv := [(V.bl false)]) (du := [(Value.bool false)]) G_layout (hr.mono (by decide)) (by rfl) T.g_layout T.F_layout.kp T.k_layout_s1 (.cons rfl .nil) (by decide) spk_layout_s1 (fun σ => passAt tk σ) (pka_cons (pv 0) (pka_cons (pe_slice (slK K rfl) (pv 1) po_none (po_some (pv 2))) (pka_kw pkn_nil)))) (pe_callGK (dv := [(V.bl false)]) (du := [(Value.bool false)]) G_layout (hr.mono (by decide)) (by rfl) T.g_layout T.F_layout.kp T.k_layout_s1 (.cons rfl .nil) (by decide) spk_layout_s1 (fun σ => passAt tk σ) (pka_cons (pv 4) (pka_cons (pe_slice (slK K rfl) (pv 1) (po_some (pv 2)) po_none) (pka_kw pkn_nil))))) (nomark _)) (pss_cons (ps_ret pe_bl) pss_nil) pss_nil) (pss_cons (ps_if (PW.pt (pw_or (pt_cmpR (neDK K rfl hU) (pe_callG G_end_of (hr.mono (by decide)) (by rfl) T.g_end_of T.F_end_of.kp T.b_end_of (fun σ => passAt tk σ) (pa_cons (pv 4) (pa_cons (pe_slice (slK K rfl) (pv 1) (po_some (pv 2)) po_none) pa_nil))) (pe_callG G_end_of (hr.mono (by decide)) (by rfl) T.g_end_of T.F_end_of.kp T.b_end_of (fun σ => passAt tk σ) (pa_cons (pv 0) (pa_cons (pv 1) pa_nil))) (nomark _)) (pw_or1 (pt_cmpR (neDK K rfl hU) (pe_callG G_tops_of (hr.mono (by decide)) (by rfl) T.g_tops_of T.F_tops_of.kp T.b_tops_of (fun σ => passAt tk σ) (pa_cons (pv 4) (pa_cons (pe_lst (pa_cons pe_int pa_nil)) pa_nil))) (pe_lst (pa_cons (pe_callB (minK K rfl rfl) (by rfl) T.z_min (by decide +kernel) (pa_cons (pv 4) pa_nil)) pa_nil)) (nomark _))))) (pss_cons (ps_ret pe_bl) pss_nil) pss_nil) (pss_cons (ps_setLc (i := 5) (own := [("one", 7), ("two", 6)]) rfl sc__law_cut_right.nd rfl rfl (sw_true rfl rfl rfl (by decide +kernel)) (pi_zip (by rfl) T.z_zip (pa_cons (pv 0) (pa_cons (pv 3) pa_nil))) (blkOk_by (own := [("one", 7), ("two", 6)]) (N := N__law_cut_right) (sc := defScope s__law_cut_right) (by decide +kernel)) (fun _ _ _ _ _ => (pg_tupK K 2 rfl rfl (pgs_cons (pg_name (i := 7) sc__law_cut_right.nd rfl (Or.inl rfl) (.inr rfl)) (pgs_cons (pg_name (i := 6) sc__law_cut_right.nd rfl (Or.inl rfl) (.inr rfl)) pgs_nil)) rfl rfl)) (fun _ _ _ _ _ => pts_nil) (fun _ _ _ _ _ => (pe_callB (call_max2 rfl) (by rfl) T.z_max (by decide +kernel) (pa_cons (pv 7) (pa_cons (pv 6) pa_nil))))) (pss_cons (ps_ret (pe_cmpR (eqDK K rfl hU) (pe_lc (own := [("low", 9), ("high", 8)]) rfl sc__law_cut_right.nd (pi_zip (by rfl) T.z_zip (pa_cons (pe_callG G_tops_of (hr.mono (by decide)) (by rfl) T.g_tops_of T.F_tops_of.kp T.b_tops_of (fun σ => passAt tk σ) (pa_cons (pv 0) (pa_cons (pv 1) pa_nil))) (pa_cons (pe_callG G_tops_of (hr.mono (by decide)) (by rfl) T.g_tops_of T.F_tops_of.kp T.b_tops_of (fun σ => passAt tk σ) (pa_cons (pv 5) (pa_cons (pv 1) pa_nil))) pa_nil))) (blkOk_by (own := [("low", 9), ("high", 8)]) (N := N__law_cut_right) (sc := defScope s__law_cut_right) (by decide +kernel)) (fun _ _ _ _ _ => (pg_tupK K 2 rfl rfl (pgs_cons (pg_name (i := 9) sc__law_cut_right.nd rfl (Or.inl rfl) (.inr rfl)) (pgs_cons (pg_name (i := 8) sc__law_cut_right.nd rfl (Or.inl rfl) (.inr rfl)) pgs_nil)) rfl rfl)) (fun _ _ _ _ _ => pts_one (pt_cmpR op_lt (pv 8) (pv 9) (nomark _))) (fun _ _ _ _ _ => pe_int)) (pe_lst pa_nil) (nomark _))) pss_nil))))), ?_⟩
    have hw : WP (m__law_cut_right begun_p cards_p cut_p other_p) (fun b => ∀ v H', Top (sep C (c__law_cut_right b v)) H' → Q v H') (fun k => ∀ H', Top C H' → E (ecOf ad k) none H') := hw
    refine fin0W (K := K) (Γ0 := [cIs v0, cIs v1, cV (PyData.int cut_p), cIs v3, cAny, cAny, cAny, cAny, cAny, cAny]) (Γr := fun b : Bool => [cAny, cAny, cAny, cAny, cAny, cAny, cAny, cAny, cAny, cAny]) (c := c__law_cut_right) hT (fun F o s c => ⟨fun _ => rfl, fun _ => rfl, fun _ => (hC F H o s c).2.2.1, fun _ => rfl, fun _ => trivial, fun _ => trivial, fun _ => trivial, fun _ => trivial, fun _ => trivial, fun _ => trivial, trivial⟩) hw ?_
    exact (es_seq (es_asg (evp_callS (begun_p, (cutL cards_p none (some cut_p))) (eap_cons (ev_slot (i := 0) rfl no_Is) (eap_cons (evp_sl (ev_slot (i := 1) rfl no_Is) eo_no (eop (ev_var rfl)) (rsl_list (xs := cards_p) (pa_S (pa_bw rfl h1)))) eap_nil)) (pars_cons (pa_bw rfl h0) (pars_cons pa_lo pars_nil)) xok_emp) (fun _ => sto_f) (fun _ => lt_len rfl)) fun (r_437 : (List Int)) => by exact EvS.is (Δ := [cIs v0, cIs v1, cV (PyData.int cut_p), cIs v3, cV (PyData.list (r_437.map dat)), cAny, cAny, cAny, cAny, cAny]) rfl (es_ifTM (b := fun c_449 : Bool => c_449) (et_val (b := fun r : Bool => r) (ev_op (evp_callS (begun_p, cards_p) (eap_cons (ev_slot (i := 0) rfl no_Is) (eap_cons (ev_slot (i := 1) rfl no_Is) eap_nil)) (pars_cons (pa_bw rfl h0) (pars_cons (pa_bw rfl h1) pars_nil)) xok_emp) (fun (x_444 : (List (Int × Int))) => (ev_op (evp_callS (begun_p, (cutL cards_p none (some cut_p))) (eap_cons (ev_slot (i := 0) rfl no_Is) (eap_cons (evp_sl (ev_slot (i := 1) rfl no_Is) eo_no (eop (ev_var rfl)) (rsl_list (xs := cards_p) (pa_S (pa_bw rfl h1)))) eap_nil)) (pars_cons (pa_bw rfl h0) (pars_cons pa_lo pars_nil)) xok_emp) (fun (x_445 : (List (Int × Int))) => (evp_callS (r_437, (cutL cards_p (some cut_p) none)) (eap_cons (ev_var rfl) (eap_cons (evp_sl (ev_slot (i := 1) rfl no_Is) (eop (ev_var rfl)) eo_no (rsl_list (xs := cards_p) (pa_S (pa_bw rfl h1)))) eap_nil)) (pars_cons pa_lv (pars_cons pa_lo pars_nil)) xok_emp)) (fun (x_445 : (List (Int × Int))) (y_446 : (List (Int × Int))) => (r2_cat pa_lo pa_lo)))) (fun (x_444 : (List (Int × Int))) (y_448 : (List (Int × Int))) => (r2_to (!eqD (x_444 : (List (Int × Int))) (y_448 : (List (Int × Int)))) (Γ' := fun r : Bool => [cIs v0, cIs v1, cV (PyData.int cut_p), cIs v3, cV (PyData.list (r_437.map dat)), cAny, cAny, cAny, cAny, cAny]) (c := fun r : Bool => rV (PyData.bool r)) (r2_ne (pa_D (pa_S pa_lo)) (pa_D (pa_S pa_lo)) (shp (α := (List (Int × Int))) (a := x_444)) (shp (α := (List (Int × Int))) (a := y_448))))))) (fun c_449 => by exact (es_retP (b := false) ev_bl rfl (ret_le (.any (.any (.any (.any (.any (.same (.same (.same (.same (.same .nil))))))))))))) (fun c_449 => by exact (es_ifTM (b := fun c_461 : Bool => c_461) (et_or (et_val (b := fun r : Bool => r) (ev_op (evp_callS (r_437, (cutL cards_p (some cut_p) none)) (eap_cons (ev_var rfl) (eap_cons (evp_sl (ev_slot (i := 1) rfl no_Is) (eop (ev_var rfl)) eo_no (rsl_list (xs := cards_p) (pa_S (pa_bw rfl h1)))) eap_nil)) (pars_cons pa_lv (pars_cons pa_lo pars_nil)) xok_emp) (fun (x_450 : (List Int)) => (evp_callS (begun_p, cards_p) (eap_cons (ev_slot (i := 0) rfl no_Is) (eap_cons (ev_slot (i := 1) rfl no_Is) eap_nil)) (pars_cons (pa_bw rfl h0) (pars_cons (pa_bw rfl h1) pars_nil)) xok_emp)) (fun (x_450 : (List Int)) (y_451 : (List Int)) => (r2_to (!eqD (x_450 : (List Int)) (y_451 : (List Int))) (Γ' := fun r : Bool => [cIs v0, cIs v1, cV (PyData.int cut_p), cIs v3, cV (PyData.list (r_437.map dat)), cAny, cAny, cAny, cAny, cAny]) (c := fun r : Bool => rV (PyData.bool r)) (r2_ne (pa_D (pa_S pa_lo)) (pa_D (pa_S pa_lo)) (shp (α := (List Int)) (a := x_450)) (shp (α := (List Int)) (a := y_451))))))) (et_val (b := fun r : Bool => r) (ev_op (evp_callS (r_437, ([1] : List Int)) (eap_cons (ev_var rfl) (eap_cons (evp_lst (ds := [(PyData.int 1)]) (eap_cons ev_int eap_nil) (.cons fz_v .nil)) eap_nil)) (pars_cons pa_lv (pars_cons pa_lo pars_nil)) xok_emp) (fun (x_456 : (List Int)) => (ev_lst (ds := fun p : (Int × Unit) => [(PyData.int p.1)]) (ea_cons (Γ1 := fun (a_457 : Int) => [cIs v0, cIs v1, cV (PyData.int cut_p), cIs v3, cV (PyData.list (r_437.map dat)), cAny, cAny, cAny, cAny, cAny]) (evp_cb (eap_cons (ev_var rfl) eap_nil) (rn_min (ns := r_437) (pa_S pa_lv))) fun (a_457 : Int) => ea_nil) fun p => (.cons fz_v .nil))) (fun (x_456 : (List Int)) (y_459 : (Int × Unit)) => (r2_to (!eqD (x_456 : (List Int)) (([y_459.1] : List Int) : (List Int))) (Γ' := fun r : Bool => [cIs v0, cIs v1, cV (PyData.int cut_p), cIs v3, cV (PyData.list (r_437.map dat)), cAny, cAny, cAny, cAny, cAny]) (c := fun r : Bool => rV (PyData.bool r)) (r2_ne (pa_D (pa_S pa_lo)) (pa_D (pa_S pa_lo)) (shp (α := (List Int)) (a := x_456)) (shp (α := (List Int)) (a := ([y_459.1] : List Int))))))))) (fun c_461 => by exact (es_retP (b := false) ev_bl rfl (ret_le (.any (.any (.any (.any (.any (.same (.same (.same (.same (.same .nil))))))))))))) (fun c_461 => by exact (es_seq (es_asg (el_comp (xs := fun a_462 : Unit => (begun_p.zip other_p)) (Γs := fun s_464 : Unit => [cIs v0, cIs v1, cV (PyData.int cut_p), cIs v3, cV (PyData.list (r_437.map dat)), cAny, cAny, cAny, cAny, cAny]) (Γt := fun (s_464 : Unit) (x_463 : (Int × Int)) => [cIs v0, cIs v1, cV (PyData.int cut_p), cIs v3, cV (PyData.list (r_437.map dat)), cAny, cV (PyData.int x_463.2), cV (PyData.int x_463.1), cAny, cAny]) (s0 := fun a_462 => ()) (ei_zip (xs := fun _ => begun_p) (ys := fun _ => other_p) (ea_pure (a := ()) (cs := fun _ => [rS 0, rS 3]) (eap_cons (ev_slot (i := 0) rfl no_Is) (eap_cons (ev_slot (i := 3) rfl no_Is) eap_nil))) (fun _ => (src_b rfl (bwS h0))) (fun _ => (src_b rfl (bwS h3)))) (fun a s => ⟨(fun _ _ => trivial) a s, (fun _ _ => trivial) a s⟩) (fun a_462 => (.same (.same (.same (.same (.same (.same (.same (.same (.same (.same .nil))))))))))) (fun s_464 => (hv_cons rfl (hv_cons rfl hv_nil))) (fun s_464 x_463 => (eg_tup (egs_cons (eg_name (lt_len rfl)) (egs_cons (eg_name (lt_len rfl)) egs_nil)) rfl)) (by decide) (fun s_464 x_463 => elj_yesP (b := (max x_463.1 x_463.2)) (s := s_464) (evp_cb (eap_cons (ev_var rfl) (eap_cons (ev_var rfl) eap_nil)) rn_max2) fz_v (.same (.same (.same (.same (.same (.same (.any (.any (.same (.same .nil)))))))))))) (fun _ => sto_f) (fun _ => lt_len rfl)) fun (r_465 : (List Int × Unit)) => by exact EvS.is (Δ := [cIs v0, cIs v1, cV (PyData.int cut_p), cIs v3, cV (PyData.list (r_437.map dat)), cV (PyData.list (r_465.1.map dat)), cAny, cAny, cAny, cAny]) rfl (es_ret (g := fun r_476 : Bool => r_476) (ev_op (el_comp (xs := fun a_471 : ((List Int) × (List Int) × Unit) => (a_471.1.zip a_471.2.1)) (Γs := fun s_473 : Unit => [cIs v0, cIs v1, cV (PyData.int cut_p), cIs v3, cV (PyData.list (r_437.map dat)), cV (PyData.list (r_465.1.map dat)), cAny, cAny, cAny, cAny]) (Γt := fun (s_473 : Unit) (x_472 : (Int × Int)) => [cIs v0, cIs v1, cV (PyData.int cut_p), cIs v3, cV (PyData.list (r_437.map dat)), cV (PyData.list (r_465.1.map dat)), cAny, cAny, cV (PyData.int x_472.2), cV (PyData.int x_472.1)]) (s0 := fun a_471 => ()) (ei_zipC (c := fun p : ((List Int) × (List Int) × Unit) => rO (p.1.map dat)) (c' := fun p : ((List Int) × (List Int) × Unit) => rO (p.2.1.map dat)) (xs := fun p : ((List Int) × (List Int) × Unit) => p.1) (ys := fun p : ((List Int) × (List Int) × Unit) => p.2.1) (ea_cons (Γ1 := fun (a_466 : (List Int)) => [cIs v0, cIs v1, cV (PyData.int cut_p), cIs v3, cV (PyData.list (r_437.map dat)), cV (PyData.list (r_465.1.map dat)), cAny, cAny, cAny, cAny]) (evp_callS (begun_p, cards_p) (eap_cons (ev_slot (i := 0) rfl no_Is) (eap_cons (ev_slot (i := 1) rfl no_Is) eap_nil)) (pars_cons (pa_bw rfl h0) (pars_cons (pa_bw rfl h1) pars_nil)) xok_emp) fun (a_466 : (List Int)) => (ea_cons (Γ1 := fun (a_467 : (List Int)) => [cIs v0, cIs v1, cV (PyData.int cut_p), cIs v3, cV (PyData.list (r_437.map dat)), cV (PyData.list (r_465.1.map dat)), cAny, cAny, cAny, cAny]) (evp_callS (r_465.1, cards_p) (eap_cons (ev_var rfl) (eap_cons (ev_slot (i := 1) rfl no_Is) eap_nil)) (pars_cons pa_lv (pars_cons (pa_bw rfl h1) pars_nil)) xok_emp) fun (a_467 : (List Int)) => ea_nil)) rfl (fun p => src_o) (fun p => src_o)) (fun a s => ⟨(fun _ _ => trivial) a s, (fun _ _ => trivial) a s⟩) (fun a_471 => (.same (.same (.same (.same (.same (.same (.same (.same (.same (.same .nil))))))))))) (fun s_473 => (hv_cons rfl (hv_cons rfl hv_nil))) (fun s_473 x_472 => (eg_tup (egs_cons (eg_name (lt_len rfl)) (egs_cons (eg_name (lt_len rfl)) egs_nil)) rfl)) (by decide) (fun s_473 x_472 => elj_ifP (b := 1) (s := s_473) (et_val (b := fun _ => (decide (x_472.2 < x_472.1))) (evp_op (ev_var rfl) (ev_var rfl) r2_B0)) ev_int fz_v (.same (.same (.same (.same (.same (.same (.same (.same (.any (.any (.nil))))))))))))) (fun (x_474 : (List Int × Unit)) => (ev_pure (a := ([] : (List Int))) (cc := fun r : (List Int) => rO (r.map dat)) (evp_lst (ds := []) eap_nil .nil))) (fun (x_474 : (List Int × Unit)) (y_475 : (List Int)) => (r2_to (eqD (x_474.1 : (List Int)) (y_475 : (List Int))) (Γ' := fun r : Bool => [cIs v0, cIs v1, cV (PyData.int cut_p), cIs v3, cV (PyData.list (r_437.map dat)), cV (PyData.list (r_465.1.map dat)), cAny, cAny, cAny, cAny]) (c := fun r : Bool => rV (PyData.bool r)) (r2_eq (pa_D (pa_S pa_lo)) (pa_D (pa_S pa_lo)) (shp (α := (List Int)) (a := x_474.1)) (shp (α := (List Int)) (a := y_475)))))) (fun _ => rfl) (fun r_476 => (ret_le (.any (.any (.any (.any (.any (.any (.same (.same (.same (.same .nil)))))))))))))))))))
abbrev N_law : List Str := ["script", "k", "pool", "begun", "cards", "other", "j"]
theorem sc_law : FnScope N_law ["script"] (defScope s_law) := ⟨rfl, rfl, rfl, by decide +kernel, rfl, by decide +kernel, by decide +kernel⟩
def m_law (script_p : (List Int)) : Res Bool :=
  (Jn.sq ((rangeR 0 (max 1 (min 5 ((script_p).length : Int)))).bind fun a_477 => forR a_477 () fun s_479 x_478 => ((((m__law_cell_at script_p x_478).bind fun a_480 => ((Res.ok (x_478 : Int)).bind fun a_481 => (Res.ok ()).bind fun r_482 => Res.ok (a_481, r_482)).bind fun r_483 => Res.ok (a_480, r_483)).bind fun p_484 => m__law_pool p_484.1 p_484.2.1).bind fun r_485 => (((((m__law_begun r_485 script_p).bind fun a_494 => (Res.ok ()).bind fun r_495 => Res.ok (a_494, r_495)).bind fun p_496 => (m__law_small p_496.1.1).bind fun b_497 => Res.ok (p_496, b_497)).bind fun a_498 => ((((m__law_cards a_498.1.1.2 script_p).bind fun a_499 => (Res.ok ()).bind fun r_500 => Res.ok (a_499, r_500)).bind fun p_501 => (m__law_small p_501.1.1).bind fun b_502 => Res.ok (p_501, b_502)).bind fun a_503 => (Res.ok ()).bind fun r_504 => Res.ok (a_503, r_504)).bind fun r_505 => Res.ok (a_498, r_505)).bind fun r_507 => (((rangeR 0 ((r_507.1.2).length : Int)).bind fun a_508 => compR a_508 r_507.2.1.1.1.2 [] fun s_510 x_509 => ((Res.ok (1 : Int)).bind fun x_513 => (m__law_draw s_510 50).bind fun y_514 => Res.ok ((x_513 + y_514.1), y_514.2)).bind fun r_515 => Res.ok (some r_515.1, r_515.2)).bind fun r_516 => ((m__law_turned_right r_507.1.2 r_507.2.1.2).bind fun c_517 => if (!c_517) then (Res.ok (Lp.ret false)) else ((((Res.ok (r_507.1.2 : (List Int))).bind fun a_518 => ((Res.ok (r_507.2.1.2 : (List Int))).bind fun a_519 => ((m__law_draw r_516.2 (((r_507.2.1.2).length : Int) + 1)).bind fun a_520 => ((Res.ok (r_516.1 : (List Int))).bind fun a_521 => (Res.ok ()).bind fun r_522 => Res.ok (a_521, r_522)).bind fun r_523 => Res.ok (a_520, r_523)).bind fun r_524 => Res.ok (a_519, r_524)).bind fun r_525 => Res.ok (a_518, r_525)).bind fun p_526 => (m__law_cut_right p_526.1 p_526.2.1 p_526.2.2.1.1 p_526.2.2.2.1).bind fun b_527 => Res.ok (p_526, b_527)).bind fun c_528 => if (!c_528.2) then (Res.ok (Lp.ret false)) else ((((Res.ok (r_507.1.2 : (List Int))).bind fun a_531 => ((Res.ok (r_507.2.1.2 : (List Int))).bind fun a_532 => (((Res.ok (1 : Int)).bind fun x_533 => (m__law_draw c_528.1.2.2.1.2 1000000000000000).bind fun y_534 => Res.ok ((x_533 + y_534.1), y_534.2)).bind fun a_535 => ((m__law_draw a_535.2 100000000000000000000000000000).bind fun a_536 => (Res.ok ()).bind fun r_537 => Res.ok (a_536, r_537)).bind fun r_538 => Res.ok (a_535, r_538)).bind fun r_539 => Res.ok (a_532, r_539)).bind fun r_540 => Res.ok (a_531, r_540)).bind fun p_541 => (m__law_scaled_right p_541.1 p_541.2.1 p_541.2.2.1.1 p_541.2.2.2.1.1).bind fun b_542 => Res.ok (p_541, b_542)).bind fun c_543 => if (!c_543.2) then (Res.ok (Lp.ret false)) else (Res.ok (Lp.next ()))))))))) (fun (j_544 : Unit) => (Res.ok true)) fun b_545 => b_545)
abbrev ps_law (K : PySem.W.Frag) (x : (List Int)) : List PP := [ppS K (x.map dat)]
abbrev c_law (b : Bool) : V → Asr := vA (PyData.bool b)
set_option maxHeartbeats 1600000 in
theorem ok_law (T : Txt K mg ad) : FnG gp P w K mg base (L2.CX P w) 9 ad.a_law ad.d_law ["script"] (Sp0 (ecOf ad) (ps_law K) (fun x => m_law x) c_law) := by
  have G__law_begun : FnG gp P w K mg base (L2.CX P w) 2 ad.a__law_begun ad.d__law_begun ["pool", "script"] (Sp1 (ecOf ad) (ps__law_begun K) (fun x : (List Int) × (List Int) => (x.1.map dat)) (fun x => m__law_begun x.1 x.2) (fun b => (b.2.map dat)) c__law_begun) := ok__law_begun T
  have G__law_cards : FnG gp P w K mg base (L2.CX P w) 2 ad.a__law_cards ad.d__law_cards ["pool", "script"] (Sp1 (ecOf ad) (ps__law_cards K) (fun x : (List Int) × (List Int) => (x.1.map dat)) (fun x => m__law_cards x.1 x.2) (fun b => (b.2.map dat)) c__law_cards) := ok__law_cards T
  have G__law_cell_at : FnG gp P w K mg base (L2.CX P w) 1 ad.a__law_cell_at ad.d__law_cell_at ["script", "k"] (Sp0 (ecOf ad) (ps__law_cell_at K) (fun x => m__law_cell_at x.1 x.2) c__law_cell_at) := ok__law_cell_at T
  have G__law_cut_right : FnG gp P w K mg base (L2.CX P w) 5 ad.a__law_cut_right ad.d__law_cut_right ["begun", "cards", "cut", "other"] (Sp0 (ecOf ad) (ps__law_cut_right K) (fun x => m__law_cut_right x.1 x.2.1 x.2.2.1 x.2.2.2) c__law_cut_right) := ok__law_cut_right T
  have G__law_draw : FnG gp P w K mg base (L2.CX P w) 1 ad.a__law_draw ad.d__law_draw ["pool", "many"] (Sp1 (ecOf ad) (ps__law_draw K) (fun x : (List Int) × Int => (x.1.map dat)) (fun x => m__law_draw x.1 x.2) (fun b => (b.2.map dat)) c__law_draw) := ok__law_draw T
  have G__law_pool : FnG gp P w K mg base (L2.CX P w) 1 ad.a__law_pool ad.d__law_pool ["cell", "place"] (Sp0 (ecOf ad) (ps__law_pool K) (fun x => m__law_pool x.1 x.2) c__law_pool) := ok__law_pool T
  have G__law_scaled_right : FnG gp P w K mg base (L2.CX P w) 5 ad.a__law_scaled_right ad.d__law_scaled_right ["begun", "cards", "factor", "more"] (Sp0 (ecOf ad) (ps__law_scaled_right K) (fun x => m__law_scaled_right x.1 x.2.1 x.2.2.1 x.2.2.2) c__law_scaled_right) := ok__law_scaled_right T
  have G__law_small : FnG gp P w K mg base (L2.CX P w) 1 ad.a__law_small ad.d__law_small ["row"] (Sp0 (ecOf ad) (ps__law_small K) (fun x => m__law_small x) c__law_small) := ok__law_small T
  have G__law_turned_right : FnG gp P w K mg base (L2.CX P w) 8 ad.a__law_turned_right ad.d__law_turned_right ["begun", "cards"] (Sp0 (ecOf ad) (ps__law_turned_right K) (fun x => m__law_turned_right x.1 x.2) c__law_turned_right) := ok__law_turned_right T
  refine T.F_law.okX sc_law (fun vs H Q E h => sp0_go h fun x C hT hC hw => ?_) (fun cdv A outer s H vs Q E hr h => sp0_go h fun x C hT hC hw => ?_)
  · exact len_of hT hC
  · revert hT hC hw
    revert x
    intro script_p hT hC hw
    have hl : vs.length = 1 := len_of hT hC
    obtain ⟨v0, rfl⟩ := len1 hl
    have h0 : Bw (Ecf K E (ecOf ad) C) v0 (ppS K (script_p.map dat)) := fun F H o s c => (hC F H o s c).1
    have hU : (A.deeper (PyProof.Rows.envOfC "law" (defScope s_law) s.heap.objs.size ad.a_law cdv)).units + 64 < cLine := Nat.lt_of_le_of_lt (by omega) hr.un
    have tk : Takes (cxOf (L2.CX P w) P w K mg base N_law "law" (defScope s_law) ad.a_law cdv A outer s H E) (fun cls d _ H => E cls d H) := takes_of rfl rfl rfl rfl
    refine ⟨_, (pss_cons (ps_for (passes_of rfl) rfl (pi_range1 (by rfl) T.z_range (pa_cons (pe_callB (call_max2 rfl) (by rfl) T.z_max (by decide +kernel) (pa_cons pe_int (pa_cons (pe_callB (call_min2 rfl) (by rfl) T.z_min (by decide +kernel) (pa_cons pe_int (pa_cons (pe_callB (lenK K rfl) (by rfl) T.z_len PySem.boot_len (pa_cons (pv 0) pa_nil)) pa_nil))) pa_nil))) pa_nil)) (pg_name (i := 1) sc_law.nd rfl (Or.inl rfl)) (pss_cons (ps_set (i := 2) sc_law.nd rfl (Or.inr rfl) (pe_callG G__law_pool (hr.mono (by decide)) (by rfl) T.g__law_pool T.F__law_pool.kp T.b__law_pool (fun σ => passAt tk σ) (pa_cons (pe_callG G__law_cell_at (hr.mono (by decide)) (by rfl) T.g__law_cell_at T.F__law_cell_at.kp T.b__law_cell_at (fun σ => passAt tk σ) (pa_cons (pv 0) (pa_cons (pv 1) pa_nil))) (pa_cons (pv 1) pa_nil)))) (pss_cons (ps_par (i := 3) (j := 4) rfl sc_law.nd rfl rfl (by decide) rfl rfl (pa_cons (pe_callG G__law_small (hr.mono (by decide)) (by rfl) T.g__law_small T.F__law_small.kp T.b__law_small (fun σ => passAt tk σ) (pa_cons (pe_callG G__law_begun (hr.mono (by decide)) (by rfl) T.g__law_begun T.F__law_begun.kp T.b__law_begun (fun σ => passAt tk σ) (pa_cons (pv 2) (pa_cons (pv 0) pa_nil))) pa_nil)) (pa_cons (pe_callG G__law_small (hr.mono (by decide)) (by rfl) T.g__law_small T.F__law_small.kp T.b__law_small (fun σ => passAt tk σ) (pa_cons (pe_callG G__law_cards (hr.mono (by decide)) (by rfl) T.g__law_cards T.F__law_cards.kp T.b__law_cards (fun σ => passAt tk σ) (pa_cons (pv 2) (pa_cons (pv 0) pa_nil))) pa_nil)) pa_nil)) (by rfl)) (pss_cons (ps_setLc (i := 5) (own := [("j", 6)]) rfl sc_law.nd rfl rfl (sw_true rfl rfl rfl (by decide +kernel)) (pi_range1 (by rfl) T.z_range (pa_cons (pe_callB (lenK K rfl) (by rfl) T.z_len PySem.boot_len (pa_cons (pv 3) pa_nil)) pa_nil)) (blkOk_by (own := [("j", 6)]) (N := N_law) (sc := defScope s_law) (by decide +kernel)) (fun _ _ _ _ _ => (pg_name (i := 6) sc_law.nd rfl (Or.inl rfl) (.inr rfl))) (fun _ _ _ _ _ => pts_nil) (fun _ _ _ _ _ => (pe_op op_add pe_int (pe_callG0 G__law_draw (hr.mono (by decide)) (by rfl) T.g__law_draw T.F__law_draw.kp T.b__law_draw .nil passL (pa_cons (pv 2) (pa_cons pe_int pa_nil)))))) (pss_cons (ps_if (pt_not (pt_val (pe_callG G__law_turned_right (hr.mono (by decide)) (by rfl) T.g__law_turned_right T.F__law_turned_right.kp T.b__law_turned_right (fun σ => passAt tk σ) (pa_cons (pv 3) (pa_cons (pv 4) pa_nil))))) (pss_cons (ps_ret pe_bl) pss_nil) pss_nil) (pss_cons (ps_if (pt_not (pt_val (pe_callG G__law_cut_right (hr.mono (by decide)) (by rfl) T.g__law_cut_right T.F__law_cut_right.kp T.b__law_cut_right (fun σ => passAt tk σ) (pa_cons (pv 3) (pa_cons (pv 4) (pa_cons (pe_callG G__law_draw (hr.mono (by decide)) (by rfl) T.g__law_draw T.F__law_draw.kp T.b__law_draw (fun σ => passAt tk σ) (pa_cons (pv 2) (pa_cons (pe_op op_add (pe_callB (lenK K rfl) (by rfl) T.z_len PySem.boot_len (pa_cons (pv 4) pa_nil)) pe_int) pa_nil))) (pa_cons (pv 5) pa_nil))))))) (pss_cons (ps_ret pe_bl) pss_nil) pss_nil) (pss_cons (ps_if (pt_not (pt_val (pe_callG G__law_scaled_right (hr.mono (by decide)) (by rfl) T.g__law_scaled_right T.F__law_scaled_right.kp T.b__law_scaled_right (fun σ => passAt tk σ) (pa_cons (pv 3) (pa_cons (pv 4) (pa_cons (pe_op op_add pe_int (pe_callG G__law_draw (hr.mono (by decide)) (by rfl) T.g__law_draw T.F__law_draw.kp T.b__law_draw (fun σ => passAt tk σ) (pa_cons (pv 2) (pa_cons (pe_op op_pow pe_int pe_int) pa_nil)))) (pa_cons (pe_callG G__law_draw (hr.mono (by decide)) (by rfl) T.g__law_draw T.F__law_draw.kp T.b__law_draw (fun σ => passAt tk σ) (pa_cons (pv 2) (pa_cons (pe_op op_pow pe_int pe_int) pa_nil))) pa_nil))))))) (pss_cons (ps_ret pe_bl) pss_nil) pss_nil) pss_nil))))))) (pss_cons (ps_ret pe_bl) pss_nil)), ?_⟩
    have hw : WP (m_law script_p) (fun b => ∀ v H', Top (sep C (c_law b v)) H' → Q v H') (fun k => ∀ H', Top C H' → E (ecOf ad k) none H') := hw
    refine fin0W (K := K) (Γ0 := [cIs v0, cAny, cAny, cAny, cAny, cAny, cAny]) (Γr := fun b : Bool => [cAny, cAny, cAny, cAny, cAny, cAny, cAny]) (c := c_law) hT (fun F o s c => ⟨fun _ => rfl, fun _ => trivial, fun _ => trivial, fun _ => trivial, fun _ => trivial, fun _ => trivial, fun _ => trivial, trivial⟩) hw ?_
    exact (es_seqGJ (post0 := (fun b : Bool => .rt [cAny, cAny, cAny, cAny, cAny, cAny, cAny] fun _ => c_law b)) (fun b_545 => b_545) (fun _ => rfl) (es_for (xs := fun a_477 : (List Int) => a_477) (Γs := fun s_479 : Unit => [cIs v0, cAny, cAny, cAny, cAny, cAny, cAny]) (Γt := fun (s_479 : Unit) (x_478 : Int) => [cIs v0, cV (PyData.int x_478), cAny, cAny, cAny, cAny, cAny]) (s0 := fun a_477 => ()) (ei_range1 (eap_cons (evp_cb (eap_cons ev_int (eap_cons (evp_cb (eap_cons ev_int (eap_cons (evp_cb (eap_cons (ev_slot (i := 0) rfl no_Is) eap_nil) (rn_len (xs := script_p) (pa_bw rfl h0))) eap_nil)) rn_min2) eap_nil)) rn_max2) eap_nil)) (fun _ _ => trivial) (fun a_477 => (.same (.same (.same (.same (.same (.same (.same .nil)))))))) (fun s_479 x_478 => (eg_name (lt_len rfl))) (fun s_479 x_478 => by exact (es_seq (es_asg (ev_callSC (fun p_484 : (Int × Int × Unit) => (p_484.1, p_484.2.1)) (ea_cons (Γ1 := fun (a_480 : Int) => [cIs v0, cV (PyData.int x_478), cAny, cAny, cAny, cAny, cAny]) (evp_callS (script_p, x_478) (eap_cons (ev_slot (i := 0) rfl no_Is) (eap_cons (ev_var rfl) eap_nil)) (pars_cons (pa_bw rfl h0) (pars_cons pa_v pars_nil)) xok_emp) fun (a_480 : Int) => (ea_cons (Γ1 := fun (a_481 : Int) => [cIs v0, cV (PyData.int x_478), cAny, cAny, cAny, cAny, cAny]) (ev_pure (a := x_478) (cc := fun r : Int => rV (PyData.int r)) (ev_var rfl)) fun (a_481 : Int) => ea_nil)) rfl (fun p_484 => (pars_cons pa_v (pars_cons pa_v pars_nil))) xok_emp) (fun _ => sto_o) (fun _ => lt_len rfl)) fun (r_485 : (List Int)) => by exact EvS.is (Δ := [cIs v0, cV (PyData.int x_478), cO (r_485.map dat), cAny, cAny, cAny, cAny]) rfl (es_seq (es_parC (c1 := fun p_506 : (((((List Int) × List Int) × Unit) × (List Int)) × ((((List Int) × List Int) × Unit) × (List Int)) × Unit) => rO (p_506.1.2.map dat)) (c2 := fun p_506 : (((((List Int) × List Int) × Unit) × (List Int)) × ((((List Int) × List Int) × Unit) × (List Int)) × Unit) => rO (p_506.2.1.2.map dat)) (ea_cons (Γ1 := fun (a_498 : ((((List Int) × List Int) × Unit) × (List Int))) => [cIs v0, cV (PyData.int x_478), cO (a_498.1.1.2.map dat), cAny, cAny, cAny, cAny]) (ev_callSe (fun p_496 : (((List Int) × List Int) × Unit) => p_496.1.1) (ea_cons (Γ1 := fun (a_494 : ((List Int) × List Int)) => [cIs v0, cV (PyData.int x_478), cO (a_494.2.map dat), cAny, cAny, cAny, cAny]) (evp_callS1 (i := 2) (r_485, script_p) own_O (eap_cons (ev_slot (i := 2) rfl no_O) (eap_cons (ev_slot (i := 0) rfl no_Is) eap_nil)) rfl (fun _ => (pars_cons pa_at (pars_cons (pa_bw rfl h0) pars_nil))) xok_emp) fun (a_494 : ((List Int) × List Int)) => ea_nil) (fun p_496 => (pars_cons pa_lo pars_nil)) (fun _ => xok_emp) (fun _ => rfl)) fun (a_498 : ((((List Int) × List Int) × Unit) × (List Int))) => (ea_cons (Γ1 := fun (a_503 : ((((List Int) × List Int) × Unit) × (List Int))) => [cIs v0, cV (PyData.int x_478), cO (a_503.1.1.2.map dat), cAny, cAny, cAny, cAny]) (ev_callSe (fun p_501 : (((List Int) × List Int) × Unit) => p_501.1.1) (ea_cons (Γ1 := fun (a_499 : ((List Int) × List Int)) => [cIs v0, cV (PyData.int x_478), cO (a_499.2.map dat), cAny, cAny, cAny, cAny]) (evp_callS1 (i := 2) (a_498.1.1.2, script_p) own_O (eap_cons (ev_slot (i := 2) rfl no_O) (eap_cons (ev_slot (i := 0) rfl no_Is) eap_nil)) rfl (fun _ => (pars_cons pa_at (pars_cons (pa_bw rfl h0) pars_nil))) xok_emp) fun (a_499 : ((List Int) × List Int)) => ea_nil) (fun p_501 => (pars_cons pa_lo pars_nil)) (fun _ => xok_emp) (fun _ => rfl)) fun (a_503 : ((((List Int) × List Int) × Unit) × (List Int))) => ea_nil)) rfl (fun _ => sto_f) (fun _ => sto_f) (fun _ => fl_o) (fun _ => lt_len rfl) (fun _ => lt_len rfl)) fun (r_507 : (((((List Int) × List Int) × Unit) × (List Int)) × ((((List Int) × List Int) × Unit) × (List Int)) × Unit)) => by exact EvS.is (Δ := [cIs v0, cV (PyData.int x_478), cO (r_507.2.1.1.1.2.map dat), cV (PyData.list (r_507.1.2.map dat)), cV (PyData.list (r_507.2.1.2.map dat)), cAny, cAny]) rfl (es_seq (es_asg (el_comp (xs := fun a_508 : (List Int) => a_508) (Γs := fun s_510 : (List Int) => [cIs v0, cV (PyData.int x_478), cO (s_510.map dat), cV (PyData.list (r_507.1.2.map dat)), cV (PyData.list (r_507.2.1.2.map dat)), cAny, cAny]) (Γt := fun (s_510 : (List Int)) (x_509 : Int) => [cIs v0, cV (PyData.int x_478), cO (s_510.map dat), cV (PyData.list (r_507.1.2.map dat)), cV (PyData.list (r_507.2.1.2.map dat)), cAny, cV (PyData.int x_509)]) (s0 := fun a_508 => r_507.2.1.1.1.2) (ei_range1 (eap_cons (evp_cb (eap_cons (ev_var rfl) eap_nil) (rn_len (xs := r_507.1.2) (pa_S pa_lv))) eap_nil)) (fun _ _ => trivial) (fun a_508 => (.same (.same (.same (.same (.same (.same (.same .nil)))))))) (fun s_510 => (hv_cons rfl hv_nil)) (fun s_510 x_509 => (eg_name (lt_len rfl))) (by decide) (fun s_510 x_509 => elj_yes (b := fun r_515 : (Int × List Int) => r_515.1) (s := fun r_515 => r_515.2) (ev_op (ev_pure (a := 1) (cc := fun r : Int => rV (PyData.int r)) ev_int) (fun (x_513 : Int) => (evp_call01 (i := 2) (s_510, 50) own_O (eap_cons (ev_slot (i := 2) rfl no_O) (eap_cons ev_int eap_nil)) rfl (fun _ => (pars_cons pa_at (pars_cons pa_v pars_nil))) xok_calm calm_calm)) (fun (x_513 : Int) (y_514 : (Int × List Int)) => (r2_to ((x_513 + y_514.1), y_514.2) (Γ' := fun r : (Int × List Int) => [cIs v0, cV (PyData.int x_478), cO (r.2.map dat), cV (PyData.list (r_507.1.2.map dat)), cV (PyData.list (r_507.2.1.2.map dat)), cAny, cV (PyData.int x_509)]) (c := fun r : (Int × List Int) => rV (PyData.int r.1)) r2_I0))) (fun _ => fz_v) (fun r_515 => (.same (.same (.same (.same (.same (.same (.any (.nil))))))))))) (fun _ => sto_f) (fun _ => lt_len rfl)) fun (r_516 : (List Int × (List Int))) => by exact EvS.is (Δ := [cIs v0, cV (PyData.int x_478), cO (r_516.2.map dat), cV (PyData.list (r_507.1.2.map dat)), cV (PyData.list (r_507.2.1.2.map dat)), cV (PyData.list (r_516.1.map dat)), cAny]) rfl (es_ifTM (b := fun c_517 : Bool => (!c_517)) (et_not (b := fun r : Bool => r) (et_val (b := fun r : Bool => r) (evp_callS (r_507.1.2, r_507.2.1.2) (eap_cons (ev_var rfl) (eap_cons (ev_var rfl) eap_nil)) (pars_cons pa_lv (pars_cons pa_lv pars_nil)) xok_emp))) (fun c_517 => by exact (es_retP (b := (Lp.ret false)) ev_bl rfl (ret_le (.any (.any (.any (.any (.any (.any (.same .nil)))))))))) (fun c_517 => by exact (es_ifTM (b := fun c_528 : (((List Int) × (List Int) × (Int × List Int) × (List Int) × Unit) × Bool) => (!c_528.2)) (et_not (b := fun r : (((List Int) × (List Int) × (Int × List Int) × (List Int) × Unit) × Bool) => r.2) (et_val (b := fun r : (((List Int) × (List Int) × (Int × List Int) × (List Int) × Unit) × Bool) => r.2) (ev_callSe (fun p_526 : ((List Int) × (List Int) × (Int × List Int) × (List Int) × Unit) => (p_526.1, p_526.2.1, p_526.2.2.1.1, p_526.2.2.2.1)) (ea_cons (Γ1 := fun (a_518 : (List Int)) => [cIs v0, cV (PyData.int x_478), cO (r_516.2.map dat), cV (PyData.list (r_507.1.2.map dat)), cV (PyData.list (r_507.2.1.2.map dat)), cV (PyData.list (r_516.1.map dat)), cAny]) (ev_pure (a := r_507.1.2) (cc := fun r : (List Int) => rV (PyData.list (r.map dat))) (ev_var rfl)) fun (a_518 : (List Int)) => (ea_cons (Γ1 := fun (a_519 : (List Int)) => [cIs v0, cV (PyData.int x_478), cO (r_516.2.map dat), cV (PyData.list (r_507.1.2.map dat)), cV (PyData.list (r_507.2.1.2.map dat)), cV (PyData.list (r_516.1.map dat)), cAny]) (ev_pure (a := r_507.2.1.2) (cc := fun r : (List Int) => rV (PyData.list (r.map dat))) (ev_var rfl)) fun (a_519 : (List Int)) => (ea_cons (Γ1 := fun (a_520 : (Int × List Int)) => [cIs v0, cV (PyData.int x_478), cO (a_520.2.map dat), cV (PyData.list (r_507.1.2.map dat)), cV (PyData.list (r_507.2.1.2.map dat)), cV (PyData.list (r_516.1.map dat)), cAny]) (evp_callS1 (i := 2) (r_516.2, (((r_507.2.1.2).length : Int) + 1)) own_O (eap_cons (ev_slot (i := 2) rfl no_O) (eap_cons (evp_op (evp_cb (eap_cons (ev_var rfl) eap_nil) (rn_len (xs := r_507.2.1.2) (pa_S pa_lv))) ev_int r2_I0) eap_nil)) rfl (fun _ => (pars_cons pa_at (pars_cons pa_v pars_nil))) xok_emp) fun (a_520 : (Int × List Int)) => (ea_cons (Γ1 := fun (a_521 : (List Int)) => [cIs v0, cV (PyData.int x_478), cO (a_520.2.map dat), cV (PyData.list (r_507.1.2.map dat)), cV (PyData.list (r_507.2.1.2.map dat)), cV (PyData.list (r_516.1.map dat)), cAny]) (ev_pure (a := r_516.1) (cc := fun r : (List Int) => rV (PyData.list (r.map dat))) (ev_var rfl)) fun (a_521 : (List Int)) => ea_nil)))) (fun p_526 => (pars_cons pa_lv (pars_cons pa_lv (pars_cons pa_v (pars_cons pa_lv pars_nil))))) (fun _ => xok_emp) (fun _ => rfl)))) (fun c_528 => by exact (es_retP (b := (Lp.ret false)) ev_bl rfl (ret_le (.any (.any (.any (.any (.any (.any (.same .nil)))))))))) (fun c_528 => by exact (es_ifTM (b := fun c_543 : (((List Int) × (List Int) × (Int × List Int) × (Int × List Int) × Unit) × Bool) => (!c_543.2)) (et_not (b := fun r : (((List Int) × (List Int) × (Int × List Int) × (Int × List Int) × Unit) × Bool) => r.2) (et_val (b := fun r : (((List Int) × (List Int) × (Int × List Int) × (Int × List Int) × Unit) × Bool) => r.2) (ev_callSe (fun p_541 : ((List Int) × (List Int) × (Int × List Int) × (Int × List Int) × Unit) => (p_541.1, p_541.2.1, p_541.2.2.1.1, p_541.2.2.2.1.1)) (ea_cons (Γ1 := fun (a_531 : (List Int)) => [cIs v0, cV (PyData.int x_478), cO (c_528.1.2.2.1.2.map dat), cV (PyData.list (r_507.1.2.map dat)), cV (PyData.list (r_507.2.1.2.map dat)), cV (PyData.list (r_516.1.map dat)), cAny]) (ev_pure (a := r_507.1.2) (cc := fun r : (List Int) => rV (PyData.list (r.map dat))) (ev_var rfl)) fun (a_531 : (List Int)) => (ea_cons (Γ1 := fun (a_532 : (List Int)) => [cIs v0, cV (PyData.int x_478), cO (c_528.1.2.2.1.2.map dat), cV (PyData.list (r_507.1.2.map dat)), cV (PyData.list (r_507.2.1.2.map dat)), cV (PyData.list (r_516.1.map dat)), cAny]) (ev_pure (a := r_507.2.1.2) (cc := fun r : (List Int) => rV (PyData.list (r.map dat))) (ev_var rfl)) fun (a_532 : (List Int)) => (ea_cons (Γ1 := fun (a_535 : (Int × List Int)) => [cIs v0, cV (PyData.int x_478), cO (a_535.2.map dat), cV (PyData.list (r_507.1.2.map dat)), cV (PyData.list (r_507.2.1.2.map dat)), cV (PyData.list (r_516.1.map dat)), cAny]) (ev_op (ev_pure (a := 1) (cc := fun r : Int => rV (PyData.int r)) ev_int) (fun (x_533 : Int) => (evp_callS1 (i := 2) (c_528.1.2.2.1.2, 1000000000000000) own_O (eap_cons (ev_slot (i := 2) rfl no_O) (eap_cons (evp_op ev_int ev_int (r2_pow (k := 1000000000000000) (by unfold CPow; decide +kernel) (by decide +kernel))) eap_nil)) rfl (fun _ => (pars_cons pa_at (pars_cons pa_v pars_nil))) xok_emp)) (fun (x_533 : Int) (y_534 : (Int × List Int)) => (r2_to ((x_533 + y_534.1), y_534.2) (Γ' := fun r : (Int × List Int) => [cIs v0, cV (PyData.int x_478), cO (r.2.map dat), cV (PyData.list (r_507.1.2.map dat)), cV (PyData.list (r_507.2.1.2.map dat)), cV (PyData.list (r_516.1.map dat)), cAny]) (c := fun r : (Int × List Int) => rV (PyData.int r.1)) r2_I0))) fun (a_535 : (Int × List Int)) => (ea_cons (Γ1 := fun (a_536 : (Int × List Int)) => [cIs v0, cV (PyData.int x_478), cO (a_536.2.map dat), cV (PyData.list (r_507.1.2.map dat)), cV (PyData.list (r_507.2.1.2.map dat)), cV (PyData.list (r_516.1.map dat)), cAny]) (evp_callS1 (i := 2) (a_535.2, 100000000000000000000000000000) own_O (eap_cons (ev_slot (i := 2) rfl no_O) (eap_cons (evp_op ev_int ev_int (r2_pow (k := 100000000000000000000000000000) (by unfold CPow; decide +kernel) (by decide +kernel))) eap_nil)) rfl (fun _ => (pars_cons pa_at (pars_cons pa_v pars_nil))) xok_emp) fun (a_536 : (Int × List Int)) => ea_nil)))) (fun p_541 => (pars_cons pa_lv (pars_cons pa_lv (pars_cons pa_v (pars_cons pa_v pars_nil))))) (fun _ => xok_emp) (fun _ => rfl)))) (fun c_543 => by exact (es_retP (b := (Lp.ret false)) ev_bl rfl (ret_le (.any (.any (.any (.any (.any (.any (.same .nil)))))))))) (fun c_543 => by exact (es_endL (b := (Lp.next ())) rfl (.same (.any (.any (.any (.any (.any (.same .nil)))))))))))))))))) (fun _ => ⟨nofun, nofun, nofun⟩)) fun (j_544 : Unit) => by exact EvS.is (Δ := [cIs v0, cAny, cAny, cAny, cAny, cAny, cAny]) rfl (es_retP (b := true) ev_bl rfl (ret_le (.any (.same (.same (.same (.same (.same (.same .nil))))))))))
end
theorem powA2_ok {i : Int} (h : i.natAbs < 2 ^ 1000) : powA i 2 = .ok (i ^ 2) := Res.need_of ⟨by decide, by
  unfold Builtin.Int.intBits
  have := log2_lt h
  split <;> omega⟩
/-- a pool: the digits left, the seed, how often it was drawn from -/
def Pl (k : Nat) (s : List Int) : Prop := ∃ a b c : Int, s = [a, b, c] ∧ 0 ≤ a ∧ 0 ≤ b ∧ b < 2147483629 ∧ 0 ≤ c ∧ c ≤ k
theorem Pl.le {k n : Nat} {s : List Int} (h : Pl k s) (e : k ≤ n) : Pl n s := by
  obtain ⟨a, b, c, rfl, h1, h2, h3, h4, h5⟩ := h
  exact ⟨a, b, c, rfl, h1, h2, h3, h4, by omega⟩
theorem getI3_0 (a b c : Int) : getI [a, b, c] 0 = .ok a := rfl
theorem getI3_1 (a b c : Int) : getI [a, b, c] 1 = .ok b := rfl
theorem getI3_2 (a b c : Int) : getI [a, b, c] 2 = .ok c := rfl
theorem setR3_0 (a b c d : Int) : setR [a, b, c] 0 d = .ok [d, b, c] := rfl
theorem setR3_1 (a b c d : Int) : setR [a, b, c] 1 d = .ok [a, d, c] := rfl
theorem setR3_2 (a b c d : Int) : setR [a, b, c] 2 d = .ok [a, b, d] := rfl
theorem draw_ok {k : Nat} {s : List Int} {n : Int} (h : Pl k s) (hk : k < 2 ^ 40) (hn : 1 ≤ n) (hn2 : n < 2 ^ 300) : Ok (m__law_draw s n) fun r => 0 ≤ r.1 ∧ r.1 < n ∧ Pl (k + 1) r.2 := by
  obtain ⟨a, b, c, rfl, h1, h2, h3, h4, h5⟩ := h
  unfold m__law_draw
  refine Ok.noErr ?_
  rw [getI3_2]
  simp only [Res.bind_ok]
  rw [setR3_2]
  simp only [Res.bind_ok]
  rw [getI3_1, getI3_2]
  simp only [Res.bind_ok]
  rw [mulA_okL (by decide) (by decide)]
  simp only [Res.bind_ok]
  rw [mulA_okR (by omega) (by omega)]
  simp only [Res.bind_ok]
  have e1 : 7 * (c + 1) * (c + 1) ≤ 7 * 2 ^ 41 * 2 ^ 41 := Int.mul_le_mul (Int.mul_le_mul_of_nonneg_left (by omega) (by decide)) (by omega) (by omega) (by decide)
  have e2 : 0 ≤ 7 * (c + 1) * (c + 1) := Int.mul_nonneg (Int.mul_nonneg (by decide) (by omega)) (by omega)
  rw [powA2_ok (by omega)]
  simp only [Res.bind_ok]
  rw [modR_ok (by decide)]
  simp only [Res.bind_ok]
  rw [mulA_okR (by decide) (by decide)]
  simp only [Res.bind_ok]
  rw [mulA_okL (by decide) (by decide)]
  simp only [Res.bind_ok]
  rw [modR_ok (by decide)]
  simp only [Res.bind_ok]
  rw [setR3_1]
  simp only [Res.bind_ok]
  rw [getI3_1, getI3_0]
  simp only [Res.bind_ok]
  generalize hx : ((b + 7 * (c + 1) * (c + 1) + 1) ^ 2 % 2147483587 * 69621 + 40692 * (c + 1)) % 2147483629 = x
  have x0 : 0 ≤ x := hx ▸ Int.emod_nonneg _ (by decide)
  have x1 : x < 2147483629 := hx ▸ Int.emod_lt_of_pos _ (by decide)
  rw [divR_ok (by decide) (by decide)]
  simp only [Res.bind_ok]
  rw [modR_ok (by omega)]
  simp only [Res.bind_ok]
  by_cases ha : 0 < a
  · rw [if_pos (by simpa using ha), modR_ok (by omega), divR_ok (by omega) hn2]
    simp only [Res.bind_ok]
    rw [setR3_0]
    simp only [Res.bind_ok]
    exact Ok.pure ⟨Int.emod_nonneg _ (by omega), Int.emod_lt_of_pos _ (by omega), a / n, x, c + 1, rfl, Int.ediv_nonneg h1 (by omega), x0, x1, by omega, by push_cast; omega⟩
  · rw [if_neg (by simpa using ha)]
    simp only [Res.bind_ok]
    exact Ok.pure ⟨Int.emod_nonneg _ (by omega), Int.emod_lt_of_pos _ (by omega), a, x, c + 1, rfl, h1, x0, x1, by omega, by push_cast; omega⟩
theorem pool_ok (cell place : Int) (h1 : -(2 ^ 64) < place) (h2 : place < 2 ^ 64) : Ok (m__law_pool cell place) (Pl 0) := by
  unfold m__law_pool
  simp only [Res.bind_assoc, Res.bind_ok]
  rw [modR_ok (by decide)]
  simp only [Res.bind_ok]
  rw [mulA_okL (by decide) (by decide)]
  simp only [Res.bind_ok]
  rw [modR_ok (by decide)]
  simp only [Res.bind_ok]
  exact Ok.pure ⟨_, _, _, rfl, Int.le_max_right _ _, Int.emod_nonneg _ (by decide), Int.emod_lt_of_pos _ (by decide), by decide, by decide⟩
theorem cell_ok (script : List Int) (k : Int) (hk : 0 ≤ k) : Ok (m__law_cell_at script k) fun _ => True := by
  unfold m__law_cell_at
  split
  · rename_i h
    exact Ok.bind (getI_ok hk (by simpa using h)) fun a _ => Ok.pure trivial
  · exact Ok.pure trivial
def GS (s : List Int) : Prop := 1 ≤ s.length ∧ s.length ≤ 30 ∧ ∀ n ∈ s, 0 ≤ n ∧ n ≤ 1000000000000000000000000000000
def GC (c : List Int) : Prop := c.length ≤ 200 ∧ ∀ n ∈ c, 1 ≤ n ∧ n ≤ 1000000000000000000000000000000
theorem eqD_nil : eqD ([] : List Int) ([] : List Int) = true := by
  unfold eqD
  rfl
/-- a list of draws -/
theorem draws_ok {k : Nat} {s : List Int} {n w : Int} {f : List Int → Int → Res (Option Int × List Int)} (d : Int) (hf : ∀ s x, f s x = (m__law_draw s w).bind fun r => .ok (some (d + r.1), r.2)) (h : Pl k s) (hk : k < 2 ^ 39) (hn : 0 ≤ n) (hn2 : n ≤ 1000) (hw : 1 ≤ w) (hw2 : w < 2 ^ 300) :
    Ok (compR (rangeL 0 n) s [] f) fun r => r.1.length = n.toNat ∧ (∀ m ∈ r.1, d ≤ m ∧ m < d + w) ∧ Pl (k + 1000) r.2 := by
  have len : (rangeL 0 n).length = n.toNat := by rw [rangeL_len, Int.sub_zero]
  refine (compR_ok (fun i (acc : List Int) (st : List Int) => Pl (k + i) st ∧ acc.length = i ∧ ∀ m ∈ acc, d ≤ m ∧ m < d + w) (rangeL 0 n) s [] 0 ⟨h, rfl, nofun⟩ (by show 0 + (rangeL 0 n).length ≤ 16000000; omega) fun i st acc x hx _ hi ⟨s1, s2, s3⟩ => ?_).imp fun r ⟨r1, r2, r3⟩ => ⟨by omega, r3, r1.le (by omega)⟩
  rw [hf]
  refine Ok.bind (draw_ok s1 (by omega) hw hw2) fun a ⟨a1, a2, a3⟩ => ?_
  refine Ok.pure ⟨a3.le (by omega), by simp [s2], fun m hm => ?_⟩
  rcases List.mem_append.mp hm with hm | hm
  · exact s3 m hm
  · simp at hm
    omega
theorem begun_ok {k : Nat} {s : List Int} (script : List Int) (h : Pl k s) (hk : k < 2 ^ 38) : Ok (m__law_begun s script) fun r => GS r.1 ∧ Pl (k + 1010) r.2 := by
  unfold m__law_begun
  refine Ok.noErr ?_
  split
  · rw [rangeR_ok (by omega) (by omega) (by omega) (by omega)]
    simp only [Res.bind_assoc, Res.bind_ok]
    refine Ok.bind (draws_ok (n := 3) (w := 3) 0 (fun s x => by simp only [Int.zero_add]) h (by omega) (by decide) (by decide) (by decide) (by decide)) fun r ⟨r1, r2, r3⟩ => ?_
    exact Ok.pure ⟨⟨by show 1 ≤ r.1.length; omega, by show r.1.length ≤ 30; omega, fun m hm => by have := r2 m hm; omega⟩, r3.le (by omega)⟩
  · simp only [Res.bind_assoc, Res.bind_ok]
    refine Ok.bind (draw_ok h (by omega) (by decide) (by decide)) fun a ⟨a1, a2, a3⟩ => ?_
    refine Ok.bind (draw_ok a3 (by omega) (by decide) (by decide)) fun b ⟨b1, b2, b3⟩ => ?_
    refine Ok.bind (draw_ok b3 (by omega) (by decide) (by decide)) fun d ⟨d1, d2, d3⟩ => ?_
    refine Ok.bind (getI_ok d1 d2) fun z hz => ?_
    have z0 : 1 ≤ z ∧ z ≤ 30 := by
      simp at hz
      rcases hz with e | e | e <;> omega
    refine Ok.bind (draw_ok d3 (by omega) (by decide) (by decide)) fun y ⟨y1, y2, y3⟩ => ?_
    refine Ok.bind (getI_ok y1 y2) fun v hv => ?_
    have v0 : 1 ≤ v ∧ v ≤ 1000000000000000000000000000001 := by
      simp at hv
      rcases hv with e | e | e | e <;> omega
    rw [rangeR_ok (by omega) (by omega) (by omega) (by omega)]
    simp only [Res.bind_ok]
    refine Ok.bind (draws_ok (n := z) (w := v) 0 (fun s x => by simp only [Int.zero_add]) y3 (by omega) (by omega) (by omega) (by omega) (by omega)) fun r ⟨r1, r2, r3⟩ => ?_
    exact Ok.pure ⟨⟨by show 1 ≤ r.1.length; omega, by show r.1.length ≤ 30; omega, fun m hm => by have := r2 m hm; omega⟩, r3.le (by omega)⟩
theorem cards_ok {k : Nat} {s : List Int} (script : List Int) (h : Pl k s) (hk : k < 2 ^ 38) : Ok (m__law_cards s script) fun r => GC r.1 ∧ Pl (k + 1010) r.2 := by
  unfold m__law_cards
  refine Ok.noErr ?_
  split
  · rw [rangeR_ok (by omega) (by omega) (by omega) (by omega)]
    simp only [Res.bind_assoc, Res.bind_ok]
    refine Ok.bind (draws_ok (n := 5) (w := 4) 1 (fun s x => rfl) h (by omega) (by decide) (by decide) (by decide) (by decide)) fun r ⟨r1, r2, r3⟩ => ?_
    exact Ok.pure ⟨⟨by show r.1.length ≤ 200; omega, fun m hm => by have := r2 m hm; omega⟩, r3.le (by omega)⟩
  · simp only [Res.bind_assoc, Res.bind_ok]
    refine Ok.bind (draw_ok h (by omega) (by decide) (by decide)) fun a ⟨a1, a2, a3⟩ => ?_
    refine Ok.bind (draw_ok a3 (by omega) (by decide) (by decide)) fun b ⟨b1, b2, b3⟩ => ?_
    refine Ok.bind (draw_ok b3 (by omega) (by decide) (by decide)) fun d ⟨d1, d2, d3⟩ => ?_
    refine Ok.bind (getI_ok d1 d2) fun z hz => ?_
    have z0 : 0 ≤ z ∧ z ≤ 200 := by
      simp at hz
      rcases hz with e | e | e <;> omega
    refine Ok.bind (draw_ok d3 (by omega) (by decide) (by decide)) fun y ⟨y1, y2, y3⟩ => ?_
    refine Ok.bind (getI_ok y1 y2) fun v hv => ?_
    have v0 : 1 ≤ v ∧ v ≤ 1000000000000000000000000000000 := by
      simp at hv
      rcases hv with e | e | e | e | e <;> omega
    rw [rangeR_ok (by omega) (by omega) (by omega) (by omega)]
    simp only [Res.bind_ok]
    refine Ok.bind (draws_ok (n := z) (w := v) 1 (fun s x => rfl) y3 (by omega) (by omega) (by omega) (by omega) (by omega)) fun r ⟨r1, r2, r3⟩ => ?_
    refine Ok.bind (draw_ok r3 (by omega) (by decide) (by decide)) fun t ⟨t1, t2, t3⟩ => ?_
    have hr : ∀ m ∈ r.1, 1 ≤ m ∧ m ≤ 1000000000000000000000000000000 := fun m hm => by have := r2 m hm; omega
    by_cases hc : ((!eqD (r.1 : List Int) ([] : List Int)) && decide (t.1 = 1)) = true
    · rw [if_pos hc]
      have hne : r.1 ≠ [] := fun e => by
        rw [e] at hc
        simp [eqD_nil] at hc
      have hl := List.length_pos_iff.mpr hne
      simp only [Res.bind_assoc, Res.bind_ok]
      refine Ok.bind (draw_ok t3 (by omega) (by decide) (by decide)) fun g ⟨g1, g2, g3⟩ => ?_
      refine Ok.bind (draw_ok g3 (by omega) (by omega) (by omega)) fun i ⟨i1, i2, i3⟩ => ?_
      rw [setR_pos i1 (by omega)]
      simp only [Res.bind_ok]
      refine Ok.pure ⟨⟨?_, fun m hm => ?_⟩, i3.le (by omega)⟩
      · show (r.1.set i.1.toNat (1 + g.1)).length ≤ 200
        rw [List.length_set]
        omega
      · rcases List.mem_or_eq_of_mem_set hm with hm | hm
        · exact hr m hm
        · omega
    · rw [if_neg hc]
      simp only [Res.bind_ok]
      exact Ok.pure ⟨⟨by show r.1.length ≤ 200; omega, hr⟩, t3.le (by omega)⟩
theorem isStart_ok {s : List Int} (h : GS s) : isStartD (.list (s.map PyData.int)) = true := by
  obtain ⟨h1, h2, h3⟩ := h
  unfold isStartD
  simp only [List.length_map, List.all_map, Bool.and_eq_true, decide_eq_true_eq, List.all_eq_true]
  exact ⟨⟨h1, h2⟩, fun x hx => by
    show (decide ((0 : Int) ≤ x) && decide (x ≤ 1000000000000000000000000000000)) = true
    simpa using h3 x hx⟩
theorem isCards_ok {s : List Int} (h : GC s) : isCardsD (.list (s.map PyData.int)) = true := by
  obtain ⟨h2, h3⟩ := h
  unfold isCardsD
  simp only [List.length_map, List.all_map, Bool.and_eq_true, decide_eq_true_eq, List.all_eq_true]
  exact ⟨h2, fun x hx => by
    show (decide ((1 : Int) ≤ x) && decide (x ≤ 1000000000000000000000000000000)) = true
    simpa using h3 x hx⟩
theorem check_start_ok {s : List Int} (h : GS s) : m_check_start (.list (s.map dat)) = .ok () := by
  unfold m_check_start m_is_start
  rw [ints_dat, isStart_ok h]
  rfl
theorem check_cards_ok {s : List Int} (h : GC s) : m_check_cards (.list (s.map dat)) = .ok () := by
  unfold m_check_cards m_is_cards
  rw [ints_dat, isCards_ok h]
  rfl
theorem repr_two {s c : List Int} (h : GS s) (g : GC c) : ∃ t, reprR (.list [(PyData.list (s.map dat)), (PyData.list (c.map dat))]) = .ok t := by
  have h1 := RpAll'.ints (xs := s) (m := 30) (fun x hx => by have := h.2.2 x hx; omega) h.2.1
  have h2 := RpAll'.ints (xs := c) (m := 200) (fun x hx => by have := g.2 x hx; omega) g.1
  exact ⟨_, (RpAll'.list (.cons h1.list (.cons h2.list .nil))).ok (by decide) (by decide)⟩
/-! min of pairs -/
def leP (a b : Int × Int) : Prop := a.1 < b.1 ∨ (a.1 = b.1 ∧ a.2 ≤ b.2)
theorem minP_fold : ∀ (xs : List (Int × Int)) (x : Int × Int), (xs.foldl (fun a y => if ltPr y a then y else a) x = x ∨ xs.foldl (fun a y => if ltPr y a then y else a) x ∈ xs) ∧
    leP (xs.foldl (fun a y => if ltPr y a then y else a) x) x ∧ ∀ q ∈ xs, leP (xs.foldl (fun a y => if ltPr y a then y else a) x) q
  | [], x => ⟨.inl rfl, .inr ⟨rfl, Int.le_refl _⟩, nofun⟩
  | y :: ys, x => by
    rw [List.foldl_cons]
    obtain ⟨h1, h2, h3⟩ := minP_fold ys (if ltPr y x then y else x)
    have ht : ∀ a b c : Int × Int, leP a b → leP b c → leP a c := by
      intro a b c h k
      unfold leP at *
      omega
    by_cases hb : ltPr y x = true
    · rw [if_pos hb] at h1 h2 h3 ⊢
      have e : y.1 < x.1 ∨ (y.1 = x.1 ∧ y.2 < x.2) := by simpa [ltPr] using hb
      refine ⟨.inr ?_, ht _ _ _ h2 (by unfold leP; omega), fun q hq => ?_⟩
      · rcases h1 with h1 | h1
        · rw [h1]; exact List.mem_cons_self
        · exact List.mem_cons_of_mem _ h1
      · rcases List.mem_cons.mp hq with rfl | hq
        · exact h2
        · exact h3 q hq
    · rw [if_neg hb] at h1 h2 h3 ⊢
      have e : ¬ (y.1 < x.1 ∨ (y.1 = x.1 ∧ y.2 < x.2)) := by simpa [ltPr] using hb
      refine ⟨h1.imp id (List.mem_cons_of_mem _), h2, fun q hq => ?_⟩
      rcases List.mem_cons.mp hq with rfl | hq
      · exact ht _ _ _ h2 (by unfold leP; omega)
      · exact h3 q hq
theorem minP_ok {ps : List (Int × Int)} (h : ps ≠ []) : Ok (minP ps) fun r => r ∈ ps ∧ ∀ q ∈ ps, leP r q := by
  cases ps with
  | nil => exact (h rfl).elim
  | cons x xs =>
    obtain ⟨h1, h2, h3⟩ := minP_fold xs x
    refine ⟨_, rfl, ?_, fun q hq => ?_⟩
    · rcases h1 with h1 | h1
      · rw [h1]; exact List.mem_cons_self
      · exact List.mem_cons_of_mem _ h1
    · rcases List.mem_cons.mp hq with rfl | hq
      · exact h2
      · exact h3 q hq
theorem foldR_at {α σ : Type} {f : σ → α → Res σ} : ∀ (xs : List α) (I : Nat → σ → Prop) (s : σ), I 0 s → (∀ i s a, xs[i]? = some a → I i s → Ok (f s a) (I (i + 1))) → Ok (foldR xs s f) (I xs.length)
  | [], I, s, h, _ => ⟨s, rfl, h⟩
  | a :: l, I, s, h, k => by
    unfold foldR
    refine Ok.bind (k 0 s a rfl h) fun s' h' => ?_
    exact foldR_at l (fun i => I (i + 1)) s' h' fun i s b hb hi => k (i + 1) s b hb hi
theorem enumL_mem {xs : List Int} {p : Int × Int} (h : p ∈ enumL xs) : 0 ≤ p.1 ∧ p.1 < xs.length ∧ xs[p.1.toNat]? = some p.2 := by
  obtain ⟨i, hi⟩ := List.mem_iff_getElem?.mp h
  rw [enumL_get] at hi
  cases e : xs[i]? with
  | none => rw [e] at hi; simp at hi
  | some a =>
    rw [e] at hi
    simp at hi
    subst hi
    have := (List.getElem?_eq_some_iff.mp e).1
    exact ⟨by simp, by simp; omega, by simpa using e⟩
theorem enumL_of {xs : List Int} {i : Nat} {a : Int} (h : xs[i]? = some a) : ((i : Int), a) ∈ enumL xs := by
  refine List.mem_iff_getElem?.mpr ⟨i, ?_⟩
  rw [enumL_get, h]
  rfl
/-- the column that is played: its height, its number with the side's sign -/
structure Lowest (side : Int) (rest : List Int) (r : Int × Int) (i : Nat) : Prop where
  lt : i < rest.length
  eq : r = (minL rest, side * i)
  at_ : rest[i]? = some (minL rest)
  least : ∀ j : Nat, rest[j]? = some (minL rest) → side * i ≤ side * j
theorem lowest_of {side : Int} {rest : List Int} (h : rest ≠ []) : Ok (minP ((enumL rest).map fun x => (x.2, side * x.1))) fun r => ∃ i, Lowest side rest r i := by
  have hne : (enumL rest).map (fun x : Int × Int => (x.2, side * x.1)) ≠ [] := by
    obtain ⟨i, hi⟩ := List.mem_iff_getElem?.mp (minL_mem h)
    exact List.ne_nil_of_mem (List.mem_map.mpr ⟨_, enumL_of hi, rfl⟩)
  refine (minP_ok hne).imp fun r ⟨hr, hl⟩ => ?_
  obtain ⟨p, hp, rfl⟩ := List.mem_map.mp hr
  obtain ⟨p0, p1, p2⟩ := enumL_mem hp
  have le : ∀ (j : Nat) (a : Int), rest[j]? = some a → leP (p.2, side * p.1) (a, side * j) := fun j a hj => hl _ (List.mem_map.mpr ⟨_, enumL_of hj, rfl⟩)
  have e1 : p.2 = minL rest := by
    obtain ⟨j, hj⟩ := List.mem_iff_getElem?.mp (minL_mem h)
    have h1 : minL rest ≤ p.2 := minL_le (List.mem_of_getElem? p2)
    have h2 := le j _ hj
    unfold leP at h2
    dsimp only at h2
    omega
  have e2 : ((p.1.toNat : Nat) : Int) = p.1 := Int.toNat_of_nonneg p0
  refine ⟨p.1.toNat, by omega, by rw [e1, e2], e1 ▸ p2, fun j hj => ?_⟩
  have h2 := le j _ hj
  unfold leP at h2
  dsimp only at h2
  rw [e2]
  omega
theorem side_cancel {side : Int} (hs : side = 1 ∨ side = -1) (i : Int) : side * (side * i) = i := by
  rcases hs with rfl | rfl <;> omega
theorem sum_set : ∀ (l : List Int) (i : Nat) (a v : Int), l[i]? = some a → (l.set i v).sum = l.sum - a + v
  | [], i, a, v, h => by simp at h
  | x :: l, 0, a, v, h => by
    simp at h
    subst h
    simp
    omega
  | x :: l, i + 1, a, v, h => by
    have ih := sum_set l i a v (by simpa using h)
    simp only [List.set_cons_succ, List.sum_cons]
    omega
theorem sum_take_succ {l : List Int} {n : Nat} {a : Int} (h : l[n]? = some a) : (l.take (n + 1)).sum = (l.take n).sum + a := by
  rw [List.take_add_one, h]
  simp
/-! the layout, told by a relation -/
structure IsLow (right : Bool) (cols : List Int) (i : Nat) : Prop where
  at_ : cols[i]? = some (minL cols)
  ord : ∀ j : Nat, cols[j]? = some (minL cols) → if right then j ≤ i else i ≤ j
theorem IsLow.det {right : Bool} {cols : List Int} {i j : Nat} (h : IsLow right cols i) (k : IsLow right cols j) : i = j := by
  have h1 := h.ord j k.at_
  have h2 := k.ord i h.at_
  cases right <;> simp at h1 h2 <;> omega
inductive Lay (right : Bool) : List Int → List Int → List (Int × Int) → List Int → Prop
  | nil {cols : List Int} : Lay right cols [] [] cols
  | cons {cols hs rest : List Int} {f : List (Int × Int)} {h : Int} {i : Nat} : IsLow right cols i → Lay right (cols.set i (minL cols + h)) hs f rest → Lay right cols (h :: hs) (((i : Int), minL cols) :: f) rest
theorem Lay.det {right : Bool} : ∀ {cols hs : List Int} {f f' : List (Int × Int)} {r r' : List Int}, Lay right cols hs f r → Lay right cols hs f' r' → f = f' ∧ r = r'
  | _, _, _, _, _, _, .nil, .nil => ⟨rfl, rfl⟩
  | _, _, _, _, _, _, .cons h t, .cons h' t' => by
    have e := h.det h'
    subst e
    obtain ⟨e1, e2⟩ := Lay.det t t'
    exact ⟨by rw [e1], e2⟩
theorem Lay.snoc {right : Bool} : ∀ {cols hs : List Int} {f : List (Int × Int)} {r : List Int} {h : Int} {i : Nat}, Lay right cols hs f r → IsLow right r i → Lay right cols (hs ++ [h]) (f ++ [((i : Int), minL r)]) (r.set i (minL r + h))
  | _, _, _, _, h, i, .nil, k => .cons k .nil
  | _, _, _, _, h, i, .cons a t, k => .cons a (t.snoc k)
theorem Lay.len {right : Bool} : ∀ {cols hs : List Int} {f : List (Int × Int)} {r : List Int}, Lay right cols hs f r → f.length = hs.length ∧ r.length = cols.length
  | _, _, _, _, .nil => ⟨rfl, rfl⟩
  | _, _, _, _, .cons h t => by
    obtain ⟨e1, e2⟩ := t.len
    exact ⟨by simp [e1], by rw [e2, List.length_set]⟩
theorem Lay.place {right : Bool} : ∀ {cols hs : List Int} {f : List (Int × Int)} {r : List Int}, Lay right cols hs f r → ∀ p ∈ f, 0 ≤ p.1 ∧ p.1 < cols.length
  | _, _, _, _, .nil, p, hp => by cases hp
  | _, _, _, _, .cons h t, p, hp => by
    rcases List.mem_cons.mp hp with rfl | hp
    · have := (List.getElem?_eq_some_iff.mp h.at_).1
      dsimp only
      omega
    · have := t.place p hp
      rwa [List.length_set] at this
theorem take_succ_of {l : List Int} {n : Nat} {a : Int} (h : l[n]? = some a) : l.take (n + 1) = l.take n ++ [a] := by
  rw [List.take_add_one, h]
  rfl
/-- the program's lowest column -/
theorem lowest_is (right : Bool) {cols : List Int} (h : cols ≠ []) (hl : cols.length ≤ 1000) : Ok (m_lowest_in cols right) fun p => ∃ i : Nat, p = i ∧ IsLow right cols i := by
  unfold m_lowest_in minR
  rw [Res.need_of h]
  simp only [Res.bind_assoc, Res.bind_ok]
  rw [compR_filter (p := fun x : Int × Int => decide (x.2 = minL cols)) (g := fun x => x.1) (enumL cols) [] (fun a _ => rfl) (by
    have : (enumL cols).length = cols.length := enumL_len _
    show 0 + (enumL cols).length ≤ 16000000
    omega)]
  simp only [Res.bind_ok, List.nil_append]
  generalize hL : ((enumL cols).filter fun x : Int × Int => decide (x.2 = minL cols)).map (fun x => x.1) = L
  have hall : ∀ p ∈ L, ∃ i : Nat, p = i ∧ cols[i]? = some (minL cols) := by
    intro p hp
    rw [← hL] at hp
    obtain ⟨q, hq, rfl⟩ := List.mem_map.mp hp
    have z := enumL_mem (List.mem_filter.mp hq).1
    have hv : q.2 = minL cols := by simpa using (List.mem_filter.mp hq).2
    exact ⟨q.1.toNat, by omega, hv ▸ z.2.2⟩
  have hin : ∀ j : Nat, cols[j]? = some (minL cols) → (j : Int) ∈ L := fun j hj => by
    rw [← hL]
    exact List.mem_map.mpr ⟨_, List.mem_filter.mpr ⟨enumL_of hj, by simp⟩, rfl⟩
  have hsort : L.Pairwise (· < ·) := by
    rw [← hL]
    refine List.Pairwise.map _ (fun a b h => h) (List.Pairwise.filter _ (R := fun a b : Int × Int => a.1 < b.1) ?_)
    rw [List.pairwise_iff_getElem]
    intro i j hi hj hij
    have e1 : (enumL cols)[i]? = some (enumL cols)[i] := List.getElem?_eq_getElem hi
    have e2 : (enumL cols)[j]? = some (enumL cols)[j] := List.getElem?_eq_getElem hj
    rw [enumL_get] at e1 e2
    cases f1 : cols[i]? with
    | none => rw [f1] at e1; simp at e1
    | some a =>
      cases f2 : cols[j]? with
      | none => rw [f2] at e2; simp at e2
      | some b =>
        rw [f1] at e1
        rw [f2] at e2
        simp only [Option.map_some, Option.some.injEq] at e1 e2
        rw [← e1, ← e2]
        show (i : Int) < j
        omega
  obtain ⟨i0, hi0⟩ := List.mem_iff_getElem?.mp (minL_mem h)
  have hne : L ≠ [] := List.ne_nil_of_mem (hin i0 hi0)
  have hpos := List.length_pos_iff.mpr hne
  cases right with
  | true =>
    have e : getI L (-1) = .ok (L[L.length - 1]'(by omega)) := by
      refine getI_some ?_
      unfold atI ixN
      rw [if_neg (by omega), if_pos (by omega)]
      have e : ((-1 : Int) + (L.length : Int)).toNat = L.length - 1 := by omega
      simp only [Option.bind_some]
      rw [e]
      simp
    rw [if_pos rfl, e]
    obtain ⟨i, ei, hi⟩ := hall _ (List.getElem_mem (show L.length - 1 < L.length by omega))
    refine Ok.pure ⟨i, ei, hi, fun j hj => ?_⟩
    obtain ⟨k, hk, ek⟩ := List.getElem_of_mem (hin j hj)
    rw [if_pos rfl]
    by_cases hkl : k = L.length - 1
    · subst hkl
      omega
    · have := List.pairwise_iff_getElem.mp hsort k (L.length - 1) hk (by omega) (by omega)
      omega
  | false =>
    have e : getI L 0 = .ok (L[0]'hpos) := getI_pos (Int.le_refl 0) (by omega)
    rw [if_neg (by decide), e]
    obtain ⟨i, ei, hi⟩ := hall _ (List.getElem_mem hpos)
    refine Ok.pure ⟨i, ei, hi, fun j hj => ?_⟩
    obtain ⟨k, hk, ek⟩ := List.getElem_of_mem (hin j hj)
    rw [if_neg (by decide)]
    by_cases hkl : k = 0
    · subst hkl
      omega
    · have := List.pairwise_iff_getElem.mp hsort 0 k hpos hk (by omega)
      omega
/-- the program's layout -/
theorem laid_lay (right : Bool) {s c : List Int} (hs : s ≠ []) (hs2 : s.length ≤ 1000) (hc : c.length ≤ 1000) : Ok (m_laid s c right 0) fun f => ∃ r, Lay right s c f r := by
  unfold m_laid
  simp only [Res.bind_assoc, Res.bind_ok]
  refine Ok.bind (foldR_at c (fun n (st : List Int × List (Int × Int)) => Lay right s (c.take n) st.2 st.1) _ .nil fun n st size hsz hI => ?_) fun st hI => Ok.pure ⟨st.1, by simpa using hI⟩
  obtain ⟨l1, l2⟩ := hI.len
  have hn : n < c.length := (List.getElem?_eq_some_iff.mp hsz).1
  rw [List.length_take] at l1
  have hne : st.1 ≠ [] := fun e => by
    rw [e] at l2
    exact hs (List.length_eq_zero_iff.mp l2.symm)
  refine Ok.bind (lowest_is right hne (by omega)) fun p ⟨i, e, L⟩ => ?_
  subst e
  rw [getI_nat L.at_]
  simp only [Res.bind_ok]
  refine Ok.bind (Ok.need (by show st.2.length < 16000000; omega) (Ok.of_eq rfl)) fun v e => ?_
  subst e
  have hi := (List.getElem?_eq_some_iff.mp L.at_).1
  rw [setR_pos (by omega) (by omega)]
  simp only [Res.bind_ok]
  refine Ok.pure ?_
  rw [take_succ_of hsz]
  have := Lay.snoc (h := size) hI L
  simpa using this
/-- the heights stay small -/
theorem Lay.bound {right : Bool} {M : Int} (hM : 0 ≤ M) : ∀ {cols hs : List Int} {f : List (Int × Int)} {r : List Int} {B : Int}, Lay right cols hs f r → (∀ x ∈ cols, 0 ≤ x ∧ x ≤ B) → (∀ h ∈ hs, 0 ≤ h ∧ h ≤ M) →
    (∀ p ∈ f, 0 ≤ p.2 ∧ p.2 ≤ B + M * hs.length) ∧ ∀ x ∈ r, 0 ≤ x ∧ x ≤ B + M * hs.length
  | _, _, _, _, B, .nil, hc, _ => ⟨nofun, fun x hx => by have := hc x hx; simp; exact this⟩
  | cols, h :: hs, _, r, B, .cons (i := i) hi t, hc, hh => by
    have hm := hc _ (List.mem_of_getElem? hi.at_)
    have h1 := hh h List.mem_cons_self
    have ih := Lay.bound hM (B := B + M) t (fun x hx => by
      rcases List.mem_or_eq_of_mem_set hx with hx | hx
      · have := hc x hx
        omega
      · omega) fun k hk => hh k (List.mem_cons_of_mem _ hk)
    have e : B + M * ((h :: hs).length : Int) = B + M + M * (hs.length : Int) := by
      rw [List.length_cons]
      push_cast
      rw [Int.mul_add, Int.mul_one]
      omega
    have h0 : 0 ≤ M * (hs.length : Int) := Int.mul_nonneg hM (by omega)
    rw [e]
    refine ⟨fun p hp => ?_, ih.2⟩
    rcases List.mem_cons.mp hp with rfl | hp
    · dsimp only
      omega
    · exact ih.1 p hp
theorem Lay.bnd {right : Bool} {s c : List Int} {f : List (Int × Int)} {r : List Int} (h : Lay right s c f r) (hs : GS s) (hc : GC c) :
    (∀ p ∈ f, 0 ≤ p.2 ∧ p.2 ≤ 1000000000000000000000000000000 * 201) ∧ ∀ x ∈ r, 0 ≤ x ∧ x ≤ 1000000000000000000000000000000 * 201 := by
  have z := h.bound (M := 1000000000000000000000000000000) (by decide) hs.2.2 fun x hx => by have := hc.2 x hx; omega
  have hl := hc.1
  have e : (1000000000000000000000000000000 : Int) * (c.length : Int) ≤ 1000000000000000000000000000000 * 200 := by omega
  exact ⟨fun p hp => by have := z.1 p hp; omega, fun x hx => by have := z.2 x hx; omega⟩
theorem GS.ne {s : List Int} (h : GS s) : s ≠ [] := fun e => by
  have := h.1
  rw [e] at this
  simp at this
theorem laid_ok (right : Bool) {s c : List Int} (h : GS s) (g : GC c) {f : List (Int × Int)} {r : List Int} (hL : Lay right s c f r) : m_laid s c right 0 = .ok f := by
  obtain ⟨f', hf, r', hr⟩ := laid_lay right h.ne (by have := h.2.1; omega) (by have := g.1; omega) (s := s) (c := c)
  obtain ⟨e1, _⟩ := hr.det hL
  subst e1
  exact hf
theorem lay_ex (right : Bool) {s c : List Int} (h : GS s) (g : GC c) : ∃ f r, Lay right s c f r := by
  obtain ⟨f', hf, r', hr⟩ := laid_lay right h.ne (by have := h.2.1; omega) (by have := g.1; omega) (s := s) (c := c)
  exact ⟨_, _, hr⟩
theorem pairs_rp {f : List (Int × Int)} {n : Nat} (h : ∀ p ∈ f, (-(2 ^ 400) < p.1 ∧ p.1 < 2 ^ 400) ∧ (-(2 ^ 400) < p.2 ∧ p.2 < 2 ^ 400)) (hl : f.length ≤ n) : Rp' (.list (f.map dat)) (3 * n + 1) 2 :=
  (RpAll'.map (n := 3) (k := 1) (fun p hp => by
    obtain ⟨⟨h1, h2⟩, h3, h4⟩ := h p hp
    exact RpAll'.tuple (.cons (Rp'.int h1 h2) (.cons (Rp'.int h3 h4) .nil))) hl).list
theorem Lay.rp {right : Bool} {s c : List Int} {f : List (Int × Int)} {r : List Int} (h : Lay right s c f r) (hs : GS s) (hc : GC c) : Rp' (.list (f.map dat)) 601 2 ∧ Rp' (.list (r.map dat)) 31 1 := by
  obtain ⟨b1, b2⟩ := h.bnd hs hc
  have l := h.len
  have hl := hc.1
  have hl2 := hs.2.1
  refine ⟨pairs_rp (n := 200) (fun p hp => ?_) (by omega), (RpAll'.ints (m := 30) (fun x hx => by have := b2 x hx; omega) (by omega)).list⟩
  have h1 := b1 p hp
  have h2 := h.place p hp
  omega
theorem end_fold {right : Bool} : ∀ {cols hs : List Int} {f : List (Int × Int)} {r : List Int}, Lay right cols hs f r → foldR (hs.zip f) cols (fun (s : List Int) (x : Int × (Int × Int)) => (setR s x.2.1 (x.2.2 + x.1)).bind fun r => Res.ok r) = .ok r
  | _, _, _, _, .nil => rfl
  | cols, h :: hs, _, r, .cons (i := i) hi t => by
    have hlt := (List.getElem?_eq_some_iff.mp hi.at_).1
    rw [List.zip_cons_cons]
    unfold foldR
    dsimp only
    rw [setR_pos (by omega) (by omega)]
    simp only [Res.bind_ok, Int.toNat_natCast]
    exact end_fold t
theorem end_in_ok {s c : List Int} (h : GS s) (g : GC c) {f : List (Int × Int)} {r : List Int} (hL : Lay false s c f r) : m_end_in s c = .ok r := by
  unfold m_end_in
  rw [laid_ok false h g hL]
  simp only [Res.bind_ok]
  rw [end_fold hL]
  rfl
theorem end_of_ok {s c : List Int} (h : GS s) (g : GC c) {f : List (Int × Int)} {r : List Int} (hL : Lay false s c f r) : m_end_of s c = .ok r := by
  unfold m_end_of
  rw [check_start_ok h, check_cards_ok g]
  simp only [Res.bind_ok]
  rw [end_in_ok h g hL]
  rfl
/-! layout, tops_of -/
theorem layout_ok (right : Bool) {s c : List Int} (h : GS s) (g : GC c) {f : List (Int × Int)} {r : List Int} (hL : Lay right s c f r) : m_layout s c right = .ok f := by
  unfold m_layout
  rw [check_start_ok h, check_cards_ok g]
  simp only [Res.bind_ok]
  rw [laid_ok right h g hL]
  rfl
theorem tops_in_lay {s c : List Int} (h : GS s) (g : GC c) {f : List (Int × Int)} {r : List Int} (hL : Lay false s c f r) : m_tops_in s c = .ok (f.map (·.2)) := by
  have hl := hL.len.1
  have hg := g.1
  unfold m_tops_in
  rw [laid_ok false h g hL]
  show ((compR f () [] _).bind _) = _
  rw [compR_map (g := fun x : Int × Int => x.2) f [] (fun _ _ => rfl) (by show 0 + _ ≤ 16000000; omega)]
  rfl
theorem tops_of_lay {s c : List Int} (h : GS s) (g : GC c) {f : List (Int × Int)} {r : List Int} (hL : Lay false s c f r) : m_tops_of s c = .ok (f.map (·.2)) := by
  unfold m_tops_of
  rw [check_start_ok h, check_cards_ok g]
  simp only [Res.bind_ok]
  rw [tops_in_lay h g hL]
  rfl
/-! a layout, mirrored -/
theorem minL_rev {l : List Int} (h : l ≠ []) : minL l.reverse = minL l := by
  refine Int.le_antisymm (minL_le ?_) (minL_le ?_)
  · exact List.mem_reverse.mpr (minL_mem h)
  · exact List.mem_reverse.mp (minL_mem (by simpa using h))
theorem rev_get {l : List Int} {i : Nat} (h : i < l.length) : l.reverse[l.length - 1 - i]? = l[i]? := by
  rw [List.getElem?_reverse (by omega)]
  congr 1
  omega
theorem rev_set {l : List Int} {i : Nat} {v : Int} (h : i < l.length) : (l.set i v).reverse = l.reverse.set (l.length - 1 - i) v := by
  refine List.ext_getElem? fun j => ?_
  by_cases hj : j < l.length
  · rw [List.getElem?_reverse (by rw [List.length_set]; exact hj), List.getElem?_set, List.getElem?_set, List.length_set, List.length_reverse, List.getElem?_reverse hj]
    by_cases e : l.length - 1 - i = j
    · rw [if_pos e, if_pos (by omega), if_pos (by omega), if_pos (by omega)]
    · rw [if_neg e, if_neg (by omega)]
  · rw [List.getElem?_eq_none (by rw [List.length_reverse, List.length_set]; omega), List.getElem?_eq_none (by rw [List.length_set, List.length_reverse]; omega)]
theorem Lay.mirror {right : Bool} : ∀ {cols hs : List Int} {f : List (Int × Int)} {r : List Int}, Lay right cols hs f r → Lay (!right) cols.reverse hs (f.map fun q => ((cols.length : Int) - 1 - q.1, q.2)) r.reverse
  | _, _, _, _, .nil => .nil
  | cols, h :: hs, _, _, .cons (i := i) hi t => by
    have hlt := (List.getElem?_eq_some_iff.mp hi.at_).1
    have hne : cols ≠ [] := fun z => by
      rw [z] at hlt
      simp at hlt
    have ih := t.mirror
    rw [rev_set hlt, List.length_set] at ih
    have em := minL_rev hne
    have low : IsLow (!right) cols.reverse (cols.length - 1 - i) := ⟨by rw [em, rev_get hlt]; exact hi.at_, fun j hj => by
      have hjl := (List.getElem?_eq_some_iff.mp hj).1
      rw [List.length_reverse] at hjl
      rw [em, List.getElem?_reverse hjl] at hj
      have := hi.ord _ hj
      cases right
      · simp at this ⊢
        omega
      · simp at this ⊢
        omega⟩
    rw [List.map_cons]
    have e1 : ((cols.length : Int) - 1 - (i : Int), minL cols) = (((cols.length - 1 - i : Nat) : Int), minL cols.reverse) := by
      rw [em]
      congr 1
      omega
    show Lay _ _ _ (((cols.length : Int) - 1 - (i : Int), minL cols) :: _) _
    rw [e1]
    refine .cons low ?_
    rw [em]
    exact ih
theorem eqvAll_ints : ∀ l : List Int, PyData.eqvAll (l.map dat) (l.map dat) = true
  | [] => rfl
  | x :: l => by
    have ih := eqvAll_ints l
    simp only [List.map_cons, PySem.W.eqv_all_cons, ih, Bool.and_true]
    show PyData.eqv (.int x) (.int x) = true
    simp [PyData.eqv]
theorem eqD_same (l : List Int) : eqD l l = true := by
  unfold eqD
  show PyData.eqv (.list (l.map dat)) (.list (l.map dat)) = true
  rw [PyData.eqv]
  exact eqvAll_ints l
/-- the cards of a column -/
def inCol (rows : List (Int × Int)) (k : Int) : List Int := ((enumL rows).filter fun x => decide (x.2.1 = k)).map fun x => x.1
theorem inCol_comp {rows : List (Int × Int)} (k : Int) (hl : rows.length ≤ 1000) : (compR (enumL rows) () [] fun (s : Unit) (x : Int × Int × Int) => if (decide (x.2.1 = k)) then Res.ok (some x.1, s) else Res.ok (none, s)) = .ok (inCol rows k, ()) := by
  have := compR_filter (p := fun x : Int × Int × Int => decide (x.2.1 = k)) (g := fun x => x.1) (s := ()) (f := fun (s : Unit) (x : Int × Int × Int) => if (decide (x.2.1 = k)) then Res.ok (some x.1, s) else Res.ok (none, s)) (enumL rows) [] (fun a _ => rfl) (by
    have : (enumL rows).length = rows.length := Lc.enumL_len _
    show 0 + (enumL rows).length ≤ 16000000
    omega)
  rw [this]
  rfl
theorem inCol_len (rows : List (Int × Int)) (k : Int) : (inCol rows k).length ≤ rows.length := by
  unfold inCol
  rw [List.length_map]
  refine Nat.le_trans (List.length_filter_le _ _) ?_
  rw [Lc.enumL_len]
  exact Nat.le_refl _
theorem cards_in_ok {s c : List Int} (h : GS s) (g : GC c) {rows : List (Int × Int)} {rest : List Int} (hL : Lay false s c rows rest) {k : Int} (h0 : 0 ≤ k) (h1 : k < s.length) : m_cards_in s c k = .ok (inCol rows k) := by
  have hne : s ≠ [] := fun e => by have := h.1; rw [e] at this; simp at this
  unfold m_cards_in m_is_integer isIntD
  rw [check_start_ok h, check_cards_ok g]
  simp only [Res.bind_ok]
  have e : (decide ((0 : Int) ≤ k) && decide (k ≤ (s.length : Int) - 1)) = true := by
    simp
    omega
  rw [e]
  simp only [Bool.not_true, Bool.false_eq_true, if_false]
  obtain ⟨f, hf, r, hr⟩ := laid_lay false hne (by have := h.2.1; omega) (by have := g.1; omega) (s := s) (c := c)
  obtain ⟨e1, _⟩ := hr.det hL
  subst e1
  rw [hf]
  simp only [Res.bind_ok]
  rw [inCol_comp k (by have := hL.len.1; have := g.1; omega)]
  rfl
/-! layouts: mapped, put together, summed, compared -/
theorem minL_map {g : Int → Int} (mono : ∀ a b, a < b → g a < g b) {l : List Int} (h : l ≠ []) : minL (l.map g) = g (minL l) := by
  have hne : l.map g ≠ [] := by simpa using h
  refine Int.le_antisymm (minL_le (List.mem_map.mpr ⟨_, minL_mem h, rfl⟩)) ?_
  obtain ⟨x, hx, e⟩ := List.mem_map.mp (minL_mem hne)
  rw [← e]
  have hm := minL_le hx
  by_cases he : minL l = x
  · rw [he]
    exact Int.le_refl _
  · exact Int.le_of_lt (mono _ _ (by omega))
theorem mono_inj {g : Int → Int} (mono : ∀ a b, a < b → g a < g b) {a b : Int} (h : g a = g b) : a = b := by
  rcases Int.lt_trichotomy a b with z | z | z
  · have := mono _ _ z
    omega
  · exact z
  · have := mono _ _ z
    omega
theorem Lay.map {right : Bool} {g gh : Int → Int} (mono : ∀ a b, a < b → g a < g b) (add : ∀ a h, g (a + h) = g a + gh h) : ∀ {cols hs : List Int} {f : List (Int × Int)} {r : List Int}, Lay right cols hs f r → Lay right (cols.map g) (hs.map gh) (f.map fun q => (q.1, g q.2)) (r.map g)
  | _, _, _, _, .nil => .nil
  | cols, h :: hs, _, r, .cons (i := i) hi t => by
    have ih := Lay.map mono add t
    have hne : cols ≠ [] := fun z => by
      have := (List.getElem?_eq_some_iff.mp hi.at_).1
      rw [z] at this
      simp at this
    have em := minL_map mono hne
    rw [List.map_set, add] at ih
    have low : IsLow right (cols.map g) i := ⟨by rw [List.getElem?_map, hi.at_, em]; rfl, fun j hj => by
      rw [List.getElem?_map, em] at hj
      obtain ⟨x, hx, e⟩ := Option.map_eq_some_iff.mp hj
      rw [mono_inj mono e] at hx
      exact hi.ord j hx⟩
    have := Lay.cons (right := right) (h := gh h) low (by rw [em]; exact ih)
    rw [em] at this
    exact this
theorem Lay.append {right : Bool} : ∀ {cols hs hs2 : List Int} {f f2 : List (Int × Int)} {r r2 : List Int}, Lay right cols hs f r → Lay right r hs2 f2 r2 → Lay right cols (hs ++ hs2) (f ++ f2) r2
  | _, _, _, _, _, _, _, .nil, k => k
  | _, _, _, _, _, _, _, .cons hi t, k => .cons hi (t.append k)
theorem Lay.sum {right : Bool} : ∀ {cols hs : List Int} {f : List (Int × Int)} {r : List Int}, Lay right cols hs f r → r.sum = cols.sum + hs.sum
  | _, _, _, _, .nil => by simp
  | cols, h :: hs, _, _, .cons hi t => by
    rw [t.sum, sum_set _ _ _ _ hi.at_, List.sum_cons]
    omega
/-- at most so many items are small -/
def Dom (a b : List Int) : Prop := ∀ t : Int, b.countP (fun x => decide (x ≤ t)) ≤ a.countP (fun x => decide (x ≤ t))
theorem Dom.min {a b : List Int} (h : Dom a b) (ha : a ≠ []) (hb : b ≠ []) : minL a ≤ minL b := by
  have h1 := h (minL b)
  have h2 : 0 < b.countP (fun x => decide (x ≤ minL b)) := List.countP_pos_iff.mpr ⟨_, minL_mem hb, by simp⟩
  obtain ⟨x, hx, e⟩ := List.countP_pos_iff.mp (Nat.lt_of_lt_of_le h2 h1)
  have := minL_le hx
  have := of_decide_eq_true e
  omega
theorem countP_low {l : List Int} {t : Int} (h : t < minL l) : l.countP (fun x => decide (x ≤ t)) = 0 := by
  rw [List.countP_eq_zero]
  intro x hx
  have := minL_le hx
  simp
  omega
theorem count_set (l : List Int) (i : Nat) (a v t : Int) (h : l[i]? = some a) : (l.set i v).countP (fun x => decide (x ≤ t)) + (if a ≤ t then 1 else 0) = l.countP (fun x => decide (x ≤ t)) + (if v ≤ t then 1 else 0) := by
  induction l generalizing i with
  | nil => simp at h
  | cons x l ih =>
    cases i with
    | zero =>
      simp at h
      subst h
      rw [List.set_cons_zero, List.countP_cons, List.countP_cons]
      simp only [decide_eq_true_eq]
      omega
    | succ i =>
      have := ih i (by simpa using h)
      rw [List.set_cons_succ, List.countP_cons, List.countP_cons]
      omega
theorem Dom.step {a b : List Int} {i j : Nat} {h : Int} (d : Dom a b) (hi : a[i]? = some (minL a)) (hj : b[j]? = some (minL b)) (h0 : 0 ≤ h) : Dom (a.set i (minL a + h)) (b.set j (minL b + h)) := fun t => by
  have ha : a ≠ [] := fun z => by rw [z] at hi; simp at hi
  have hb : b ≠ [] := fun z => by rw [z] at hj; simp at hj
  have hm := d.min ha hb
  have c1 := count_set a i (minL a) (minL a + h) t hi
  have c2 := count_set b j (minL b) (minL b + h) t hj
  have ht := d t
  by_cases x1 : minL b ≤ t
  · rw [if_pos x1] at c2
    rw [if_pos (show minL a ≤ t by omega)] at c1
    by_cases x2 : minL b + h ≤ t
    · rw [if_pos x2] at c2
      rw [if_pos (show minL a + h ≤ t by omega)] at c1
      omega
    · rw [if_neg x2] at c2
      split at c1 <;> omega
  · rw [if_neg x1, if_neg (show ¬ minL b + h ≤ t by omega), countP_low (show t < minL b by omega)] at c2
    omega
theorem Dom.tops {right right' : Bool} : ∀ {a b hs : List Int} {f f' : List (Int × Int)} {r r' : List Int}, Dom a b → (∀ h ∈ hs, 0 ≤ h) → Lay right a hs f r → Lay right' b hs f' r' → ∀ p ∈ (f.map (·.2)).zip (f'.map (·.2)), p.1 ≤ p.2
  | _, _, _, _, _, _, _, _, _, .nil, .nil, p, hp => by simp at hp
  | a, b, h :: hs, _, _, _, _, d, h0, .cons hi t, .cons hj t', p, hp => by
    have ha : a ≠ [] := fun z => by have := hi.at_; rw [z] at this; simp at this
    have hb : b ≠ [] := fun z => by have := hj.at_; rw [z] at this; simp at this
    rw [List.map_cons, List.map_cons, List.zip_cons_cons] at hp
    rcases List.mem_cons.mp hp with z | z
    · rw [z]
      exact d.min ha hb
    · exact Dom.tops (d.step hi.at_ hj.at_ (h0 h List.mem_cons_self)) (fun k hk => h0 k (List.mem_cons_of_mem _ hk)) t t' p z
theorem dom_max (a : List Int) : ∀ o : List Int, a.length = o.length → Dom a ((a.zip o).map fun x => max x.1 x.2) := by
  intro o hl t
  induction a generalizing o with
  | nil => simp
  | cons x a ih =>
    cases o with
    | nil => simp at hl
    | cons y o =>
      have := ih o (by simpa using hl)
      rw [List.zip_cons_cons, List.map_cons, List.countP_cons, List.countP_cons]
      simp only [decide_eq_true_eq]
      by_cases hm : max x y ≤ t
      · rw [if_pos hm, if_pos (show x ≤ t by omega)]
        omega
      · rw [if_neg hm]
        omega
theorem getI_last {l : List (List Int)} {x : List Int} (h : l.getLast? = some x) : getI l (-1) = .ok x := by
  have hne : l ≠ [] := fun z => by rw [z] at h; simp at h
  have hpos := List.length_pos_iff.mpr hne
  refine getI_some ?_
  unfold atI ixN
  rw [if_neg (by omega), if_pos (by omega)]
  have e : ((-1 : Int) + (l.length : Int)).toNat = l.length - 1 := by omega
  simp only [Option.bind_some]
  rw [e, ← List.getLast?_eq_getElem?]
  exact h
theorem steps_ok {s c : List Int} (h : GS s) (g : GC c) {f : List (Int × Int)} {r : List Int} (hL : Lay false s c f r) : Ok (m_steps s c) fun l => l.getLast? = some r := by
  have hne := h.ne
  have h30 := h.2.1
  have h200 := g.1
  unfold m_steps
  rw [check_start_ok h]
  (repeat (with_reducible first | refine Ok.assoc ?_ | refine Ok.okb ?_); try dsimp only)
  rw [check_cards_ok g]
  (repeat (with_reducible first | refine Ok.assoc ?_ | refine Ok.okb ?_); try dsimp only)
  rw [Res.need_of (by show 0 < 16000000; decide)]
  (repeat (with_reducible first | refine Ok.assoc ?_ | refine Ok.okb ?_); try dsimp only)
  refine Ok.bind (foldR_at c (fun n st => (∃ f, Lay false s (c.take n) f st.2) ∧ st.1.length = n + 1 ∧ st.1.getLast? = some st.2) _ ⟨⟨[], .nil⟩, rfl, rfl⟩ fun n st x hx ⟨⟨f, hI⟩, h1, h2⟩ => ?_) fun st ⟨⟨f', hI⟩, h1, h2⟩ => ?_
  · have hn : n < c.length := (List.getElem?_eq_some_iff.mp hx).1
    obtain ⟨l1, l2⟩ := hI.len
    have hne2 : st.2 ≠ [] := fun z => by
      rw [z] at l2
      exact hne (List.length_eq_zero_iff.mp l2.symm)
    (repeat (with_reducible first | refine Ok.assoc ?_ | refine Ok.okb ?_); try dsimp only)
    refine Ok.bind (lowest_is false hne2 (by omega)) fun p ⟨i, e, L⟩ => ?_
    subst e
    rw [getI_nat L.at_]
    (repeat (with_reducible first | refine Ok.assoc ?_ | refine Ok.okb ?_); try dsimp only)
    have hi := (List.getElem?_eq_some_iff.mp L.at_).1
    rw [setR_pos (by omega) (by omega)]
    (repeat (with_reducible first | refine Ok.assoc ?_ | refine Ok.okb ?_); try dsimp only)
    rw [Res.need_of (by rw [List.length_map]; show _ < 16000000; omega)]
    (repeat (with_reducible first | refine Ok.assoc ?_ | refine Ok.okb ?_); try dsimp only)
    refine Ok.pure ⟨⟨f ++ [((i : Int), minL st.2)], ?_⟩, by simp [h1], by simp⟩
    rw [take_succ_of hx]
    exact hI.snoc L
  · rw [List.take_length] at hI
    refine Ok.pure ?_
    rw [h2, (hI.det hL).2]
theorem eqD_pr (l : List (Int × Int)) : eqD l l = true := by
  show PyData.eqv (.list (l.map dat)) (.list (l.map dat)) = true
  rw [PyData.eqv]
  induction l with
  | nil => simp [PyData.eqvAll]
  | cons x l ih =>
    rw [List.map_cons, PyData.eqvAll, ih, Bool.and_true]
    show PyData.eqv (.tuple [.int x.1, .int x.2]) (.tuple [.int x.1, .int x.2]) = true
    simp [PyData.eqv, PyData.eqvAll]
/-- small numbers -/
def Sm (l : List Int) : Prop := ∀ x ∈ l, 1 ≤ x ∧ x ≤ 100000000000000
theorem small_ok {l : List Int} (hl : l.length ≤ 1000) : Ok (m__law_small l) fun r => r.length = l.length ∧ Sm r := by
  unfold m__law_small
  (repeat (with_reducible first | refine Ok.assoc ?_ | refine Ok.okb ?_); try dsimp only)
  rw [compR_map (g := fun x => 1 + x % 100000000000000) l [] (fun x _ => by
    rw [Res.bind_ok, modR_ok (by decide)]
    rfl) (by show 0 + _ ≤ 16000000; omega), List.nil_append]
  refine Ok.pure ⟨List.length_map _, fun x hx => ?_⟩
  obtain ⟨y, _, rfl⟩ := List.mem_map.mp hx
  have := Int.emod_nonneg y (show (100000000000000 : Int) ≠ 0 by decide)
  have := Int.emod_lt_of_pos y (show (0 : Int) < 100000000000000 by decide)
  omega
theorem sm_GS {l : List Int} (h1 : 1 ≤ l.length) (h2 : l.length ≤ 30) (h : Sm l) : GS l := ⟨h1, h2, fun x hx => by have := h x hx; omega⟩
theorem sm_GC {l : List Int} (h2 : l.length ≤ 200) (h : Sm l) : GC l := ⟨h2, fun x hx => by have := h x hx; omega⟩
theorem sm_bnd {right : Bool} {s c : List Int} {f : List (Int × Int)} {r : List Int} (hL : Lay right s c f r) (hs : Sm s) (hc : Sm c) (hl : c.length ≤ 200) : (∀ p ∈ f, 0 ≤ p.2 ∧ p.2 ≤ 20100000000000000) ∧ ∀ x ∈ r, 0 ≤ x ∧ x ≤ 20100000000000000 := by
  have z := hL.bound (M := 100000000000000) (B := 100000000000000) (by decide) (fun x hx => by have := hs x hx; omega) fun x hx => by have := hc x hx; omega
  exact ⟨fun p hp => by have := z.1 p hp; omega, fun x hx => by have := z.2 x hx; omega⟩
theorem turned_ok {s c : List Int} (h : GS s) (g : GC c) : m__law_turned_right s c = .ok true := by
  obtain ⟨f, r, hL⟩ := lay_ex false h g
  have h1 := h.1
  have h30 := h.2.1
  have h200 := g.1
  have fl := hL.len.1
  have hrev : GS s.reverse := ⟨by rw [List.length_reverse]; exact h1, by rw [List.length_reverse]; exact h30, fun n hn => h.2.2 n (List.mem_reverse.mp hn)⟩
  refine Ok.eq ?_
  unfold m__law_turned_right m_layout_s1 m_layout_s2
  rw [layout_ok false h g hL]
  (repeat (with_reducible first | refine Ok.assoc ?_ | refine Ok.okb ?_); try dsimp only)
  rw [layout_ok true hrev g hL.mirror]
  (repeat (with_reducible first | refine Ok.assoc ?_ | refine Ok.okb ?_); try dsimp only)
  rw [compR_map (g := fun q : Int × Int => ((s.length : Int) - 1 - q.1, q.2)) f [] (fun _ _ => rfl) (by show 0 + _ ≤ 16000000; omega), List.nil_append]
  (repeat (with_reducible first | refine Ok.assoc ?_ | refine Ok.okb ?_); try dsimp only)
  rw [eqD_pr]
  (repeat (with_reducible first | refine Ok.assoc ?_ | refine Ok.okb ?_); try dsimp only)
  rw [if_neg (by decide), tops_of_lay h g hL]
  (repeat (with_reducible first | refine Ok.assoc ?_ | refine Ok.okb ?_); try dsimp only)
  rw [compR_map (g := fun q : Int × Int => q.2) f [] (fun _ _ => rfl) (by show 0 + _ ≤ 16000000; omega), List.nil_append]
  (repeat (with_reducible first | refine Ok.assoc ?_ | refine Ok.okb ?_); try dsimp only)
  rw [eqD_same]
  (repeat (with_reducible first | refine Ok.assoc ?_ | refine Ok.okb ?_); try dsimp only)
  rw [if_neg (by decide)]
  obtain ⟨l, el, hl⟩ := steps_ok h g hL
  rw [el]
  simp only [noErr_ok]
  (repeat (with_reducible first | refine Ok.assoc ?_ | refine Ok.okb ?_); try dsimp only)
  rw [getI_last hl]
  (repeat (with_reducible first | refine Ok.assoc ?_ | refine Ok.okb ?_); try dsimp only)
  rw [end_of_ok h g hL]
  (repeat (with_reducible first | refine Ok.assoc ?_ | refine Ok.okb ?_); try dsimp only)
  rw [eqD_same]
  (repeat (with_reducible first | refine Ok.assoc ?_ | refine Ok.okb ?_); try dsimp only)
  rw [if_neg (by decide), rangeR_ok (by omega) (by omega) (by omega) (by omega)]
  refine sq_ok (P := fun _ => True) ?_ fun _ _ => ?_
  · (repeat (with_reducible first | refine Ok.assoc ?_ | refine Ok.okb ?_); try dsimp only)
    refine Ok.imp (forR_ok (fun _ => True) _ _ trivial fun st k hk _ => ?_) fun r ⟨s', e, _⟩ => ⟨s', e, trivial⟩
    obtain ⟨k0, k1⟩ := mem_range hk
    rw [inCol_comp k (by omega)]
    (repeat (with_reducible first | refine Ok.assoc ?_ | refine Ok.okb ?_); try dsimp only)
    rw [cards_in_ok h g hL k0 (by omega)]
    (repeat (with_reducible first | refine Ok.assoc ?_ | refine Ok.okb ?_); try dsimp only)
    rw [eqD_same]
    (repeat (with_reducible first | refine Ok.assoc ?_ | refine Ok.okb ?_); try dsimp only)
    rw [if_neg (by decide)]
    exact Ok.pure ⟨_, rfl, trivial⟩
  · (repeat (with_reducible first | refine Ok.assoc ?_ | refine Ok.okb ?_); try dsimp only)
    exact Ok.pure (decide_eq_true hL.sum)
theorem scaled_ok {s c : List Int} {k m : Int} (s1 : 1 ≤ s.length) (s2 : s.length ≤ 30) (hs : Sm s) (c2 : c.length ≤ 200) (hc : Sm c) (k1 : 1 ≤ k) (k2 : k ≤ 1000000000000000) (m0 : 0 ≤ m) (m1 : m ≤ 100000000000000000000000000000) : m__law_scaled_right s c k m = .ok true := by
  have h := sm_GS s1 s2 hs
  have g := sm_GC c2 hc
  obtain ⟨f, r, hL⟩ := lay_ex false h g
  have b := sm_bnd hL hs hc c2
  have fl := hL.len.1
  have rl := hL.len.2
  have mulk : ∀ x : Int, 1 ≤ x ∧ x ≤ 100000000000000 → 1 ≤ x * k ∧ x * k ≤ 1000000000000000000000000000000 := fun x hx => by
    have a1 : 1 * 1 ≤ x * k := Int.mul_le_mul hx.1 k1 (by decide) (by omega)
    have a2 : x * k ≤ 100000000000000 * 1000000000000000 := Int.mul_le_mul hx.2 k2 (by omega) (by decide)
    omega
  have hS : GS (s.map fun x => x * k) := ⟨by rw [List.length_map]; exact s1, by rw [List.length_map]; exact s2, fun x hx => by
    obtain ⟨y, hy, rfl⟩ := List.mem_map.mp hx
    have := mulk y (hs y hy)
    omega⟩
  have hC : GC (c.map fun x => x * k) := ⟨by rw [List.length_map]; exact c2, fun x hx => by
    obtain ⟨y, hy, rfl⟩ := List.mem_map.mp hx
    exact mulk y (hc y hy)⟩
  have hM : GS (s.map fun x => x + m) := ⟨by rw [List.length_map]; exact s1, by rw [List.length_map]; exact s2, fun x hx => by
    obtain ⟨y, hy, rfl⟩ := List.mem_map.mp hx
    have := hs y hy
    omega⟩
  have L1 := hL.map (g := fun x => x * k) (gh := fun x => x * k) (fun a b hab => Int.mul_lt_mul_of_pos_right hab (by omega)) (fun a b => Int.add_mul ..)
  have L2 := hL.map (g := fun x => x + m) (gh := fun x => x) (fun a b hab => by omega) (fun a b => by omega)
  rw [List.map_id'] at L2
  refine Ok.eq ?_
  unfold m__law_scaled_right
  rw [tops_of_lay h g hL]
  (repeat (with_reducible first | refine Ok.assoc ?_ | refine Ok.okb ?_); try dsimp only)
  rw [end_of_ok h g hL]
  (repeat (with_reducible first | refine Ok.assoc ?_ | refine Ok.okb ?_); try dsimp only)
  rw [compR_map (g := fun x => x * k) s [] (fun x hx => by
    have := hs x hx
    rw [mulA_okL (by omega) (by omega)]
    rfl) (by show 0 + _ ≤ 16000000; omega), List.nil_append]
  (repeat (with_reducible first | refine Ok.assoc ?_ | refine Ok.okb ?_); try dsimp only)
  rw [compR_map (g := fun x => x * k) c [] (fun x hx => by
    have := hc x hx
    rw [mulA_okL (by omega) (by omega)]
    rfl) (by show 0 + _ ≤ 16000000; omega), List.nil_append]
  (repeat (with_reducible first | refine Ok.assoc ?_ | refine Ok.okb ?_); try dsimp only)
  rw [show getI ([s.map fun x => x * k, c.map fun x => x * k] : List (List Int)) 0 = .ok (s.map fun x => x * k) from rfl, show getI ([s.map fun x => x * k, c.map fun x => x * k] : List (List Int)) 1 = .ok (c.map fun x => x * k) from rfl]
  (repeat (with_reducible first | refine Ok.assoc ?_ | refine Ok.okb ?_); try dsimp only)
  rw [tops_of_lay hS hC L1]
  (repeat (with_reducible first | refine Ok.assoc ?_ | refine Ok.okb ?_); try dsimp only)
  rw [compR_map (g := fun x => x * k) (f.map (·.2)) [] (fun x hx => by
    obtain ⟨q, hq, rfl⟩ := List.mem_map.mp hx
    have := b.1 q hq
    rw [mulA_okL (by omega) (by omega)]
    rfl) (by rw [List.length_map]; show 0 + _ ≤ 16000000; omega), List.nil_append]
  (repeat (with_reducible first | refine Ok.assoc ?_ | refine Ok.okb ?_); try dsimp only)
  rw [List.map_map, List.map_map, show ((fun q : Int × Int => q.2) ∘ fun q : Int × Int => (q.1, q.2 * k)) = (fun x => x * k) ∘ fun q : Int × Int => q.2 from rfl, eqD_same]
  (repeat (with_reducible first | refine Ok.assoc ?_ | refine Ok.okb ?_); try dsimp only)
  rw [if_neg (by decide), compR_map (g := fun x => x + m) s [] (fun _ _ => rfl) (by show 0 + _ ≤ 16000000; omega), List.nil_append]
  (repeat (with_reducible first | refine Ok.assoc ?_ | refine Ok.okb ?_); try dsimp only)
  rw [end_of_ok hM g L2]
  (repeat (with_reducible first | refine Ok.assoc ?_ | refine Ok.okb ?_); try dsimp only)
  rw [compR_map (g := fun x => x + m) r [] (fun _ _ => rfl) (by show 0 + _ ≤ 16000000; omega), List.nil_append]
  (repeat (with_reducible first | refine Ok.assoc ?_ | refine Ok.okb ?_); try dsimp only)
  rw [eqD_same]
  (repeat (with_reducible first | refine Ok.assoc ?_ | refine Ok.okb ?_); try dsimp only)
  rw [if_neg (by decide)]
  (repeat (with_reducible first | refine Ok.assoc ?_ | refine Ok.okb ?_); try dsimp only)
  rw [tops_of_lay hM g L2]
  (repeat (with_reducible first | refine Ok.assoc ?_ | refine Ok.okb ?_); try dsimp only)
  rw [compR_map (g := fun x => x + m) (f.map (·.2)) [] (fun _ _ => rfl) (by rw [List.length_map]; show 0 + _ ≤ 16000000; omega), List.nil_append]
  (repeat (with_reducible first | refine Ok.assoc ?_ | refine Ok.okb ?_); try dsimp only)
  rw [List.map_map, List.map_map, show ((fun q : Int × Int => q.2) ∘ fun q : Int × Int => (q.1, q.2 + m)) = (fun x => x + m) ∘ fun q : Int × Int => q.2 from rfl, eqD_same]
  exact Ok.pure rfl
theorem cut_ok {s c o : List Int} {k : Int} (s1 : 1 ≤ s.length) (s2 : s.length ≤ 30) (hs : Sm s) (c2 : c.length ≤ 200) (hc : Sm c) (k0 : 0 ≤ k) (k1 : k ≤ c.length) (ol : s.length = o.length) (ho : ∀ x ∈ o, 1 ≤ x ∧ x ≤ 50) : m__law_cut_right s c k o = .ok true := by
  have h := sm_GS s1 s2 hs
  have g := sm_GC c2 hc
  have ht : Sm (c.take k.toNat) := fun x hx => hc x (List.mem_of_mem_take hx)
  have hd : Sm (c.drop k.toNat) := fun x hx => hc x (List.mem_of_mem_drop hx)
  have lt : (c.take k.toNat).length ≤ 200 := by rw [List.length_take]; omega
  have ld : (c.drop k.toNat).length ≤ 200 := by rw [List.length_drop]; omega
  have gt := sm_GC lt ht
  have gd := sm_GC ld hd
  obtain ⟨f1, r1, L1⟩ := lay_ex false h gt
  have b1 := sm_bnd L1 hs ht lt
  have hm : GS r1 := ⟨by rw [L1.len.2]; exact s1, by rw [L1.len.2]; exact s2, fun x hx => by have := b1.2 x hx; omega⟩
  obtain ⟨f2, r2, L2⟩ := lay_ex false hm gd
  have L := L1.append L2
  rw [List.take_append_drop] at L
  have l1 := L1.len.1
  have l2 := L2.len.1
  have ll := L.len.1
  have go : GC [1] := ⟨by decide, fun x hx => by simp only [List.mem_cons, List.not_mem_nil, or_false] at hx; omega⟩
  obtain ⟨fo, ro, Lo⟩ := lay_ex false hm go
  have efo : fo.map (·.2) = [minL r1] := by
    cases Lo with
    | cons hi t => cases t with
      | nil => rfl
  have hh : GS ((s.zip o).map fun x => max x.1 x.2) := ⟨by rw [List.length_map, List.length_zip]; omega, by rw [List.length_map, List.length_zip]; omega, fun x hx => by
    obtain ⟨y, hy, rfl⟩ := List.mem_map.mp hx
    have m1 := hs y.1 (List.of_mem_zip hy).1
    have m2 := ho y.2 (List.of_mem_zip hy).2
    omega⟩
  obtain ⟨f3, r3, L3⟩ := lay_ex false hh g
  have l3 := L3.len.1
  have dm := Dom.tops (dom_max s o ol) (fun x hx => by have := hc x hx; omega) L L3
  refine Ok.eq ?_
  unfold m__law_cut_right m_layout_s1
  rw [cutL_to _ k0, cutL_from _ k0, end_of_ok h gt L1]
  (repeat (with_reducible first | refine Ok.assoc ?_ | refine Ok.okb ?_); try dsimp only)
  rw [layout_ok false h g L, layout_ok false h gt L1, layout_ok false hm gd L2]
  (repeat (with_reducible first | refine Ok.assoc ?_ | refine Ok.okb ?_); try dsimp only)
  rw [catR_ok (by rw [l1, l2]; show _ + _ ≤ 16000000; omega)]
  (repeat (with_reducible first | refine Ok.assoc ?_ | refine Ok.okb ?_); try dsimp only)
  rw [eqD_pr]
  (repeat (with_reducible first | refine Ok.assoc ?_ | refine Ok.okb ?_); try dsimp only)
  rw [if_neg (by decide), end_of_ok hm gd L2, end_of_ok h g L]
  (repeat (with_reducible first | refine Ok.assoc ?_ | refine Ok.okb ?_); try dsimp only)
  rw [eqD_same]
  (repeat (with_reducible first | refine Ok.assoc ?_ | refine Ok.okb ?_); try dsimp only)
  rw [if_neg (by decide), tops_of_lay hm go Lo, efo]
  (repeat (with_reducible first | refine Ok.assoc ?_ | refine Ok.okb ?_); try dsimp only)
  rw [show minR r1 = .ok (minL r1) from Res.need_of hm.ne]
  (repeat (with_reducible first | refine Ok.assoc ?_ | refine Ok.okb ?_); try dsimp only)
  rw [eqD_same]
  (repeat (with_reducible first | refine Ok.assoc ?_ | refine Ok.okb ?_); try dsimp only)
  rw [if_neg (by decide), compR_map (g := fun x : Int × Int => max x.1 x.2) (s.zip o) [] (fun _ _ => rfl) (by rw [List.length_zip]; show 0 + _ ≤ 16000000; omega), List.nil_append]
  (repeat (with_reducible first | refine Ok.assoc ?_ | refine Ok.okb ?_); try dsimp only)
  rw [tops_of_lay h g L, tops_of_lay hh g L3]
  (repeat (with_reducible first | refine Ok.assoc ?_ | refine Ok.okb ?_); try dsimp only)
  rw [compR_filter (p := fun x : Int × Int => decide (x.2 < x.1)) (g := fun _ => (1 : Int)) _ [] (fun _ _ => rfl) (by rw [List.length_zip, List.length_map, List.length_map]; show 0 + _ ≤ 16000000; omega), List.nil_append]
  (repeat (with_reducible first | refine Ok.assoc ?_ | refine Ok.okb ?_); try dsimp only)
  rw [show ((f1 ++ f2).map (·.2)).zip (f3.map (·.2)) = ((f1 ++ f2).map fun x => x.2).zip (f3.map fun x => x.2) from rfl, List.filter_eq_nil_iff.mpr (fun x hx => by have := dm x hx; simp; omega), List.map_nil, eqD_nil]
  exact Ok.pure rfl
theorem law_true (ns : List Int) (h : ns.length ≤ 63) : m_law ns = .ok true := by
  refine Ok.eq ?_
  unfold m_law
  rw [rangeR_ok (by omega) (by omega) (by omega) (by omega)]
  simp only [Res.bind_ok]
  refine sq_ok (P := fun _ => True) (forR_ok (fun _ => True) _ _ trivial fun _ k hk _ => ?_) fun _ _ => Ok.pure rfl
  obtain ⟨k0, k1⟩ := mem_range hk
  (repeat (with_reducible first | refine Ok.assoc ?_ | refine Ok.okb ?_); try dsimp only)
  refine Ok.bind (cell_ok ns k k0) fun cell _ => ?_
  (repeat (with_reducible first | refine Ok.assoc ?_ | refine Ok.okb ?_); try dsimp only)
  refine Ok.bind (pool_ok cell k (by omega) (by omega)) fun pool hp => ?_
  (repeat (with_reducible first | refine Ok.assoc ?_ | refine Ok.okb ?_); try dsimp only)
  refine Ok.bind (begun_ok ns hp (by omega)) fun b ⟨hb, hb2⟩ => ?_
  (repeat (with_reducible first | refine Ok.assoc ?_ | refine Ok.okb ?_); try dsimp only)
  have b1 := hb.1
  have b2 := hb.2.1
  refine Ok.bind (small_ok (by omega)) fun s ⟨sl, hs⟩ => ?_
  (repeat (with_reducible first | refine Ok.assoc ?_ | refine Ok.okb ?_); try dsimp only)
  refine Ok.bind (cards_ok ns hb2 (by omega)) fun c ⟨hc, hc2⟩ => ?_
  (repeat (with_reducible first | refine Ok.assoc ?_ | refine Ok.okb ?_); try dsimp only)
  have c1 := hc.1
  refine Ok.bind (small_ok (by omega)) fun t ⟨tl, ht⟩ => ?_
  (repeat (with_reducible first | refine Ok.assoc ?_ | refine Ok.okb ?_); try dsimp only)
  rw [rangeR_ok (by omega) (by omega) (by omega) (by omega)]
  (repeat (with_reducible first | refine Ok.assoc ?_ | refine Ok.okb ?_); try dsimp only)
  refine Ok.bind (draws_ok (w := 50) 1 (fun s x => by simp only [Res.bind_assoc, Res.bind_ok]) hc2 (by omega) (by omega) (by omega) (by decide) (by decide)) fun o ⟨ol, ho, hp3⟩ => ?_
  (repeat (with_reducible first | refine Ok.assoc ?_ | refine Ok.okb ?_); try dsimp only)
  have hS := sm_GS (by omega) (by omega) hs
  have hC := sm_GC (by omega) ht
  rw [turned_ok hS hC]
  (repeat (with_reducible first | refine Ok.assoc ?_ | refine Ok.okb ?_); try dsimp only)
  rw [if_neg (by decide)]
  (repeat (with_reducible first | refine Ok.assoc ?_ | refine Ok.okb ?_); try dsimp only)
  refine Ok.bind (draw_ok hp3 (by omega) (by omega) (by omega)) fun d ⟨d0, d1, hp4⟩ => ?_
  (repeat (with_reducible first | refine Ok.assoc ?_ | refine Ok.okb ?_); try dsimp only)
  rw [cut_ok (by omega) (by omega) hs (by omega) ht d0 (by omega) (by omega) (fun x hx => by have := ho x hx; omega)]
  (repeat (with_reducible first | refine Ok.assoc ?_ | refine Ok.okb ?_); try dsimp only)
  rw [if_neg (by decide)]
  (repeat (with_reducible first | refine Ok.assoc ?_ | refine Ok.okb ?_); try dsimp only)
  refine Ok.bind (draw_ok hp4 (by omega) (by decide) (by decide)) fun e ⟨e0, e1, hp5⟩ => ?_
  (repeat (with_reducible first | refine Ok.assoc ?_ | refine Ok.okb ?_); try dsimp only)
  refine Ok.bind (draw_ok hp5 (by omega) (by decide) (by decide)) fun i ⟨i0, i1, hp6⟩ => ?_
  (repeat (with_reducible first | refine Ok.assoc ?_ | refine Ok.okb ?_); try dsimp only)
  rw [scaled_ok (by omega) (by omega) hs (by omega) ht (by omega) (by omega) i0 (by omega)]
  (repeat (with_reducible first | refine Ok.assoc ?_ | refine Ok.okb ?_); try dsimp only)
  rw [if_neg (by decide)]
  exact Ok.pure ⟨_, rfl, trivial⟩
section
set_option maxHeartbeats 3200000 in
theorem all_mk {l : PySem.W.OpenLaw} {w : World} {K : PySem.W.Frag} {h : Heap} {mg : Str → Option Value} {fa f_is_integer f_is_start f_is_cards f_check_start f_check_cards f_lowest_in f_laid f_tops_in f_end_in f_layout f_tops_of f_end_of f_steps f_cards_in f__law_cell_at f__law_pool f__law_draw f__law_begun f__law_cards f__law_small f__law_turned_right f__law_scaled_right f__law_cut_right f_law : Addr} (X : K.In h) (G : h.Ns mainGlobals mg) (hfa : mg "law" = some (.ref fa))
    (hm : ∀ ns : List Int, ns.length ≤ 63 → m_law ns = .ok true)
    {od_is_integer an_is_integer : Option Addr} {sl_is_integer : Array (Option Value)} {oc_is_integer kV_is_integer dc_is_integer pm_is_integer cd_is_integer ct_is_integer : Value}
    {od_is_start an_is_start : Option Addr} {sl_is_start : Array (Option Value)} {oc_is_start kV_is_start dc_is_start pm_is_start cd_is_start ct_is_start : Value}
    {od_is_cards an_is_cards : Option Addr} {sl_is_cards : Array (Option Value)} {oc_is_cards kV_is_cards dc_is_cards pm_is_cards cd_is_cards ct_is_cards : Value}
    {od_check_start an_check_start : Option Addr} {sl_check_start : Array (Option Value)} {oc_check_start kV_check_start dc_check_start pm_check_start cd_check_start ct_check_start : Value}
    {od_check_cards an_check_cards : Option Addr} {sl_check_cards : Array (Option Value)} {oc_check_cards kV_check_cards dc_check_cards pm_check_cards cd_check_cards ct_check_cards : Value}
    {od_lowest_in an_lowest_in : Option Addr} {sl_lowest_in : Array (Option Value)} {oc_lowest_in kV_lowest_in dc_lowest_in pm_lowest_in cd_lowest_in ct_lowest_in : Value}
    {od_laid an_laid : Option Addr} {sl_laid : Array (Option Value)} {oc_laid kV_laid dc_laid pm_laid cd_laid ct_laid : Value}
    {od_tops_in an_tops_in : Option Addr} {sl_tops_in : Array (Option Value)} {oc_tops_in kV_tops_in dc_tops_in pm_tops_in cd_tops_in ct_tops_in : Value}
    {od_end_in an_end_in : Option Addr} {sl_end_in : Array (Option Value)} {oc_end_in kV_end_in dc_end_in pm_end_in cd_end_in ct_end_in : Value}
    {od_layout an_layout : Option Addr} {sl_layout : Array (Option Value)} {oc_layout dc_layout pm_layout cd_layout ct_layout : Value} {kD_layout : Addr}
    {od_tops_of an_tops_of : Option Addr} {sl_tops_of : Array (Option Value)} {oc_tops_of kV_tops_of dc_tops_of pm_tops_of cd_tops_of ct_tops_of : Value}
    {od_end_of an_end_of : Option Addr} {sl_end_of : Array (Option Value)} {oc_end_of kV_end_of dc_end_of pm_end_of cd_end_of ct_end_of : Value}
    {od_steps an_steps : Option Addr} {sl_steps : Array (Option Value)} {oc_steps kV_steps dc_steps pm_steps cd_steps ct_steps : Value}
    {od_cards_in an_cards_in : Option Addr} {sl_cards_in : Array (Option Value)} {oc_cards_in kV_cards_in dc_cards_in pm_cards_in cd_cards_in ct_cards_in : Value}
    {od__law_cell_at an__law_cell_at : Option Addr} {sl__law_cell_at : Array (Option Value)} {oc__law_cell_at kV__law_cell_at dc__law_cell_at pm__law_cell_at cd__law_cell_at ct__law_cell_at : Value}
    {od__law_pool an__law_pool : Option Addr} {sl__law_pool : Array (Option Value)} {oc__law_pool kV__law_pool dc__law_pool pm__law_pool cd__law_pool ct__law_pool : Value}
    {od__law_draw an__law_draw : Option Addr} {sl__law_draw : Array (Option Value)} {oc__law_draw kV__law_draw dc__law_draw pm__law_draw cd__law_draw ct__law_draw : Value}
    {od__law_begun an__law_begun : Option Addr} {sl__law_begun : Array (Option Value)} {oc__law_begun kV__law_begun dc__law_begun pm__law_begun cd__law_begun ct__law_begun : Value}
    {od__law_cards an__law_cards : Option Addr} {sl__law_cards : Array (Option Value)} {oc__law_cards kV__law_cards dc__law_cards pm__law_cards cd__law_cards ct__law_cards : Value}
    {od__law_small an__law_small : Option Addr} {sl__law_small : Array (Option Value)} {oc__law_small kV__law_small dc__law_small pm__law_small cd__law_small ct__law_small : Value}
    {od__law_turned_right an__law_turned_right : Option Addr} {sl__law_turned_right : Array (Option Value)} {oc__law_turned_right kV__law_turned_right dc__law_turned_right pm__law_turned_right cd__law_turned_right ct__law_turned_right : Value}
    {od__law_scaled_right an__law_scaled_right : Option Addr} {sl__law_scaled_right : Array (Option Value)} {oc__law_scaled_right kV__law_scaled_right dc__law_scaled_right pm__law_scaled_right cd__law_scaled_right ct__law_scaled_right : Value}
    {od__law_cut_right an__law_cut_right : Option Addr} {sl__law_cut_right : Array (Option Value)} {oc__law_cut_right kV__law_cut_right dc__law_cut_right pm__law_cut_right cd__law_cut_right ct__law_cut_right : Value}
    {od_law an_law : Option Addr} {sl_law : Array (Option Value)} {oc_law kV_law dc_law pm_law cd_law ct_law : Value}
    (a_is_integer : PySem.W.nsIn K mainGlobals "is_integer" = some (some (.ref f_is_integer))) (l_is_integer : K.lookup f_is_integer = some ⟨oc_is_integer, od_is_integer, .func (PySem.W.fnOf "is_integer" "is_integer" (defArgs s_is_integer) (defBody s_is_integer) (defScope s_is_integer) .none kV_is_integer dc_is_integer pm_is_integer an_is_integer cd_is_integer ct_is_integer), sl_is_integer⟩) (c_is_integer : PySem.W.codeIn K cd_is_integer "is_integer" = true) (k_is_integer : PySem.W.keepIn K (.ref f_is_integer) = true)
    (a_is_start : PySem.W.nsIn K mainGlobals "is_start" = some (some (.ref f_is_start))) (l_is_start : K.lookup f_is_start = some ⟨oc_is_start, od_is_start, .func (PySem.W.fnOf "is_start" "is_start" (defArgs s_is_start) (defBody s_is_start) (defScope s_is_start) .none kV_is_start dc_is_start pm_is_start an_is_start cd_is_start ct_is_start), sl_is_start⟩) (c_is_start : PySem.W.codeIn K cd_is_start "is_start" = true) (k_is_start : PySem.W.keepIn K (.ref f_is_start) = true)
    (a_is_cards : PySem.W.nsIn K mainGlobals "is_cards" = some (some (.ref f_is_cards))) (l_is_cards : K.lookup f_is_cards = some ⟨oc_is_cards, od_is_cards, .func (PySem.W.fnOf "is_cards" "is_cards" (defArgs s_is_cards) (defBody s_is_cards) (defScope s_is_cards) .none kV_is_cards dc_is_cards pm_is_cards an_is_cards cd_is_cards ct_is_cards), sl_is_cards⟩) (c_is_cards : PySem.W.codeIn K cd_is_cards "is_cards" = true) (k_is_cards : PySem.W.keepIn K (.ref f_is_cards) = true)
    (a_check_start : PySem.W.nsIn K mainGlobals "check_start" = some (some (.ref f_check_start))) (l_check_start : K.lookup f_check_start = some ⟨oc_check_start, od_check_start, .func (PySem.W.fnOf "check_start" "check_start" (defArgs s_check_start) (defBody s_check_start) (defScope s_check_start) .none kV_check_start dc_check_start pm_check_start an_check_start cd_check_start ct_check_start), sl_check_start⟩) (c_check_start : PySem.W.codeIn K cd_check_start "check_start" = true) (k_check_start : PySem.W.keepIn K (.ref f_check_start) = true)
    (a_check_cards : PySem.W.nsIn K mainGlobals "check_cards" = some (some (.ref f_check_cards))) (l_check_cards : K.lookup f_check_cards = some ⟨oc_check_cards, od_check_cards, .func (PySem.W.fnOf "check_cards" "check_cards" (defArgs s_check_cards) (defBody s_check_cards) (defScope s_check_cards) .none kV_check_cards dc_check_cards pm_check_cards an_check_cards cd_check_cards ct_check_cards), sl_check_cards⟩) (c_check_cards : PySem.W.codeIn K cd_check_cards "check_cards" = true) (k_check_cards : PySem.W.keepIn K (.ref f_check_cards) = true)
    (a_lowest_in : PySem.W.nsIn K mainGlobals "lowest_in" = some (some (.ref f_lowest_in))) (l_lowest_in : K.lookup f_lowest_in = some ⟨oc_lowest_in, od_lowest_in, .func (PySem.W.fnOf "lowest_in" "lowest_in" (defArgs s_lowest_in) (defBody s_lowest_in) (defScope s_lowest_in) .none kV_lowest_in dc_lowest_in pm_lowest_in an_lowest_in cd_lowest_in ct_lowest_in), sl_lowest_in⟩) (c_lowest_in : PySem.W.codeIn K cd_lowest_in "lowest_in" = true) (k_lowest_in : PySem.W.keepIn K (.ref f_lowest_in) = true)
    (a_laid : PySem.W.nsIn K mainGlobals "laid" = some (some (.ref f_laid))) (l_laid : K.lookup f_laid = some ⟨oc_laid, od_laid, .func (PySem.W.fnOf "laid" "laid" (defArgs s_laid) (defBody s_laid) (defScope s_laid) .none kV_laid dc_laid pm_laid an_laid cd_laid ct_laid), sl_laid⟩) (c_laid : PySem.W.codeIn K cd_laid "laid" = true) (k_laid : PySem.W.keepIn K (.ref f_laid) = true)
    (a_tops_in : PySem.W.nsIn K mainGlobals "tops_in" = some (some (.ref f_tops_in))) (l_tops_in : K.lookup f_tops_in = some ⟨oc_tops_in, od_tops_in, .func (PySem.W.fnOf "tops_in" "tops_in" (defArgs s_tops_in) (defBody s_tops_in) (defScope s_tops_in) .none kV_tops_in dc_tops_in pm_tops_in an_tops_in cd_tops_in ct_tops_in), sl_tops_in⟩) (c_tops_in : PySem.W.codeIn K cd_tops_in "tops_in" = true) (k_tops_in : PySem.W.keepIn K (.ref f_tops_in) = true)
    (a_end_in : PySem.W.nsIn K mainGlobals "end_in" = some (some (.ref f_end_in))) (l_end_in : K.lookup f_end_in = some ⟨oc_end_in, od_end_in, .func (PySem.W.fnOf "end_in" "end_in" (defArgs s_end_in) (defBody s_end_in) (defScope s_end_in) .none kV_end_in dc_end_in pm_end_in an_end_in cd_end_in ct_end_in), sl_end_in⟩) (c_end_in : PySem.W.codeIn K cd_end_in "end_in" = true) (k_end_in : PySem.W.keepIn K (.ref f_end_in) = true)
    (a_layout : PySem.W.nsIn K mainGlobals "layout" = some (some (.ref f_layout))) (l_layout : K.lookup f_layout = some ⟨oc_layout, od_layout, .func (PySem.W.fnOf "layout" "layout" (defArgs s_layout) (defBody s_layout) (defScope s_layout) .none (.ref kD_layout) dc_layout pm_layout an_layout cd_layout ct_layout), sl_layout⟩) (c_layout : PySem.W.codeIn K cd_layout "layout" = true) (k_layout : PySem.W.keepIn K (.ref f_layout) = true)
    (a_tops_of : PySem.W.nsIn K mainGlobals "tops_of" = some (some (.ref f_tops_of))) (l_tops_of : K.lookup f_tops_of = some ⟨oc_tops_of, od_tops_of, .func (PySem.W.fnOf "tops_of" "tops_of" (defArgs s_tops_of) (defBody s_tops_of) (defScope s_tops_of) .none kV_tops_of dc_tops_of pm_tops_of an_tops_of cd_tops_of ct_tops_of), sl_tops_of⟩) (c_tops_of : PySem.W.codeIn K cd_tops_of "tops_of" = true) (k_tops_of : PySem.W.keepIn K (.ref f_tops_of) = true)
    (a_end_of : PySem.W.nsIn K mainGlobals "end_of" = some (some (.ref f_end_of))) (l_end_of : K.lookup f_end_of = some ⟨oc_end_of, od_end_of, .func (PySem.W.fnOf "end_of" "end_of" (defArgs s_end_of) (defBody s_end_of) (defScope s_end_of) .none kV_end_of dc_end_of pm_end_of an_end_of cd_end_of ct_end_of), sl_end_of⟩) (c_end_of : PySem.W.codeIn K cd_end_of "end_of" = true) (k_end_of : PySem.W.keepIn K (.ref f_end_of) = true)
    (a_steps : PySem.W.nsIn K mainGlobals "steps" = some (some (.ref f_steps))) (l_steps : K.lookup f_steps = some ⟨oc_steps, od_steps, .func (PySem.W.fnOf "steps" "steps" (defArgs s_steps) (defBody s_steps) (defScope s_steps) .none kV_steps dc_steps pm_steps an_steps cd_steps ct_steps), sl_steps⟩) (c_steps : PySem.W.codeIn K cd_steps "steps" = true) (k_steps : PySem.W.keepIn K (.ref f_steps) = true)
    (a_cards_in : PySem.W.nsIn K mainGlobals "cards_in" = some (some (.ref f_cards_in))) (l_cards_in : K.lookup f_cards_in = some ⟨oc_cards_in, od_cards_in, .func (PySem.W.fnOf "cards_in" "cards_in" (defArgs s_cards_in) (defBody s_cards_in) (defScope s_cards_in) .none kV_cards_in dc_cards_in pm_cards_in an_cards_in cd_cards_in ct_cards_in), sl_cards_in⟩) (c_cards_in : PySem.W.codeIn K cd_cards_in "cards_in" = true) (k_cards_in : PySem.W.keepIn K (.ref f_cards_in) = true)
    (a__law_cell_at : PySem.W.nsIn K mainGlobals "_law_cell_at" = some (some (.ref f__law_cell_at))) (l__law_cell_at : K.lookup f__law_cell_at = some ⟨oc__law_cell_at, od__law_cell_at, .func (PySem.W.fnOf "_law_cell_at" "_law_cell_at" (defArgs s__law_cell_at) (defBody s__law_cell_at) (defScope s__law_cell_at) .none kV__law_cell_at dc__law_cell_at pm__law_cell_at an__law_cell_at cd__law_cell_at ct__law_cell_at), sl__law_cell_at⟩) (c__law_cell_at : PySem.W.codeIn K cd__law_cell_at "_law_cell_at" = true) (k__law_cell_at : PySem.W.keepIn K (.ref f__law_cell_at) = true)
    (a__law_pool : PySem.W.nsIn K mainGlobals "_law_pool" = some (some (.ref f__law_pool))) (l__law_pool : K.lookup f__law_pool = some ⟨oc__law_pool, od__law_pool, .func (PySem.W.fnOf "_law_pool" "_law_pool" (defArgs s__law_pool) (defBody s__law_pool) (defScope s__law_pool) .none kV__law_pool dc__law_pool pm__law_pool an__law_pool cd__law_pool ct__law_pool), sl__law_pool⟩) (c__law_pool : PySem.W.codeIn K cd__law_pool "_law_pool" = true) (k__law_pool : PySem.W.keepIn K (.ref f__law_pool) = true)
    (a__law_draw : PySem.W.nsIn K mainGlobals "_law_draw" = some (some (.ref f__law_draw))) (l__law_draw : K.lookup f__law_draw = some ⟨oc__law_draw, od__law_draw, .func (PySem.W.fnOf "_law_draw" "_law_draw" (defArgs s__law_draw) (defBody s__law_draw) (defScope s__law_draw) .none kV__law_draw dc__law_draw pm__law_draw an__law_draw cd__law_draw ct__law_draw), sl__law_draw⟩) (c__law_draw : PySem.W.codeIn K cd__law_draw "_law_draw" = true) (k__law_draw : PySem.W.keepIn K (.ref f__law_draw) = true)
    (a__law_begun : PySem.W.nsIn K mainGlobals "_law_begun" = some (some (.ref f__law_begun))) (l__law_begun : K.lookup f__law_begun = some ⟨oc__law_begun, od__law_begun, .func (PySem.W.fnOf "_law_begun" "_law_begun" (defArgs s__law_begun) (defBody s__law_begun) (defScope s__law_begun) .none kV__law_begun dc__law_begun pm__law_begun an__law_begun cd__law_begun ct__law_begun), sl__law_begun⟩) (c__law_begun : PySem.W.codeIn K cd__law_begun "_law_begun" = true) (k__law_begun : PySem.W.keepIn K (.ref f__law_begun) = true)
    (a__law_cards : PySem.W.nsIn K mainGlobals "_law_cards" = some (some (.ref f__law_cards))) (l__law_cards : K.lookup f__law_cards = some ⟨oc__law_cards, od__law_cards, .func (PySem.W.fnOf "_law_cards" "_law_cards" (defArgs s__law_cards) (defBody s__law_cards) (defScope s__law_cards) .none kV__law_cards dc__law_cards pm__law_cards an__law_cards cd__law_cards ct__law_cards), sl__law_cards⟩) (c__law_cards : PySem.W.codeIn K cd__law_cards "_law_cards" = true) (k__law_cards : PySem.W.keepIn K (.ref f__law_cards) = true)
    (a__law_small : PySem.W.nsIn K mainGlobals "_law_small" = some (some (.ref f__law_small))) (l__law_small : K.lookup f__law_small = some ⟨oc__law_small, od__law_small, .func (PySem.W.fnOf "_law_small" "_law_small" (defArgs s__law_small) (defBody s__law_small) (defScope s__law_small) .none kV__law_small dc__law_small pm__law_small an__law_small cd__law_small ct__law_small), sl__law_small⟩) (c__law_small : PySem.W.codeIn K cd__law_small "_law_small" = true) (k__law_small : PySem.W.keepIn K (.ref f__law_small) = true)
    (a__law_turned_right : PySem.W.nsIn K mainGlobals "_law_turned_right" = some (some (.ref f__law_turned_right))) (l__law_turned_right : K.lookup f__law_turned_right = some ⟨oc__law_turned_right, od__law_turned_right, .func (PySem.W.fnOf "_law_turned_right" "_law_turned_right" (defArgs s__law_turned_right) (defBody s__law_turned_right) (defScope s__law_turned_right) .none kV__law_turned_right dc__law_turned_right pm__law_turned_right an__law_turned_right cd__law_turned_right ct__law_turned_right), sl__law_turned_right⟩) (c__law_turned_right : PySem.W.codeIn K cd__law_turned_right "_law_turned_right" = true) (k__law_turned_right : PySem.W.keepIn K (.ref f__law_turned_right) = true)
    (a__law_scaled_right : PySem.W.nsIn K mainGlobals "_law_scaled_right" = some (some (.ref f__law_scaled_right))) (l__law_scaled_right : K.lookup f__law_scaled_right = some ⟨oc__law_scaled_right, od__law_scaled_right, .func (PySem.W.fnOf "_law_scaled_right" "_law_scaled_right" (defArgs s__law_scaled_right) (defBody s__law_scaled_right) (defScope s__law_scaled_right) .none kV__law_scaled_right dc__law_scaled_right pm__law_scaled_right an__law_scaled_right cd__law_scaled_right ct__law_scaled_right), sl__law_scaled_right⟩) (c__law_scaled_right : PySem.W.codeIn K cd__law_scaled_right "_law_scaled_right" = true) (k__law_scaled_right : PySem.W.keepIn K (.ref f__law_scaled_right) = true)
    (a__law_cut_right : PySem.W.nsIn K mainGlobals "_law_cut_right" = some (some (.ref f__law_cut_right))) (l__law_cut_right : K.lookup f__law_cut_right = some ⟨oc__law_cut_right, od__law_cut_right, .func (PySem.W.fnOf "_law_cut_right" "_law_cut_right" (defArgs s__law_cut_right) (defBody s__law_cut_right) (defScope s__law_cut_right) .none kV__law_cut_right dc__law_cut_right pm__law_cut_right an__law_cut_right cd__law_cut_right ct__law_cut_right), sl__law_cut_right⟩) (c__law_cut_right : PySem.W.codeIn K cd__law_cut_right "_law_cut_right" = true) (k__law_cut_right : PySem.W.keepIn K (.ref f__law_cut_right) = true)
    (a_law : PySem.W.nsIn K mainGlobals "law" = some (some (.ref f_law))) (l_law : K.lookup f_law = some ⟨oc_law, od_law, .func (PySem.W.fnOf "law" "law" (defArgs s_law) (defBody s_law) (defScope s_law) .none kV_law dc_law pm_law an_law cd_law ct_law), sl_law⟩) (c_law : PySem.W.codeIn K cd_law "law" = true) (k_law : PySem.W.keepIn K (.ref f_law) = true)
    (q_layout_right : PySem.W.nsIn K kD_layout "right" = some (some (Value.bool false)))
    {t_MOST_CARDS : Tok} (v_MOST_CARDS : PySem.W.nsIn K mainGlobals "MOST_CARDS" = some (some (.int 200 t_MOST_CARDS)))
    {t_MOST_COLUMNS : Tok} (v_MOST_COLUMNS : PySem.W.nsIn K mainGlobals "MOST_COLUMNS" = some (some (.int 30 t_MOST_COLUMNS)))
    {t_MOST_HEIGHT : Tok} (v_MOST_HEIGHT : PySem.W.nsIn K mainGlobals "MOST_HEIGHT" = some (some (.int 1000000000000000000000000000000 t_MOST_HEIGHT)))
    (z_all : PySem.W.nsIn K mainGlobals "all" = some none)
    (z_bool : PySem.W.nsIn K mainGlobals "bool" = some none)
    (z_enumerate : PySem.W.nsIn K mainGlobals "enumerate" = some none)
    (z_int : PySem.W.nsIn K mainGlobals "int" = some none)
    (z_isinstance : PySem.W.nsIn K mainGlobals "isinstance" = some none)
    (z_len : PySem.W.nsIn K mainGlobals "len" = some none)
    (z_list : PySem.W.nsIn K mainGlobals "list" = some none)
    (z_max : PySem.W.nsIn K mainGlobals "max" = some none)
    (z_min : PySem.W.nsIn K mainGlobals "min" = some none)
    (z_range : PySem.W.nsIn K mainGlobals "range" = some none)
    (z_sum : PySem.W.nsIn K mainGlobals "sum" = some none)
    (z_zip : PySem.W.nsIn K mainGlobals "zip" = some none)
    : ∃ fd : FuncData, (∀ (s : Shared) (v : Value), BindsTo s fd ⟨[v], []⟩ [("script", v)]) ∧ ∀ base : Heap, K.In base → base.Ns mainGlobals mg → FnG True l.prog w K mg base (L2.CX l.prog w) 9 fa fd ["script"] (spLaw K) := by
  have e := hfa.symm.trans (PySem.W.mg_of X G a_law)
  cases e
  have F_is_integer := fun_mkG (st := s_is_integer) l_is_integer c_is_integer k_is_integer
  have B_is_integer := F_is_integer.bindsAll (ps := ["value", "least", "most"]) fun us hl => match us, hl with | [_, _, _], _ => rfl
  have F_is_start := fun_mkG (st := s_is_start) l_is_start c_is_start k_is_start
  have B_is_start := F_is_start.bindsAll (ps := ["value"]) fun us hl => match us, hl with | [_], _ => rfl
  have F_is_cards := fun_mkG (st := s_is_cards) l_is_cards c_is_cards k_is_cards
  have B_is_cards := F_is_cards.bindsAll (ps := ["value"]) fun us hl => match us, hl with | [_], _ => rfl
  have F_check_start := fun_mkG (st := s_check_start) l_check_start c_check_start k_check_start
  have B_check_start := F_check_start.bindsAll (ps := ["start"]) fun us hl => match us, hl with | [_], _ => rfl
  have F_check_cards := fun_mkG (st := s_check_cards) l_check_cards c_check_cards k_check_cards
  have B_check_cards := F_check_cards.bindsAll (ps := ["heights"]) fun us hl => match us, hl with | [_], _ => rfl
  have F_lowest_in := fun_mkG (st := s_lowest_in) l_lowest_in c_lowest_in k_lowest_in
  have B_lowest_in := F_lowest_in.bindsAll (ps := ["columns", "right"]) fun us hl => match us, hl with | [_, _], _ => rfl
  have F_laid := fun_mkG (st := s_laid) l_laid c_laid k_laid
  have B_laid := F_laid.bindsAll (ps := ["start", "heights", "right", "gap"]) fun us hl => match us, hl with | [_, _, _, _], _ => rfl
  have F_tops_in := fun_mkG (st := s_tops_in) l_tops_in c_tops_in k_tops_in
  have B_tops_in := F_tops_in.bindsAll (ps := ["start", "heights"]) fun us hl => match us, hl with | [_, _], _ => rfl
  have F_end_in := fun_mkG (st := s_end_in) l_end_in c_end_in k_end_in
  have B_end_in := F_end_in.bindsAll (ps := ["start", "heights"]) fun us hl => match us, hl with | [_, _], _ => rfl
  have F_layout := fun_mkG (st := s_layout) l_layout c_layout k_layout
  have F_tops_of := fun_mkG (st := s_tops_of) l_tops_of c_tops_of k_tops_of
  have B_tops_of := F_tops_of.bindsAll (ps := ["start", "heights"]) fun us hl => match us, hl with | [_, _], _ => rfl
  have F_end_of := fun_mkG (st := s_end_of) l_end_of c_end_of k_end_of
  have B_end_of := F_end_of.bindsAll (ps := ["start", "heights"]) fun us hl => match us, hl with | [_, _], _ => rfl
  have F_steps := fun_mkG (st := s_steps) l_steps c_steps k_steps
  have B_steps := F_steps.bindsAll (ps := ["start", "heights"]) fun us hl => match us, hl with | [_, _], _ => rfl
  have F_cards_in := fun_mkG (st := s_cards_in) l_cards_in c_cards_in k_cards_in
  have B_cards_in := F_cards_in.bindsAll (ps := ["start", "heights", "column"]) fun us hl => match us, hl with | [_, _, _], _ => rfl
  have F__law_cell_at := fun_mkG (st := s__law_cell_at) l__law_cell_at c__law_cell_at k__law_cell_at
  have B__law_cell_at := F__law_cell_at.bindsAll (ps := ["script", "k"]) fun us hl => match us, hl with | [_, _], _ => rfl
  have F__law_pool := fun_mkG (st := s__law_pool) l__law_pool c__law_pool k__law_pool
  have B__law_pool := F__law_pool.bindsAll (ps := ["cell", "place"]) fun us hl => match us, hl with | [_, _], _ => rfl
  have F__law_draw := fun_mkG (st := s__law_draw) l__law_draw c__law_draw k__law_draw
  have B__law_draw := F__law_draw.bindsAll (ps := ["pool", "many"]) fun us hl => match us, hl with | [_, _], _ => rfl
  have F__law_begun := fun_mkG (st := s__law_begun) l__law_begun c__law_begun k__law_begun
  have B__law_begun := F__law_begun.bindsAll (ps := ["pool", "script"]) fun us hl => match us, hl with | [_, _], _ => rfl
  have F__law_cards := fun_mkG (st := s__law_cards) l__law_cards c__law_cards k__law_cards
  have B__law_cards := F__law_cards.bindsAll (ps := ["pool", "script"]) fun us hl => match us, hl with | [_, _], _ => rfl
  have F__law_small := fun_mkG (st := s__law_small) l__law_small c__law_small k__law_small
  have B__law_small := F__law_small.bindsAll (ps := ["row"]) fun us hl => match us, hl with | [_], _ => rfl
  have F__law_turned_right := fun_mkG (st := s__law_turned_right) l__law_turned_right c__law_turned_right k__law_turned_right
  have B__law_turned_right := F__law_turned_right.bindsAll (ps := ["begun", "cards"]) fun us hl => match us, hl with | [_, _], _ => rfl
  have F__law_scaled_right := fun_mkG (st := s__law_scaled_right) l__law_scaled_right c__law_scaled_right k__law_scaled_right
  have B__law_scaled_right := F__law_scaled_right.bindsAll (ps := ["begun", "cards", "factor", "more"]) fun us hl => match us, hl with | [_, _, _, _], _ => rfl
  have F__law_cut_right := fun_mkG (st := s__law_cut_right) l__law_cut_right c__law_cut_right k__law_cut_right
  have B__law_cut_right := F__law_cut_right.bindsAll (ps := ["begun", "cards", "cut", "other"]) fun us hl => match us, hl with | [_, _, _, _], _ => rfl
  have F_law := fun_mkG (st := s_law) l_law c_law k_law
  have B_law := F_law.bindsAll (ps := ["script"]) fun us hl => match us, hl with | [_], _ => rfl
  have k_layout_s1 := kb_looks (K := K) (fd := PySem.W.fnOf "layout" "layout" (defArgs s_layout) (defBody s_layout) (defScope s_layout) .none (.ref kD_layout) dc_layout pm_layout an_layout cd_layout ct_layout) (ps := ["start", "heights", "right"]) (n := 2) (ks := []) (is := [0, 1, 2]) (du := [(Value.bool false)]) (D := kD_layout) (qs := [("right", (Value.bool false))]) ((List.forall_mem_cons.mpr ⟨q_layout_right, List.forall_mem_nil _⟩)) fun us ws h1 h2 => match us, ws, h1, h2 with | [_, _], [], _, _ => ⟨_, _, _, _, _, _, rfl, rfl, rfl⟩
  have k_layout_s2 := F_layout.kb (ps := ["start", "heights", "right"]) (n := 2) (ks := ["right"]) (is := [0, 1, 2]) (du := []) fun us ws h1 h2 => match us, ws, h1, h2 with | [_, _], [_], _, _ => rfl
  have T : Txt K mg (Ad.mk f_is_integer _ f_is_start _ f_is_cards _ f_check_start _ f_check_cards _ f_lowest_in _ f_laid _ f_tops_in _ f_end_in _ f_layout _ f_tops_of _ f_end_of _ f_steps _ f_cards_in _ f__law_cell_at _ f__law_pool _ f__law_draw _ f__law_begun _ f__law_cards _ f__law_small _ f__law_turned_right _ f__law_scaled_right _ f__law_cut_right _ fa _ t_MOST_CARDS t_MOST_COLUMNS t_MOST_HEIGHT) := { F_is_integer := F_is_integer, g_is_integer := PySem.W.mg_of X G a_is_integer, b_is_integer := B_is_integer, F_is_start := F_is_start, g_is_start := PySem.W.mg_of X G a_is_start, b_is_start := B_is_start, F_is_cards := F_is_cards, g_is_cards := PySem.W.mg_of X G a_is_cards, b_is_cards := B_is_cards, F_check_start := F_check_start, g_check_start := PySem.W.mg_of X G a_check_start, b_check_start := B_check_start, F_check_cards := F_check_cards, g_check_cards := PySem.W.mg_of X G a_check_cards, b_check_cards := B_check_cards, F_lowest_in := F_lowest_in, g_lowest_in := PySem.W.mg_of X G a_lowest_in, b_lowest_in := B_lowest_in, F_laid := F_laid, g_laid := PySem.W.mg_of X G a_laid, b_laid := B_laid, F_tops_in := F_tops_in, g_tops_in := PySem.W.mg_of X G a_tops_in, b_tops_in := B_tops_in, F_end_in := F_end_in, g_end_in := PySem.W.mg_of X G a_end_in, b_end_in := B_end_in, F_layout := F_layout, g_layout := PySem.W.mg_of X G a_layout, F_tops_of := F_tops_of, g_tops_of := PySem.W.mg_of X G a_tops_of, b_tops_of := B_tops_of, F_end_of := F_end_of, g_end_of := PySem.W.mg_of X G a_end_of, b_end_of := B_end_of, F_steps := F_steps, g_steps := PySem.W.mg_of X G a_steps, b_steps := B_steps, F_cards_in := F_cards_in, g_cards_in := PySem.W.mg_of X G a_cards_in, b_cards_in := B_cards_in, F__law_cell_at := F__law_cell_at, g__law_cell_at := PySem.W.mg_of X G a__law_cell_at, b__law_cell_at := B__law_cell_at, F__law_pool := F__law_pool, g__law_pool := PySem.W.mg_of X G a__law_pool, b__law_pool := B__law_pool, F__law_draw := F__law_draw, g__law_draw := PySem.W.mg_of X G a__law_draw, b__law_draw := B__law_draw, F__law_begun := F__law_begun, g__law_begun := PySem.W.mg_of X G a__law_begun, b__law_begun := B__law_begun, F__law_cards := F__law_cards, g__law_cards := PySem.W.mg_of X G a__law_cards, b__law_cards := B__law_cards, F__law_small := F__law_small, g__law_small := PySem.W.mg_of X G a__law_small, b__law_small := B__law_small, F__law_turned_right := F__law_turned_right, g__law_turned_right := PySem.W.mg_of X G a__law_turned_right, b__law_turned_right := B__law_turned_right, F__law_scaled_right := F__law_scaled_right, g__law_scaled_right := PySem.W.mg_of X G a__law_scaled_right, b__law_scaled_right := B__law_scaled_right, F__law_cut_right := F__law_cut_right, g__law_cut_right := PySem.W.mg_of X G a__law_cut_right, b__law_cut_right := B__law_cut_right, F_law := F_law, g_law := PySem.W.mg_of X G a_law, b_law := B_law, k_layout_s1 := k_layout_s1, k_layout_s2 := k_layout_s2, c_MOST_CARDS := PySem.W.mg_of X G v_MOST_CARDS, c_MOST_COLUMNS := PySem.W.mg_of X G v_MOST_COLUMNS, c_MOST_HEIGHT := PySem.W.mg_of X G v_MOST_HEIGHT, z_all := PySem.W.mg_none_of X G z_all, z_bool := PySem.W.mg_none_of X G z_bool, z_enumerate := PySem.W.mg_none_of X G z_enumerate, z_int := PySem.W.mg_none_of X G z_int, z_isinstance := PySem.W.mg_none_of X G z_isinstance, z_len := PySem.W.mg_none_of X G z_len, z_list := PySem.W.mg_none_of X G z_list, z_max := PySem.W.mg_none_of X G z_max, z_min := PySem.W.mg_none_of X G z_min, z_range := PySem.W.mg_none_of X G z_range, z_sum := PySem.W.mg_none_of X G z_sum, z_zip := PySem.W.mg_none_of X G z_zip }
  exact ⟨_, fun s v => .of_eq rfl, fun base _ _ => (ok_law T).imp fun vs H Q E q => law_sp hm vs H Q E q⟩
end
end Lw
open PySem PySem.W PyProof.Rows in
set_option maxRecDepth 100000 in
set_option maxHeartbeats 0 in
theorem PySem.Challenge.cw_lowcolumns_k79_whole_layouts_turned_and_holds : PySem.Challenge.rw_lowcolumns_k79_whole_layouts_turned_and.Holds := by
  w_on; o_law; k_head; (case hw => w_witness2)
  k_fill
  refine Lc.walkG (k := 9) (l := PySem.Challenge.rw_lowcolumns_k79_whole_layouts_turned_and) rfl rfl ⟨rfl, by decide, by decide⟩ (fun w h Y => PySem.W.kIn_of Y) ?F
  case F =>
    intro w mg fa h KX G hmg
    refine' Lw.all_mk KX G hmg Lw.law_true ?a_is_integer ?l_is_integer ?c_is_integer ?k_is_integer ?a_is_start ?l_is_start ?c_is_start ?k_is_start ?a_is_cards ?l_is_cards ?c_is_cards ?k_is_cards ?a_check_start ?l_check_start ?c_check_start ?k_check_start ?a_check_cards ?l_check_cards ?c_check_cards ?k_check_cards ?a_lowest_in ?l_lowest_in ?c_lowest_in ?k_lowest_in ?a_laid ?l_laid ?c_laid ?k_laid ?a_tops_in ?l_tops_in ?c_tops_in ?k_tops_in ?a_end_in ?l_end_in ?c_end_in ?k_end_in ?a_layout ?l_layout ?c_layout ?k_layout ?a_tops_of ?l_tops_of ?c_tops_of ?k_tops_of ?a_end_of ?l_end_of ?c_end_of ?k_end_of ?a_steps ?l_steps ?c_steps ?k_steps ?a_cards_in ?l_cards_in ?c_cards_in ?k_cards_in ?a__law_cell_at ?l__law_cell_at ?c__law_cell_at ?k__law_cell_at ?a__law_pool ?l__law_pool ?c__law_pool ?k__law_pool ?a__law_draw ?l__law_draw ?c__law_draw ?k__law_draw ?a__law_begun ?l__law_begun ?c__law_begun ?k__law_begun ?a__law_cards ?l__law_cards ?c__law_cards ?k__law_cards ?a__law_small ?l__law_small ?c__law_small ?k__law_small ?a__law_turned_right ?l__law_turned_right ?c__law_turned_right ?k__law_turned_right ?a__law_scaled_right ?l__law_scaled_right ?c__law_scaled_right ?k__law_scaled_right ?a__law_cut_right ?l__law_cut_right ?c__law_cut_right ?k__law_cut_right ?a_law ?l_law ?c_law ?k_law ?q_layout_right ?v_MOST_CARDS ?v_MOST_COLUMNS ?v_MOST_HEIGHT ?z_all ?z_bool ?z_enumerate ?z_int ?z_isinstance ?z_len ?z_list ?z_max ?z_min ?z_range ?z_sum ?z_zip
    (case a_is_integer => k_is)
    (case l_is_integer => k_is)
    (case c_is_integer => k_is)
    (case k_is_integer => k_is)
    (case a_is_start => k_is)
    (case l_is_start => k_is)
    (case c_is_start => k_is)
    (case k_is_start => k_is)
    (case a_is_cards => k_is)
    (case l_is_cards => k_is)
    (case c_is_cards => k_is)
    (case k_is_cards => k_is)
    (case a_check_start => k_is)
    (case l_check_start => k_is)
    (case c_check_start => k_is)
    (case k_check_start => k_is)
    (case a_check_cards => k_is)
    (case l_check_cards => k_is)
    (case c_check_cards => k_is)
    (case k_check_cards => k_is)
    (case a_lowest_in => k_is)
    (case l_lowest_in => k_is)
    (case c_lowest_in => k_is)
    (case k_lowest_in => k_is)
    (case a_laid => k_is)
    (case l_laid => k_is)
    (case c_laid => k_is)
    (case k_laid => k_is)
    (case a_tops_in => k_is)
    (case l_tops_in => k_is)
    (case c_tops_in => k_is)
    (case k_tops_in => k_is)
    (case a_end_in => k_is)
    (case l_end_in => k_is)
    (case c_end_in => k_is)
    (case k_end_in => k_is)
    (case a_layout => k_is)
    (case l_layout => k_is)
    (case c_layout => k_is)
    (case k_layout => k_is)
    (case a_tops_of => k_is)
    (case l_tops_of => k_is)
    (case c_tops_of => k_is)
    (case k_tops_of => k_is)
    (case a_end_of => k_is)
    (case l_end_of => k_is)
    (case c_end_of => k_is)
    (case k_end_of => k_is)
    (case a_steps => k_is)
    (case l_steps => k_is)
    (case c_steps => k_is)
    (case k_steps => k_is)
    (case a_cards_in => k_is)
    (case l_cards_in => k_is)
    (case c_cards_in => k_is)
    (case k_cards_in => k_is)
    (case a__law_cell_at => k_is)
    (case l__law_cell_at => k_is)
    (case c__law_cell_at => k_is)
    (case k__law_cell_at => k_is)
    (case a__law_pool => k_is)
    (case l__law_pool => k_is)
    (case c__law_pool => k_is)
    (case k__law_pool => k_is)
    (case a__law_draw => k_is)
    (case l__law_draw => k_is)
    (case c__law_draw => k_is)
    (case k__law_draw => k_is)
    (case a__law_begun => k_is)
    (case l__law_begun => k_is)
    (case c__law_begun => k_is)
    (case k__law_begun => k_is)
    (case a__law_cards => k_is)
    (case l__law_cards => k_is)
    (case c__law_cards => k_is)
    (case k__law_cards => k_is)
    (case a__law_small => k_is)
    (case l__law_small => k_is)
    (case c__law_small => k_is)
    (case k__law_small => k_is)
    (case a__law_turned_right => k_is)
    (case l__law_turned_right => k_is)
    (case c__law_turned_right => k_is)
    (case k__law_turned_right => k_is)
    (case a__law_scaled_right => k_is)
    (case l__law_scaled_right => k_is)
    (case c__law_scaled_right => k_is)
    (case k__law_scaled_right => k_is)
    (case a__law_cut_right => k_is)
    (case l__law_cut_right => k_is)
    (case c__law_cut_right => k_is)
    (case k__law_cut_right => k_is)
    (case a_law => k_is)
    (case l_law => k_is)
    (case c_law => k_is)
    (case k_law => k_is)
    (case q_layout_right => k_is)
    (case v_MOST_CARDS => k_is)
    (case v_MOST_COLUMNS => k_is)
    (case v_MOST_HEIGHT => k_is)
    (case z_all => k_is)
    (case z_bool => k_is)
    (case z_enumerate => k_is)
    (case z_int => k_is)
    (case z_isinstance => k_is)
    (case z_len => k_is)
    (case z_list => k_is)
    (case z_max => k_is)
    (case z_min => k_is)
    (case z_range => k_is)
    (case z_sum => k_is)
    (case z_zip => k_is)
#print axioms PySem.Challenge.cw_lowcolumns_k79_whole_layouts_turned_and_holds
