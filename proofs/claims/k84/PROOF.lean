import PyProof.Rows.All
import Wide.All
import OpenK.AllK
import Wide.FinOn
import HandS.ForMost
import HandS.Exc
import HandS.TryOnly
import HandS.ExcOwn
import HandS.WordsExc
import HandS.Wide
import HandS.Walk
import HandS.IsInst
import HandS.Style
import HandS.Conv
import HandS.NoneIn
import HandS.SortInts
import PyProof.ReprRoads
import PyProof.ReprLen
import HandS.Star
import KE.DataMinMax
import KE.SortData
import HandS.Defaults
import HandS.Sort
import HandS.RaiseMore
import KE.KDictList
import HandS.WideBits
import HandS.Zip
import HandS.More
import HandS.GenList
import HandS.Deep
import KE.KDictZip
import HandS.ExcValue
import PyProof.Rows.ZipGen
import KE.GoesEnum
import PyProof.ExcBaseAll.ValueError
import HandS.ExcIs
import HandS.HotCalls
import PyProof.StrBlock2
import PySem.Challenge.RW_lowcolumns_k84_errors_are_distinct
set_option Elab.async false
set_option linter.unusedVariables false
set_option maxRecDepth 100000
/-! Lc: a layer over the readings: mirrors in a small monad, assertions with footprints, judgements -/
namespace Lc
open PySem L2

/-! ### results of mirrors -/
inductive Res (α : Type) where
  | ok (a : α) | err (k : Nat) | bad
namespace Res
variable {α β γ : Type}
def bind (m : Res α) (f : α → Res β) : Res β := match m with
  | .ok a => f a
  | .err k => .err k
  | .bad => .bad
def wp (m : Res α) (Q : α → Prop) (E : Nat → Prop) : Prop := match m with
  | .ok a => Q a
  | .err k => E k
  | .bad => False
@[simp] theorem bind_ok (a : α) (f : α → Res β) : (Res.ok a).bind f = f a := rfl
@[simp] theorem bind_err (k : Nat) (f : α → Res β) : (Res.err k : Res α).bind f = .err k := rfl
@[simp] theorem bind_bad (f : α → Res β) : (Res.bad : Res α).bind f = .bad := rfl
theorem bind_assoc (m : Res α) (f : α → Res β) (g : β → Res γ) : (m.bind f).bind g = m.bind fun a => (f a).bind g := by cases m <;> rfl
theorem wp_bind {m : Res α} {f : α → Res β} {Q : β → Prop} {E : Nat → Prop} : (m.bind f).wp Q E ↔ m.wp (fun a => (f a).wp Q E) E := by cases m <;> exact Iff.rfl
theorem wp_mono {m : Res α} {Q Q' : α → Prop} {E E' : Nat → Prop} (h : m.wp Q E) (hq : ∀ a, m = .ok a → Q a → Q' a) (he : ∀ k, E k → E' k) : m.wp Q' E' := by
  cases m with
  | ok a => exact hq a rfl h
  | err k => exact he k h
  | bad => exact h
/-- a side condition -/
def need (c : Prop) [Decidable c] (m : Res α) : Res α := if c then m else .bad
theorem need_of {c : Prop} [Decidable c] {m : Res α} (h : c) : need c m = m := if_pos h
theorem wp_need {c : Prop} [Decidable c] {m : Res α} {Q : α → Prop} {E : Nat → Prop} (h : (need c m).wp Q E) : c ∧ m.wp Q E := by
  unfold need at h
  by_cases hc : c
  · rw [if_pos hc] at h
    exact ⟨hc, h⟩
  · rw [if_neg hc] at h
    exact h.elim
end Res

/-! ### frozen data -/
mutual
inductive Rp (F : Hp) : V → PyData → Prop
  | non : Rp F .non .none
  | bl (b : Bool) : Rp F (.bl b) (.bool b)
  | int (i : Int) : Rp F (.int i) (.int i)
  | str (x : Str) : Rp F (.str x) (.str x)
  | lst {a : Addr} {xs : List V} {ds : List PyData} : F a = some (.lst xs) → RpAll F xs ds → Rp F (.ref a) (.list ds)
  | tup {a : Addr} {xs : List V} {ds : List PyData} : F a = some (.tup xs) → RpAll F xs ds → Rp F (.ref a) (.tuple ds)
  | dk0 {a : Addr} : F a = some (.dK []) → Rp F (.ref a) (.dict [])
inductive RpAll (F : Hp) : List V → List PyData → Prop
  | nil : RpAll F [] []
  | cons {v : V} {vs : List V} {d : PyData} {ds : List PyData} : Rp F v d → RpAll F vs ds → RpAll F (v :: vs) (d :: ds)
end
section
variable {F G H : Hp} {v : V} {vs : List V} {d : PyData} {ds : List PyData}
mutual
theorem Rp.mono {F G : Hp} (s : Same F G) : ∀ {v : V} {d : PyData}, Rp F v d → Rp G v d
  | _, _, .non => .non
  | _, _, .bl b => .bl b
  | _, _, .int i => .int i
  | _, _, .str x => .str x
  | _, _, .lst h r => .lst (s _ _ h) (RpAll.mono s r)
  | _, _, .tup h r => .tup (s _ _ h) (RpAll.mono s r)
  | _, _, .dk0 h => .dk0 (s _ _ h)
theorem RpAll.mono {F G : Hp} (s : Same F G) : ∀ {vs : List V} {ds : List PyData}, RpAll F vs ds → RpAll G vs ds
  | _, _, .nil => .nil
  | _, _, .cons h r => .cons (Rp.mono s h) (RpAll.mono s r)
end
mutual
/-- data at any depth in a heap; the empty dict among them -/
inductive Dq (K : PySem.W.Frag) (H : Hp) : V → PyData → Prop
  | non : Dq K H .non .none
  | bl (b : Bool) : Dq K H (.bl b) (.bool b)
  | int (i : Int) : Dq K H (.int i) (.int i)
  | str (x : Str) : Dq K H (.str x) (.str x)
  | lst {a : Addr} {ws : List V} {es : List PyData} (h : SqL K H a ws) (r : DqAll K H ws es) : Dq K H (.ref a) (.list es)
  | tup {a : Addr} {ws : List V} {es : List PyData} (h : SqT K H a ws) (r : DqAll K H ws es) : Dq K H (.ref a) (.tuple es)
  | dk0 {a : Addr} (h : H a = some (.dK [])) : Dq K H (.ref a) (.dict [])
inductive DqAll (K : PySem.W.Frag) (H : Hp) : List V → List PyData → Prop
  | nil : DqAll K H [] []
  | cons {w : V} {ws : List V} {e : PyData} {es : List PyData} (h : Dq K H w e) (r : DqAll K H ws es) : DqAll K H (w :: ws) (e :: es)
end
mutual
theorem Rp.dp {F H : Hp} {K : PySem.W.Frag} (s : Same F H) : ∀ {v : V} {d : PyData}, Rp F v d → Dq K H v d
  | _, _, .non => .non
  | _, _, .bl b => .bl b
  | _, _, .int i => .int i
  | _, _, .str x => .str x
  | _, _, .lst h r => .lst (SqL.of (s _ _ h)) (RpAll.dp s r)
  | _, _, .tup h r => .tup (SqT.of (s _ _ h)) (RpAll.dp s r)
  | _, _, .dk0 h => .dk0 (s _ _ h)
theorem RpAll.dp {F H : Hp} {K : PySem.W.Frag} (s : Same F H) : ∀ {vs : List V} {ds : List PyData}, RpAll F vs ds → DqAll K H vs ds
  | _, _, .nil => .nil
  | _, _, .cons h r => .cons (Rp.dp s h) (RpAll.dp s r)
end
mutual
/-- without dicts: the library's relation -/
theorem Dq.noDict {H : Hp} {K : PySem.W.Frag} : ∀ {v : V} {d : PyData}, d.hasDict = false → Dq K H v d → Dp K H v d
  | _, _, _, .non => .non
  | _, _, _, .bl b => .bl b
  | _, _, _, .int i => .int i
  | _, _, _, .str x => .str x
  | _, _, e, .lst h r => .lst h (DqAll.noDict (by simpa only [PyData.hasDict] using e) r)
  | _, _, e, .tup h r => .tup h (DqAll.noDict (by simpa only [PyData.hasDict] using e) r)
  | _, _, e, .dk0 _ => by simp only [PyData.hasDict, Bool.true_eq_false] at e
theorem DqAll.noDict {H : Hp} {K : PySem.W.Frag} : ∀ {vs : List V} {ds : List PyData}, PyData.hasDictAll ds = false → DqAll K H vs ds → DpAll K H vs ds
  | _, _, _, .nil => .nil
  | _, _, e, .cons h r => by
    simp only [PyData.hasDictAll, Bool.or_eq_false_iff] at e
    exact .cons (Dq.noDict e.1 h) (DqAll.noDict e.2 r)
end
theorem Dq.shaped {H : Hp} {K : PySem.W.Frag} {v : V} {d : PyData} (e : SeqAt.shaped d = true) (h : Dq K H v d) : Dp K H v d := h.noDict (PyData.hasDict_of_canLay d (SeqAt.canLay_of_shaped e))
theorem RpAll.len : ∀ {vs : List V} {ds : List PyData}, RpAll F vs ds → vs.length = ds.length
  | _, _, .nil => rfl
  | _, _, .cons _ r => by rw [List.length_cons, List.length_cons, RpAll.len r]
theorem RpAll.get : ∀ {vs : List V} {ds : List PyData} {i : Nat} {d : PyData}, RpAll F vs ds → ds[i]? = some d → ∃ v, vs[i]? = some v ∧ Rp F v d
  | _, _, i, d, .nil, e => by simp at e
  | _, _, 0, d, .cons h _, e => by
    simp at e
    exact ⟨_, rfl, e ▸ h⟩
  | _, _, i + 1, d, .cons _ r, e => by
    obtain ⟨v, h1, h2⟩ := RpAll.get (i := i) (d := d) r (by simpa using e)
    exact ⟨v, by simpa using h1, h2⟩
theorem RpAll.getV : ∀ {vs : List V} {ds : List PyData} {i : Nat} {v : V}, RpAll F vs ds → vs[i]? = some v → ∃ d, ds[i]? = some d ∧ Rp F v d
  | _, _, i, d, .nil, e => by simp at e
  | _, _, 0, d, .cons h _, e => by
    simp at e
    exact ⟨_, rfl, e ▸ h⟩
  | _, _, i + 1, v, .cons _ r, e => by
    obtain ⟨d, h1, h2⟩ := RpAll.getV (i := i) (v := v) r (by simpa using e)
    exact ⟨d, by simpa using h1, h2⟩
theorem RpAll.append : ∀ {vs ws : List V} {ds es : List PyData}, RpAll F vs ds → RpAll F ws es → RpAll F (vs ++ ws) (ds ++ es)
  | _, _, _, _, .nil, s => s
  | _, _, _, _, .cons r t, s => .cons r (RpAll.append t s)
theorem RpAll.set {v : V} {d : PyData} (h : Rp F v d) : ∀ {vs : List V} {ds : List PyData} (i : Nat), RpAll F vs ds → RpAll F (vs.set i v) (ds.set i d)
  | _, _, _, .nil => .nil
  | _, _, 0, .cons _ t => .cons h t
  | _, _, i + 1, .cons q t => .cons q (RpAll.set h i t)
theorem RpAll.take : ∀ {vs : List V} {ds : List PyData} (n : Nat), RpAll F vs ds → RpAll F (vs.take n) (ds.take n)
  | _, _, 0, _ => .nil
  | _, _, _ + 1, .nil => .nil
  | _, _, n + 1, .cons r t => .cons r (RpAll.take n t)
theorem RpAll.drop : ∀ {vs : List V} {ds : List PyData} (n : Nat), RpAll F vs ds → RpAll F (vs.drop n) (ds.drop n)
  | _, _, 0, r => r
  | _, _, _ + 1, .nil => .nil
  | _, _, n + 1, .cons _ t => RpAll.drop n t
theorem RpAll.one {v : V} {d : PyData} (h : Rp F v d) : RpAll F [v] [d] := .cons h .nil
theorem RpAll.reverse : ∀ {vs : List V} {ds : List PyData}, RpAll F vs ds → RpAll F vs.reverse ds.reverse
  | _, _, .nil => .nil
  | _, _, .cons h r => by
    rw [List.reverse_cons, List.reverse_cons]
    exact (RpAll.reverse r).append (.one h)
theorem RpAll.ints : ∀ {vs : List V} {ns : List Int}, RpAll F vs (ns.map PyData.int) → vs = ns.map V.int
  | [], [], _ => rfl
  | _ :: _, n :: ns, .cons h r => by
    cases h
    rw [List.map_cons, RpAll.ints r]
theorem RpAll.of_ints : ∀ (ns : List Int), RpAll F (ns.map V.int) (ns.map PyData.int)
  | [] => .nil
  | n :: ns => .cons (.int n) (RpAll.of_ints ns)
theorem RpAll.bools : ∀ {vs : List V} {ns : List Bool}, RpAll F vs (ns.map PyData.bool) → vs = ns.map V.bl
  | [], [], _ => rfl
  | _ :: _, n :: ns, .cons h r => by
    cases h
    rw [List.map_cons, RpAll.bools r]
end

/-! ### typed data -/
class Dat (α : Type) where
  dat : α → PyData
abbrev dat {α : Type} [Dat α] (a : α) : PyData := Dat.dat a
instance : Dat Int := ⟨.int⟩
instance : Dat Bool := ⟨.bool⟩
instance : Dat Str := ⟨.str⟩
instance : Dat Unit := ⟨fun _ => .none⟩
instance : Dat PyData := ⟨id⟩
instance {α β : Type} [Dat α] [Dat β] : Dat (α × β) := ⟨fun p => .tuple [dat p.1, dat p.2]⟩
/-- a triple as a tuple of three -/
structure T3 (α β γ : Type) where
  a : α
  b : β
  c : γ
instance {α β γ : Type} [Dat α] [Dat β] [Dat γ] : Dat (T3 α β γ) := ⟨fun p => .tuple [dat p.a, dat p.b, dat p.c]⟩
instance {α : Type} [Dat α] : Dat (List α) := ⟨fun l => .list (l.map dat)⟩
instance {α : Type} [Dat α] : Dat (Option α) := ⟨fun o => match o with | some a => dat a | none => .none⟩
/-- a tuple of any length, items of one kind -/
structure Tu (α : Type) where
  l : List α
instance {α : Type} [Dat α] : Dat (Tu α) := ⟨fun t => .tuple (t.l.map dat)⟩

/-! ### assertions -/
structure Asr where
  P : Hp → Hp → (Addr → Prop) → Prop
  st : ∀ {F F' H H' : Hp} {o : Addr → Prop}, Same F F' → (∀ p, o p → H' p = H p) → P F H o → P F' H' o
  up : ∀ {F H : Hp} {o o' : Addr → Prop}, (∀ p, o p → o' p) → P F H o → P F H o'
def emp : Asr := ⟨fun _ _ _ => True, fun _ _ h => h, fun _ h => h⟩
def bot : Asr := ⟨fun _ _ _ => False, fun _ _ h => h, fun _ h => h⟩
def pur (φ : Prop) : Asr := ⟨fun _ _ _ => φ, fun _ _ h => h, fun _ h => h⟩
def sep (A B : Asr) : Asr where
  P := fun F H o => ∃ o1 o2 : Addr → Prop, (∀ p, o1 p → o p) ∧ (∀ p, o2 p → o p) ∧ (∀ p, o1 p → ¬ o2 p) ∧ A.P F H o1 ∧ B.P F H o2
  st := fun s k ⟨o1, o2, h1, h2, d, a, b⟩ => ⟨o1, o2, h1, h2, d, A.st s (fun p q => k p (h1 p q)) a, B.st s (fun p q => k p (h2 p q)) b⟩
  up := fun u ⟨o1, o2, h1, h2, d, a, b⟩ => ⟨o1, o2, fun p q => u p (h1 p q), fun p q => u p (h2 p q), d, a, b⟩
/-- a value that stands for frozen data -/
def vA (d : PyData) (v : V) : Asr := ⟨fun F _ _ => Rp F v d, fun s _ h => h.mono s, fun _ h => h⟩
/-- an owned list, its address -/
def oA (p : Addr) (ds : List PyData) : Asr where
  P := fun F H o => o p ∧ ∃ vs, H p = some (.lst vs) ∧ RpAll F vs ds
  st := fun s k ⟨h, vs, e, r⟩ => ⟨h, vs, (k p h).trans e, r.mono s⟩
  up := fun u ⟨h, r⟩ => ⟨u p h, r⟩
def oV (ds : List PyData) (v : V) : Asr where
  P := fun F H o => ∃ p, v = .ref p ∧ (oA p ds).P F H o
  st := fun s k ⟨p, e, h⟩ => ⟨p, e, (oA p ds).st s k h⟩
  up := fun u ⟨p, e, h⟩ => ⟨p, e, (oA p ds).up u h⟩
def Ent (A B : Asr) : Prop := ∀ F H o, Same F H → A.P F H o → B.P F H o
def Top (A : Asr) (H : Hp) : Prop := ∃ F o, Same F H ∧ (∀ p, o p → F p = none ∧ H p ≠ none) ∧ A.P F H o

section
variable {A A' B B' C R : Asr} {H : Hp}
theorem Ent.refl (A : Asr) : Ent A A := fun _ _ _ _ h => h
theorem Ent.trans (h : Ent A B) (k : Ent B C) : Ent A C := fun F H o s a => k F H o s (h F H o s a)
theorem Ent.emp : Ent A emp := fun _ _ _ _ _ => trivial
theorem Ent.sep (h : Ent A A') (k : Ent B B') : Ent (sep A B) (sep A' B') := fun F H o s ⟨o1, o2, h1, h2, d, a, b⟩ => ⟨o1, o2, h1, h2, d, h F H o1 s a, k F H o2 s b⟩
theorem Ent.sepL (h : Ent A A') : Ent (Lc.sep A B) (Lc.sep A' B) := Ent.sep h (Ent.refl B)
theorem Ent.sepR (h : Ent B B') : Ent (Lc.sep A B) (Lc.sep A B') := Ent.sep (Ent.refl A) h
theorem Ent.comm : Ent (Lc.sep A B) (Lc.sep B A) := fun _ _ _ _ ⟨o1, o2, h1, h2, d, a, b⟩ => ⟨o2, o1, h2, h1, fun p q r => d p r q, b, a⟩
theorem Ent.left : Ent (Lc.sep A B) A := fun _ _ _ _ ⟨_, _, h1, _, _, a, _⟩ => A.up h1 a
theorem Ent.right : Ent (Lc.sep A B) B := fun _ _ _ _ ⟨_, _, _, h2, _, _, b⟩ => B.up h2 b
theorem Ent.assoc : Ent (Lc.sep (Lc.sep A B) C) (Lc.sep A (Lc.sep B C)) := fun _ _ _ _ ⟨o12, o3, h12, h3, d, ⟨o1, o2, h1, h2, e, a, b⟩, c⟩ =>
  ⟨o1, fun p => o2 p ∨ o3 p, fun p q => h12 p (h1 p q), fun p q => q.elim (fun q => h12 p (h2 p q)) (h3 p), fun p q r => r.elim (e p q) (d p (h1 p q)), a,
    o2, o3, fun _ q => .inl q, fun _ q => .inr q, fun p q => d p (h2 p q), b, c⟩
theorem Ent.assoc' : Ent (Lc.sep A (Lc.sep B C)) (Lc.sep (Lc.sep A B) C) := (Ent.comm.trans (Ent.sepL Ent.comm)).trans (Ent.assoc.trans (Ent.comm.trans (Ent.sepL Ent.comm)))
theorem Top.ent (t : Top A H) (h : Ent A B) : Top B H := by
  obtain ⟨F, o, s, k, a⟩ := t
  exact ⟨F, o, s, k, h F H o s a⟩
/-- a fact is read off -/
theorem Top.fact {φ : Prop} (t : Top A H) (h : ∀ F o, Same F H → A.P F H o → φ) : φ := by
  obtain ⟨F, o, s, _, a⟩ := t
  exact h F o s a
/-- a persistent fact is kept beside -/
theorem Top.addV {d : PyData} {v : V} (t : Top A H) (h : ∀ F o, Same F H → A.P F H o → Rp F v d) : Top (sep (vA d v) A) H := by
  obtain ⟨F, o, s, k, a⟩ := t
  exact ⟨F, o, s, k, fun _ => False, o, fun _ z => z.elim, fun _ z => z, fun _ z => z.elim, h F o s a, a⟩
theorem Top.addP {φ : Prop} (t : Top A H) (h : φ) : Top (sep (pur φ) A) H := by
  obtain ⟨F, o, s, k, a⟩ := t
  exact ⟨F, o, s, k, fun _ => False, o, fun _ z => z.elim, fun _ z => z, fun _ z => z.elim, h, a⟩
theorem sep_pers {F H : Hp} {o : Addr → Prop} (h : ∀ o, A.P F H o) (b : B.P F H o) : (sep A B).P F H o := ⟨fun _ => False, o, fun _ z => z.elim, fun _ z => z, fun _ z => z.elim, h _, b⟩
/-- a new owned list -/
theorem Top.alloc {p : Addr} {vs : List V} {ds : List PyData} (t : Top A H) (hp : H p = none) (r : ∀ F o, Same F H → A.P F H o → RpAll F vs ds) : Top (sep (oA p ds) A) (upd H p (.lst vs)) := by
  obtain ⟨F, o, s, k, a⟩ := t
  have ne : ∀ q, o q → q ≠ p := fun q hq e => (k q hq).2 (e ▸ hp)
  have fp : F p = none := by
    cases e : F p with
    | none => rfl
    | some u => rw [s p u e] at hp; cases hp
  refine ⟨F, fun q => q = p ∨ o q, fun b u e => ?_, fun q hq => ?_, (fun q => q = p), o, fun _ z => .inl z, fun _ z => .inr z, fun q e hq => ne q hq e, ⟨rfl, vs, upd_same, r F o s a⟩, A.st (Same.refl F) (fun q hq => upd_ne (ne q hq)) a⟩
  · rw [upd_ne (fun z => by rw [z, fp] at e; cases e)]
    exact s b u e
  · rcases hq with hq | hq
    · rw [hq]
      exact ⟨fp, by rw [upd_same]; exact fun z => by cases z⟩
    · exact ⟨(k q hq).1, by rw [upd_ne (ne q hq)]; exact (k q hq).2⟩
/-- a new tuple (or list), frozen at once -/
theorem Top.allocF {p : Addr} {ob : HO} {d : PyData} (t : Top A H) (hp : H p = none) (r : ∀ F o, Same F H → F p = none → A.P F H o → Rp (upd F p ob) (.ref p) d) : Top (sep (vA d (.ref p)) A) (upd H p ob) := by
  obtain ⟨F, o, s, k, a⟩ := t
  have ne : ∀ q, o q → q ≠ p := fun q hq e => (k q hq).2 (e ▸ hp)
  have fp : F p = none := by
    cases e : F p with
    | none => rfl
    | some u => rw [s p u e] at hp; cases hp
  have sF : Same F (upd F p ob) := fun b u e => by
    rw [upd_ne (fun z => by rw [z, fp] at e; cases e)]
    exact e
  refine ⟨upd F p ob, o, fun b u e => ?_, fun q hq => ?_, sep_pers (fun _ => r F o s fp a) (A.st sF (fun q hq => upd_ne (ne q hq)) a)⟩
  · by_cases hb : b = p
    · subst hb
      rw [upd_same] at e ⊢
      exact e
    · rw [upd_ne hb] at e ⊢
      exact s b u e
  · rw [upd_ne (ne q hq), upd_ne (ne q hq)]
    exact k q hq
theorem Top.allocT {p : Addr} {vs : List V} {ds : List PyData} (t : Top A H) (hp : H p = none) (r : ∀ F o, Same F H → A.P F H o → RpAll F vs ds) : Top (sep (vA (.tuple ds) (.ref p)) A) (upd H p (.tup vs)) :=
  t.allocF hp fun F o s fp a => .tup upd_same ((r F o s a).mono fun b u e => by
    rw [upd_ne (fun z => by rw [z, fp] at e; cases e)]
    exact e)
/-- an owned list is frozen -/
theorem Top.freeze {p : Addr} {ds : List PyData} (t : Top (sep (oA p ds) A) H) : Top (sep (vA (.list ds) (.ref p)) A) H := by
  obtain ⟨F, o, s, k, o1, o2, h1, h2, d, ⟨hp, vs, e, r⟩, a⟩ := t
  have fp : F p = none := (k p (h1 p hp)).1
  have sF : Same F (upd F p (.lst vs)) := fun b u e' => by
    rw [upd_ne (fun z => by rw [z, fp] at e'; cases e')]
    exact e'
  refine ⟨upd F p (.lst vs), o2, fun b u e' => ?_, fun q hq => ?_, sep_pers (fun _ => .lst upd_same (r.mono sF)) (A.st sF (fun _ _ => rfl) a)⟩
  · by_cases hb : b = p
    · subst hb
      rw [upd_same] at e'
      rw [← e']
      exact e
    · rw [upd_ne hb] at e'
      exact s b u e'
  · have ne : q ≠ p := fun z => d p hp (z ▸ hq)
    rw [upd_ne ne]
    exact k q (h2 q hq)
/-- an owned list is written -/
theorem Top.write {p : Addr} {ds es : List PyData} {ws : List V} (t : Top (sep (oA p ds) A) H) (r : ∀ F o vs, Same F H → A.P F H o → H p = some (.lst vs) → RpAll F vs ds → RpAll F ws es) : Top (sep (oA p es) A) (upd H p (.lst ws)) := by
  obtain ⟨F, o, s, k, o1, o2, h1, h2, d, ⟨hp, vs, e, rv⟩, a⟩ := t
  have fp : F p = none := (k p (h1 p hp)).1
  refine ⟨F, o, fun b u e' => ?_, fun q hq => ?_, o1, o2, h1, h2, d, ⟨hp, ws, upd_same, r F o2 vs s a e rv⟩, A.st (Same.refl F) (fun q hq => upd_ne fun z => d p hp (z ▸ hq)) a⟩
  · rw [upd_ne (fun z => by rw [z, fp] at e'; cases e')]
    exact s b u e'
  · by_cases hb : q = p
    · rw [hb]
      exact ⟨fp, by rw [upd_same]; exact fun z => by cases z⟩
    · rw [upd_ne hb]
      exact k q hq
end
end Lc
/-! Lc: slots, judgements, structural rules -/
namespace Lc
open PySem L2

/-! ### slots -/
abbrev Cell := Option V → Asr
def cAny : Cell := fun _ => emp
def cV (d : PyData) : Cell := fun o => match o with | some v => vA d v | none => bot
def cO (ds : List PyData) : Cell := fun o => match o with | some v => oV ds v | none => bot
def cAt (p : Addr) (ds : List PyData) : Cell := fun o => sep (pur (o = some (.ref p))) (oA p ds)
def cIs (v : V) : Cell := fun o => pur (o = some v)
def sl : St → List Cell → Asr
  | [], [] => emp
  | o :: σ, c :: Γ => sep (c o) (sl σ Γ)
  | _, _ => bot
section
variable {F H : Hp} {o : Addr → Prop}
theorem sl_len : ∀ {σ : St} {Γ : List Cell}, (∃ F H o, (sl σ Γ).P F H o) → σ.length = Γ.length
  | [], [], _ => rfl
  | _ :: σ, _ :: Γ, ⟨F, H, o, _, _, _, _, _, _, h⟩ => by rw [List.length_cons, List.length_cons, sl_len (σ := σ) (Γ := Γ) ⟨_, _, _, h⟩]
  | [], _ :: _, ⟨_, _, _, h⟩ => (show False from h).elim
  | _ :: _, [], ⟨_, _, _, h⟩ => (show False from h).elim
theorem sl_take : ∀ {σ : St} {Γ : List Cell} {i : Nat} {c : Cell} {o : Addr → Prop}, Γ[i]? = some c → (sl σ Γ).P F H o → ∃ x, σ[i]? = some x ∧ (sep (c x) (sl σ (Γ.set i cAny))).P F H o
  | [], [], i, c, o, e, _ => by simp at e
  | [], _ :: _, _, _, _, _, h => (show False from h).elim
  | _ :: _, [], _, _, _, _, h => (show False from h).elim
  | x :: σ, c0 :: Γ, 0, c, o, e, ⟨o1, o2, h1, h2, d, a, b⟩ => by
    have e' : c0 = c := by simpa using e
    subst e'
    exact ⟨x, rfl, o1, o2, h1, h2, d, a, ⟨fun _ => False, o2, fun _ z => z.elim, fun _ z => z, fun _ z => z.elim, trivial, b⟩⟩
  | x :: σ, c0 :: Γ, i + 1, c, o, e, ⟨o1, o2, h1, h2, d, a, b⟩ => by
    obtain ⟨y, ey, o3, o4, h3, h4, d', a', b'⟩ := sl_take (σ := σ) (Γ := Γ) (i := i) (c := c) (by simpa using e) b
    exact ⟨y, by simpa using ey, o3, fun p => o1 p ∨ o4 p, fun p q => h2 p (h3 p q), fun p q => q.elim (h1 p) fun z => h2 p (h4 p z), fun p q r => r.elim (fun z => d p z (h3 p q)) (d' p q), a',
      o1, o4, fun _ z => .inl z, fun _ z => .inr z, fun p q r => d p q (h4 p r), a, b'⟩
theorem sl_put : ∀ {σ : St} {Γ : List Cell} {i : Nat} {c : Cell} {x : Option V} {o : Addr → Prop}, i < Γ.length → σ[i]? = some x → (sep (c x) (sl σ (Γ.set i cAny))).P F H o → (sl σ (Γ.set i c)).P F H o
  | [], [], _, _, _, _, hi, _, _ => by simp at hi
  | [], _ :: _, 0, _, _, _, _, e, _ => by simp at e
  | [], _ :: _, _ + 1, _, _, _, _, e, _ => by simp at e
  | _ :: _, [], _, _, _, _, hi, _, _ => by simp at hi
  | y :: σ, c0 :: Γ, 0, c, x, o, _, e, ⟨o1, o2, h1, h2, d, a, ⟨o3, o4, h3, h4, d', a', b⟩⟩ => by
    have e' : y = x := by simpa using e
    subst e'
    exact ⟨o1, o4, h1, fun p q => h2 p (h4 p q), fun p q r => d p q (h4 p r), a, b⟩
  | y :: σ, c0 :: Γ, i + 1, c, x, o, hi, e, ⟨o1, o2, h1, h2, d, a, ⟨o3, o4, h3, h4, d', a', b⟩⟩ => by
    refine ⟨o3, fun p => o1 p ∨ o4 p, fun p q => h2 p (h3 p q), fun p q => q.elim (h1 p) fun z => h2 p (h4 p z), fun p q r => r.elim (fun z => d p z (h3 p q)) (d' p q), a', ?_⟩
    exact sl_put (σ := σ) (Γ := Γ) (i := i) (c := c) (x := x) (by simpa using hi) (by simpa using e) ⟨o1, o4, fun _ z => .inl z, fun _ z => .inr z, fun p q r => d p q (h4 p r), a, b⟩
theorem sl_set : ∀ {σ : St} {Γ : List Cell} {i : Nat} {c : Cell} {x : Option V} {o : Addr → Prop}, i < Γ.length → (sep (c x) (sl σ Γ)).P F H o → (sl (σ.set i x) (Γ.set i c)).P F H o
  | [], [], _, _, _, _, hi, _ => by simp at hi
  | [], _ :: _, _, _, _, _, _, ⟨_, _, _, _, _, _, h⟩ => (show False from h).elim
  | _ :: _, [], _, _, _, _, hi, _ => by simp at hi
  | y :: σ, c0 :: Γ, 0, c, x, o, _, ⟨o1, o2, h1, h2, d, a, ⟨o3, o4, h3, h4, d', a', b⟩⟩ => ⟨o1, o4, h1, fun p q => h2 p (h4 p q), fun p q r => d p q (h4 p r), a, b⟩
  | y :: σ, c0 :: Γ, i + 1, c, x, o, hi, ⟨o1, o2, h1, h2, d, a, ⟨o3, o4, h3, h4, d', a', b⟩⟩ => by
    refine ⟨o3, fun p => o1 p ∨ o4 p, fun p q => h2 p (h3 p q), fun p q => q.elim (h1 p) fun z => h2 p (h4 p z), fun p q r => r.elim (fun z => d p z (h3 p q)) (d' p q), a', ?_⟩
    exact sl_set (σ := σ) (Γ := Γ) (i := i) (c := c) (x := x) (by simpa using hi) ⟨o1, o4, fun _ z => .inl z, fun _ z => .inr z, fun p q r => d p q (h4 p r), a, b⟩
/-- the cell of slot i, read -/
theorem sl_get {σ : St} {Γ : List Cell} {i : Nat} {c : Cell} (e : Γ[i]? = some c) (h : (sl σ Γ).P F H o) : ∃ x, σ[i]? = some x ∧ (c x).P F H o := by
  obtain ⟨x, ex, o1, o2, h1, _, _, a, _⟩ := sl_take e h
  exact ⟨x, ex, (c x).up h1 a⟩
/-- weaker cells -/
inductive Le : List Cell → List Cell → Prop
  | nil : Le [] []
  | same {c : Cell} {Γ Δ : List Cell} : Le Γ Δ → Le (c :: Γ) (c :: Δ)
  | any {c : Cell} {Γ Δ : List Cell} : Le Γ Δ → Le (c :: Γ) (cAny :: Δ)
  | of {c c' : Cell} {Γ Δ : List Cell} : (∀ x, Ent (c x) (c' x)) → Le Γ Δ → Le (c :: Γ) (c' :: Δ)
theorem Le.refl : ∀ Γ : List Cell, Le Γ Γ
  | [] => .nil
  | _ :: Γ => .same (Le.refl Γ)
theorem Le.ent : ∀ {Γ Δ : List Cell} {σ : St}, Le Γ Δ → Ent (sl σ Γ) (sl σ Δ)
  | _, _, [], .nil => Ent.refl _
  | _, _, _ :: _, .nil => Ent.refl _
  | _, _, [], .same _ => fun _ _ _ _ h => (show False from h).elim
  | _, _, _ :: σ, .same l => Ent.sepR (Le.ent (σ := σ) l)
  | _, _, [], .any _ => fun _ _ _ _ h => (show False from h).elim
  | _, _, _ :: σ, .any l => Ent.sep Ent.emp (Le.ent (σ := σ) l)
  | _, _, [], .of _ _ => fun _ _ _ _ h => (show False from h).elim
  | _, _, _ :: σ, .of k l => Ent.sep (k _) (Le.ent (σ := σ) l)
theorem at_own (p : Addr) (ds : List PyData) (x : Option V) : Ent (cAt p ds x) (cO ds x) := fun F H o s ⟨o1, o2, h1, h2, d, a, b⟩ => by
  have a' : x = some (.ref p) := a
  subst a'
  exact ⟨p, rfl, (oA p ds).up h2 b⟩
end

/-! ### judgements -/
structure Ec where
  K : PySem.W.Frag
  W : WX
  ec : Nat → Value
  X : St → Asr
  C : Asr
abbrev RC := St → V → Asr
def rV (d : PyData) : RC := fun _ v => vA d v
def rO (ds : List PyData) : RC := fun _ v => oV ds v
def rS (i : Nat) : RC := fun σ v => pur (σ[i]? = some (some v))
def base (E : Ec) (σ : St) (Γ : List Cell) : Asr := sep (sl σ Γ) E.C
def Exn (E : Ec) (R : Asr) (σ : St) (k : Nat) : Prop := ∀ H, Top (sep (sep (E.X σ) E.C) R) H → E.W (E.ec k) none σ H
def ExnS (E : Ec) (R : Asr) (k : Nat) : Prop := ∀ σ, Exn E R σ k
section
variable {E : Ec} {R R' : Asr} {σ : St} {k : Nat}
theorem Exn.imp (h : Exn E R σ k) (r : Ent R' R) : Exn E R' σ k := fun H t => h H (t.ent (Ent.sepR r))
theorem Exn.drop {A : Asr} (h : Exn E R σ k) : Exn E (sep A R) σ k := h.imp Ent.right
end
section
variable (E : Ec)
def EvJ (t : TE) (Γ : List Cell) {α : Type} (m : Res α) (Γ' : α → List Cell) (c : α → RC) : Prop :=
  ∀ (σ : St) (H : Hp) (R : Asr) (Q : VK), Top (sep (base E σ Γ) R) H → m.wp (fun a => ∀ v H', Top (sep (base E σ (Γ' a)) (sep (c a σ v) R)) H' → Q v H') (Exn E R σ) → t σ H Q
/-- an expression that changes nothing, and cannot fail -/
abbrev EvP (t : TE) (Γ : List Cell) (c : RC) : Prop := EvJ E t Γ (.ok ()) (fun _ => Γ) (fun _ => c)
def EvT (t : TT) (Γ : List Cell) {α : Type} (m : Res α) (Γ' : α → List Cell) (b : α → Bool) : Prop :=
  ∀ (σ : St) (H : Hp) (R : Asr) (Q : Bool → Hp → Prop), Top (sep (base E σ Γ) R) H → m.wp (fun a => ∀ H', Top (sep (base E σ (Γ' a)) R) H' → Q (b a) H') (Exn E R σ) → t σ H Q
abbrev EvTP (t : TT) (Γ : List Cell) (b : Bool) : Prop := EvT E t Γ (.ok ()) (fun _ => Γ) (fun _ => b)
/-- the cells of several values -/
def csA : List RC → St → List V → Asr
  | [], _, [] => emp
  | c :: cs, σ, v :: vs => sep (c σ v) (csA cs σ vs)
  | _, _, _ => bot
def EvA (t : TA) (Γ : List Cell) {α : Type} (m : Res α) (Γ' : α → List Cell) (cs : α → List RC) : Prop :=
  ∀ (σ : St) (H : Hp) (R : Asr) (Q : List V → Hp → Prop), Top (sep (base E σ Γ) R) H → m.wp (fun a => ∀ vs H', Top (sep (base E σ (Γ' a)) (sep (csA (cs a) σ vs) R)) H' → Q vs H') (Exn E R σ) → t σ H Q
abbrev EvAP (t : TA) (Γ : List Cell) (cs : List RC) : Prop := EvA E t Γ (.ok ()) (fun _ => Γ) (fun _ => cs)
def R2J (r : R2) (cx cy : RC) (Γ : List Cell) {α : Type} (m : Res α) (Γ' : α → List Cell) (c : α → RC) : Prop :=
  ∀ (σ : St) (H : Hp) (R : Asr) (Q : VK) (x y : V), Top (sep (base E σ Γ) (sep (cx σ x) (sep (cy σ y) R))) H → m.wp (fun a => ∀ v H', Top (sep (base E σ (Γ' a)) (sep (c a σ v) R)) H' → Q v H') (Exn E R σ) → r x y H Q
abbrev R2P (r : R2) (cx cy : RC) (Γ : List Cell) (c : RC) : Prop := R2J E r cx cy Γ (.ok ()) (fun _ => Γ) (fun _ => c)
def R1J (r : V → Hp → VK → Prop) (cx : RC) (Γ : List Cell) {α : Type} (m : Res α) (Γ' : α → List Cell) (c : α → RC) : Prop :=
  ∀ (σ : St) (H : Hp) (R : Asr) (Q : VK) (x : V), Top (sep (base E σ Γ) (sep (cx σ x) R)) H → m.wp (fun a => ∀ v H', Top (sep (base E σ (Γ' a)) (sep (c a σ v) R)) H' → Q v H') (Exn E R σ) → r x H Q
abbrev R1P (r : V → Hp → VK → Prop) (cx : RC) (Γ : List Cell) (c : RC) : Prop := R1J E r cx Γ (.ok ()) (fun _ => Γ) (fun _ => c)
/-- an operation on several values -/
def RnJ (r : List V → Hp → VK → Prop) (cs : List RC) (Γ : List Cell) {α : Type} (m : Res α) (Γ' : α → List Cell) (c : α → RC) : Prop :=
  ∀ (σ : St) (H : Hp) (R : Asr) (Q : VK) (vs : List V), Top (sep (base E σ Γ) (sep (csA cs σ vs) R)) H → m.wp (fun a => ∀ v H', Top (sep (base E σ (Γ' a)) (sep (c a σ v) R)) H' → Q v H') (Exn E R σ) → r vs H Q
abbrev RnP (r : List V → Hp → VK → Prop) (cs : List RC) (Γ : List Cell) (c : RC) : Prop := RnJ E r cs Γ (.ok ()) (fun _ => Γ) (fun _ => c)
end

/-! ### structural rules -/
section
variable {E : Ec} {ta tb te : TE} {tt tu : TT} {tr : TA} {Γ : List Cell} {α β γ δ : Type} {ma : Res α} {mb : α → Res β} {Γ1 : α → List Cell} {Γ2 : α → β → List Cell} {ca : α → RC} {cb : α → β → RC}
  {m : Res γ} {k : α → β → Res γ} {Γ' : γ → List Cell} {c : γ → RC} {r : R2} {cx cy : RC}
open Res
/-- a pure expression as a computing one -/
theorem ev_pure {a : α} {cc : α → RC} (h : EvP E te Γ (cc a)) : EvJ E te Γ (.ok a) (fun _ => Γ) cc := fun σ H R Q t q => h σ H R Q t q
theorem ev_c {v : V} {d : PyData} (h : ∀ F, Rp F v d) : EvP E (tC v) Γ (rV d) := fun σ H R Q t q => by
  refine q v H (t.addV (v := v) (fun F _ _ _ => h F) |>.ent (fun F H o s ⟨o1, o2, h1, h2, e, a, b⟩ => ?_))
  obtain ⟨o3, o4, h3, h4, e', b1, b2⟩ := b
  exact ⟨o3, o4, fun p z => h2 p (h3 p z), fun p z => h2 p (h4 p z), e', b1, sep_pers (fun _ => a) b2⟩
theorem ev_int {i : Int} : EvP E (tC (.int i)) Γ (rV (.int i)) := ev_c fun _ => .int i
theorem ev_bl {b : Bool} : EvP E (tC (.bl b)) Γ (rV (.bool b)) := ev_c fun _ => .bl b
theorem ev_non : EvP E (tC .non) Γ (rV .none) := ev_c fun _ => .non
theorem ev_str {x : Str} : EvP E (tC (.str x)) Γ (rV (.str x)) := ev_c fun _ => .str x
/-- the name of a frozen value -/
theorem ev_var {i : Nat} {d : PyData} (h : Γ[i]? = some (cV d)) : EvP E (tVar i) Γ (rV d) := fun σ H R Q t q => by
  obtain ⟨F, o, s, kk, o1, o2, h1, h2, e, ⟨o3, o4, h3, h4, e', a, b⟩, b2⟩ := t
  obtain ⟨x, ex, hx⟩ := sl_get h a
  cases x with
  | none => exact (show False from hx).elim
  | some v =>
    refine ⟨v, ex, q v H ⟨F, o, s, kk, o1, o2, h1, h2, e, ⟨o3, o4, h3, h4, e', a, b⟩, sep_pers (fun _ => hx) b2⟩⟩
/-- the name of a slot: it is that slot's value -/
theorem ev_slot {i : Nat} {cl : Cell} (h : Γ[i]? = some cl) (hc : ∀ F H o, ¬ (cl none).P F H o) : EvP E (tVar i) Γ (rS i) := fun σ H R Q t q => by
  obtain ⟨F, o, s, kk, o1, o2, h1, h2, e, ⟨o3, o4, h3, h4, e', a, b⟩, b2⟩ := t
  obtain ⟨x, ex, hx⟩ := sl_get h a
  cases x with
  | none => exact (hc _ _ _ hx).elim
  | some v => exact ⟨v, ex, q v H ⟨F, o, s, kk, o1, o2, h1, h2, e, ⟨o3, o4, h3, h4, e', a, b⟩, sep_pers (fun _ => ex) b2⟩⟩
theorem no_O {ds : List PyData} : ∀ F H o, ¬ (cO ds none).P F H o := fun _ _ _ h => h
theorem no_At {p : Addr} {ds : List PyData} : ∀ F H o, ¬ (cAt p ds none).P F H o := fun _ _ _ ⟨_, _, _, _, _, a, _⟩ => by cases (show (none : Option V) = some (.ref p) from a)
theorem no_Is {v : V} : ∀ F H o, ¬ (cIs v none).P F H o := fun _ _ _ h => by cases (show (none : Option V) = some v from h)
theorem no_V {d : PyData} : ∀ F H o, ¬ (cV d none).P F H o := fun _ _ _ h => h

/-- base ∗ (c ∗ R) with something more kept beside -/
theorem top_rot {A B C' R : Asr} {H : Hp} (t : Top (sep A (sep B (sep C' R))) H) : Top (sep A (sep C' (sep B R))) H :=
  t.ent (Ent.sepR ((Ent.assoc'.trans (Ent.sepL Ent.comm)).trans Ent.assoc))
theorem ev_op (ha : EvJ E ta Γ ma Γ1 ca) (hb : ∀ a, EvJ E tb (Γ1 a) (mb a) (Γ2 a) (cb a)) (hr : ∀ a b, R2J E r (ca a) (cb a b) (Γ2 a b) (k a b) Γ' c) :
    EvJ E (tOp r ta tb) Γ (ma.bind fun a => (mb a).bind fun b => k a b) Γ' c := fun σ H R Q t hm =>
  ha σ H R _ t (wp_mono (wp_bind.mp hm) (fun a _ h v H1 t1 => hb a σ H1 (sep (ca a σ v) R) _ t1 (wp_mono (wp_bind.mp h) (fun b _ h2 w H2 t2 =>
    hr a b σ H2 R Q v w (top_rot t2) h2) fun _ x => x.drop)) fun _ x => x)
theorem evp_op (ha : EvP E ta Γ cx) (hb : EvP E tb Γ cy) (hr : R2J E r cx cy Γ m Γ' c) : EvJ E (tOp r ta tb) Γ m Γ' c := fun σ H R Q t hm =>
  ha σ H R _ t fun v H1 t1 => hb σ H1 (sep (cx σ v) R) _ t1 fun w H2 t2 => hr σ H2 R Q v w (top_rot t2) hm
theorem evp_un {r : V → Hp → VK → Prop} (ha : EvP E ta Γ cx) (hr : R1J E r cx Γ m Γ' c) : EvJ E (tUn r ta) Γ m Γ' c := fun σ H R Q t hm =>
  ha σ H R _ t fun v H1 t1 => hr σ H1 R Q v t1 hm
theorem ev_un {r : V → Hp → VK → Prop} {k : α → Res γ} (ha : EvJ E ta Γ ma Γ1 ca) (hr : ∀ a, R1J E r (ca a) (Γ1 a) (k a) Γ' c) : EvJ E (tUn r ta) Γ (ma.bind k) Γ' c := fun σ H R Q t hm =>
  ha σ H R _ t (wp_mono (wp_bind.mp hm) (fun a _ h v H1 t1 => hr a σ H1 R Q v t1 h) fun _ x => x)
/-- the result is told otherwise -/
theorem EvJ.imp {c' : γ → RC} (h : EvJ E te Γ m Γ' c) (i : ∀ a σ v A H, Top (sep (c a σ v) A) H → Top (sep (c' a σ v) A) H) : EvJ E te Γ m Γ' c' := fun σ H R Q t hm =>
  h σ H R Q t (wp_mono hm (fun a _ q v H' t' => q v H' (by
    have t1 : Top (sep (c a σ v) (sep (base E σ (Γ' a)) R)) H' := t'.ent ((Ent.assoc'.trans (Ent.sepL Ent.comm)).trans Ent.assoc)
    exact (i a σ v _ H' t1).ent ((Ent.assoc'.trans (Ent.sepL Ent.comm)).trans Ent.assoc))) fun _ x => x)
theorem oV_freeze {ds : List PyData} {v : V} {A : Asr} {H : Hp} (t : Top (sep (oV ds v) A) H) : Top (sep (vA (.list ds) v) A) H := by
  obtain ⟨F, o, s, kk, o1, o2, h1, h2, e, ⟨p, rfl, a⟩, b⟩ := t
  exact Top.freeze ⟨F, o, s, kk, o1, o2, h1, h2, e, a, b⟩
theorem EvJ.freeze {ds : γ → List PyData} (h : EvJ E te Γ m Γ' fun a => rO (ds a)) : EvJ E te Γ m Γ' fun a => rV (.list (ds a)) := h.imp fun _ _ _ _ _ t => oV_freeze t
theorem EvJ.wk {Δ : γ → List Cell} (h : EvJ E te Γ m Γ' c) (l : ∀ a, Le (Γ' a) (Δ a)) : EvJ E te Γ m Δ c := fun σ H R Q t hm =>
  h σ H R Q t (wp_mono hm (fun a _ q v H' t' => q v H' (t'.ent (Ent.sepL (Ent.sepL (l a).ent)))) fun _ x => x)
/-- the mirror is told otherwise -/
theorem EvJ.eq {m' : Res γ} (h : EvJ E te Γ m Γ' c) (e : m = m') : EvJ E te Γ m' Γ' c := e ▸ h

/-! tests -/
theorem et_val {b : γ → Bool} (h : EvJ E te Γ m Γ' fun a => rV (.bool (b a))) : EvT E (tB te) Γ m Γ' b := fun σ H R Q t hm =>
  h σ H R _ t (wp_mono hm (fun a _ q v H' t' => by
    have e : v = .bl (b a) := t'.fact fun F o s ⟨_, _, _, _, _, _, ⟨_, _, _, _, _, x, _⟩⟩ => by cases (show Rp F v (.bool (b a)) from x); rfl
    exact ⟨b a, e, q H' (t'.ent (Ent.sepR Ent.right))⟩) fun _ x => x)
theorem et_test {b : γ → Bool} (h : EvJ E te Γ m Γ' fun a => rV (.bool (b a))) : EvT E (tTest te) Γ m Γ' b := et_val h
theorem et_pure {a : α} {b : α → Bool} (h : EvTP E tt Γ (b a)) : EvT E tt Γ (.ok a) (fun _ => Γ) b := fun σ H R Q t q => h σ H R Q t q
theorem etp_not {b : Bool} (h : EvTP E tt Γ b) : EvTP E (tNot tt) Γ (!b) := fun σ H R Q t q => h σ H R _ t q
theorem et_not {b : γ → Bool} (h : EvT E tt Γ m Γ' b) : EvT E (tNot tt) Γ m Γ' fun a => !b a := fun σ H R Q t q => h σ H R _ t q
theorem etp_and {a b : Bool} (h : EvTP E tt Γ a) (h2 : EvTP E tu Γ b) : EvTP E (tAnd tt tu) Γ (a && b) := fun σ H R Q t q => h σ H R _ t fun H1 t1 => by
  cases a with
  | true => exact h2 σ H1 R Q t1 q
  | false => exact q H1 t1
theorem etp_or {a b : Bool} (h : EvTP E tt Γ a) (h2 : EvTP E tu Γ b) : EvTP E (tOr tt tu) Γ (a || b) := fun σ H R Q t q => h σ H R _ t fun H1 t1 => by
  cases a with
  | true => exact q H1 t1
  | false => exact h2 σ H1 R Q t1 q
/-- the second one may fail: it is looked at only where the first leaves it open; no state changes -/
theorem et_and {ma mb : Res Bool} (h : EvT E tt Γ ma (fun _ => Γ) id) (h2 : EvT E tu Γ mb (fun _ => Γ) id) : EvT E (tAnd tt tu) Γ (ma.bind fun a => if a then mb else .ok false) (fun _ => Γ) id := fun σ H R Q t q =>
  h σ H R _ t (wp_mono (wp_bind.mp q) (fun a _ q1 H1 t1 => by
    cases a with
    | true => exact h2 σ H1 R Q t1 q1
    | false => exact q1 H1 t1) fun _ x => x)
theorem et_or {ma mb : Res Bool} (h : EvT E tt Γ ma (fun _ => Γ) id) (h2 : EvT E tu Γ mb (fun _ => Γ) id) : EvT E (tOr tt tu) Γ (ma.bind fun a => if a then .ok true else mb) (fun _ => Γ) id := fun σ H R Q t q =>
  h σ H R _ t (wp_mono (wp_bind.mp q) (fun a _ q1 H1 t1 => by
    cases a with
    | true => exact q1 H1 t1
    | false => exact h2 σ H1 R Q t1 q1) fun _ x => x)
/-! .. as values -/
theorem bl_of {b : Bool} {A R : Asr} {v : V} {H : Hp} (t : Top (sep A (sep (vA (.bool b) v) R)) H) : v = .bl b :=
  t.fact fun F o s ⟨_, _, _, _, _, _, ⟨_, _, _, _, _, x, _⟩⟩ => by cases (show Rp F v (.bool b) from x); rfl
theorem evp_and {a b : Bool} (h : EvP E ta Γ (rV (.bool a))) (h2 : EvP E tb Γ (rV (.bool b))) : EvP E (tAndV ta tb) Γ (rV (.bool (a && b))) := fun σ H R Q t q => h σ H R _ t fun v H1 t1 => ⟨a, bl_of t1, by
  cases a with
  | true => exact h2 σ H1 R Q (t1.ent (Ent.sepR Ent.right)) q
  | false => exact q (.bl false) H1 (bl_of t1 ▸ t1)⟩
theorem evp_or {a b : Bool} (h : EvP E ta Γ (rV (.bool a))) (h2 : EvP E tb Γ (rV (.bool b))) : EvP E (tOrV ta tb) Γ (rV (.bool (a || b))) := fun σ H R Q t q => h σ H R _ t fun v H1 t1 => ⟨a, bl_of t1, by
  cases a with
  | true => exact q (.bl true) H1 (bl_of t1 ▸ t1)
  | false => exact h2 σ H1 R Q (t1.ent (Ent.sepR Ent.right)) q⟩
theorem ev_and {ma mb : Res Bool} (h : EvJ E ta Γ ma (fun _ => Γ) fun a => rV (.bool a)) (h2 : EvJ E tb Γ mb (fun _ => Γ) fun a => rV (.bool a)) :
    EvJ E (tAndV ta tb) Γ (ma.bind fun a => if a then mb else .ok false) (fun _ => Γ) fun a => rV (.bool a) := fun σ H R Q t q =>
  h σ H R _ t (wp_mono (wp_bind.mp q) (fun a _ q1 v H1 t1 => ⟨a, bl_of t1, by
    cases a with
    | true => exact h2 σ H1 R Q (t1.ent (Ent.sepR Ent.right)) q1
    | false => exact q1 (.bl false) H1 (bl_of t1 ▸ t1)⟩) fun _ x => x)
theorem ev_or {ma mb : Res Bool} (h : EvJ E ta Γ ma (fun _ => Γ) fun a => rV (.bool a)) (h2 : EvJ E tb Γ mb (fun _ => Γ) fun a => rV (.bool a)) :
    EvJ E (tOrV ta tb) Γ (ma.bind fun a => if a then .ok true else mb) (fun _ => Γ) fun a => rV (.bool a) := fun σ H R Q t q =>
  h σ H R _ t (wp_mono (wp_bind.mp q) (fun a _ q1 v H1 t1 => ⟨a, bl_of t1, by
    cases a with
    | true => exact q1 (.bl true) H1 (bl_of t1 ▸ t1)
    | false => exact h2 σ H1 R Q (t1.ent (Ent.sepR Ent.right)) q1⟩) fun _ x => x)
theorem evp_not {a : Bool} (h : EvP E ta Γ (rV (.bool a))) : EvP E (tNotV ta) Γ (rV (.bool (!a))) := fun σ H R Q t q => h σ H R _ t fun v H1 t1 => ⟨a, bl_of t1, by
  have t2 := t1.ent (Ent.sepR (B' := R) Ent.right)
  have t3 := t2.addV (v := .bl (!a)) (d := .bool (!a)) fun F _ _ _ => .bl _
  exact q _ H1 (t3.ent ((Ent.assoc'.trans (Ent.sepL Ent.comm)).trans Ent.assoc))⟩
theorem ev_not {b : γ → Bool} (h : EvJ E ta Γ m Γ' fun a => rV (.bool (b a))) : EvJ E (tNotV ta) Γ m Γ' fun a => rV (.bool (!b a)) := fun σ H R Q t hm => h σ H R _ t (wp_mono hm (fun a _ q v H1 t1 => ⟨b a, bl_of t1, by
  have t2 := t1.ent (Ent.sepR (B' := R) Ent.right)
  have t3 := t2.addV (v := .bl (!b a)) (d := .bool (!b a)) fun F _ _ _ => .bl _
  exact q _ H1 (t3.ent ((Ent.assoc'.trans (Ent.sepL Ent.comm)).trans Ent.assoc))⟩) fun _ x => x)
/-- a if t else b -/
theorem evp_if {b : Bool} {mA mB : Res γ} (h : EvTP E tt Γ b) (h1 : EvJ E ta Γ mA Γ' c) (h2 : EvJ E tb Γ mB Γ' c) : EvJ E (tIf tt ta tb) Γ (if b then mA else mB) Γ' c := fun σ H R Q t q => h σ H R _ t fun H1 t1 => by
  cases b with
  | true => exact h1 σ H1 R Q t1 q
  | false => exact h2 σ H1 R Q t1 q
theorem evpp_if {b : Bool} {T : Type} {x y : T} {cc : T → RC} (h : EvTP E tt Γ b) (h1 : EvP E ta Γ (cc x)) (h2 : EvP E tb Γ (cc y)) : EvP E (tIf tt ta tb) Γ (cc (if b then x else y)) := fun σ H R Q t q => h σ H R _ t fun H1 t1 => by
  cases b with
  | true => exact h1 σ H1 R Q t1 q
  | false => exact h2 σ H1 R Q t1 q
theorem ev_if {bt : α → Bool} {mA mB : α → Res γ} (h : EvT E tt Γ ma Γ1 bt) (h1 : ∀ a, bt a = true → EvJ E ta (Γ1 a) (mA a) Γ' c) (h2 : ∀ a, bt a = false → EvJ E tb (Γ1 a) (mB a) Γ' c) :
    EvJ E (tIf tt ta tb) Γ (ma.bind fun a => if bt a then mA a else mB a) Γ' c := fun σ H R Q t q => h σ H R _ t (wp_mono (wp_bind.mp q) (fun a _ q1 H1 t1 => by
  cases e : bt a with
  | true =>
    rw [if_pos e] at q1
    exact h1 a e σ H1 R Q t1 q1
  | false =>
    rw [if_neg (by rw [e]; decide)] at q1
    exact h2 a e σ H1 R Q t1 q1) fun _ x => x)

/-! arguments -/
theorem eap_nil : EvAP E tNil Γ [] := fun σ H R Q t q => q [] H (t.ent (Ent.sepR fun F H o s h => sep_pers (fun _ => trivial) h))
theorem eap_cons {cs : List RC} (h : EvP E te Γ cx) (h2 : EvAP E tr Γ cs) : EvAP E (tCons te tr) Γ (cx :: cs) := fun σ H R Q t q =>
  h σ H R _ t fun v H1 t1 => h2 σ H1 (sep (cx σ v) R) _ t1 fun vs H2 t2 => q (v :: vs) H2 ((top_rot t2).ent (Ent.sepR Ent.assoc'))
theorem ea_pure {a : α} {cs : α → List RC} (h : EvAP E tr Γ (cs a)) : EvA E tr Γ (.ok a) (fun _ => Γ) cs := fun σ H R Q t q => h σ H R Q t q
theorem ea_nil : EvA E tNil Γ (.ok ()) (fun _ => Γ) fun _ => [] := eap_nil
theorem ea_cons {mr : α → Res β} {cs : α → β → List RC} (h : EvJ E te Γ ma Γ1 ca) (h2 : ∀ a, EvA E tr (Γ1 a) (mr a) (Γ2 a) (cs a)) :
    EvA E (tCons te tr) Γ (ma.bind fun a => (mr a).bind fun b => .ok (a, b)) (fun p => Γ2 p.1 p.2) (fun p => ca p.1 :: cs p.1 p.2) := fun σ H R Q t q =>
  h σ H R _ t (wp_mono (wp_bind.mp q) (fun a _ q1 v H1 t1 => h2 a σ H1 (sep (ca a σ v) R) _ t1 (wp_mono (wp_bind.mp q1) (fun b _ q2 vs H2 t2 => q2 (v :: vs) H2 ((top_rot t2).ent (Ent.sepR Ent.assoc'))) fun _ x => x.drop)) fun _ x => x)
theorem evp_cb {rn : List V → Hp → VK → Prop} {cs : List RC} (h : EvAP E tr Γ cs) (hr : RnJ E rn cs Γ m Γ' c) : EvJ E (tCB rn tr) Γ m Γ' c := fun σ H R Q t q =>
  h σ H R _ t fun vs H1 t1 => hr σ H1 R Q vs t1 q
theorem ev_cb {rn : List V → Hp → VK → Prop} {cs : α → List RC} {k : α → Res γ} (h : EvA E tr Γ ma Γ1 cs) (hr : ∀ a, RnJ E rn (cs a) (Γ1 a) (k a) Γ' c) : EvJ E (tCB rn tr) Γ (ma.bind k) Γ' c := fun σ H R Q t q =>
  h σ H R _ t (wp_mono (wp_bind.mp q) (fun a _ q1 vs H1 t1 => hr a σ H1 R Q vs t1 q1) fun _ x => x)
def vAs (ds : List PyData) (vs : List V) : Asr := ⟨fun F _ _ => RpAll F vs ds, fun s _ h => h.mono s, fun _ h => h⟩
/-- cells that can be frozen as data -/
def Fz (c : RC) (d : PyData) : Prop := ∀ σ v A H, Top (sep (c σ v) A) H → Top (sep (vA d v) A) H
theorem fz_v {d : PyData} : Fz (rV d) d := fun _ _ _ _ t => t
theorem fz_o {ds : List PyData} : Fz (rO ds) (.list ds) := fun _ _ _ _ t => oV_freeze t
inductive FzAll : List RC → List PyData → Prop
  | nil : FzAll [] []
  | cons {c : RC} {cs : List RC} {d : PyData} {ds : List PyData} : Fz c d → FzAll cs ds → FzAll (c :: cs) (d :: ds)
theorem FzAll.top {σ : St} : ∀ {cs : List RC} {ds : List PyData} {vs : List V} {A : Asr} {H : Hp}, FzAll cs ds → Top (sep (csA cs σ vs) A) H → Top (sep (vAs ds vs) A) H
  | _, _, [], A, H, .nil, t => t.ent (Ent.sepL fun _ _ _ _ _ => .nil)
  | _, _, _ :: _, A, H, .nil, t => (t.fact (φ := False) fun _ _ _ ⟨_, _, _, _, _, a, _⟩ => a).elim
  | _, _, [], A, H, .cons _ _, t => (t.fact (φ := False) fun _ _ _ ⟨_, _, _, _, _, a, _⟩ => a).elim
  | _, _, v :: vs, A, H, .cons (d := d) (ds := ds) h hr, t => by
    have t1 := h σ v _ H (t.ent Ent.assoc)
    have t2 := t1.ent ((Ent.assoc'.trans (Ent.sepL Ent.comm)).trans Ent.assoc)
    refine (FzAll.top hr t2).ent fun F H o s ⟨o1, o2, h1, h2, dd, b, ⟨o3, o4, h3, h4, d', x, a⟩⟩ => ?_
    exact A.up (o := o4) (fun p z => h2 p (h4 p z)) a |> fun a => sep_pers (fun _ => RpAll.cons x b) a
end
end Lc
/-! Lc: calls, statements, loops, comprehensions -/
namespace Lc
open PySem L2

/-! ### what a def promises -/
abbrev PP := V → Hp → Hp → Prop
def ppV (d : PyData) : PP := fun v F _ => Rp F v d
/-- a list that is only read: frozen, or owned by the caller -/
def ppL (ds : List PyData) : PP := fun v F H => ∃ p vs, v = .ref p ∧ H p = some (.lst vs) ∧ RpAll F vs ds
/-- .. that may be locked or written (the script) -/
def ppS (K : PySem.W.Frag) (ds : List PyData) : PP := fun v F H => ∃ p vs, v = .ref p ∧ SqL K H p vs ∧ RpAll F vs ds
def ppAt (p : Addr) : PP := fun v _ _ => v = .ref p
def parOk : List PP → List V → Hp → Hp → Prop
  | [], [], _, _ => True
  | p :: ps, v :: vs, F, H => p v F H ∧ parOk ps vs F H
  | _, _, _, _ => False
theorem parOk_len : ∀ {ps : List PP} {vs : List V} {F H : Hp}, parOk ps vs F H → vs.length = ps.length
  | [], [], _, _, _ => rfl
  | _ :: _, _ :: _, _, _, h => by rw [List.length_cons, List.length_cons, parOk_len h.2]
  | [], _ :: _, _, _, h => (show False from h).elim
  | _ :: _, [], _, _, h => (show False from h).elim
/-- no list is changed -/
def Sp0 (ec : Nat → Value) {α β : Type} (ps : α → List PP) (m : α → Res β) (c : β → V → Asr) : Sp := fun vs H Q E => ∃ (x : α) (C : Asr), Top C H ∧ (∀ F H o, Same F H → C.P F H o → parOk (ps x) vs F H) ∧
  (m x).wp (fun b => ∀ v H', Top (sep C (c b v)) H' → Q v H') fun k => ∀ H', Top C H' → E (ec k) none H'
/-- one list is changed in place; on an error it is as it was -/
def Sp1 (ec : Nat → Value) {α β : Type} (ps : Addr → α → List PP) (i0 : α → List PyData) (m : α → Res β) (i1 : β → List PyData) (c : β → V → Asr) : Sp := fun vs H Q E => ∃ (p : Addr) (x : α) (C : Asr), Top (sep C (oA p (i0 x))) H ∧
  (∀ F H o, Same F H → C.P F H o → parOk (ps p x) vs F H) ∧
  (m x).wp (fun b => ∀ v H', Top (sep C (sep (oA p (i1 b)) (c b v))) H' → Q v H') fun k => ∀ H', Top (sep C (oA p (i0 x))) H' → E (ec k) none H'

section
variable {E : Ec} {te : TE} {tr : TA} {Γ : List Cell} {α β γ δ : Type} {c : γ → RC}
open Res
/-- what the cells of the arguments tell -/
def Pars (E : Ec) (Γ : List Cell) (Kn : St → Prop) (cs : List RC) (ps : List PP) : Prop := ∀ σ vs F H o, Kn σ → Same F H → (sep (base E σ Γ) (csA cs σ vs)).P F H o → parOk ps vs F H
abbrev K0 : St → Prop := fun _ => True
abbrev K1 (i : Nat) (p : Addr) : St → Prop := fun σ => σ[i]? = some (some (.ref p))
def PArg (E : Ec) (Γ : List Cell) (Kn : St → Prop) (c : RC) (p : PP) : Prop := ∀ σ v F H o, Kn σ → Same F H → (sep (base E σ Γ) (c σ v)).P F H o → p v F H
theorem pars_nil {Kn : St → Prop} : Pars E Γ Kn [] [] := fun σ vs F H o _ s ⟨_, _, _, _, _, _, h⟩ => by
  cases vs with
  | nil => trivial
  | cons v vs => exact (show False from h).elim
theorem pars_cons {Kn : St → Prop} {c : RC} {p : PP} {cs : List RC} {ps : List PP} (h : PArg E Γ Kn c p) (hr : Pars E Γ Kn cs ps) : Pars E Γ Kn (c :: cs) (p :: ps) := fun σ vs F H o kn s ⟨o1, o2, h1, h2, d, b, q⟩ => by
  cases vs with
  | nil => exact (show False from q).elim
  | cons v vs =>
    obtain ⟨o3, o4, h3, h4, e, x, y⟩ := q
    exact ⟨h σ v F H o kn s ⟨o1, o3, h1, fun p z => h2 p (h3 p z), fun p z w => d p z (h3 p w), b, x⟩, hr σ vs F H o kn s ⟨o1, o4, h1, fun p z => h2 p (h4 p z), fun p z w => d p z (h4 p w), b, y⟩⟩
theorem pa_v {Kn : St → Prop} {d : PyData} : PArg E Γ Kn (rV d) (ppV d) := fun _ _ _ _ _ _ _ ⟨_, _, _, _, _, _, x⟩ => x
theorem ppL_of {d : List PyData} {v : V} {F H : Hp} (s : Same F H) (h : Rp F v (.list d)) : ppL d v F H := by
  cases h with
  | lst e r => exact ⟨_, _, rfl, s _ _ e, r⟩
theorem pa_lv {Kn : St → Prop} {ds : List PyData} : PArg E Γ Kn (rV (.list ds)) (ppL ds) := fun _ _ _ _ _ _ s ⟨_, _, _, _, _, _, x⟩ => ppL_of s x
theorem pa_lo {Kn : St → Prop} {ds : List PyData} : PArg E Γ Kn (rO ds) (ppL ds) := fun _ _ _ _ _ _ s ⟨_, _, _, _, _, _, x⟩ => by
  obtain ⟨p, rfl, _, vs, e, r⟩ := x
  exact ⟨p, vs, rfl, e, r⟩
theorem ppS_of {K : PySem.W.Frag} {ds : List PyData} {v : V} {F H : Hp} (h : ppL ds v F H) : ppS K ds v F H := by
  obtain ⟨p, vs, e, e2, r⟩ := h
  exact ⟨p, vs, e, SqL.of e2, r⟩
/-- a parameter that is only read: its value is v0, what is known of it lies in E.C -/
def Bw (E : Ec) (v : V) (p : PP) : Prop := ∀ F H o, Same F H → E.C.P F H o → p v F H
theorem pa_bw {Kn : St → Prop} {i : Nat} {v : V} {p : PP} (hi : Γ[i]? = some (cIs v)) (h : Bw E v p) : PArg E Γ Kn (rS i) p := fun σ w F H o _ s ⟨_, _, _, _, _, ⟨_, _, _, _, _, a, c⟩, x⟩ => by
  obtain ⟨y, ey, hy⟩ := sl_get hi a
  have e1 : y = some v := hy
  have e2 : σ[i]? = some (some w) := x
  rw [ey, e1] at e2
  cases e2
  exact h F H _ s c
def XOk (E : Ec) (Γ : List Cell) : Prop := ∀ σ, Ent (sl σ Γ) (E.X σ)
/-- where no exception may leave (a comprehension's block): the wish is empty -/
def Calm (E : Ec) : Prop := ∀ cls d σ H, ¬ E.W cls d σ H

theorem call_core {cs : List RC} {ps : α → List PP} {m : α → Res β} {cb : β → V → Asr} {x : α} {Ex : XK} {σ : St} (hp : Pars E Γ K0 cs (ps x)) (hx : XOk E Γ) (hE : ∀ k H, E.W (E.ec k) none σ H → Ex (E.ec k) none H) {H : Hp} {R : Asr} {Q : VK} {vs : List V}
    (t : Top (sep (base E σ Γ) (sep (csA cs σ vs) R)) H) (q : (m x).wp (fun b => ∀ v H', Top (sep (base E σ Γ) (sep (cb b v) R)) H' → Q v H') (Exn E R σ)) : Sp0 E.ec ps m cb vs H Q Ex := by
  refine ⟨x, _, t, fun F H o s h => hp σ vs F H o trivial s (Ent.sepR Ent.left F H o s h), wp_mono q (fun b _ q1 v H' t' => q1 v H' (t'.ent ?_)) fun k q1 H' t' => hE k H' (q1 H' (t'.ent ?_))⟩
  · exact Ent.assoc.trans (Ent.sepR ((Ent.sepL Ent.right).trans Ent.comm))
  · exact Ent.sep (Ent.sepL (hx σ)) Ent.right
theorem evp_callS {cs : List RC} {ps : α → List PP} {m : α → Res β} {cb : β → V → Asr} (x : α) (h : EvAP E tr Γ cs) (hp : Pars E Γ K0 cs (ps x)) (hx : XOk E Γ) : EvJ E (tCallS (Sp0 E.ec ps m cb) (WE E.W) tr) Γ (m x) (fun _ => Γ) (fun b _ => cb b) := fun σ H R Q t q =>
  h σ H R _ t fun vs H1 t1 => call_core hp hx (fun k H z => z) t1 q
theorem ev_callS {ma : Res δ} {Γ1 : δ → List Cell} {cs : δ → List RC} {ps : α → List PP} {m : α → Res β} {cb : β → V → Asr} (x : δ → α) (h : EvA E tr Γ ma Γ1 cs) (hp : ∀ a, Pars E (Γ1 a) K0 (cs a) (ps (x a))) (hx : ∀ a, XOk E (Γ1 a)) :
    EvJ E (tCallS (Sp0 E.ec ps m cb) (WE E.W) tr) Γ (ma.bind fun a => (m (x a)).bind fun b => .ok (a, b)) (fun p => Γ1 p.1) (fun p _ => cb p.2) := fun σ H R Q t q =>
  h σ H R _ t (wp_mono (wp_bind.mp q) (fun a _ q1 vs H1 t1 => call_core (hp a) (hx a) (fun k H z => z) t1 (wp_mono (wp_bind.mp q1) (fun b _ q2 => q2) fun _ z => z)) fun _ z => z)
/-- .. inside a comprehension -/
theorem evp_call0 {cs : List RC} {ps : α → List PP} {m : α → Res β} {cb : β → V → Asr} (x : α) (h : EvAP E tr Γ cs) (hp : Pars E Γ K0 cs (ps x)) (hx : XOk E Γ) (hc : Calm E) : EvJ E (tCall (Sp0 E.ec ps m cb) [] E0 tr) Γ (m x) (fun _ => Γ) (fun b _ => cb b) := fun σ H R Q t q =>
  h σ H R _ t fun vs H1 t1 => by
    rw [List.append_nil]
    exact call_core hp hx (fun k H z => (hc _ _ _ _ z).elim) t1 q
/-- the cell of a slot that holds a list of one's own -/
def OwnC (mk : List PyData → Cell) : Prop := ∀ (x : Option V) (ds : List PyData) F H o, (mk ds x).P F H o → ∃ p, x = some (.ref p) ∧ (oA p ds).P F H o ∧ ∀ ds', Ent (oA p ds') (mk ds' x)
theorem own_O : OwnC cO := fun x ds F H o h => by
  cases x with
  | none => exact (show False from h).elim
  | some v =>
    obtain ⟨p, rfl, a⟩ := h
    exact ⟨p, rfl, a, fun ds' F H o s b => ⟨p, rfl, b⟩⟩
theorem own_At {q : Addr} : OwnC (cAt q) := fun x ds F H o ⟨o1, o2, h1, h2, d, a, b⟩ => by
  have a' : x = some (.ref q) := a
  subst a'
  exact ⟨q, rfl, (oA q ds).up h2 b, fun ds' F H o s z => sep_pers (fun _ => rfl) z⟩
/-- slot i's list, taken out of the state -/
theorem take_own {mk : List PyData → Cell} {i : Nat} {ds : List PyData} {σ : St} {A : Asr} {H : Hp} (hk : OwnC mk) (hi : Γ[i]? = some (mk ds)) (t : Top (sep (base E σ Γ) A) H) :
    ∃ p, σ[i]? = some (some (.ref p)) ∧ Top (sep (sep (base E σ (Γ.set i cAny)) A) (oA p ds)) H ∧ ∀ ds', Ent (sep (sep (base E σ (Γ.set i cAny)) A) (oA p ds')) (sep (base E σ (Γ.set i (mk ds'))) A) := by
  obtain ⟨F, o, s, kk, o1, o2, h1, h2, e, ⟨o3, o4, h3, h4, e', a, b⟩, r⟩ := t
  obtain ⟨x, ex, o5, o6, h5, h6, e2, cx, rest⟩ := sl_take hi a
  obtain ⟨p, rfl, op, back⟩ := hk x ds F H o5 cx
  have hlt : i < Γ.length := (List.getElem?_eq_some_iff.mp hi).1
  refine ⟨p, ex, ⟨F, o, s, kk, fun q => o6 q ∨ o4 q ∨ o2 q, o5, fun q z => ?_, fun q z => h1 q (h3 q (h5 q z)), fun q z w => ?_, ⟨fun q => o6 q ∨ o4 q, o2, fun q z => z.elim .inl fun z => .inr (.inl z), fun q z => .inr (.inr z), fun q z w => ?_, ⟨o6, o4, fun _ z => .inl z, fun _ z => .inr z, fun q z w => e' q (h6 q z) w, rest, b⟩, r⟩, op⟩, ?_⟩
  · rcases z with z | z | z
    · exact h1 q (h3 q (h6 q z))
    · exact h1 q (h4 q z)
    · exact h2 q z
  · rcases z with z | z | z
    · exact e2 q w z
    · exact e' q (h5 q w) z
    · exact e q (h3 q (h5 q w)) z
  · rcases z with z | z
    · exact e q (h3 q (h6 q z)) w
    · exact e q (h4 q z) w
  · intro ds' F H o s ⟨o1, o2, h1, h2, d, ⟨o3, o4, h3, h4, d', ⟨o5, o6, h5, h6, d2, a, cc⟩, r⟩, b⟩
    refine ⟨fun q => o2 q ∨ o5 q ∨ o6 q, o4, fun q z => ?_, fun q z => h1 q (h4 q z), fun q z w => ?_, ⟨fun q => o2 q ∨ o5 q, o6, fun q z => z.elim .inl fun z => .inr (.inl z), fun q z => .inr (.inr z), fun q z w => ?_,
      sl_put hlt ex ⟨o2, o5, fun _ z => .inl z, fun _ z => .inr z, fun q z w => d q (h3 q (h5 q w)) z, back ds' F H o2 s b, a⟩, cc⟩, r⟩
    · rcases z with z | z | z
      · exact h2 q z
      · exact h1 q (h3 q (h5 q z))
      · exact h1 q (h3 q (h6 q z))
    · rcases z with z | z | z
      · exact d q (h4 q w) z
      · exact d' q (h5 q z) w
      · exact d' q (h6 q z) w
    · rcases z with z | z
      · exact d q (h3 q (h6 q w)) z
      · exact d2 q z w
theorem pa_own {Kn : St → Prop} {mk : List PyData → Cell} {i : Nat} {ds : List PyData} (hk : OwnC mk) (hi : Γ[i]? = some (mk ds)) : PArg E Γ Kn (rS i) (ppL ds) := fun σ w F H o _ s ⟨_, _, _, _, _, ⟨_, _, _, _, _, a, _⟩, x⟩ => by
  obtain ⟨y, ey, hy⟩ := sl_get hi a
  obtain ⟨p, rfl, ⟨_, vs, e, r⟩, _⟩ := hk y ds F H _ hy
  have e2 : σ[i]? = some (some w) := x
  rw [ey] at e2
  cases e2
  exact ⟨p, vs, rfl, e, r⟩
theorem pa_at {i : Nat} {p : Addr} : PArg E Γ (K1 i p) (rS i) (ppAt p) := fun σ w F H o kn s ⟨_, _, _, _, _, _, x⟩ => by
  have e2 : σ[i]? = some (some w) := x
  rw [kn] at e2
  cases e2
  exact rfl
theorem call1_core {mk : List PyData → Cell} {i : Nat} {cs : List RC} {ps : Addr → α → List PP} {i0 : α → List PyData} {m : α → Res β} {i1 : β → List PyData} {cb : β → V → Asr} {x : α} {Ex : XK} {σ : St} (hk : OwnC mk) (hi : Γ[i]? = some (mk (i0 x)))
    (hp : ∀ p, Pars E (Γ.set i cAny) (K1 i p) cs (ps p x)) (hx : XOk E Γ) (hE : ∀ k H, E.W (E.ec k) none σ H → Ex (E.ec k) none H) {H : Hp} {R : Asr} {Q : VK} {vs : List V}
    (t : Top (sep (base E σ Γ) (sep (csA cs σ vs) R)) H) (q : (m x).wp (fun b => ∀ v H', Top (sep (base E σ (Γ.set i (mk (i1 b)))) (sep (cb b v) R)) H' → Q v H') (Exn E R σ)) : Sp1 E.ec ps i0 m i1 cb vs H Q Ex := by
  obtain ⟨p, hs, t2, back⟩ := take_own hk hi t
  refine ⟨p, x, _, t2, fun F H o s h => hp p σ vs F H o hs s (Ent.sepR Ent.left F H o s h), wp_mono q (fun b _ q1 v H' t' => q1 v H' ?_) fun k q1 H' t' => hE k H' (q1 H' ?_)⟩
  · have t3 := t'.ent Ent.assoc'
    have t4 := t3.ent (Ent.sepL (back (i1 b)))
    exact t4.ent (Ent.assoc.trans (Ent.sepR ((Ent.sepL Ent.right).trans Ent.comm)))
  · have t4 := t'.ent (back (i0 x))
    have e : Γ.set i (mk (i0 x)) = Γ := by
      obtain ⟨hl, e⟩ := List.getElem?_eq_some_iff.mp hi
      rw [← e, List.set_getElem_self]
    rw [e] at t4
    exact t4.ent (Ent.sep (Ent.sepL (hx σ)) Ent.right)
theorem evp_callS1 {mk : List PyData → Cell} {i : Nat} {cs : List RC} {ps : Addr → α → List PP} {i0 : α → List PyData} {m : α → Res β} {i1 : β → List PyData} {cb : β → V → Asr} (x : α) (hk : OwnC mk) (h : EvAP E tr Γ cs) (hi : Γ[i]? = some (mk (i0 x)))
    (hp : ∀ p, Pars E (Γ.set i cAny) (K1 i p) cs (ps p x)) (hx : XOk E Γ) : EvJ E (tCallS (Sp1 E.ec ps i0 m i1 cb) (WE E.W) tr) Γ (m x) (fun b => Γ.set i (mk (i1 b))) (fun b _ => cb b) := fun σ H R Q t q =>
  h σ H R _ t fun vs H1 t1 => call1_core hk hi hp hx (fun k H z => z) t1 q
theorem evp_call01 {mk : List PyData → Cell} {i : Nat} {cs : List RC} {ps : Addr → α → List PP} {i0 : α → List PyData} {m : α → Res β} {i1 : β → List PyData} {cb : β → V → Asr} (x : α) (hk : OwnC mk) (h : EvAP E tr Γ cs) (hi : Γ[i]? = some (mk (i0 x)))
    (hp : ∀ p, Pars E (Γ.set i cAny) (K1 i p) cs (ps p x)) (hx : XOk E Γ) (hc : Calm E) : EvJ E (tCall (Sp1 E.ec ps i0 m i1 cb) [] E0 tr) Γ (m x) (fun b => Γ.set i (mk (i1 b))) (fun b _ => cb b) := fun σ H R Q t q =>
  h σ H R _ t fun vs H1 t1 => by
    rw [List.append_nil]
    exact call1_core hk hi hp hx (fun k H z => (hc _ _ _ _ z).elim) t1 q
/-- arguments that compute, but change no state -/
theorem ev_callS' {ma : Res δ} {cs : δ → List RC} {ps : α → List PP} {m : α → Res β} {cb : β → V → Asr} (x : δ → α) (h : EvA E tr Γ ma (fun _ => Γ) cs) (hp : ∀ a, Pars E Γ K0 (cs a) (ps (x a))) (hx : XOk E Γ) :
    EvJ E (tCallS (Sp0 E.ec ps m cb) (WE E.W) tr) Γ (ma.bind fun a => m (x a)) (fun _ => Γ) (fun b _ => cb b) := fun σ H R Q t q =>
  h σ H R _ t (wp_mono (wp_bind.mp q) (fun a _ q1 vs H1 t1 => call_core (hp a) hx (fun k H z => z) t1 q1) fun _ z => z)
theorem ev_call0' {ma : Res δ} {cs : δ → List RC} {ps : α → List PP} {m : α → Res β} {cb : β → V → Asr} (x : δ → α) (h : EvA E tr Γ ma (fun _ => Γ) cs) (hp : ∀ a, Pars E Γ K0 (cs a) (ps (x a))) (hx : XOk E Γ) (hc : Calm E) :
    EvJ E (tCall (Sp0 E.ec ps m cb) [] E0 tr) Γ (ma.bind fun a => m (x a)) (fun _ => Γ) (fun b _ => cb b) := fun σ H R Q t q =>
  h σ H R _ t (wp_mono (wp_bind.mp q) (fun a _ q1 vs H1 t1 => by
    rw [List.append_nil]
    exact call_core (hp a) hx (fun k H z => (hc _ _ _ _ z).elim) t1 q1) fun _ z => z)
end

/-! ### statements -/
inductive Fin where
  | nx (Γ : List Cell) | lp (Γ : List Cell) | bk (Γ : List Cell) | ct (Γ : List Cell) | rt (Γ : List Cell) (c : RC) | no
def Fin.ok (E : Ec) (R : Asr) (D : Ends) : Fin → Prop
  | .nx Γ => ∀ σ H, Top (sep (base E σ Γ) R) H → D.nx σ H
  | .lp Γ => ∀ σ H, Top (sep (base E σ Γ) R) H → D.nx σ H ∧ D.ct σ H
  | .bk Γ => ∀ σ H, Top (sep (base E σ Γ) R) H → D.bk σ H
  | .ct Γ => ∀ σ H, Top (sep (base E σ Γ) R) H → D.ct σ H
  | .rt Γ c => ∀ σ v H, Top (sep (base E σ Γ) (sep (c σ v) R)) H → D.rt v H
  | .no => True
/-- .. of a part that does not go on behind its end -/
def Fin.out : Fin → Fin
  | .nx _ => .no
  | .lp Γ => .ct Γ
  | f => f
def EvS (E : Ec) (t : TS) (Γ : List Cell) {β : Type} (m : Res β) (post : β → Fin) : Prop :=
  ∀ (σ : St) (H : Hp) (R : Asr) (D : Ends), Top (sep (base E σ Γ) R) H → m.wp (fun b => (post b).ok E R D) (ExnS E R) → t D σ H
abbrev EvS1 (E : Ec) (t : TS) (Γ : List Cell) {β : Type} (m : Res β) (Γ' : β → List Cell) : Prop := EvS E t Γ m fun b => .nx (Γ' b)
/-- what ends a part: goes on, or is out -/
inductive Jn (β ρ : Type) where
  | go (b : β) | out (r : ρ)
def Jn.post {β ρ : Type} (Γ' : β → List Cell) (post : ρ → Fin) : Jn β ρ → Fin
  | .go b => .nx (Γ' b)
  | .out r => (post r).out
section
variable {E : Ec} {te : TE} {tt : TT} {t u : TS} {Γ Δ : List Cell} {α β γ ρ : Type} {m : Res β} {post : β → Fin}
open Res
theorem Fin.out_ok {R : Asr} {D : Ends} {nx : St → Hp → Prop} : ∀ {f : Fin}, f.ok E R D → f.out.ok E R { D with nx := nx }
  | .nx _, _ => trivial
  | .lp _, h => fun σ H t => (h σ H t).2
  | .bk _, h => h
  | .ct _, h => h
  | .rt _ _, h => h
  | .no, _ => trivial
theorem es_seq {m1 : Res α} {Γ1 : α → List Cell} {k : α → Res β} (h1 : EvS1 E t Γ m1 Γ1) (h2 : ∀ a, EvS E u (Γ1 a) (k a) post) : EvS E (tSeq t u) Γ (m1.bind k) post := fun σ H R D tt q =>
  h1 σ H R { D with nx := u D } tt (wp_mono (wp_bind.mp q) (fun a _ q1 σ' H' t' => h2 a σ' H' R D t' q1) fun _ x => x)
theorem es_seqP {a : α} {Γ1 : α → List Cell} (h1 : EvS1 E t Γ (.ok a) Γ1) (h2 : EvS E u (Γ1 a) m post) : EvS E (tSeq t u) Γ m post := fun σ H R D tt q =>
  h1 σ H R { D with nx := u D } tt fun σ' H' t' => h2 σ' H' R D t' q
/-- the part may also leave -/
theorem es_seqC {m1 : Res (Jn α β)} {Γ1 : α → List Cell} {k : α → Res β} (h1 : EvS E t Γ m1 (Jn.post Γ1 post)) (h2 : ∀ a, EvS E u (Γ1 a) (k a) post) :
    EvS E (tSeq t u) Γ (m1.bind fun j => match j with | .go a => k a | .out b => .ok b) post := fun σ H R D tt q =>
  h1 σ H R { D with nx := u D } tt (wp_mono (wp_bind.mp q) (fun j _ q1 => by
    cases j with
    | go a => exact fun σ' H' t' => h2 a σ' H' R D t' q1
    | out b => exact Fin.out_ok q1) fun _ x => x)
/-- what follows is never reached -/
theorem es_last (h1 : EvS E t Γ m fun b => (post b).out) : EvS E (tSeq t u) Γ m post := fun σ H R D tt q =>
  h1 σ H R { D with nx := u D } tt (wp_mono q (fun b _ q1 => Fin.out_ok q1) fun _ x => x)
theorem es_end {b : β} (hp : post b = .nx Δ) (l : Le Γ Δ) : EvS E tNext Γ (.ok b) post := fun σ H R D tt q => by
  have q' : (post b).ok E R D := q
  rw [hp] at q'
  exact q' σ H (tt.ent (Ent.sepL (Ent.sepL l.ent)))
theorem es_endL {b : β} (hp : post b = .lp Δ) (l : Le Γ Δ) : EvS E tNext Γ (.ok b) post := fun σ H R D tt q => by
  have q' : (post b).ok E R D := q
  rw [hp] at q'
  exact (q' σ H (tt.ent (Ent.sepL (Ent.sepL l.ent)))).1
theorem es_cont {b : β} (hp : post b = .lp Δ) (l : Le Γ Δ) : EvS E (tSeq tCont u) Γ (.ok b) post := fun σ H R D tt q => by
  have q' : (post b).ok E R D := q
  rw [hp] at q'
  exact (q' σ H (tt.ent (Ent.sepL (Ent.sepL l.ent)))).2
theorem es_contO {b : β} (hp : post b = .ct Δ) (l : Le Γ Δ) : EvS E (tSeq tCont u) Γ (.ok b) post := fun σ H R D tt q => by
  have q' : (post b).ok E R D := q
  rw [hp] at q'
  exact q' σ H (tt.ent (Ent.sepL (Ent.sepL l.ent)))
theorem es_break {b : β} (hp : post b = .bk Δ) (l : Le Γ Δ) : EvS E (tSeq tBreak u) Γ (.ok b) post := fun σ H R D tt q => by
  have q' : (post b).ok E R D := q
  rw [hp] at q'
  exact q' σ H (tt.ent (Ent.sepL (Ent.sepL l.ent)))
/-- what a return hands back, told as the end wants it -/
def RetJ (E : Ec) (Γ : List Cell) (c : RC) (Δ : List Cell) (c' : RC) : Prop := ∀ σ v R H, Top (sep (base E σ Γ) (sep (c σ v) R)) H → Top (sep (base E σ Δ) (sep (c' σ v) R)) H
theorem ret_le {c : RC} (l : Le Γ Δ) : RetJ E Γ c Δ c := fun σ v R H t => t.ent (Ent.sepL (Ent.sepL l.ent))
theorem ret_fz {ds : List PyData} (l : Le Γ Δ) : RetJ E Γ (rO ds) Δ (rV (.list ds)) := fun σ v R H t => by
  have t1 : Top (sep (oV ds v) (sep (base E σ Γ) R)) H := t.ent ((Ent.assoc'.trans (Ent.sepL Ent.comm)).trans Ent.assoc)
  exact ((oV_freeze t1).ent ((Ent.assoc'.trans (Ent.sepL Ent.comm)).trans Ent.assoc)).ent (Ent.sepL (Ent.sepL l.ent))
/-- a list of a slot is handed back -/
theorem ret_own {mk : List PyData → Cell} {i : Nat} {ds : List PyData} (hk : OwnC mk) (hi : Γ[i]? = some (mk ds)) (l : Le (Γ.set i cAny) Δ) : RetJ E Γ (rS i) Δ (rO ds) := fun σ v R H t => by
  obtain ⟨p, hs, t2, _⟩ := take_own hk hi t
  have e : v = .ref p := t.fact fun F o s ⟨_, _, _, _, _, _, ⟨_, _, _, _, _, x, _⟩⟩ => by
    have x' : σ[i]? = some (some v) := x
    rw [hs] at x'
    cases x'
    rfl
  subst e
  refine t2.ent ?_
  refine (Ent.sepL (Ent.sep (Ent.sepL l.ent) Ent.right)).trans (Ent.assoc.trans (Ent.sepR (Ent.comm.trans (Ent.sepL ?_))))
  exact fun F H o s a => ⟨p, rfl, a⟩
theorem RetJ.fz {Γ' : List Cell} {c : RC} {ds : List PyData} (h : RetJ E Γ c Γ' (rO ds)) : RetJ E Γ c Γ' (rV (.list ds)) := fun σ v R H t => ret_fz (Le.refl _) σ v R H (h σ v R H t)
theorem es_ret {m1 : Res α} {Γ1 : α → List Cell} {c : α → RC} {g : α → β} {Δ : α → List Cell} {c' : α → RC} (h : EvJ E te Γ m1 Γ1 c) (hp : ∀ a, post (g a) = .rt (Δ a) (c' a)) (hr : ∀ a, RetJ E (Γ1 a) (c a) (Δ a) (c' a)) :
    EvS E (tSeq (tRet te) u) Γ (m1.bind fun a => .ok (g a)) post := fun σ H R D tt q =>
  h σ H R _ tt (wp_mono (wp_bind.mp q) (fun a _ q1 v H' t' => by
    have q' : (post (g a)).ok E R D := q1
    rw [hp a] at q'
    exact q' σ v H' (hr a σ v R H' t')) fun _ x => x σ)
theorem es_retP {b : β} {c c' : RC} (h : EvP E te Γ c) (hp : post b = .rt Δ c') (hr : RetJ E Γ c Δ c') : EvS E (tSeq (tRet te) u) Γ (.ok b) post := fun σ H R D tt q =>
  h σ H R _ tt fun v H' t' => by
    have q' : (post b).ok E R D := q
    rw [hp] at q'
    exact q' σ v H' (hr σ v R H' t')
theorem es_retN {b : β} {c' : RC} (hp : post b = .rt Δ (rV .none)) (l : Le Γ Δ) : EvS E (tSeq tRetN u) Γ (.ok b) post := fun σ H R D tt q => by
  have q' : (post b).ok E R D := q
  rw [hp] at q'
  refine q' σ .non H ?_
  have t1 := tt.ent (Ent.sepL (B := R) (Ent.sepL (B := E.C) (l.ent (σ := σ))))
  exact (t1.addV (v := .non) (d := .none) fun F _ _ _ => .non).ent ((Ent.assoc'.trans (Ent.sepL Ent.comm)).trans Ent.assoc)
/-- raise C("..") -/
theorem es_raise {k : Nat} {C : Value} (hk : E.ec k = C) (hx : XOk E Γ) : EvS E (tSeq (fun _ σ H => E.W C none σ H) u) Γ (.err k) post := fun σ H R D tt q => by
  have q' := q σ H (tt.ent (Ent.sepL (Ent.sepL (hx σ))))
  rw [hk] at q'
  exact q'
/-! ifs -/
theorem es_if {a : Bool} {mA mB : Res β} (h : EvTP E tt Γ a) (h1 : EvS E t Γ mA post) (h2 : EvS E u Γ mB post) : EvS E (tIfS tt t u) Γ (if a then mA else mB) post := fun σ H R D t0 q =>
  h σ H R _ t0 fun H1 t1 => by
    cases a with
    | true => exact h1 σ H1 R D t1 q
    | false => exact h2 σ H1 R D t1 q
theorem es_ifM {m1 : Res α} {Γ1 : α → List Cell} {b : α → Bool} {mA mB : α → Res β} (h : EvT E tt Γ m1 Γ1 b) (h1 : ∀ a, EvS E t (Γ1 a) (mA a) post) (h2 : ∀ a, EvS E u (Γ1 a) (mB a) post) :
    EvS E (tIfS tt t u) Γ (m1.bind fun a => if b a then mA a else mB a) post := fun σ H R D t0 q =>
  h σ H R _ t0 (wp_mono (wp_bind.mp q) (fun a _ q1 H1 t1 => by
    cases e : b a with
    | true =>
      rw [if_pos e] at q1
      exact h1 a σ H1 R D t1 q1
    | false =>
      rw [if_neg (by rw [e]; decide)] at q1
      exact h2 a σ H1 R D t1 q1) fun _ x => x σ)
/-- the first branch ends the part; no else -/
theorem es_ifT {a : Bool} {mA mB : Res β} (h : EvTP E tt Γ a) (h1 : EvS E t Γ mA fun b => (post b).out) (h2 : EvS E u Γ mB post) : EvS E (tSeq (tIfS tt t tNext) u) Γ (if a then mA else mB) post := fun σ H R D t0 q =>
  h σ H R _ t0 fun H1 t1 => by
    cases a with
    | true => exact h1 σ H1 R { D with nx := u D } t1 (wp_mono q (fun b _ q1 => Fin.out_ok q1) fun _ x => x)
    | false => exact h2 σ H1 R D t1 q
theorem es_ifTM {m1 : Res α} {Γ1 : α → List Cell} {b : α → Bool} {mA mB : α → Res β} (h : EvT E tt Γ m1 Γ1 b) (h1 : ∀ a, EvS E t (Γ1 a) (mA a) fun b => (post b).out) (h2 : ∀ a, EvS E u (Γ1 a) (mB a) post) :
    EvS E (tSeq (tIfS tt t tNext) u) Γ (m1.bind fun a => if b a then mA a else mB a) post := fun σ H R D t0 q =>
  h σ H R _ t0 (wp_mono (wp_bind.mp q) (fun a _ q1 H1 t1 => by
    cases e : b a with
    | true =>
      rw [if_pos e] at q1
      exact h1 a σ H1 R { D with nx := u D } t1 (wp_mono q1 (fun b _ q1 => Fin.out_ok q1) fun _ x => x)
    | false =>
      rw [if_neg (by rw [e]; decide)] at q1
      exact h2 a σ H1 R D t1 q1) fun _ x => x σ)
/-! assignments -/
/-- a result is put into a slot -/
def Sto (c : RC) (cl : Cell) : Prop := ∀ σ v A H, Top (sep (c σ v) A) H → Top (sep (cl (some v)) A) H
theorem sto_v {d : PyData} : Sto (rV d) (cV d) := fun _ _ _ _ t => t
theorem sto_o {ds : List PyData} : Sto (rO ds) (cO ds) := fun _ _ _ _ t => t
theorem sto_f {ds : List PyData} : Sto (rO ds) (cV (.list ds)) := fun _ _ _ _ t => oV_freeze t
theorem sto_any {c : RC} : Sto c cAny := fun _ _ _ _ t => t.ent (Ent.sepL Ent.emp)
theorem put_slot {c : RC} {cl : Cell} {i : Nat} {σ : St} {v : V} {R : Asr} {H : Hp} (hs : Sto c cl) (hi : i < Γ.length) (t0 : Top (sep (base E σ Γ) (sep (c σ v) R)) H) : Top (sep (base E (σ.set i (some v)) (Γ.set i cl)) R) H := by
  have t1 : Top (sep (c σ v) (sep (base E σ Γ) R)) H := t0.ent ((Ent.assoc'.trans (Ent.sepL Ent.comm)).trans Ent.assoc)
  have t2 := hs σ v _ H t1
  have t3 : Top (sep (sep (cl (some v)) (sl σ Γ)) (sep E.C R)) H := t2.ent ((Ent.sepR Ent.assoc).trans Ent.assoc')
  exact (t3.ent (Ent.sepL fun F H o s h => sl_set hi h)).ent Ent.assoc'
theorem es_asg {m1 : Res α} {Γ1 : α → List Cell} {c : α → RC} {cl : α → Cell} {i : Nat} (h : EvJ E te Γ m1 Γ1 c) (hs : ∀ a, Sto (c a) (cl a)) (hi : ∀ a, i < (Γ1 a).length) : EvS1 E (tAsg te (gName i)) Γ m1 fun a => (Γ1 a).set i (cl a) := fun σ H R D t0 q =>
  h σ H R _ t0 (wp_mono q (fun a _ q1 v H' t' => q1 _ H' (put_slot (hs a) (hi a) t')) fun _ x => x σ)
theorem es_asgP {c : RC} {cl : Cell} {i : Nat} (h : EvP E te Γ c) (hs : Sto c cl) (hi : i < Γ.length) : EvS1 E (tAsg te (gName i)) Γ (.ok ()) fun _ => Γ.set i cl := es_asg h (fun _ => hs) fun _ => hi
theorem es_drop {m1 : Res α} {Γ1 : α → List Cell} {c : α → RC} (h : EvJ E te Γ m1 Γ1 c) : EvS1 E (tDrop te) Γ m1 Γ1 := fun σ H R D t0 q =>
  h σ H R _ t0 (wp_mono q (fun a _ q1 v H' t' => q1 σ H' (t'.ent (Ent.sepR Ent.right))) fun _ x => x σ)
/-- x += e, ints -/
theorem es_aug {i : Nat} {f : Int → Int → Int} {x : Int} {m1 : Res Int} {Γ1 : Int → List Cell} (h : EvJ E te Γ m1 Γ1 fun a => rV (.int a)) (h0 : Γ[i]? = some (cV (.int x))) (hi : ∀ a, i < (Γ1 a).length) :
    EvS1 E (tAug i te (ipI f)) Γ m1 fun a => (Γ1 a).set i (cV (.int (f x a))) := fun σ H R D t0 q => by
  have e : σ[i]? = some (some (.int x)) := t0.fact fun F o s ⟨_, _, _, _, _, ⟨_, _, _, _, _, a, _⟩, _⟩ => by
    obtain ⟨y, ey, hy⟩ := sl_get h0 a
    cases y with
    | none => exact (show False from hy).elim
    | some v =>
      cases (show Rp F v (.int x) from hy)
      exact ey
  refine ⟨.int x, e, h σ H R _ t0 (wp_mono q (fun a _ q1 v H' t' => ?_) fun _ x => x σ)⟩
  have ev : v = .int a := t'.fact fun F o s ⟨_, _, _, _, _, _, ⟨_, _, _, _, _, z, _⟩⟩ => by
    cases (show Rp F v (.int a) from z)
    rfl
  refine ⟨x, a, rfl, ev, q1 _ H' ?_⟩
  have t2 := t'.ent (Ent.sepR (B' := R) Ent.right)
  have t3 := (t2.addV (v := .int (f x a)) (d := .int (f x a)) fun F _ _ _ => .int _).ent ((Ent.assoc'.trans (Ent.sepL Ent.comm)).trans Ent.assoc)
  exact put_slot (c := rV (.int (f x a))) sto_v (hi a) t3
end
end Lc
/-! Lc: operations on values -/
namespace Lc
open PySem L2

/-! ### what data look like for == -/
class Shp (α : Type) [Dat α] where
  dep : Nat
  lay : ∀ a : α, (dat a).canLay0 = true
  low : ∀ a : α, (dat a).depth ≤ dep
theorem layAll {α : Type} [Dat α] [Shp α] : ∀ l : List α, PyData.canLayAll0 (l.map dat) = true
  | [] => rfl
  | a :: l => by
    show ((dat a).canLay0 && PyData.canLayAll0 (l.map dat)) = true
    rw [Shp.lay a, layAll l]; rfl
theorem lowAll {α : Type} [Dat α] [S : Shp α] : ∀ l : List α, PyData.depthAll (l.map dat) ≤ S.dep
  | [] => Nat.zero_le _
  | a :: l => by
    show max (dat a).depth (PyData.depthAll (l.map dat)) ≤ S.dep
    exact Nat.max_le.mpr ⟨Shp.low a, lowAll l⟩
instance : Shp Int := ⟨0, fun _ => rfl, fun _ => Nat.le_refl _⟩
instance : Shp Bool := ⟨0, fun _ => rfl, fun _ => Nat.le_refl _⟩
instance : Shp Unit := ⟨0, fun _ => rfl, fun _ => Nat.le_refl _⟩
instance {α : Type} [Dat α] [S : Shp α] : Shp (List α) := ⟨S.dep + 1, fun l => layAll l, fun l => Nat.succ_le_succ (lowAll l)⟩
instance {α : Type} [Dat α] [S : Shp α] : Shp (Tu α) := ⟨S.dep + 1, fun l => layAll l.l, fun l => Nat.succ_le_succ (lowAll l.l)⟩
instance {α : Type} [Dat α] [S : Shp α] : Shp (Option α) := ⟨S.dep, fun o => by cases o with | none => rfl | some a => exact Shp.lay a, fun o => by cases o with | none => exact Nat.zero_le _ | some a => exact Shp.low a⟩
instance {α β : Type} [Dat α] [Dat β] [S : Shp α] [T : Shp β] : Shp (α × β) := ⟨max S.dep T.dep + 1, fun p => by
    show (((dat p.1).canLay0 && ((dat p.2).canLay0 && true))) = true
    rw [Shp.lay, Shp.lay]; rfl, fun p => by
    show max (dat p.1).depth (max (dat p.2).depth 0) + 1 ≤ _
    have h1 := Shp.low p.1
    have h2 := Shp.low p.2
    omega⟩
instance {α β γ : Type} [Dat α] [Dat β] [Dat γ] [S : Shp α] [T : Shp β] [U : Shp γ] : Shp (T3 α β γ) := ⟨max S.dep (max T.dep U.dep) + 1, fun p => by
    show (((dat p.a).canLay0 && ((dat p.b).canLay0 && ((dat p.c).canLay0 && true)))) = true
    rw [Shp.lay, Shp.lay, Shp.lay]; rfl, fun p => by
    show max (dat p.a).depth (max (dat p.b).depth (max (dat p.c).depth 0)) + 1 ≤ _
    have h1 := Shp.low p.a
    have h2 := Shp.low p.b
    have h3 := Shp.low p.c
    omega⟩
theorem shp {α : Type} [Dat α] [S : Shp α] (h : S.dep ≤ 64 := by decide) (a : α) : SeqAt.shaped (dat a) = true := by
  unfold SeqAt.shaped
  rw [Shp.lay a, decide_eq_true (Nat.le_trans (Shp.low a) h)]
  rfl
/-- == of two data -/
def eqD {α β : Type} [Dat α] [Dat β] (a : α) (b : β) : Bool := PyData.eqv (dat a) (dat b)

/-! ### helpers -/
section
variable {E : Ec} {Γ : List Cell} {A B C' R : Asr} {H : Hp} {x y v : V} {d : PyData} {cx cy : RC} {α β γ : Type}
open Res
theorem top1 {d : PyData} (t : Top (sep A (sep (vA d x) R)) H) : ∃ F, Same F H ∧ Rp F x d := by
  obtain ⟨F, o, s, _, _, _, _, _, _, _, ⟨_, _, _, _, _, z, _⟩⟩ := t
  exact ⟨F, s, z⟩
theorem int1 {i : Int} (t : Top (sep A (sep (vA (.int i) x) R)) H) : x = .int i := by
  obtain ⟨F, _, z⟩ := top1 t
  cases z; rfl
theorem int2 {j : Int} (t : Top (sep A (sep B (sep (vA (.int j) y) R))) H) : y = .int j := int1 (t.ent Ent.assoc')
theorem res2 (t : Top (sep A (sep B (sep C' R))) H) (h : ∀ F, Rp F v d) : Top (sep A (sep (vA d v) R)) H :=
  ((t.ent (Ent.sepR (Ent.right.trans Ent.right))).addV (v := v) (d := d) fun F _ _ _ => h F).ent ((Ent.assoc'.trans (Ent.sepL Ent.comm)).trans Ent.assoc)
theorem res1 (t : Top (sep A (sep B R)) H) (h : ∀ F, Rp F v d) : Top (sep A (sep (vA d v) R)) H :=
  ((t.ent (Ent.sepR Ent.right)).addV (v := v) (d := d) fun F _ _ _ => h F).ent ((Ent.assoc'.trans (Ent.sepL Ent.comm)).trans Ent.assoc)
/-- a datum read off the state is a result -/
theorem res1' (t : Top (sep A (sep B R)) H) (h : ∀ F o, Same F H → (sep A (sep B R)).P F H o → Rp F v d) : Top (sep A (sep (vA d v) R)) H :=
  (t.addV h).ent ((Ent.sepR (Ent.sepR Ent.right)).trans ((Ent.assoc'.trans (Ent.sepL Ent.comm)).trans Ent.assoc))
end
section
variable {E : Ec} {Γ : List Cell} {A B C' R : Asr} {H : Hp} {x y v : V} {d : PyData} {cx cy : RC} {α β γ : Type}
open Res

/-! ### numbers -/
theorem r2_I0 {g : Int → Int → Int} {i j : Int} : R2P E (rI0 fun i j => .int (g i j)) (rV (.int i)) (rV (.int j)) Γ (rV (.int (g i j))) := fun σ H R Q x y t q =>
  ⟨i, j, int1 t, int2 t, q _ H (res2 t fun F => .int _)⟩
theorem r2_B0 {g : Int → Int → Bool} {i j : Int} : R2P E (rI0 fun i j => .bl (g i j)) (rV (.int i)) (rV (.int j)) Γ (rV (.bool (g i j))) := fun σ H R Q x y t q =>
  ⟨i, j, int1 t, int2 t, q _ H (res2 t fun F => .bl _)⟩
theorem r2_IP {C : Int → Int → Prop} {g : Int → Int → Int} {i j : Int} (h : C i j) : R2P E (rI C fun i j => .int (g i j)) (rV (.int i)) (rV (.int j)) Γ (rV (.int (g i j))) := fun σ H R Q x y t q =>
  ⟨i, j, int1 t, int2 t, h, q _ H (res2 t fun F => .int _)⟩
theorem r2_IN {C : Int → Int → Prop} {g : Int → Int → Int} {i j : Int} {D : Prop} [Decidable D] (h : D → C i j) : R2J E (rI C fun i j => .int (g i j)) (rV (.int i)) (rV (.int j)) Γ (need D (.ok (g i j))) (fun _ => Γ) fun a => rV (.int a) := fun σ H R Q x y t q => by
  obtain ⟨hd, q⟩ := wp_need q
  exact ⟨i, j, int1 t, int2 t, h hd, q _ H (res2 t fun F => .int _)⟩
/-- a constant power -/
theorem r2_pow {i j k : Int} (h : CPow i j) (e : i ^ j.toNat = k) : R2P E (rI CPow fun i j => .int (i ^ j.toNat)) (rV (.int i)) (rV (.int j)) Γ (rV (.int k)) := fun σ H R Q x y t q =>
  ⟨i, j, int1 t, int2 t, h, q _ H (res2 t fun F => by
    show Rp F (.int (i ^ j.toNat)) (.int k)
    rw [e]
    exact .int _)⟩
theorem r1_neg {i : Int} : R1P E (rU fun i => .int (-i)) (rV (.int i)) Γ (rV (.int (-i))) := fun σ H R Q x t q => ⟨i, int1 t, q _ H (res1 t fun F => .int _)⟩
def mulR (i j : Int) : Res Int := need (i.natAbs.log2 + j.natAbs.log2 < 1000000) (.ok (i * j))
def divR (i j : Int) : Res Int := need (0 < j ∧ j.natAbs.log2 < 9000) (.ok (i / j))
def modR (i j : Int) : Res Int := need (0 < j) (.ok (i % j))
theorem r2_mul {i j : Int} : R2J E (rI CMulW fun i j => .int (i * j)) (rV (.int i)) (rV (.int j)) Γ (mulR i j) (fun _ => Γ) fun a => rV (.int a) := r2_IN fun h => h
theorem r2_div {i j : Int} : R2J E (rI CDivW fun i j => .int (i / j)) (rV (.int i)) (rV (.int j)) Γ (divR i j) (fun _ => Γ) fun a => rV (.int a) := r2_IN fun h => h
theorem r2_mod {i j : Int} : R2J E (rI (fun _ j => 0 < j) fun i j => .int (i % j)) (rV (.int i)) (rV (.int j)) Γ (modR i j) (fun _ => Γ) fun a => rV (.int a) := r2_IN fun h => h

/-! ### reading: data, lists -/
def ppD (K : PySem.W.Frag) (d : PyData) : PP := fun v _ H => Dq K H v d
theorem pa_dv {Kn : St → Prop} {d : PyData} : PArg E Γ Kn (rV d) (ppD E.K d) := fun _ _ _ _ _ _ s ⟨_, _, _, _, _, _, x⟩ => Rp.dp s x
theorem pa_S {Kn : St → Prop} {c : RC} {ds : List PyData} (h : PArg E Γ Kn c (ppL ds)) : PArg E Γ Kn c (ppS E.K ds) := fun σ v F H o kn s q => ppS_of (h σ v F H o kn s q)
theorem pa_D {Kn : St → Prop} {c : RC} {ds : List PyData} (h : PArg E Γ Kn c (ppS E.K ds)) : PArg E Γ Kn c (ppD E.K (.list ds)) := fun σ v F H o kn s q => by
  obtain ⟨p, vs, rfl, e, r⟩ := h σ v F H o kn s q
  exact .lst e (r.dp s)
theorem par1 {σ : St} {c : RC} {p : PP} (h : PArg E Γ K0 c p) (t : Top (sep (base E σ Γ) (sep (c σ x) R)) H) : ∃ F, Same F H ∧ p x F H := by
  obtain ⟨F, o, s, _, a⟩ := t
  exact ⟨F, s, h σ x F H o trivial s (Ent.left F H o s (Ent.assoc' F H o s a))⟩
theorem par2 {σ : St} {c : RC} {p : PP} (h : PArg E Γ K0 c p) (t : Top (sep (base E σ Γ) (sep B (sep (c σ y) R))) H) : ∃ F, Same F H ∧ p y F H := par1 h (top_rot t)
theorem r2_eq {d e : PyData} (h1 : PArg E Γ K0 cx (ppD E.K d)) (h2 : PArg E Γ K0 cy (ppD E.K e)) (s1 : SeqAt.shaped d = true) (s2 : SeqAt.shaped e = true) : R2P E (rEqD E.K) cx cy Γ (rV (.bool (PyData.eqv d e))) := fun σ H R Q x y t q => by
  obtain ⟨_, _, z1⟩ := par1 h1 t
  obtain ⟨_, _, z2⟩ := par2 h2 t
  exact ⟨d, e, z1.shaped s1, z2.shaped s2, s1, s2, q _ H (res2 t fun F => .bl _)⟩
theorem r2_ne {d e : PyData} (h1 : PArg E Γ K0 cx (ppD E.K d)) (h2 : PArg E Γ K0 cy (ppD E.K e)) (s1 : SeqAt.shaped d = true) (s2 : SeqAt.shaped e = true) : R2P E (rNeD E.K) cx cy Γ (rV (.bool (!PyData.eqv d e))) := fun σ H R Q x y t q => by
  obtain ⟨_, _, z1⟩ := par1 h1 t
  obtain ⟨_, _, z2⟩ := par2 h2 t
  exact ⟨d, e, z1.shaped s1, z2.shaped s2, s1, s2, q _ H (res2 t fun F => .bl _)⟩
def eqR (d e : PyData) : Res Bool := need (SeqAt.shaped d = true ∧ SeqAt.shaped e = true) (.ok (PyData.eqv d e))
theorem r2_eqN {d e : PyData} (h1 : PArg E Γ K0 cx (ppD E.K d)) (h2 : PArg E Γ K0 cy (ppD E.K e)) : R2J E (rEqD E.K) cx cy Γ (eqR d e) (fun _ => Γ) fun a => rV (.bool a) := fun σ H R Q x y t q => by
  obtain ⟨⟨s1, s2⟩, q⟩ := wp_need q
  exact r2_eq h1 h2 s1 s2 σ H R Q x y t q
theorem r2_neN {d e : PyData} (h1 : PArg E Γ K0 cx (ppD E.K d)) (h2 : PArg E Γ K0 cy (ppD E.K e)) : R2J E (rNeD E.K) cx cy Γ ((eqR d e).bind fun a => .ok (!a)) (fun _ => Γ) fun a => rV (.bool a) := fun σ H R Q x y t q => by
  unfold eqR at q
  obtain ⟨⟨s1, s2⟩, q⟩ := wp_need (Res.wp_bind.mp q)
  exact r2_ne h1 h2 s1 s2 σ H R Q x y t q
def getI {α : Type} (xs : List α) (i : Int) : Res α := match atI xs i with
  | some a => .ok a
  | none => .bad
theorem atI_map {α β : Type} (f : α → β) (xs : List α) (i : Int) : atI (xs.map f) i = (atI xs i).map f := by
  unfold atI
  rw [List.length_map]
  cases ixN xs.length i with
  | none => rfl
  | some j => simp
theorem atI_rp {F : Hp} {vs : List V} {ds : List PyData} {i : Int} {d : PyData} (r : RpAll F vs ds) (h : atI ds i = some d) : ∃ v, atI vs i = some v ∧ Rp F v d := by
  unfold atI at h ⊢
  rw [r.len]
  cases e : ixN ds.length i with
  | none =>
    rw [e] at h
    cases h
  | some j =>
    rw [e] at h
    exact r.get h
theorem r2_ix [Dat α] {xs : List α} {i : Int} (h : PArg E Γ K0 cx (ppS E.K (xs.map dat))) : R2J E (rIxL E.K) cx (rV (.int i)) Γ (getI xs i) (fun _ => Γ) fun a => rV (dat a) := fun σ H R Q x y t q => by
  unfold getI at q
  cases e : atI xs i with
  | none =>
    rw [e] at q
    exact (show False from q).elim
  | some a =>
    rw [e] at q
    have q : ∀ v H', Top (sep (base E σ Γ) (sep (vA (dat a) v) R)) H' → Q v H' := q
    have ey := int2 t
    have em : atI (xs.map dat) i = some (dat a) := by rw [atI_map, e]; rfl
    obtain ⟨F, o, s, k, p⟩ := t
    obtain ⟨a0, vs, rfl, hs, r⟩ := h σ x F H o trivial s (Ent.left F H o s (Ent.assoc' F H o s p))
    obtain ⟨v, ev, rv⟩ := atI_rp r em
    refine ⟨a0, vs, i, v, rfl, ey, hs, ev, q v H ⟨F, o, s, k, ?_⟩⟩
    exact ((Ent.assoc'.trans (Ent.sepL Ent.comm)).trans Ent.assoc) F H o s (sep_pers (fun _ => rv) (Ent.sepR (Ent.right.trans Ent.right) F H o s p))
/-- an item of a tuple, its place written -/
theorem r2_ixT {ds : List PyData} {i : Int} (h : atI ds i = some d) : R2P E (rIxT E.K) (rV (.tuple ds)) (rV (.int i)) Γ (rV d) := fun σ H R Q x y t q => by
  have ey := int2 t
  obtain ⟨F, o, s, k, p⟩ := t
  have z : Rp F x (.tuple ds) := by
    obtain ⟨_, _, _, _, _, _, ⟨_, _, _, _, _, z, _⟩⟩ := p
    exact z
  cases z with
  | tup e r =>
    obtain ⟨v, ev, rv⟩ := atI_rp r h
    refine ⟨_, _, i, v, rfl, ey, SqT.of (s _ _ e), ev, q v H ⟨F, o, s, k, ?_⟩⟩
    exact ((Ent.assoc'.trans (Ent.sepL Ent.comm)).trans Ent.assoc) F H o s (sep_pers (fun _ => rv) (Ent.sepR (Ent.right.trans Ent.right) F H o s p))

/-! ### new lists, tuples -/
theorem oA_oV (p : Addr) (ds : List PyData) : Ent (oA p ds) (oV ds (.ref p)) := fun F H o s a => ⟨p, rfl, a⟩
theorem rotE : Ent (sep A (sep B (sep C' R))) (sep A (sep C' (sep B R))) := Ent.sepR ((Ent.assoc'.trans (Ent.sepL Ent.comm)).trans Ent.assoc)
theorem frontE : Ent (sep A (sep B R)) (sep B (sep A R)) := (Ent.assoc'.trans (Ent.sepL Ent.comm)).trans Ent.assoc
theorem newL {σ : St} {p : Addr} {vs : List V} {ds : List PyData} (t : Top (sep (base E σ Γ) R) H) (hp : H p = none) (r : ∀ F o, Same F H → (sep (base E σ Γ) R).P F H o → RpAll F vs ds) : Top (sep (base E σ Γ) (sep (oV ds (.ref p)) R)) (upd H p (.lst vs)) :=
  ((t.alloc hp r).ent (Ent.sepL (oA_oV p ds))).ent ((Ent.assoc'.trans (Ent.sepL Ent.comm)).trans Ent.assoc)
theorem newT {σ : St} {p : Addr} {vs : List V} {ds : List PyData} (t : Top (sep (base E σ Γ) R) H) (hp : H p = none) (r : ∀ F o, Same F H → (sep (base E σ Γ) R).P F H o → RpAll F vs ds) : Top (sep (base E σ Γ) (sep (vA (.tuple ds) (.ref p)) R)) (upd H p (.tup vs)) :=
  (t.allocT hp r).ent ((Ent.assoc'.trans (Ent.sepL Ent.comm)).trans Ent.assoc)
theorem frozen_args {σ : St} {cs : List RC} {ds : List PyData} {vs : List V} (f : FzAll cs ds) (t : Top (sep (base E σ Γ) (sep (csA cs σ vs) R)) H) : Top (sep (base E σ Γ) (sep (vAs ds vs) R)) H :=
  (f.top (t.ent ((Ent.assoc'.trans (Ent.sepL Ent.comm)).trans Ent.assoc))).ent ((Ent.assoc'.trans (Ent.sepL Ent.comm)).trans Ent.assoc)
theorem evp_lst {tr : TA} {cs : List RC} {ds : List PyData} (h : EvAP E tr Γ cs) (f : FzAll cs ds) (hl : ds.length ≤ 1000 := by exact Nat.le_of_ble_eq_true rfl) : EvP E (tLst tr) Γ (rO ds) := fun σ H R Q t q =>
  h σ H R _ t fun vs H1 t1 => by
    have t2 := frozen_args f t1
    have rv : ∀ F o, Same F H1 → (sep (base E σ Γ) (sep (vAs ds vs) R)).P F H1 o → RpAll F vs ds := fun F o s ⟨_, _, _, _, _, _, ⟨_, _, _, _, _, z, _⟩⟩ => z
    have ln : vs.length = ds.length := t2.fact fun F o s a => (rv F o s a).len
    refine ⟨by rw [ln]; exact Nat.le_trans hl (by decide), fun p hp => q _ _ ((newL t2 hp rv).ent (Ent.sepR (Ent.sepR Ent.right)))⟩
theorem ev_lst {tr : TA} {ma : Res α} {Γ1 : α → List Cell} {cs : α → List RC} {ds : α → List PyData} (h : EvA E tr Γ ma Γ1 cs) (f : ∀ a, FzAll (cs a) (ds a)) (hl : ∀ a, (ds a).length ≤ 1000 := by exact fun _ => Nat.le_of_ble_eq_true rfl) : EvJ E (tLst tr) Γ ma Γ1 fun a => rO (ds a) := fun σ H R Q t q =>
  h σ H R _ t (wp_mono q (fun a _ q vs H1 t1 => by
    have t2 := frozen_args (f a) t1
    have rv : ∀ F o, Same F H1 → (sep (base E σ (Γ1 a)) (sep (vAs (ds a) vs) R)).P F H1 o → RpAll F vs (ds a) := fun F o s ⟨_, _, _, _, _, _, ⟨_, _, _, _, _, z, _⟩⟩ => z
    have ln : vs.length = (ds a).length := t2.fact fun F o s a => (rv F o s a).len
    refine ⟨by rw [ln]; exact Nat.le_trans (hl a) (by decide), fun p hp => q _ _ ((newL t2 hp rv).ent (Ent.sepR (Ent.sepR Ent.right)))⟩) fun _ x => x)
theorem evp_tup {tr : TA} {cs : List RC} {ds : List PyData} (h : EvAP E tr Γ cs) (f : FzAll cs ds) (hl : ds.length ≤ 1000 := by exact Nat.le_of_ble_eq_true rfl) : EvP E (tTup tr) Γ (rV (.tuple ds)) := fun σ H R Q t q =>
  h σ H R _ t fun vs H1 t1 => by
    have t2 := frozen_args f t1
    have rv : ∀ F o, Same F H1 → (sep (base E σ Γ) (sep (vAs ds vs) R)).P F H1 o → RpAll F vs ds := fun F o s ⟨_, _, _, _, _, _, ⟨_, _, _, _, _, z, _⟩⟩ => z
    have ln : vs.length = ds.length := t2.fact fun F o s a => (rv F o s a).len
    refine ⟨by rw [ln]; exact Nat.le_trans hl (by decide), fun p hp => q _ _ ((newT t2 hp rv).ent (Ent.sepR (Ent.sepR Ent.right)))⟩
theorem ev_tup {tr : TA} {ma : Res α} {Γ1 : α → List Cell} {cs : α → List RC} {ds : α → List PyData} (h : EvA E tr Γ ma Γ1 cs) (f : ∀ a, FzAll (cs a) (ds a)) (hl : ∀ a, (ds a).length ≤ 1000 := by exact fun _ => Nat.le_of_ble_eq_true rfl) : EvJ E (tTup tr) Γ ma Γ1 fun a => rV (.tuple (ds a)) := fun σ H R Q t q =>
  h σ H R _ t (wp_mono q (fun a _ q vs H1 t1 => by
    have t2 := frozen_args (f a) t1
    have rv : ∀ F o, Same F H1 → (sep (base E σ (Γ1 a)) (sep (vAs (ds a) vs) R)).P F H1 o → RpAll F vs (ds a) := fun F o s ⟨_, _, _, _, _, _, ⟨_, _, _, _, _, z, _⟩⟩ => z
    have ln : vs.length = (ds a).length := t2.fact fun F o s a => (rv F o s a).len
    refine ⟨by rw [ln]; exact Nat.le_trans (hl a) (by decide), fun p hp => q _ _ ((newT t2 hp rv).ent (Ent.sepR (Ent.sepR Ent.right)))⟩) fun _ x => x)

/-! ### slices -/
def EvO (E : Ec) (t : TO) (Γ : List Cell) {α : Type} (m : Res α) (Γ' : α → List Cell) (o : α → Option Int) : Prop :=
  ∀ (σ : St) (H : Hp) (R : Asr) (Q : Option Int → Hp → Prop), Top (sep (base E σ Γ) R) H → m.wp (fun a => ∀ H', Top (sep (base E σ (Γ' a)) R) H' → Q (o a) H') (Exn E R σ) → t σ H Q
abbrev EvOP (E : Ec) (t : TO) (Γ : List Cell) (o : Option Int) : Prop := EvO E t Γ (.ok ()) (fun _ => Γ) fun _ => o
theorem eo_no : EvOP E tNoPart Γ none := fun σ H R Q t q => q H t
theorem eop {te : TE} {i : Int} (h : EvP E te Γ (rV (.int i))) : EvOP E (tPart te) Γ (some i) := fun σ H R Q t q => h σ H R _ t fun v H1 t1 => ⟨i, int1 t1, q H1 (t1.ent (Ent.sepR Ent.right))⟩
theorem eo {te : TE} {m : Res Int} {Γ' : Int → List Cell} (h : EvJ E te Γ m Γ' fun a => rV (.int a)) : EvO E (tPart te) Γ m Γ' some := fun σ H R Q t q =>
  h σ H R _ t (wp_mono q (fun a _ q v H1 t1 => ⟨a, int1 t1, q H1 (t1.ent (Ent.sepR Ent.right))⟩) fun _ x => x)
theorem eo_pure {a : α} {to : TO} {o : α → Option Int} (h : EvOP E to Γ (o a)) : EvO E to Γ (.ok a) (fun _ => Γ) o := fun σ H R Q t q => h σ H R Q t q
/-- xs[lo:hi] -/
def cutL {α : Type} (xs : List α) (lo hi : Option Int) : List α := (xs.drop (HT.sIx xs.length 0 lo)).take (HT.sIx xs.length xs.length hi - HT.sIx xs.length 0 lo)
theorem cutL_map (f : α → β) (xs : List α) (lo hi : Option Int) : (cutL xs lo hi).map f = cutL (xs.map f) lo hi := by
  unfold cutL
  rw [List.length_map, List.map_take, List.map_drop]
theorem cut_rp {F : Hp} {vs : List V} {ds : List PyData} (lo hi : Option Int) (r : RpAll F vs ds) : RpAll F (cutV vs lo hi) (cutL ds lo hi) := by
  unfold cutV cutL
  rw [r.len]
  exact (r.drop _).take _
def RslJ (E : Ec) (r : V → Option Int → Option Int → Hp → VK → Prop) (cx : RC) (lo hi : Option Int) (Γ : List Cell) {α : Type} (m : Res α) (c : α → RC) : Prop :=
  ∀ (σ : St) (H : Hp) (R : Asr) (Q : VK) (x : V), Top (sep (base E σ Γ) (sep (cx σ x) R)) H → m.wp (fun a => ∀ v H', Top (sep (base E σ Γ) (sep (c a σ v) R)) H' → Q v H') (Exn E R σ) → r x lo hi H Q
theorem evp_sl {te : TE} {tl th : TO} {r : V → Option Int → Option Int → Hp → VK → Prop} {lo hi : Option Int} {m : Res γ} {c : γ → RC} (h : EvP E te Γ cx) (h1 : EvOP E tl Γ lo) (h2 : EvOP E th Γ hi) (hr : RslJ E r cx lo hi Γ m c) :
    EvJ E (tSl r te tl th) Γ m (fun _ => Γ) c := fun σ H R Q t q =>
  h σ H R _ t fun x H1 t1 => h1 σ H1 _ _ t1 fun H2 t2 => h2 σ H2 _ _ t2 fun H3 t3 => hr σ H3 R Q x t3 q
/-- the parts compute; base a slot or a datum -/
theorem ev_sl {te : TE} {tl th : TO} {r : V → Option Int → Option Int → Hp → VK → Prop} {m0 : Res δ} {ca : δ → RC} {ml : δ → Res α} {mh : δ → α → Res β} {lo : α → Option Int} {hi : β → Option Int} {Γ0 : δ → List Cell} {Γ1 : δ → α → List Cell} {Γ2 : δ → α → β → List Cell} {k : δ → α → β → Res γ} {c : γ → RC} {Γ' : γ → List Cell}
    (h : EvJ E te Γ m0 Γ0 ca) (h1 : ∀ d, EvO E tl (Γ0 d) (ml d) (Γ1 d) lo) (h2 : ∀ d a, EvO E th (Γ1 d a) (mh d a) (Γ2 d a) hi)
    (hr : ∀ d a b (σ : St) (H : Hp) (R : Asr) (Q : VK) (x : V), Top (sep (base E σ (Γ2 d a b)) (sep (ca d σ x) R)) H → (k d a b).wp (fun g => ∀ v H', Top (sep (base E σ (Γ' g)) (sep (c g σ v) R)) H' → Q v H') (Exn E R σ) → r x (lo a) (hi b) H Q) :
    EvJ E (tSl r te tl th) Γ (m0.bind fun d => (ml d).bind fun a => (mh d a).bind fun b => k d a b) Γ' c := fun σ H R Q t q =>
  h σ H R _ t (wp_mono (wp_bind.mp q) (fun d _ q x H1 t1 => h1 d σ H1 (sep (ca d σ x) R) _ t1 (wp_mono (wp_bind.mp q) (fun a _ q H2 t2 => h2 d a σ H2 (sep (ca d σ x) R) _ t2 (wp_mono (wp_bind.mp q) (fun b _ q H3 t3 => hr d a b σ H3 R Q x t3 q) fun _ z => z.drop)) fun _ z => z.drop)) fun _ z => z)
theorem addAs {σ : St} {F : Hp} {o : Addr → Prop} {vs : List V} {ds : List PyData} (s : Same F H) (k : ∀ p, o p → F p = none ∧ H p ≠ none) (p : (sep (base E σ Γ) R).P F H o) (r : RpAll F vs ds) : Top (sep (base E σ Γ) (sep (vAs ds vs) R)) H :=
  ⟨F, o, s, k, ((Ent.assoc'.trans (Ent.sepL Ent.comm)).trans Ent.assoc) F H o s (sep_pers (fun _ => r) p)⟩
theorem as_of {σ : St} {vs : List V} {ds : List PyData} : ∀ F o, Same F H → (sep (base E σ Γ) (sep (vAs ds vs) R)).P F H o → RpAll F vs ds := fun F o s ⟨_, _, _, _, _, _, ⟨_, _, _, _, _, z, _⟩⟩ => z
theorem readS {σ : St} {ds : List PyData} (h : PArg E Γ K0 cx (ppS E.K ds)) (t : Top (sep (base E σ Γ) (sep (cx σ x) R)) H) : ∃ a vs, x = .ref a ∧ SqL E.K H a vs ∧ vs.length = ds.length ∧ Top (sep (base E σ Γ) (sep (vAs ds vs) (sep (cx σ x) R))) H := by
  obtain ⟨F, o, s, k, p⟩ := t
  obtain ⟨a, vs, e, hs, r⟩ := h σ x F H o trivial s (Ent.left F H o s (Ent.assoc' F H o s p))
  exact ⟨a, vs, e, hs, r.len, addAs s k p r⟩
theorem readL {σ : St} {ds : List PyData} (h : PArg E Γ K0 cx (ppL ds)) (t : Top (sep (base E σ Γ) (sep (cx σ x) R)) H) : ∃ a vs, x = .ref a ∧ H a = some (.lst vs) ∧ vs.length = ds.length ∧ Top (sep (base E σ Γ) (sep (vAs ds vs) (sep (cx σ x) R))) H := by
  obtain ⟨F, o, s, k, p⟩ := t
  obtain ⟨a, vs, e, hs, r⟩ := h σ x F H o trivial s (Ent.left F H o s (Ent.assoc' F H o s p))
  exact ⟨a, vs, e, hs, r.len, addAs s k p r⟩
theorem rsl_list [Dat α] {xs : List α} {lo hi : Option Int} (h : PArg E Γ K0 cx (ppS E.K (xs.map dat))) : RslJ E (rSlL E.K) cx lo hi Γ (.ok ()) fun _ => rO ((cutL xs lo hi).map dat) := fun σ H R Q x t q => by
  obtain ⟨a, vs, rfl, hs, ln, t2⟩ := readS h t
  refine ⟨a, vs, rfl, hs, fun p hp => q _ _ ((newL t2 hp fun F' o s' z => ?_).ent (Ent.sepR (Ent.sepR (Ent.right.trans Ent.right))))⟩
  rw [cutL_map]
  exact cut_rp lo hi (as_of F' o s' z)

/-! ### lists: +, * -/
def lim : Nat := 16000000
theorem lim_le {n : Nat} (h : n ≤ lim) : n ≤ sizeLine := Nat.le_trans h (by decide)
theorem lim_lt {n : Nat} (h : n < lim) : n < sizeLine := Nat.lt_of_lt_of_le h (by decide)
def catR {α : Type} (xs ys : List α) : Res (List α) := need (xs.length + ys.length ≤ lim) (.ok (xs ++ ys))
theorem r2_cat [Dat α] {xs ys : List α} (h1 : PArg E Γ K0 cx (ppL (xs.map dat))) (h2 : PArg E Γ K0 cy (ppL (ys.map dat))) : R2J E rCat cx cy Γ (catR xs ys) (fun _ => Γ) fun zs => rO (zs.map dat) := fun σ H R Q x y t q => by
  obtain ⟨hn, q⟩ := wp_need q
  obtain ⟨F, o, s, k, p⟩ := t
  obtain ⟨a, vs, rfl, ea, ra⟩ := h1 σ x F H o trivial s (Ent.left F H o s (Ent.assoc' F H o s p))
  obtain ⟨b, ws, rfl, eb, rb⟩ := h2 σ y F H o trivial s (Ent.left F H o s (Ent.assoc' F H o s (rotE F H o s p)))
  have la := ra.len
  have lb := rb.len
  rw [List.length_map] at la lb
  have t2 := addAs s k p (ra.append rb)
  refine ⟨a, b, vs, ws, rfl, rfl, ea, eb, by rw [la, lb]; exact lim_le hn, fun l hl => q _ _ ((newL t2 hl fun F' o s' z => ?_).ent (Ent.sepR (Ent.sepR (Ent.right.trans (Ent.right.trans Ent.right)))))⟩
  rw [List.map_append]
  exact as_of F' o s' z
def repR {α : Type} (xs : List α) (k : Int) : Res (List α) := need (-(2 ^ 63) ≤ k ∧ k < 2 ^ 63 ∧ xs.length * k.toNat ≤ lim) (.ok (List.replicate k.toNat xs).flatten)
theorem rep_rp {F : Hp} {vs : List V} {ds : List PyData} (r : RpAll F vs ds) : ∀ n : Nat, RpAll F (List.replicate n vs).flatten (List.replicate n ds).flatten
  | 0 => .nil
  | n + 1 => by
    rw [List.replicate_succ, List.replicate_succ, List.flatten_cons, List.flatten_cons]
    exact r.append (rep_rp r n)
theorem map_rep (f : α → β) (xs : List α) : ∀ n : Nat, (List.replicate n xs).flatten.map f = (List.replicate n (xs.map f)).flatten
  | 0 => rfl
  | n + 1 => by rw [List.replicate_succ, List.replicate_succ, List.flatten_cons, List.flatten_cons, List.map_append, map_rep f xs n]
theorem r2_rep [Dat α] {xs : List α} {k : Int} (h1 : PArg E Γ K0 cx (ppL (xs.map dat))) : R2J E rRep cx (rV (.int k)) Γ (repR xs k) (fun _ => Γ) fun zs => rO (zs.map dat) := fun σ H R Q x y t q => by
  obtain ⟨⟨k1, k2, hn⟩, q⟩ := wp_need q
  have ey := int2 t
  obtain ⟨F, o, s, kk, p⟩ := t
  obtain ⟨a, vs, rfl, ea, ra⟩ := h1 σ x F H o trivial s (Ent.left F H o s (Ent.assoc' F H o s p))
  have la := ra.len
  rw [List.length_map] at la
  have t2 := addAs s kk p (rep_rp ra k.toNat)
  refine ⟨a, k, vs, rfl, ey, ea, k1, k2, by rw [la]; exact lim_le hn, fun l hl => q _ _ ((newL t2 hl fun F' o s' z => ?_).ent (Ent.sepR (Ent.sepR (Ent.right.trans (Ent.right.trans Ent.right)))))⟩
  rw [map_rep]
  exact as_of F' o s' z

/-! ### built-ins over one value -/
/-- the cells of one argument -/
theorem one_arg {σ : St} {vs : List V} (t : Top (sep A (sep (csA [cx] σ vs) R)) H) : ∃ x, vs = [x] ∧ Top (sep A (sep (cx σ x) R)) H := by
  cases vs with
  | nil => exact (t.fact (φ := False) fun _ _ _ ⟨_, _, _, _, _, _, ⟨_, _, _, _, _, a, _⟩⟩ => a).elim
  | cons x r =>
    cases r with
    | nil => exact ⟨x, rfl, t.ent (Ent.sepR (Ent.sepL Ent.left))⟩
    | cons y r => exact (t.fact (φ := False) fun _ _ _ ⟨_, _, _, _, _, _, ⟨_, _, _, _, _, ⟨_, _, _, _, _, _, a⟩, _⟩⟩ => a).elim
theorem two_args {σ : St} {vs : List V} (t : Top (sep A (sep (csA [cx, cy] σ vs) R)) H) : ∃ x y, vs = [x, y] ∧ Top (sep A (sep (cx σ x) (sep (cy σ y) R))) H := by
  cases vs with
  | nil => exact (t.fact (φ := False) fun _ _ _ ⟨_, _, _, _, _, _, ⟨_, _, _, _, _, a, _⟩⟩ => a).elim
  | cons x r =>
    have t' : Top (sep (sep A (cx σ x)) (sep (csA [cy] σ r) R)) H := t.ent ((Ent.sepR Ent.assoc).trans Ent.assoc')
    obtain ⟨y, rfl, t2⟩ := one_arg t'
    exact ⟨x, y, rfl, t2.ent Ent.assoc⟩
def rLen (K : PySem.W.Frag) : List V → Hp → VK → Prop := fun xs H Q => ∃ p ys, xs = [.ref p] ∧ (SqL K H p ys ∨ SqT K H p ys) ∧ Q (.int ys.length) H
theorem rn_len [Dat α] {xs : List α} (h : PArg E Γ K0 cx (ppS E.K (xs.map dat))) : RnP E (rLen E.K) [cx] Γ (rV (.int xs.length)) := fun σ H R Q vs t q => by
  obtain ⟨x, rfl, t1⟩ := one_arg t
  obtain ⟨a, ws, rfl, hs, ln, t2⟩ := readS h t1
  rw [List.length_map] at ln
  exact ⟨a, ws, rfl, .inl hs, q _ H (res1 t1 fun F => by rw [ln]; exact .int _)⟩
theorem rn_lenT {ds : List PyData} : RnP E (rLen E.K) [rV (.tuple ds)] Γ (rV (.int ds.length)) := fun σ H R Q vs t q => by
  obtain ⟨x, rfl, t1⟩ := one_arg t
  obtain ⟨F, s, z⟩ := top1 t1
  cases z with
  | tup e r => exact ⟨_, _, rfl, .inr (SqT.of (s _ _ e)), q _ H (res1 t1 fun F => by rw [r.len]; exact .int _)⟩
/-- list(xs) -/
def rLs (K : PySem.W.Frag) : List V → Hp → VK → Prop := fun xs H Q => ∃ p ys, xs = [.ref p] ∧ (SqL K H p ys ∨ SqT K H p ys) ∧ ∀ l, H l = none → Q (.ref l) (upd H l (.lst ys))
theorem rn_list {ds : List PyData} (h : PArg E Γ K0 cx (ppS E.K ds)) : RnP E (rLs E.K) [cx] Γ (rO ds) := fun σ H R Q vs t q => by
  obtain ⟨x, rfl, t1⟩ := one_arg t
  obtain ⟨a, ws, rfl, hs, ln, t2⟩ := readS h t1
  exact ⟨a, ws, rfl, .inl hs, fun l hl => q _ _ ((newL t2 hl as_of).ent (Ent.sepR (Ent.sepR (Ent.right.trans Ent.right))))⟩
theorem rn_listT {ds : List PyData} : RnP E (rLs E.K) [rV (.tuple ds)] Γ (rO ds) := fun σ H R Q vs t q => by
  obtain ⟨x, rfl, t1⟩ := one_arg t
  obtain ⟨F, o, s, k, p⟩ := t1
  have z : Rp F x (.tuple ds) := by
    obtain ⟨_, _, _, _, _, _, ⟨_, _, _, _, _, z, _⟩⟩ := p
    exact z
  cases z with
  | tup e r => exact ⟨_, _, rfl, .inr (SqT.of (s _ _ e)), fun l hl => q _ _ ((newL (addAs s k p r) hl as_of).ent (Ent.sepR (Ent.sepR (Ent.right.trans Ent.right))))⟩
/-- tuple(xs) -/
def rTu (K : PySem.W.Frag) : List V → Hp → VK → Prop := fun xs H Q => ∃ p ys, xs = [.ref p] ∧ ((SqL K H p ys ∧ ∀ l, H l = none → Q (.ref l) (upd H l (.tup ys))) ∨ (SqT K H p ys ∧ Q (.ref p) H))
theorem rn_tuple {ds : List PyData} (h : PArg E Γ K0 cx (ppS E.K ds)) : RnP E (rTu E.K) [cx] Γ (rV (.tuple ds)) := fun σ H R Q vs t q => by
  obtain ⟨x, rfl, t1⟩ := one_arg t
  obtain ⟨a, ws, rfl, hs, ln, t2⟩ := readS h t1
  exact ⟨a, ws, rfl, .inl ⟨hs, fun l hl => q _ _ ((newT t2 hl as_of).ent (Ent.sepR (Ent.sepR (Ent.right.trans Ent.right))))⟩⟩
theorem rn_tupleT {ds : List PyData} : RnP E (rTu E.K) [rV (.tuple ds)] Γ (rV (.tuple ds)) := fun σ H R Q vs t q => by
  obtain ⟨x, rfl, t1⟩ := one_arg t
  obtain ⟨F, s, z⟩ := top1 t1
  cases z with
  | tup e r => exact ⟨_, _, rfl, .inr ⟨SqT.of (s _ _ e), q _ H t1⟩⟩
theorem map_int (ns : List Int) : ns.map (dat : Int → PyData) = ns.map PyData.int := rfl
theorem map_bool (ns : List Bool) : ns.map (dat : Bool → PyData) = ns.map PyData.bool := rfl
theorem ints_of {σ : St} {ns : List Int} (h : PArg E Γ K0 cx (ppS E.K (ns.map dat))) (t : Top (sep (base E σ Γ) (sep (cx σ x) R)) H) : ∃ a, x = .ref a ∧ SqL E.K H a (ns.map V.int) := by
  obtain ⟨a, ws, e, hs, ln, t2⟩ := readS h t
  have e2 : ws = ns.map V.int := t2.fact fun F o s z => (as_of F o s z).ints
  exact ⟨a, e, e2 ▸ hs⟩
theorem bools_of {σ : St} {ns : List Bool} (h : PArg E Γ K0 cx (ppS E.K (ns.map dat))) (t : Top (sep (base E σ Γ) (sep (cx σ x) R)) H) : ∃ a, x = .ref a ∧ SqL E.K H a (ns.map V.bl) := by
  obtain ⟨a, ws, e, hs, ln, t2⟩ := readS h t
  have e2 : ws = ns.map V.bl := t2.fact fun F o s z => (as_of F o s z).bools
  exact ⟨a, e, e2 ▸ hs⟩
theorem rn_sum {ns : List Int} (h : PArg E Γ K0 cx (ppS E.K (ns.map dat))) : RnP E (rSum E.K) [cx] Γ (rV (.int ns.sum)) := fun σ H R Q vs t q => by
  obtain ⟨x, rfl, t1⟩ := one_arg t
  obtain ⟨a, rfl, hs⟩ := ints_of h t1
  exact ⟨a, ns, rfl, hs, q _ H (res1 t1 fun F => .int _)⟩
theorem rn_all {ns : List Bool} (h : PArg E Γ K0 cx (ppS E.K (ns.map dat))) : RnP E (rAll E.K) [cx] Γ (rV (.bool (ns.all id))) := fun σ H R Q vs t q => by
  obtain ⟨x, rfl, t1⟩ := one_arg t
  obtain ⟨a, rfl, hs⟩ := bools_of h t1
  exact ⟨a, ns, rfl, hs, q _ H (res1 t1 fun F => .bl _)⟩
theorem rn_any {ns : List Bool} (h : PArg E Γ K0 cx (ppS E.K (ns.map dat))) : RnP E (rAny E.K) [cx] Γ (rV (.bool (ns.any id))) := fun σ H R Q vs t q => by
  obtain ⟨x, rfl, t1⟩ := one_arg t
  obtain ⟨a, rfl, hs⟩ := bools_of h t1
  exact ⟨a, ns, rfl, hs, q _ H (res1 t1 fun F => .bl _)⟩
/-- the least, the greatest -/
def minL : List Int → Int
  | [] => 0
  | a :: l => l.foldl min a
def maxL : List Int → Int
  | [] => 0
  | a :: l => l.foldl max a
theorem foldl_min_le : ∀ (l : List Int) (a : Int), l.foldl min a ≤ a ∧ ∀ y ∈ l, l.foldl min a ≤ y
  | [], a => ⟨Int.le_refl _, fun y h => by cases h⟩
  | b :: l, a => by
    obtain ⟨h1, h2⟩ := foldl_min_le l (min a b)
    refine ⟨?_, fun y hy => ?_⟩
    · show l.foldl min (min a b) ≤ a
      omega
    · rcases List.mem_cons.mp hy with e | hy
      · subst e
        show l.foldl min (min a y) ≤ y
        omega
      · exact h2 y hy
theorem foldl_min_mem : ∀ (l : List Int) (a : Int), l.foldl min a = a ∨ l.foldl min a ∈ l
  | [], a => .inl rfl
  | b :: l, a => by
    show l.foldl min (min a b) = a ∨ l.foldl min (min a b) ∈ b :: l
    rcases foldl_min_mem l (min a b) with h | h
    · rw [h]
      rcases Int.le_total a b with e | e
      · exact .inl (Int.min_eq_left e)
      · exact .inr (by rw [Int.min_eq_right e]; exact List.mem_cons_self)
    · exact .inr (List.mem_cons_of_mem _ h)
theorem foldl_max_ge : ∀ (l : List Int) (a : Int), a ≤ l.foldl max a ∧ ∀ y ∈ l, y ≤ l.foldl max a
  | [], a => ⟨Int.le_refl _, fun y h => by cases h⟩
  | b :: l, a => by
    obtain ⟨h1, h2⟩ := foldl_max_ge l (max a b)
    refine ⟨?_, fun y hy => ?_⟩
    · show a ≤ l.foldl max (max a b)
      omega
    · rcases List.mem_cons.mp hy with e | hy
      · subst e
        show y ≤ l.foldl max (max a y)
        omega
      · exact h2 y hy
theorem foldl_max_mem : ∀ (l : List Int) (a : Int), l.foldl max a = a ∨ l.foldl max a ∈ l
  | [], a => .inl rfl
  | b :: l, a => by
    show l.foldl max (max a b) = a ∨ l.foldl max (max a b) ∈ b :: l
    rcases foldl_max_mem l (max a b) with h | h
    · rw [h]
      rcases Int.le_total a b with e | e
      · exact .inr (by rw [Int.max_eq_right e]; exact List.mem_cons_self)
      · exact .inl (Int.max_eq_left e)
    · exact .inr (List.mem_cons_of_mem _ h)
theorem minL_mem {l : List Int} (h : l ≠ []) : minL l ∈ l := by
  cases l with
  | nil => exact (h rfl).elim
  | cons a l =>
    rcases foldl_min_mem l a with e | e
    · show l.foldl min a ∈ a :: l
      rw [e]
      exact List.mem_cons_self
    · exact List.mem_cons_of_mem _ e
theorem minL_le {l : List Int} {y : Int} (h : y ∈ l) : minL l ≤ y := by
  cases l with
  | nil => cases h
  | cons a l =>
    obtain ⟨h1, h2⟩ := foldl_min_le l a
    rcases List.mem_cons.mp h with e | h
    · rw [e]
      exact h1
    · exact h2 y h
theorem maxL_mem {l : List Int} (h : l ≠ []) : maxL l ∈ l := by
  cases l with
  | nil => exact (h rfl).elim
  | cons a l =>
    rcases foldl_max_mem l a with e | e
    · show l.foldl max a ∈ a :: l
      rw [e]
      exact List.mem_cons_self
    · exact List.mem_cons_of_mem _ e
theorem le_maxL {l : List Int} {y : Int} (h : y ∈ l) : y ≤ maxL l := by
  cases l with
  | nil => cases h
  | cons a l =>
    obtain ⟨h1, h2⟩ := foldl_max_ge l a
    rcases List.mem_cons.mp h with e | h
    · rw [e]
      exact h1
    · exact h2 y h
def minR (l : List Int) : Res Int := need (l ≠ []) (.ok (minL l))
def maxR (l : List Int) : Res Int := need (l ≠ []) (.ok (maxL l))
theorem rn_min {ns : List Int} (h : PArg E Γ K0 cx (ppS E.K (ns.map dat))) : RnJ E (rMin E.K) [cx] Γ (minR ns) (fun _ => Γ) fun a => rV (.int a) := fun σ H R Q vs t q => by
  obtain ⟨hn, q⟩ := wp_need q
  obtain ⟨x, rfl, t1⟩ := one_arg t
  obtain ⟨a, rfl, hs⟩ := ints_of h t1
  refine ⟨a, ns, rfl, hs, List.length_pos_iff.mpr hn, fun m hm hl => ?_⟩
  have e : m = minL ns := Int.le_antisymm (hl _ (minL_mem hn)) (minL_le hm)
  rw [e]
  exact q _ H (res1 t1 fun F => .int _)
theorem rn_max {ns : List Int} (h : PArg E Γ K0 cx (ppS E.K (ns.map dat))) : RnJ E (rMax E.K) [cx] Γ (maxR ns) (fun _ => Γ) fun a => rV (.int a) := fun σ H R Q vs t q => by
  obtain ⟨hn, q⟩ := wp_need q
  obtain ⟨x, rfl, t1⟩ := one_arg t
  obtain ⟨a, rfl, hs⟩ := ints_of h t1
  refine ⟨a, ns, rfl, hs, List.length_pos_iff.mpr hn, fun m hm hl => ?_⟩
  have e : m = maxL ns := Int.le_antisymm (le_maxL hm) (hl _ (maxL_mem hn))
  rw [e]
  exact q _ H (res1 t1 fun F => .int _)
def rMin2 : List V → Hp → VK → Prop := fun xs H Q => ∃ i j, xs = [.int i, .int j] ∧ Q (.int (if j < i then j else i)) H
def rMax2 : List V → Hp → VK → Prop := fun xs H Q => ∃ i j, xs = [.int i, .int j] ∧ Q (.int (if j > i then j else i)) H
theorem rn_min2 {i j : Int} : RnP E rMin2 [rV (.int i), rV (.int j)] Γ (rV (.int (min i j))) := fun σ H R Q vs t q => by
  obtain ⟨x, y, rfl, t1⟩ := two_args t
  have e1 := int1 t1
  have e2 := int2 t1
  subst e1
  subst e2
  refine ⟨i, j, rfl, q _ H (res2 t1 fun F => ?_)⟩
  have e : (if j < i then j else i) = min i j := by split <;> omega
  rw [e]
  exact .int _
theorem rn_max2 {i j : Int} : RnP E rMax2 [rV (.int i), rV (.int j)] Γ (rV (.int (max i j))) := fun σ H R Q vs t q => by
  obtain ⟨x, y, rfl, t1⟩ := two_args t
  have e1 := int1 t1
  have e2 := int2 t1
  subst e1
  subst e2
  refine ⟨i, j, rfl, q _ H (res2 t1 fun F => ?_)⟩
  have e : (if j > i then j else i) = max i j := by split <;> omega
  rw [e]
  exact .int _
def rInt1 : List V → Hp → VK → Prop := fun xs H Q => (∃ i, xs = [.int i] ∧ Q (.int i) H) ∨ ∃ k, xs = [.bl k] ∧ Q (.int (if k then 1 else 0)) H
theorem rn_intI {i : Int} : RnP E rInt1 [rV (.int i)] Γ (rV (.int i)) := fun σ H R Q vs t q => by
  obtain ⟨x, rfl, t1⟩ := one_arg t
  have e1 := int1 t1
  subst e1
  exact .inl ⟨i, rfl, q _ H t1⟩
def b2i' (b : Bool) : Int := if b then 1 else 0
theorem rn_intB {b : Bool} : RnP E rInt1 [rV (.bool b)] Γ (rV (.int (b2i' b))) := fun σ H R Q vs t q => by
  obtain ⟨x, rfl, t1⟩ := one_arg t
  have e1 := bl_of t1
  subst e1
  exact .inr ⟨b, rfl, q _ H (res1 t1 fun F => .int _)⟩
/-- is None -/
def rIsN' : R2 := fun x y H Q => y = .non ∧ Q (.bl (decide (x = .non))) H
def rNotN' : R2 := fun x y H Q => y = .non ∧ Q (.bl (!decide (x = .non))) H
def isNone : PyData → Bool
  | .none => true
  | _ => false
theorem non_of {F : Hp} {d : PyData} (h : Rp F x d) : decide (x = .non) = isNone d := by cases h <;> rfl
theorem r2_isN {d : PyData} : R2P E rIsN' (rV d) (rV .none) Γ (rV (.bool (isNone d))) := fun σ H R Q x y t q => by
  obtain ⟨F, _, z⟩ := top1 t
  obtain ⟨_, _, z2⟩ := top1 (t.ent Ent.assoc')
  exact ⟨by cases z2; rfl, q _ H (res2 t fun F => by rw [non_of z]; exact .bl _)⟩
theorem r2_notN {d : PyData} : R2P E rNotN' (rV d) (rV .none) Γ (rV (.bool (!isNone d))) := fun σ H R Q x y t q => by
  obtain ⟨F, _, z⟩ := top1 t
  obtain ⟨_, _, z2⟩ := top1 (t.ent Ent.assoc')
  exact ⟨by cases z2; rfl, q _ H (res2 t fun F => by rw [non_of z]; exact .bl _)⟩
/-- isinstance of data -/
def tyName : PyData → String
  | .none => "NoneType"
  | .bool _ => "bool"
  | .int _ => "int"
  | .str _ => "str"
  | .list _ => "list"
  | .tuple _ => "tuple"
  | .dict _ => "dict"
theorem ty_of {F : Hp} {K : PySem.W.Frag} {d : PyData} (s : Same F H) (h : Rp F x d) : TyX K H x (.type (tyName d)) := by
  cases h with
  | non => exact .base .non
  | bl b => exact .base (.bl b)
  | int i => exact .base (.int i)
  | str x => exact .base (.str x)
  | lst e r => exact .base (.lst (s _ _ e))
  | tup e r => exact .base (.tup (s _ _ e))
  | dk0 e => exact .base (.dK (s _ _ e))
/-- isinstance(x, T): the answer by the two types' names -/
theorem rn_isi {d : PyData} {n : String} {b : Bool} (hk : PySem.W.kitOne E.K (.type (tyName d)) (.type n) = some b) : RnP E (rIsi E.K) [rV d, fun _ v => pur (v = .ty n)] Γ (rV (.bool b)) := fun σ H R Q vs t q => by
  obtain ⟨x, y, rfl, t1⟩ := two_args t
  obtain ⟨F, s, z⟩ := top1 t1
  have ey : y = .ty n := t1.fact fun F o s ⟨_, _, _, _, _, _, ⟨_, _, _, _, _, _, ⟨_, _, _, _, _, e, _⟩⟩⟩ => e
  subst ey
  exact ⟨x, .ty n, .type (tyName d), .type n, b, rfl, .ty n, ty_of s z, hk, q _ H (res2 t1 fun F => .bl _)⟩
theorem rn_isiL {ds : List PyData} {n : String} {b : Bool} (h : PArg E Γ K0 cx (ppL ds)) (hk : PySem.W.kitOne E.K (.type "list") (.type n) = some b) : RnP E (rIsi E.K) [cx, fun _ v => pur (v = .ty n)] Γ (rV (.bool b)) := fun σ H R Q vs t q => by
  obtain ⟨x, y, rfl, t1⟩ := two_args t
  obtain ⟨a, ws, rfl, e, _, _⟩ := readL h t1
  have ey : y = .ty n := t1.fact fun F o s ⟨_, _, _, _, _, _, ⟨_, _, _, _, _, _, ⟨_, _, _, _, _, e, _⟩⟩⟩ => e
  subst ey
  exact ⟨_, .ty n, .type "list", .type n, b, rfl, .ty n, .base (.lst e), hk, q _ H (res2 t1 fun F => .bl _)⟩
theorem ev_ty {n : String} : EvP E (tC (.ty n)) Γ fun _ v => pur (v = .ty n) := fun σ H R Q t q => q _ H ((t.addP rfl).ent ((Ent.assoc'.trans (Ent.sepL Ent.comm)).trans Ent.assoc))
end
end Lc
/-! Lc: lists changed in place, loops, comprehensions -/
namespace Lc
open PySem L2
section
variable {E : Ec} {Γ : List Cell} {A B C' R : Asr} {H : Hp} {x y v : V} {d : PyData} {cx cy : RC} {α β γ ρ δ τ : Type} {te ti : TE} {mk : List PyData → Cell} {i : Nat}
open Res

/-! ### lists of a slot, changed -/
/-- slot i's list is written: what is to be shown of the list's new items -/
theorem own_write {ds es : List PyData} {σ : St} {p : Addr} {ws : List V} {A : Asr} (t : Top (sep A (oA p ds)) H) (r : ∀ F o vs, Same F H → A.P F H o → H p = some (.lst vs) → RpAll F vs ds → RpAll F ws es) : Top (sep A (oA p es)) (upd H p (.lst ws)) :=
  ((t.ent Ent.comm).write r).ent Ent.comm
theorem slot_val {σ : St} {p : Addr} (hs : σ[i]? = some (some (.ref p))) (t : Top (sep A (sep (rS i σ x) R)) H) : x = .ref p := t.fact fun F o s ⟨_, _, _, _, _, _, ⟨_, _, _, _, _, z, _⟩⟩ => by
  have z' : σ[i]? = some (some x) := z
  rw [hs] at z'
  cases z'
  rfl
theorem own_at {ds : List PyData} {p : Addr} (t : Top (sep A (oA p ds)) H) : ∃ vs, H p = some (.lst vs) ∧ vs.length = ds.length := by
  obtain ⟨F, o, s, _, _, _, _, _, _, _, ⟨_, vs, e, r⟩⟩ := t
  exact ⟨vs, e, r.len⟩
/-- xs.append(e), the list in slot i -/
theorem es_append {ds : List PyData} {e : PyData} {c : RC} (hk : OwnC mk) (h : EvP E te Γ c) (f : Fz c e) (hi : Γ[i]? = some (mk ds)) :
    EvS1 E (tDrop (tBM E.K "list" rAppend (tVar i) (tCons te tNil))) Γ (need (ds.length < lim) (.ok ())) fun _ => Γ.set i (mk (ds ++ [e])) := fun σ H R D t q => by
  obtain ⟨hn, q⟩ := wp_need q
  obtain ⟨p, hs, t2, _⟩ := take_own (A := R) hk hi t
  obtain ⟨vs, ep, _⟩ := own_at t2
  refine ⟨_, hs, .inl ⟨rfl, vs, SqL.of ep⟩, ?_⟩
  refine h σ H R _ t fun w H1 t1 => ?_
  have t3 : Top (sep (base E σ Γ) (sep (vA e w) R)) H1 := (f σ w _ H1 (t1.ent frontE)).ent frontE
  obtain ⟨p', hs', t4, back⟩ := take_own hk hi t3
  rw [hs] at hs'
  cases hs'
  obtain ⟨vs', ep', ln⟩ := own_at t4
  refine ⟨p, vs', w, rfl, rfl, ep', by rw [ln]; exact lim_lt hn, q σ _ ?_⟩
  have t5 := own_write (σ := σ) (es := ds ++ [e]) (ws := vs' ++ [w]) t4 fun F o vs'' s a e2 r => by
    rw [ep'] at e2
    cases e2
    obtain ⟨_, _, _, _, _, _, ⟨_, _, _, _, _, z, _⟩⟩ := a
    exact r.append (.one z)
  exact (t5.ent (back (ds ++ [e]))).ent (Ent.sepR Ent.right)
theorem es_appendM {m : Res α} {Γ1 : α → List Cell} {ds : α → List PyData} {e : α → PyData} {c : α → RC} (hk : OwnC mk) (h : EvJ E te Γ m Γ1 c) (f : ∀ a, Fz (c a) (e a)) {ds0 : List PyData} (h0 : Γ[i]? = some (mk ds0)) (hi : ∀ a, (Γ1 a)[i]? = some (mk (ds a))) :
    EvS1 E (tDrop (tBM E.K "list" rAppend (tVar i) (tCons te tNil))) Γ (m.bind fun a => need ((ds a).length < lim) (.ok a)) fun a => (Γ1 a).set i (mk (ds a ++ [e a])) := fun σ H R D t q => by
  obtain ⟨p, hs, t2, _⟩ := take_own (A := R) hk h0 t
  obtain ⟨vs, ep, _⟩ := own_at t2
  refine ⟨_, hs, .inl ⟨rfl, vs, SqL.of ep⟩, ?_⟩
  refine h σ H R _ t (wp_mono (wp_bind.mp q) (fun a _ q w H1 t1 => ?_) fun _ x => x σ)
  obtain ⟨hn, q⟩ := wp_need q
  have t3 : Top (sep (base E σ (Γ1 a)) (sep (vA (e a) w) R)) H1 := (f a σ w _ H1 (t1.ent frontE)).ent frontE
  obtain ⟨p', hs', t4, back⟩ := take_own hk (hi a) t3
  rw [hs] at hs'
  cases hs'
  obtain ⟨vs', ep', ln⟩ := own_at t4
  refine ⟨p, vs', w, rfl, rfl, ep', by rw [ln]; exact lim_lt hn, q σ _ ?_⟩
  have t5 := own_write (σ := σ) (es := ds a ++ [e a]) (ws := vs' ++ [w]) t4 fun F o vs'' s a e2 r => by
    rw [ep'] at e2
    cases e2
    obtain ⟨_, _, _, _, _, _, ⟨_, _, _, _, _, z, _⟩⟩ := a
    exact r.append (.one z)
  exact (t5.ent (back (ds a ++ [e a]))).ent (Ent.sepR Ent.right)
theorem getI_some {xs : List α} {k : Int} {a : α} (h : atI xs k = some a) : getI xs k = .ok a := by
  unfold getI
  rw [h]
/-- xs[k] = e -/
def setR {α : Type} (xs : List α) (k : Int) (a : α) : Res (List α) := match ixN xs.length k with
  | some j => .ok (xs.set j a)
  | none => .bad
theorem set_core [Dat α] {xs : List α} {a : α} {k : Int} {σ : St} {v o ik : V} {R : Asr} {Q : Hp → Prop} (hk : OwnC mk) (hi : Γ[i]? = some (mk (xs.map dat))) (ho : σ[i]? = some (some o)) (ei : ik = .int k)
    (t : Top (sep (base E σ Γ) (sep (vA (dat a) v) R)) H) (q : (setR xs k a).wp (fun ys => ∀ H', Top (sep (base E σ (Γ.set i (mk (ys.map dat)))) R) H' → Q H') fun _ => False) : rSetL o ik v H Q := by
  obtain ⟨p, hs, t4, back⟩ := take_own hk hi t
  rw [hs] at ho
  cases ho
  obtain ⟨vs, ep, ln⟩ := own_at t4
  rw [List.length_map] at ln
  unfold setR at q
  cases ej : ixN xs.length k with
  | none =>
    rw [ej] at q
    exact (show False from q).elim
  | some j =>
    rw [ej] at q
    have q : ∀ H', Top (sep (base E σ (Γ.set i (mk ((xs.set j a).map dat)))) R) H' → Q H' := q
    refine ⟨p, vs, k, j, rfl, ei, ep, by rw [ln]; exact ej, q _ ?_⟩
    have t5 := own_write (σ := σ) (es := (xs.set j a).map dat) (ws := vs.set j v) t4 fun F o vs'' s z e2 r => by
      rw [ep] at e2
      cases e2
      obtain ⟨_, _, _, _, _, _, ⟨_, _, _, _, _, z, _⟩⟩ := z
      rw [List.map_set]
      exact RpAll.set z j r
    exact (t5.ent (back _)).ent (Ent.sepR Ent.right)
/-- xs[k] = e: the right side first, then the place -/
theorem es_setitem [Dat α] {m1 : Res γ} {Γ1 : γ → List Cell} {c : γ → RC} {m2 : γ → Res δ} {Γ2 : γ → δ → List Cell} {k : γ → δ → Int} {xs : γ → δ → List α} {a : γ → α} (hk : OwnC mk) (h : EvJ E te Γ m1 Γ1 c) (f : ∀ g, Fz (c g) (dat (a g)))
    (h2 : ∀ g, EvJ E ti (Γ1 g) (m2 g) (Γ2 g) fun d => rV (.int (k g d))) (h0 : ∀ g, ∃ es, (Γ1 g)[i]? = some (mk es)) (hi : ∀ g d, (Γ2 g d)[i]? = some (mk ((xs g d).map dat))) :
    EvS1 E (tAsg te (gSub (tVar i) ti rSetL)) Γ (m1.bind fun g => (m2 g).bind fun d => (setR (xs g d) (k g d) (a g)).bind fun ys => .ok (g, d, ys)) fun r => (Γ2 r.1 r.2.1).set i (mk (r.2.2.map dat)) := fun σ H R D t q => by
  refine h σ H R _ t (wp_mono (wp_bind.mp q) (fun g _ q w H1 t1 => ?_) fun _ x => x σ)
  have t3 : Top (sep (base E σ (Γ1 g)) (sep (vA (dat (a g)) w) R)) H1 := (f g σ w _ H1 (t1.ent frontE)).ent frontE
  obtain ⟨es, e0⟩ := h0 g
  obtain ⟨p, hs, _, _⟩ := take_own hk e0 t3
  refine ⟨_, hs, h2 g σ H1 _ _ t3 (wp_mono (wp_bind.mp q) (fun d _ q ik H2 t4 => ?_) fun _ x => (x σ).drop)⟩
  refine set_core hk (hi g d) hs (int1 t4) (t4.ent (Ent.sepR Ent.right)) ?_
  cases e : setR (xs g d) (k g d) (a g) with
  | ok ys =>
    rw [e] at q
    exact fun H' t' => q σ H' t'
  | err n => unfold setR at e; split at e <;> cases e
  | bad =>
    rw [e] at q
    exact q
theorem es_setitemP [Dat α] {c : RC} {k : Int} {xs : List α} {a : α} (hk : OwnC mk) (h : EvP E te Γ c) (f : Fz c (dat a)) (h2 : EvP E ti Γ (rV (.int k))) (hi : Γ[i]? = some (mk (xs.map dat))) :
    EvS1 E (tAsg te (gSub (tVar i) ti rSetL)) Γ (setR xs k a) fun ys => Γ.set i (mk (ys.map dat)) := fun σ H R D t q => by
  refine h σ H R _ t fun w H1 t1 => ?_
  have t3 : Top (sep (base E σ Γ) (sep (vA (dat a) w) R)) H1 := (f σ w _ H1 (t1.ent frontE)).ent frontE
  obtain ⟨p, hs, _, _⟩ := take_own hk hi t3
  refine ⟨_, hs, h2 σ H1 _ _ t3 fun ik H2 t4 => ?_⟩
  refine set_core hk hi hs (int1 t4) (t4.ent (Ent.sepR Ent.right)) ?_
  cases e : setR xs k a with
  | ok ys =>
    rw [e] at q
    exact fun H' t' => q σ H' t'
  | err n => unfold setR at e; split at e <;> cases e
  | bad =>
    rw [e] at q
    exact q
/-- o[i], by values -/
theorem pget_list {X : Cx} : PGet X (rIxL X.K) := by
  intro pins s σ H o i ov iv Q I r1 r2 h
  obtain ⟨p, xs, i, z, rfl, rfl, hq, he, q⟩ := h
  cases r1
  obtain ⟨t, rfl⟩ := r2
  obtain ⟨its, r, pl, hz⟩ := I.list hq
  obtain ⟨j, h1, h2, h3, h4, h5⟩ := atI_get he
  obtain ⟨w, ew, rw'⟩ := r.get h2
  have hl := r.length
  have hn := line63
  have fin : EP X pins σ Q w s := ⟨z, H, I, rw', q⟩
  by_cases h0 : 0 ≤ i
  · have hj : i.toNat = j := by
      rw [seqIndex_of h0 h5] at h1
      exact Option.some.inj h1
    exact wpAny_getItem_list pl.isList h0 (by omega) (by rw [hj]; simpa using ew) fin
  · have hj : (i + (its.toArray.size : Int)).toNat = j := by
      rw [seqIndex_neg (by omega) h4] at h1
      rw [List.size_toArray, ← hl]
      exact Option.some.inj h1
    exact wpAny_getItem_list_neg pl.isList (by omega) (by rw [List.size_toArray] <;> omega) (by omega) (by rw [hj]; simpa using ew) fin
/-- xs[k] += e, ints -/
theorem es_augitem {f : Int → Int → Int} {k e : Int} {xs : List Int} (hk : OwnC mk) (h : EvP E te Γ (rV (.int e))) (h2 : EvP E ti Γ (rV (.int k))) (hi : Γ[i]? = some (mk (xs.map dat))) :
    EvS1 E (tAugS (tVar i) ti te (rIxL E.K) (ipI f) rSetL) Γ ((getI xs k).bind fun a => setR xs k (f a e)) fun ys => Γ.set i (mk (ys.map dat)) := fun σ H R D t q => by
  obtain ⟨p, hs, t2, _⟩ := take_own (A := R) hk hi t
  refine ⟨_, hs, h2 σ H R _ t fun ik H1 t1 => ?_⟩
  have ek := int1 t1
  subst ek
  have t1 := t1.ent (Ent.sepR (B' := R) Ent.right)
  obtain ⟨p', hs', t3, _⟩ := take_own (A := R) hk hi t1
  rw [hs] at hs'
  cases hs'
  obtain ⟨F, o, s, _, _, _, _, _, _, _, ⟨_, vs, ep, r⟩⟩ := t3
  cases ea : atI xs k with
  | none =>
    unfold getI at q
    rw [ea] at q
    exact (show False from q).elim
  | some a =>
    rw [getI_some ea, Res.bind_ok] at q
    obtain ⟨v, ev, rv⟩ := atI_rp r (show atI (xs.map dat) k = some (dat a) by rw [atI_map, ea]; rfl)
    have ev2 : v = .int a := by cases (show Rp F v (.int a) from rv); rfl
    subst ev2
    refine ⟨p, vs, k, .int a, rfl, rfl, SqL.of ep, ev, h σ H1 R _ t1 fun w H2 t4 => ?_⟩
    have ew := int1 t4
    subst ew
    refine ⟨a, e, rfl, rfl, ?_⟩
    have t5 : Top (sep (base E σ Γ) (sep (vA (dat (f a e)) (.int (f a e))) R)) H2 := res1 t4 fun F => .int _
    refine set_core hk hi hs rfl t5 ?_
    cases es : setR xs k (f a e) with
    | ok ys =>
      rw [es] at q
      exact fun H' t' => q σ H' t'
    | err n => unfold setR at es; split at es <;> cases es
    | bad =>
      rw [es] at q
      exact q
theorem es_augitemM {f : Int → Int → Int} {k : Int} {xs : List Int} {m : Res Int} (hk : OwnC mk) (h : EvJ E te Γ m (fun _ => Γ) fun e => rV (.int e)) (h2 : EvP E ti Γ (rV (.int k))) (hi : Γ[i]? = some (mk (xs.map dat))) :
    EvS1 E (tAugS (tVar i) ti te (rIxL E.K) (ipI f) rSetL) Γ ((getI xs k).bind fun a => m.bind fun e => setR xs k (f a e)) fun ys => Γ.set i (mk (ys.map dat)) := fun σ H R D t q => by
  obtain ⟨p, hs, t2, _⟩ := take_own (A := R) hk hi t
  refine ⟨_, hs, h2 σ H R _ t fun ik H1 t1 => ?_⟩
  have ek := int1 t1
  subst ek
  have t1 := t1.ent (Ent.sepR (B' := R) Ent.right)
  obtain ⟨p', hs', t3, _⟩ := take_own (A := R) hk hi t1
  rw [hs] at hs'
  cases hs'
  obtain ⟨F, o, s, _, _, _, _, _, _, _, ⟨_, vs, ep, r⟩⟩ := t3
  cases ea : atI xs k with
  | none =>
    unfold getI at q
    rw [ea] at q
    exact (show False from q).elim
  | some a =>
    rw [getI_some ea, Res.bind_ok] at q
    obtain ⟨v, ev, rv⟩ := atI_rp r (show atI (xs.map dat) k = some (dat a) by rw [atI_map, ea]; rfl)
    have ev2 : v = .int a := by cases (show Rp F v (.int a) from rv); rfl
    subst ev2
    refine ⟨p, vs, k, .int a, rfl, rfl, SqL.of ep, ev, h σ H1 R _ t1 (wp_mono (wp_bind.mp q) (fun e _ q w H2 t4 => ?_) fun _ x => x σ)⟩
    have ew := int1 t4
    subst ew
    refine ⟨a, e, rfl, rfl, ?_⟩
    have t5 : Top (sep (base E σ Γ) (sep (vA (dat (f a e)) (.int (f a e))) R)) H2 := res1 t4 fun F => .int _
    refine set_core hk hi hs rfl t5 ?_
    cases es : setR xs k (f a e) with
    | ok ys =>
      rw [es] at q
      exact fun H' t' => q σ H' t'
    | err n => unfold setR at es; split at es <;> cases es
    | bad =>
      rw [es] at q
      exact q

/-! ### what is walked -/
/-- while G stands, J goes through the data ds -/
structure ItOk (J : It) (ds : List PyData) (G : Asr) : Prop where
  goes : ∀ i H R, i < ds.length → Top (sep G R) H → J.go i H
  stops : ∀ H R, Top (sep G R) H → J.stop ds.length H
  yields : ∀ i d H x H' R, ds[i]? = some d → Top (sep G R) H → J.yld i H x H' → Top (sep (vA d x) (sep G R)) H'
def EvI (E : Ec) (wi : TI) (Γ : List Cell) {ι : Type} (m : Res ι) (Γ' : ι → List Cell) (ds : ι → List PyData) (Kp : ι → List Cell → Prop) : Prop :=
  ∀ (σ : St) (H : Hp) (R : Asr) (Qi : It → Hp → Prop), Top (sep (base E σ Γ) R) H →
    m.wp (fun a => ∀ J H' B, (∀ σ' Γ'', Kp a Γ'' → ItOk J (ds a) (sep (base E σ' Γ'') B)) → Top (sep (base E σ (Γ' a)) (sep B R)) H' → Qi J H') (Exn E R σ) → wi σ H Qi
theorem itok_list {K : PySem.W.Frag} {a : Addr} {ds : List PyData} {G : Asr} (h : ∀ F H o, Same F H → G.P F H o → ∃ vs, SqL K H a vs ∧ RpAll F vs ds) : ItOk (Itl K a) ds G where
  goes := fun i H R hi t => by
    obtain ⟨F, o, s, k, p⟩ := t
    obtain ⟨vs, hs, r⟩ := h F H o s (Ent.left F H o s p)
    have ln := r.len
    exact ⟨vs, vs[i], hs, by simp [show i < vs.length by omega]⟩
  stops := fun H R t => by
    obtain ⟨F, o, s, k, p⟩ := t
    obtain ⟨vs, hs, r⟩ := h F H o s (Ent.left F H o s p)
    exact ⟨vs, hs, Nat.le_of_eq r.len⟩
  yields := fun i d H x H' R hd t y => by
    obtain ⟨rfl, hy⟩ := y
    obtain ⟨F, o, s, k, p⟩ := t
    obtain ⟨vs, hs, r⟩ := h F _ o s (Ent.left F _ o s p)
    obtain ⟨v, ev, rv⟩ := r.get hd
    have e := hy vs hs
    rw [ev] at e
    cases e
    exact ⟨F, o, s, k, sep_pers (fun _ => rv) p⟩
theorem sqL_of {K : PySem.W.Frag} {ds : List PyData} {F : Hp} {a : Addr} (s : Same F H) (h : Rp F (.ref a) (.list ds)) : ∃ vs, SqL K H a vs ∧ RpAll F vs ds := by
  cases h with
  | lst e r => exact ⟨_, SqL.of (s _ _ e), r⟩
/-- a list that can be walked: where it lies, and what keeps it readable through the loop -/
def Src (E : Ec) (Γ : List Cell) (cx : RC) (ds : List PyData) (Kp : List Cell → Prop) : Prop := ∀ (σ : St) (H : Hp) (R : Asr) (x : V), Top (sep (base E σ Γ) (sep (cx σ x) R)) H → ∃ a B, x = .ref a ∧ (∃ vs, SqL E.K H a vs) ∧
  (∀ σ' Γ'', Kp Γ'' → ∀ F H' o, Same F H' → (sep (base E σ' Γ'') B).P F H' o → ∃ vs, SqL E.K H' a vs ∧ RpAll F vs ds) ∧ Top (sep (base E σ Γ) (sep B R)) H
theorem src_v {ds : List PyData} : Src E Γ (rV (.list ds)) ds fun _ => True := fun σ H R x t => by
  obtain ⟨F, s, z⟩ := top1 t
  have z' := z
  cases z' with
  | lst e r => exact ⟨_, vA (.list ds) (.ref _), rfl, ⟨_, SqL.of (s _ _ e)⟩, fun σ' Γ'' _ F' H' o s' ⟨_, _, _, _, _, _, b⟩ => sqL_of s' b, t⟩
theorem src_o {ds : List PyData} : Src E Γ (rO ds) ds fun _ => True := fun σ H R x t => src_v σ H R x ((oV_freeze (t.ent frontE)).ent frontE)
theorem src_b {ds : List PyData} {v : V} (hi : Γ[i]? = some (cIs v)) (hb : Bw E v (ppS E.K ds)) : Src E Γ (rS i) ds fun _ => True := fun σ H R x t => by
  have t1 := t
  obtain ⟨F, o, s, k, o1, o2, h1, h2, d, ⟨o3, o4, h3, h4, d', a, b⟩, ⟨_, _, _, _, _, ex, _⟩⟩ := t
  obtain ⟨y, ey, hy⟩ := sl_get hi a
  have e1 : y = some v := hy
  subst e1
  have e2 : σ[i]? = some (some x) := ex
  rw [ey] at e2
  cases e2
  obtain ⟨p, vs, rfl, hs, rv⟩ := hb F H _ s b
  refine ⟨p, emp, rfl, ⟨vs, hs⟩, fun σ' Γ'' _ F' H' o s' ⟨_, _, _, _, _, ⟨_, _, _, _, _, _, b⟩, _⟩ => ?_, t1.ent (Ent.sepR (Ent.sepL Ent.emp))⟩
  obtain ⟨p', vs', e', hs', r'⟩ := hb F' H' _ s' b
  cases e'
  exact ⟨vs', hs', r'⟩
theorem src_at {ds : List PyData} {p : Addr} (hi : Γ[i]? = some (cAt p ds)) : Src E Γ (rS i) ds fun Γ'' => Γ''[i]? = some (cAt p ds) := fun σ H R x t => by
  have t1 := t
  obtain ⟨F, o, s, k, o1, o2, h1, h2, d, ⟨o3, o4, h3, h4, d', a, b⟩, ⟨_, _, _, _, _, ex, _⟩⟩ := t
  obtain ⟨y, ey, _, _, _, _, _, hy, ⟨_, vs, e, rv⟩⟩ := sl_get hi a
  have e1 : y = some (.ref p) := hy
  subst e1
  have e2 : σ[i]? = some (some x) := ex
  rw [ey] at e2
  cases e2
  refine ⟨p, emp, rfl, ⟨vs, SqL.of e⟩, fun σ' Γ'' hk F' H' o s' ⟨_, _, _, _, _, ⟨_, _, _, _, _, a, _⟩, _⟩ => ?_, t1.ent (Ent.sepR (Ent.sepL Ent.emp))⟩
  obtain ⟨y, ey, _, _, _, _, _, hy, ⟨_, vs, e, rv⟩⟩ := sl_get hk a
  exact ⟨vs, SqL.of e, rv⟩
theorem ei_list {m : Res γ} {Γ' : γ → List Cell} {c : γ → RC} {ds : γ → List PyData} {Kp : γ → List Cell → Prop} (h : EvJ E te Γ m Γ' c) (hs : ∀ a, Src E (Γ' a) (c a) (ds a) (Kp a)) : EvI E (iList E.K te) Γ m Γ' ds Kp := fun σ H R Qi t q =>
  h σ H R _ t (wp_mono q (fun a _ q v H1 t1 => by
    obtain ⟨p, B, rfl, hv, hr, t2⟩ := hs a σ H1 R v t1
    exact ⟨p, rfl, hv, q _ H1 B (fun σ' Γ'' hk => itok_list (hr σ' Γ'' hk)) t2⟩) fun _ x => x)
/-- enumerate(xs) -/
def enumL {α : Type} (xs : List α) : List (Int × α) := xs.zipIdx.map fun p => ((p.2 : Int), p.1)
theorem enumL_get (xs : List α) (i : Nat) : (enumL xs)[i]? = (xs[i]?).map fun a => ((i : Int), a) := by
  unfold enumL
  rw [List.getElem?_map, List.getElem?_zipIdx, Option.map_map]
  cases xs[i]? with
  | none => rfl
  | some a => simp
theorem enumL_len (xs : List α) : (enumL xs).length = xs.length := by unfold enumL; simp
theorem itok_enum [Dat α] {K : PySem.W.Frag} {a : Addr} {xs : List α} {G : Asr} (h : ∀ F H o, Same F H → G.P F H o → ∃ vs, SqL K H a vs ∧ RpAll F vs (xs.map dat)) : ItOk (Ite K a) ((enumL xs).map dat) G where
  goes := fun i H R hi t => by
    obtain ⟨F, o, s, k, p⟩ := t
    obtain ⟨vs, hs, r⟩ := h F H o s (Ent.left F H o s p)
    have ln := r.len
    rw [List.length_map] at hi ln
    rw [enumL_len] at hi
    exact ⟨vs, vs[i], hs, by simp [show i < vs.length by omega]⟩
  stops := fun H R t => by
    obtain ⟨F, o, s, k, p⟩ := t
    obtain ⟨vs, hs, r⟩ := h F H o s (Ent.left F H o s p)
    rw [List.length_map, enumL_len]
    have ln := r.len
    rw [List.length_map] at ln
    exact ⟨vs, hs, Nat.le_of_eq ln⟩
  yields := fun i d H x H' R hd t y => by
    obtain ⟨T, w, rfl, hT, rfl, hy⟩ := y
    rw [List.getElem?_map, enumL_get] at hd
    cases e : xs[i]? with
    | none =>
      rw [e] at hd
      cases hd
    | some z =>
      rw [e] at hd
      cases hd
      have t' := t
      obtain ⟨F, o, s, k, p⟩ := t'
      refine (Top.allocT (vs := [.int i, w]) (ds := [dat (i : Int), dat z]) t hT fun F o s p => ?_)
      obtain ⟨vs, hs, r⟩ := h F H o s (Ent.left F H o s p)
      obtain ⟨v, ev, rv⟩ := r.get (i := i) (d := dat z) (by rw [List.getElem?_map, e]; rfl)
      have e2 := hy vs hs
      rw [ev] at e2
      cases e2
      exact .cons (.int _) (.one rv)
theorem ei_enum [Dat α] {tr : TA} {xs : List α} {Kp : List Cell → Prop} (h : EvAP E tr Γ [cx]) (hs : Src E Γ cx (xs.map dat) Kp) : EvI E (iEnum E.K tr) Γ (.ok ()) (fun _ => Γ) (fun _ => (enumL xs).map dat) fun _ => Kp := fun σ H R Qi t q =>
  h σ H R _ t fun vs H1 t1 => by
    obtain ⟨x, rfl, t2⟩ := one_arg t1
    obtain ⟨p, B, rfl, ⟨ws, hv⟩, hr, t3⟩ := hs σ H1 R x t2
    exact ⟨p, ws, rfl, hv, q _ H1 B (fun σ' Γ'' hk => itok_enum (hr σ' Γ'' hk)) t3⟩
theorem ei_enumM [Dat α] {tr : TA} {m : Res γ} {Γ' : γ → List Cell} {c : γ → RC} {xs : γ → List α} {Kp : γ → List Cell → Prop} (h : EvA E tr Γ m Γ' fun a => [c a]) (hs : ∀ a, Src E (Γ' a) (c a) ((xs a).map dat) (Kp a)) : EvI E (iEnum E.K tr) Γ m Γ' (fun a => (enumL (xs a)).map dat) Kp := fun σ H R Qi t q =>
  h σ H R _ t (wp_mono q (fun a _ q vs H1 t1 => by
    obtain ⟨x, rfl, t2⟩ := one_arg t1
    obtain ⟨p, B, rfl, ⟨ws, hv⟩, hr, t3⟩ := hs a σ H1 R x t2
    exact ⟨p, ws, rfl, hv, q _ H1 B (fun σ' Γ'' hk => itok_enum (hr σ' Γ'' hk)) t3⟩) fun _ x => x)
/-- zip(xs, ys) -/
theorem itok_zip [Dat α] [Dat β] {K : PySem.W.Frag} {a b : Addr} {xs : List α} {ys : List β} {G : Asr} (h : ∀ F H o, Same F H → G.P F H o → ∃ vs, SqL K H a vs ∧ RpAll F vs (xs.map dat)) (h' : ∀ F H o, Same F H → G.P F H o → ∃ vs, SqL K H b vs ∧ RpAll F vs (ys.map dat)) :
    ItOk (Itz K a b) ((xs.zip ys).map dat) G where
  goes := fun i H R hi t => by
    obtain ⟨F, o, s, k, p⟩ := t
    obtain ⟨vs, hs, r⟩ := h F H o s (Ent.left F H o s p)
    obtain ⟨ws, hs', r'⟩ := h' F H o s (Ent.left F H o s p)
    have ln := r.len
    have ln' := r'.len
    rw [List.length_map] at hi ln ln'
    rw [List.length_zip] at hi
    exact ⟨vs, ws, vs[i]'(by omega), ws[i]'(by omega), hs, hs', by simp [show i < vs.length by omega], by simp [show i < ws.length by omega]⟩
  stops := fun H R t => by
    obtain ⟨F, o, s, k, p⟩ := t
    obtain ⟨vs, hs, r⟩ := h F H o s (Ent.left F H o s p)
    obtain ⟨ws, hs', r'⟩ := h' F H o s (Ent.left F H o s p)
    have ln := r.len
    have ln' := r'.len
    rw [List.length_map] at ln ln'
    exact ⟨vs, ws, hs, hs', by rw [List.length_map, List.length_zip]; omega⟩
  yields := fun i d H x H' R hd t y => by
    obtain ⟨T, u, w, rfl, hT, rfl, hy, hy'⟩ := y
    rw [List.getElem?_map] at hd
    cases e : (xs.zip ys)[i]? with
    | none =>
      rw [e] at hd
      cases hd
    | some z =>
      rw [e] at hd
      cases hd
      obtain ⟨z1, z2⟩ := z
      obtain ⟨e1, e2⟩ := List.getElem?_zip_eq_some.mp e
      refine (Top.allocT (vs := [u, w]) (ds := [dat z1, dat z2]) t hT fun F o s p => ?_)
      obtain ⟨vs, hs, r⟩ := h F H o s (Ent.left F H o s p)
      obtain ⟨ws, hs', r'⟩ := h' F H o s (Ent.left F H o s p)
      obtain ⟨v, ev, rv⟩ := r.get (i := i) (d := dat z1) (by rw [List.getElem?_map, e1]; rfl)
      obtain ⟨v', ev', rv'⟩ := r'.get (i := i) (d := dat z2) (by rw [List.getElem?_map, e2]; rfl)
      have q1 := hy vs hs
      have q2 := hy' ws hs'
      rw [ev] at q1
      rw [ev'] at q2
      cases q1
      cases q2
      exact .cons rv (.one rv')
theorem ei_zip [Dat α] [Dat β] {tr : TA} {m : Res γ} {Γ' : γ → List Cell} {c c' : γ → RC} {xs : γ → List α} {ys : γ → List β} {Kp Kp' : γ → List Cell → Prop} (h : EvA E tr Γ m Γ' fun a => [c a, c' a]) (hs : ∀ a, Src E (Γ' a) (c a) ((xs a).map dat) (Kp a)) (hs' : ∀ a, Src E (Γ' a) (c' a) ((ys a).map dat) (Kp' a)) :
    EvI E (iZip E.K tr) Γ m Γ' (fun a => ((xs a).zip (ys a)).map dat) fun a Γ'' => Kp a Γ'' ∧ Kp' a Γ'' := fun σ H R Qi t q =>
  h σ H R _ t (wp_mono q (fun a _ q vs H1 t1 => by
    obtain ⟨x, y, rfl, t2⟩ := two_args t1
    obtain ⟨p, B, rfl, ⟨ws, hv⟩, hr, t3⟩ := hs a σ H1 _ x t2
    obtain ⟨p', B', rfl, ⟨ws', hv'⟩, hr', t4⟩ := hs' a σ H1 _ y (t3.ent rotE)
    refine ⟨p, p', ws, ws', rfl, hv, hv', q _ H1 (sep B' B) (fun σ' Γ'' hk => itok_zip (fun F H' o s z => ?_) fun F H' o s z => ?_) (t4.ent (Ent.sepR Ent.assoc'))⟩
    · exact hr σ' Γ'' hk.1 F H' o s (Ent.sepR Ent.right F H' o s z)
    · exact hr' σ' Γ'' hk.2 F H' o s (Ent.sepR Ent.left F H' o s z)) fun _ x => x)
/-- range(n), range(a, b) -/
def rangeL (a b : Int) : List Int := (List.range (b - a).toNat).map fun k : Nat => a + (k : Int)
theorem rangeL_get (a b : Int) {k : Nat} (h : k < (b - a).toNat) : (rangeL a b)[k]? = some (a + (k : Int)) := by
  unfold rangeL
  simp [h]
theorem rangeL_len (a b : Int) : (rangeL a b).length = (b - a).toNat := by unfold rangeL; simp
theorem itok_range {a b : Int} {G : Asr} : ItOk (Itr a (b - a).toNat) ((rangeL a b).map dat) G where
  goes := fun i H R hi t => by
    rw [List.length_map, rangeL_len] at hi
    exact hi
  stops := fun H R t => by
    rw [List.length_map, rangeL_len]
    exact Nat.le_refl _
  yields := fun i d H x H' R hd t y => by
    obtain ⟨rfl, rfl⟩ := y
    rw [List.getElem?_map] at hd
    cases e : (rangeL a b)[i]? with
    | none =>
      rw [e] at hd
      cases hd
    | some z =>
      have hi := (List.getElem?_eq_some_iff.mp e).1
      rw [rangeL_len] at hi
      rw [rangeL_get a b hi] at e
      rw [rangeL_get a b hi] at hd
      cases hd
      exact t.addV fun F _ _ _ => .int _
def rangeR (a b : Int) : Res (List Int) := need (-(2 ^ 62) ≤ a ∧ a < 2 ^ 62 ∧ -(2 ^ 62) ≤ b ∧ b < 2 ^ 62) (.ok (rangeL a b))
theorem ei_range1 {tr : TA} {n : Int} (h : EvAP E tr Γ [rV (.int n)]) : EvI E (iRng1 tr) Γ (rangeR 0 n) (fun _ => Γ) (fun xs => xs.map dat) fun _ _ => True := fun σ H R Qi t q =>
  h σ H R _ t fun vs H1 t1 => by
    obtain ⟨⟨_, _, h1, h2⟩, q⟩ := wp_need q
    obtain ⟨x, rfl, t2⟩ := one_arg t1
    have e := int1 t2
    subst e
    refine ⟨n, rfl, h1, h2, ?_⟩
    have e : Itr 0 n.toNat = Itr 0 (n - 0).toNat := by rw [Int.sub_zero]
    rw [e]
    exact q _ H1 emp (fun _ _ _ => itok_range) (t2.ent (Ent.sepR (Ent.sepL Ent.emp)))
theorem ei_range2 {tr : TA} {a b : Int} (h : EvAP E tr Γ [rV (.int a), rV (.int b)]) : EvI E (iRng2 tr) Γ (rangeR a b) (fun _ => Γ) (fun xs => xs.map dat) fun _ _ => True := fun σ H R Qi t q =>
  h σ H R _ t fun vs H1 t1 => by
    obtain ⟨⟨h1, h2, h3, h4⟩, q⟩ := wp_need q
    obtain ⟨x, y, rfl, t2⟩ := two_args t1
    have e := int1 t2
    subst e
    have e := int2 t2
    subst e
    exact ⟨a, b, rfl, ⟨h1, h2, h3, h4⟩, q _ H1 emp (fun _ _ _ => itok_range) (t2.ent (Ent.sepR (Ent.sep Ent.emp Ent.right)))⟩
theorem ei_range1M {tr : TA} {m : Res α} {Γ1 : α → List Cell} {n : α → Int} (h : EvA E tr Γ m Γ1 fun a => [rV (.int (n a))]) : EvI E (iRng1 tr) Γ (m.bind fun a => (rangeR 0 (n a)).bind fun xs => .ok (a, xs)) (fun p => Γ1 p.1) (fun p => p.2.map dat) fun _ _ => True := fun σ H R Qi t q =>
  h σ H R _ t (wp_mono (wp_bind.mp q) (fun a _ q vs H1 t1 => by
    obtain ⟨⟨_, _, h1, h2⟩, q⟩ := wp_need (wp_bind.mp q)
    obtain ⟨x, rfl, t2⟩ := one_arg t1
    have e := int1 t2
    subst e
    refine ⟨n a, rfl, h1, h2, ?_⟩
    have e : Itr 0 (n a).toNat = Itr 0 (n a - 0).toNat := by rw [Int.sub_zero]
    rw [e]
    exact q _ H1 emp (fun _ _ _ => itok_range) (t2.ent (Ent.sepR (Ent.sepL Ent.emp)))) fun _ x => x)
theorem ei_range2M {tr : TA} {m : Res α} {Γ1 : α → List Cell} {a b : α → Int} (h : EvA E tr Γ m Γ1 fun r => [rV (.int (a r)), rV (.int (b r))]) : EvI E (iRng2 tr) Γ (m.bind fun r => (rangeR (a r) (b r)).bind fun xs => .ok (r, xs)) (fun p => Γ1 p.1) (fun p => p.2.map dat) fun _ _ => True := fun σ H R Qi t q =>
  h σ H R _ t (wp_mono (wp_bind.mp q) (fun r _ q vs H1 t1 => by
    obtain ⟨⟨h1, h2, h3, h4⟩, q⟩ := wp_need (wp_bind.mp q)
    obtain ⟨x, y, rfl, t2⟩ := two_args t1
    have e := int1 t2
    subst e
    have e := int2 t2
    subst e
    exact ⟨a r, b r, rfl, ⟨h1, h2, h3, h4⟩, q _ H1 emp (fun _ _ _ => itok_range) (t2.ent (Ent.sepR (Ent.sep Ent.emp Ent.right)))⟩) fun _ x => x)

/-! ### targets -/
/-- the same but at some places -/
def Sm (ix : List Nat) (σ σ' : St) : Prop := σ'.length = σ.length ∧ ∀ i, i ∉ ix → σ'[i]? = σ[i]?
def EvG (E : Ec) (g : TG) (d : PyData) (Γ Γ' : List Cell) (ix : List Nat) : Prop := ∀ (σ : St) (H : Hp) (R : Asr) (Q : St → Hp → Prop) (v : V), Top (sep (base E σ Γ) (sep (vA d v) R)) H → (∀ σ' H', Sm ix σ σ' → Top (sep (base E σ' Γ') R) H' → Q σ' H') → g v σ H Q
def EvGs (E : Ec) (g : TGs) (ds : List PyData) (Γ Γ' : List Cell) (ix : List Nat) : Prop := ∀ (σ : St) (H : Hp) (R : Asr) (Q : St → Hp → Prop) (vs : List V), Top (sep (base E σ Γ) (sep (vAs ds vs) R)) H → (∀ σ' H', Sm ix σ σ' → Top (sep (base E σ' Γ') R) H' → Q σ' H') → g vs σ H Q
theorem eg_name (hi : i < Γ.length) : EvG E (gName i) d Γ (Γ.set i (cV d)) [i] := fun σ H R Q v t q => q _ H ⟨List.length_set, fun j hj => List.getElem?_set_ne fun e => hj (by simp [e])⟩ (put_slot (c := rV d) sto_v hi t)
theorem egs_nil : EvGs E gNil [] Γ Γ [] := fun σ H R Q vs t q => by
  have r : RpAll (fun _ => none) ([] : List V) [] := .nil
  have e : vs = [] := by
    obtain ⟨F, o, s, k, p⟩ := t
    have z := as_of F o s p
    cases z
    rfl
  exact ⟨e, q σ H ⟨rfl, fun _ _ => rfl⟩ (t.ent (Ent.sepR Ent.right))⟩
theorem egs_cons {g : TG} {gs : TGs} {ds : List PyData} {Γ1 Γ2 : List Cell} {ix iy : List Nat} (h : EvG E g d Γ Γ1 ix) (hr : EvGs E gs ds Γ1 Γ2 iy) : EvGs E (gCons g gs) (d :: ds) Γ Γ2 (ix ++ iy) := fun σ H R Q vs t q => by
  have t0 := t
  obtain ⟨F, o, s, k, p⟩ := t
  have z := as_of F o s p
  cases z with
  | cons hv hvs =>
    rename_i v vs
    refine ⟨v, vs, rfl, ?_⟩
    have t1 : Top (sep (base E σ Γ) (sep (vA d v) (sep (vAs ds vs) R))) H := t0.ent (Ent.sepR fun F H o s ⟨o1, o2, h1, h2, d', a, b⟩ => by
      cases a with
      | cons x y => exact sep_pers (fun _ => x) (sep_pers (fun _ => y) (R.up h2 b)))
    exact h σ H _ _ v t1 fun σ' H' e1 t2 => hr σ' H' R Q vs t2 fun σ2 H2 e2 t3 => q σ2 H2 ⟨e2.1.trans e1.1, fun j hj => (e2.2 j fun z => hj (List.mem_append_right _ z)).trans (e1.2 j fun z => hj (List.mem_append_left _ z))⟩ t3
theorem eg_tup {gs : TGs} {ds : List PyData} {n : Nat} {Γ' : List Cell} {ix : List Nat} (h : EvGs E gs ds Γ Γ' ix) (hn : ds.length = n) : EvG E (gTup E.K n gs) (.tuple ds) Γ Γ' ix := fun σ H R Q v t q => by
  obtain ⟨F, o, s, k, p⟩ := t
  have z : Rp F v (.tuple ds) := by
    obtain ⟨_, _, _, _, _, _, ⟨_, _, _, _, _, z, _⟩⟩ := p
    exact z
  cases z with
  | tup e r => exact ⟨_, _, rfl, SqT.of (s _ _ e), r.len.trans hn, h σ H R Q _ ((addAs s k p r).ent (Ent.sepR (Ent.sepR Ent.right))) q⟩
/-- a, b = e (data) -/
theorem es_asgG {m : Res γ} {Γ1 : γ → List Cell} {c : γ → RC} {g : TG} {ds : γ → PyData} {Γ' : γ → List Cell} (h : EvJ E te Γ m Γ1 c) (f : ∀ a, Fz (c a) (ds a)) {ix : List Nat} (hg : ∀ a, EvG E g (ds a) (Γ1 a) (Γ' a) ix) : EvS1 E (tAsg te g) Γ m Γ' := fun σ H R D t q =>
  h σ H R _ t (wp_mono q (fun a _ q v H1 t1 => hg a σ H1 R _ v ((f a σ v _ H1 (t1.ent frontE)).ent frontE) fun σ' H' _ t' => q σ' H' t') fun _ x => x σ)

/-! ### for -/
inductive Lp (σ ρ : Type) where
  | next (s : σ) | brk (s : σ) | ret (r : ρ)
/-- a for whose body only goes on -/
def foldR {α σ : Type} : List α → σ → (σ → α → Res σ) → Res σ
  | [], s, _ => .ok s
  | a :: l, s, f => (f s a).bind fun s' => foldR l s' f
def forR {α σ ρ : Type} : List α → σ → (σ → α → Res (Lp σ ρ)) → Res (Jn σ ρ)
  | [], s, _ => .ok (.go s)
  | a :: l, s, f => (f s a).bind fun c => match c with
    | .next s' => forR l s' f
    | .brk s' => .ok (.go s')
    | .ret r => .ok (.out r)
def Lp.post {σ ρ : Type} (Γs : σ → List Cell) (post : ρ → Fin) : Lp σ ρ → Fin
  | .next s => .lp (Γs s)
  | .brk s => .bk (Γs s)
  | .ret r => (post r).out
end
section
variable {E : Ec} {Γ : List Cell} {R : Asr} {H : Hp} {α β γ ρ τ ι : Type} {te ti : TE} {wi : TI} {g : TG} {tb : TS} {post : ρ → Fin}
open Res
theorem out_out : ∀ f : Fin, f.out.out = f.out.out := fun _ => rfl
theorem Fin.out_loop {E : Ec} {R : Asr} {D : Ends} {nx bk ct : St → Hp → Prop} : ∀ {f : Fin}, (∀ Γ, f ≠ .bk Γ) → (∀ Γ, f ≠ .ct Γ) → (∀ Γ, f ≠ .lp Γ) → f.out.ok E R D → f.out.ok E R { D with nx := nx, bk := bk, ct := ct }
  | .nx _, _, _, _, _ => trivial
  | .lp Γ, _, _, h, _ => (h Γ rfl).elim
  | .bk Γ, h, _, _, _ => (h Γ rfl).elim
  | .ct Γ, _, h, _, _ => (h Γ rfl).elim
  | .rt _ _, _, _, _, h => h
  | .no, _, _, _, _ => trivial
theorem es_for [Dat α] {mi : Res ι} {Γ0 : ι → List Cell} {xs : ι → List α} {Kp : ι → List Cell → Prop} {Γs : τ → List Cell} {Γt : τ → α → List Cell} {s0 : ι → τ} {f : τ → α → Res (Lp τ ρ)}
    (hi : EvI E wi Γ mi Γ0 (fun a => (xs a).map dat) Kp) (hk : ∀ a s, Kp a (Γs s)) (h0 : ∀ a, Le (Γ0 a) (Γs (s0 a))) {ix : List Nat} (hg : ∀ s x, EvG E g (dat x) (Γs s) (Γt s x) ix) (hb : ∀ s x, EvS E tb (Γt s x) (f s x) (Lp.post Γs post))
    (hp : ∀ r, (∀ Γ, post r ≠ .bk Γ) ∧ (∀ Γ, post r ≠ .ct Γ) ∧ ∀ Γ, post r ≠ .lp Γ) :
    EvS E (tFor wi g tb) Γ (mi.bind fun a => forR (xs a) (s0 a) f) (Jn.post Γs post) := fun σ H R D t q =>
  hi σ H R _ t (wp_mono (wp_bind.mp q) (fun a _ q J H1 B hJ t1 => by
    refine ⟨fun i mm σ' H' => mm = (xs a).length - i ∧ i ≤ (xs a).length ∧ ∃ s, Top (sep (base E σ' (Γs s)) (sep B R)) H' ∧ (forR ((xs a).drop i) s f).wp (fun b => (Jn.post Γs post b).ok E R D) (ExnS E R),
      ⟨_, rfl, Nat.zero_le _, s0 a, t1.ent (Ent.sepL (Ent.sepL (h0 a).ent)), q⟩, ?_⟩
    rintro i mm σ' H' ⟨rfl, hle, s, t2, q2⟩
    have ok := hJ σ' (Γs s) (hk a s)
    have t2' : Top (sep (sep (base E σ' (Γs s)) B) R) H' := t2.ent Ent.assoc'
    by_cases hlt : i < (xs a).length
    · refine .inr ⟨ok.goes i H' R (by rw [List.length_map]; exact hlt) t2', ?_⟩
      have ed : (xs a).drop i = (xs a)[i] :: (xs a).drop (i + 1) := List.drop_eq_getElem_cons hlt
      rw [ed] at q2
      refine ⟨fun σ2 H2 => ∃ s', Top (sep (base E σ2 (Γs s')) (sep B R)) H2 ∧ (forR ((xs a).drop (i + 1)) s' f).wp (fun b => (Jn.post Γs post b).ok E R D) (ExnS E R), fun σ2 H2 ⟨s', t3, q3⟩ => ⟨_, by omega, rfl, hlt, s', t3, q3⟩, fun x H2 hy => ?_⟩
      have t3 := ok.yields i (dat (xs a)[i]) H' x H2 R (by simp [hlt]) t2' hy
      have t4 : Top (sep (base E σ' (Γs s)) (sep (vA (dat (xs a)[i]) x) (sep B R))) H2 := (t3.ent (Ent.sepR Ent.assoc)).ent frontE
      refine hg s (xs a)[i] σ' H2 _ _ x t4 fun σ3 H3 _ t5 => ?_
      refine hb s (xs a)[i] σ3 H3 (sep B R) _ t5 (wp_mono (wp_bind.mp q2) (fun c _ q3 => ?_) fun _ x σ => (x σ).drop)
      cases c with
      | next s' => exact fun σ4 H4 t6 => ⟨⟨s', t6, q3⟩, ⟨s', t6, q3⟩⟩
      | brk s' => exact fun σ4 H4 t6 => q3 σ4 H4 (t6.ent (Ent.sepR Ent.right))
      | ret r =>
        have q4 : (post r).out.ok E R D := q3
        obtain ⟨p1, p2, p3⟩ := hp r
        have q5 := Fin.out_loop (nx := fun σ2 H2 => ∃ s', Top (sep (base E σ2 (Γs s')) (sep B R)) H2 ∧ (forR ((xs a).drop (i + 1)) s' f).wp (fun b => (Jn.post Γs post b).ok E R D) (ExnS E R)) (bk := D.nx)
          (ct := fun σ2 H2 => ∃ s', Top (sep (base E σ2 (Γs s')) (sep B R)) H2 ∧ (forR ((xs a).drop (i + 1)) s' f).wp (fun b => (Jn.post Γs post b).ok E R D) (ExnS E R)) p1 p2 p3 q4
        show (post r).out.ok E (sep B R) _
        cases e : post r with
        | nx Γ => trivial
        | lp Γ => exact (p3 Γ e).elim
        | bk Γ => exact (p1 Γ e).elim
        | ct Γ => exact (p2 Γ e).elim
        | no => trivial
        | rt Γ c =>
          rw [e] at q5
          exact fun σ4 v H4 t6 => q5 σ4 v H4 (t6.ent (Ent.sepR (Ent.sepR Ent.right)))
    · have e : i = (xs a).length := by omega
      subst e
      rw [List.drop_length] at q2
      refine .inl ⟨?_, q2 σ' H' (t2.ent (Ent.sepR Ent.right))⟩
      have z := ok.stops H' R t2'
      rw [List.length_map] at z
      exact z) fun _ x => x σ)
theorem es_for0 [Dat α] {mi : Res ι} {Γ0 : ι → List Cell} {xs : ι → List α} {Kp : ι → List Cell → Prop} {Γs : τ → List Cell} {Γt : τ → α → List Cell} {s0 : ι → τ} {f : τ → α → Res τ}
    (hi : EvI E wi Γ mi Γ0 (fun a => (xs a).map dat) Kp) (hk : ∀ a s, Kp a (Γs s)) (h0 : ∀ a, Le (Γ0 a) (Γs (s0 a))) {ix : List Nat} (hg : ∀ s x, EvG E g (dat x) (Γs s) (Γt s x) ix) (hb : ∀ s x, EvS E tb (Γt s x) (f s x) fun s' => .lp (Γs s')) :
    EvS1 E (tFor wi g tb) Γ (mi.bind fun a => foldR (xs a) (s0 a) f) Γs := fun σ H R D t q =>
  hi σ H R _ t (wp_mono (wp_bind.mp q) (fun a _ q J H1 B hJ t1 => by
    refine ⟨fun i mm σ' H' => mm = (xs a).length - i ∧ i ≤ (xs a).length ∧ ∃ s, Top (sep (base E σ' (Γs s)) (sep B R)) H' ∧ (foldR ((xs a).drop i) s f).wp (fun b => (Fin.nx (Γs b)).ok E R D) (ExnS E R),
      ⟨_, rfl, Nat.zero_le _, s0 a, t1.ent (Ent.sepL (Ent.sepL (h0 a).ent)), q⟩, ?_⟩
    rintro i mm σ' H' ⟨rfl, hle, s, t2, q2⟩
    have ok := hJ σ' (Γs s) (hk a s)
    have t2' : Top (sep (sep (base E σ' (Γs s)) B) R) H' := t2.ent Ent.assoc'
    by_cases hlt : i < (xs a).length
    · refine .inr ⟨ok.goes i H' R (by rw [List.length_map]; exact hlt) t2', ?_⟩
      have ed : (xs a).drop i = (xs a)[i] :: (xs a).drop (i + 1) := List.drop_eq_getElem_cons hlt
      rw [ed] at q2
      refine ⟨fun σ2 H2 => ∃ s', Top (sep (base E σ2 (Γs s')) (sep B R)) H2 ∧ (foldR ((xs a).drop (i + 1)) s' f).wp (fun b => (Fin.nx (Γs b)).ok E R D) (ExnS E R), fun σ2 H2 ⟨s', t3, q3⟩ => ⟨_, by omega, rfl, hlt, s', t3, q3⟩, fun x H2 hy => ?_⟩
      have t3 := ok.yields i (dat (xs a)[i]) H' x H2 R (by simp [hlt]) t2' hy
      have t4 : Top (sep (base E σ' (Γs s)) (sep (vA (dat (xs a)[i]) x) (sep B R))) H2 := (t3.ent (Ent.sepR Ent.assoc)).ent frontE
      refine hg s (xs a)[i] σ' H2 _ _ x t4 fun σ3 H3 _ t5 => ?_
      exact hb s (xs a)[i] σ3 H3 (sep B R) _ t5 (wp_mono (wp_bind.mp q2) (fun s' _ q3 σ4 H4 t6 => ⟨⟨s', t6, q3⟩, ⟨s', t6, q3⟩⟩) fun _ x σ => (x σ).drop)
    · have e : i = (xs a).length := by omega
      subst e
      rw [List.drop_length] at q2
      refine .inl ⟨?_, q2 σ' H' (t2.ent (Ent.sepR Ent.right))⟩
      have z := ok.stops H' R t2'
      rw [List.length_map] at z
      exact z) fun _ x => x σ)

/-! ### while -/
def whileR {σ ρ : Type} : Nat → σ → (σ → Res Bool) → (σ → Res (Lp σ ρ)) → Res (Jn σ ρ)
  | 0, _, _, _ => .bad
  | n + 1, s, t, f => (t s).bind fun b => if b then (f s).bind fun c => match c with
      | .next s' => whileR n s' t f
      | .brk s' => .ok (.go s')
      | .ret r => .ok (.out r)
    else .ok (.go s)
theorem es_while {tt : TT} {Γs : τ → List Cell} {s0 : τ} {n : Nat} {mt : τ → Res Bool} {f : τ → Res (Lp τ ρ)} (h0 : Le Γ (Γs s0)) (ht : ∀ s, EvT E tt (Γs s) (mt s) (fun _ => Γs s) id) (hb : ∀ s, EvS E tb (Γs s) (f s) (Lp.post Γs post))
    (hp : ∀ r, (∀ Γ, post r ≠ .bk Γ) ∧ (∀ Γ, post r ≠ .ct Γ) ∧ ∀ Γ, post r ≠ .lp Γ) : EvS E (tWhile tt tb) Γ (whileR n s0 mt f) (Jn.post Γs post) := fun σ H R D t q => by
  refine ⟨fun mm σ' H' => ∃ s, Top (sep (base E σ' (Γs s)) R) H' ∧ (whileR mm s mt f).wp (fun b => (Jn.post Γs post b).ok E R D) (ExnS E R), ⟨n, s0, t.ent (Ent.sepL (Ent.sepL h0.ent)), q⟩, ?_⟩
  rintro mm σ' H' ⟨s, t2, q2⟩
  cases mm with
  | zero => exact (show False from q2).elim
  | succ n =>
    refine ht s σ' H' R _ t2 (wp_mono (wp_bind.mp q2) (fun b _ q3 H3 t3 => ?_) fun _ x => x σ')
    cases b with
    | false => exact q3 σ' H3 t3
    | true =>
      refine ⟨fun σ2 H2 => ∃ s', Top (sep (base E σ2 (Γs s')) R) H2 ∧ (whileR n s' mt f).wp (fun b => (Jn.post Γs post b).ok E R D) (ExnS E R), fun σ2 H2 ⟨s', t4, q4⟩ => ⟨n, Nat.lt_succ_self _, s', t4, q4⟩, ?_⟩
      refine hb s σ' H3 R _ t3 (wp_mono (wp_bind.mp (show (Res.bind (f s) _).wp _ _ from q3)) (fun c _ q4 => ?_) fun _ x => x)
      cases c with
      | next s' => exact fun σ4 H4 t6 => ⟨⟨s', t6, q4⟩, ⟨s', t6, q4⟩⟩
      | brk s' => exact fun σ4 H4 t6 => q4 σ4 H4 t6
      | ret r =>
        have q5 : (post r).out.ok E R D := q4
        obtain ⟨p1, p2, p3⟩ := hp r
        exact Fin.out_loop p1 p2 p3 q5
end
end Lc
/-! Lc: comprehensions; a def's promise from its body -/
namespace Lc
open PySem L2
def Ec.calm (E : Ec) : Ec := { E with W := fun _ _ _ _ => False }
theorem calm_calm {E : Ec} : Calm E.calm := fun _ _ _ _ h => h
section
variable {E : Ec} {Γ : List Cell} {R A : Asr} {H : Hp} {α β γ ρ τ ι : Type} {te : TE} {tt : TT} {wi : TI} {g : TG}
open Res
theorem EvJ.pre {m : Res γ} {Γ' : γ → List Cell} {c : γ → RC} {Δ : List Cell} (l : Le Γ Δ) (h : EvJ E te Δ m Γ' c) : EvJ E te Γ m Γ' c := fun σ H R Q t q => h σ H R Q (t.ent (Ent.sepL (Ent.sepL l.ent))) q
theorem EvS.pre {tb : TS} {m : Res γ} {post : γ → Fin} {Δ : List Cell} (l : Le Γ Δ) (h : EvS E tb Δ m post) : EvS E tb Γ m post := fun σ H R D t q => h σ H R D (t.ent (Ent.sepL (Ent.sepL l.ent))) q
theorem set_any {i : Nat} (h : Γ[i]? = some cAny) : Γ.set i cAny = Γ := by
  obtain ⟨hl, e⟩ := List.getElem?_eq_some_iff.mp h
  rw [← e, List.set_getElem_self]
theorem wipe_in : ∀ {vs : List Nat} {σ : St}, (∀ i ∈ vs, Γ[i]? = some cAny) → Ent (sl σ Γ) (sl (wipe σ vs) Γ)
  | [], σ, _ => Ent.refl _
  | v :: vs, σ, h => by
    have hv := h v List.mem_cons_self
    have ih := wipe_in (vs := vs) (σ := σ) fun i hi => h i (List.mem_cons_of_mem _ hi)
    refine ih.trans fun F H o s a => ?_
    show (sl ((wipe σ vs).set v none) Γ).P F H o
    rw [← set_any hv]
    exact sl_set (List.getElem?_eq_some_iff.mp hv).1 (sep_pers (fun _ => trivial) a)
theorem sm_out {ix : List Nat} : ∀ {vs : List Nat} {σ σ' : St}, (∀ i ∈ vs, Γ[i]? = some cAny) → σ'.length = σ.length → (∀ i, i ∉ vs → σ'[i]? = σ[i]?) → Ent (sl σ' Γ) (sl σ Γ)
  | [], σ, σ', _, hl, h => by
    have e : σ' = σ := List.ext_getElem? fun i => h i (by simp)
    rw [e]
    exact Ent.refl _
  | v :: vs, σ, σ', hc, hl, h => by
    have hv := hc v List.mem_cons_self
    have hlt := (List.getElem?_eq_some_iff.mp hv).1
    by_cases hs : v < σ.length
    · have step : Ent (sl σ' Γ) (sl (σ'.set v σ[v]) Γ) := fun F H o s a => by
        rw [← set_any hv]
        exact sl_set hlt (sep_pers (fun _ => trivial) a)
      refine step.trans (sm_out (ix := ix) (vs := vs) (σ := σ) (σ' := σ'.set v σ[v]) (fun i hi => hc i (List.mem_cons_of_mem _ hi)) (by rw [List.length_set, hl]) fun i hi => ?_)
      by_cases e : i = v
      · subst e
        rw [List.getElem?_set_self (by omega), List.getElem?_eq_getElem hs]
      · rw [List.getElem?_set_ne (Ne.symm e)]
        exact h i fun z => (List.mem_cons.mp z).elim e hi
    · exact fun F H o s a => by
        have e := sl_len (σ := σ') (Γ := Γ) ⟨F, H, o, a⟩
        omega
theorem wipe_get : ∀ {vs : List Nat} {σ : St} {i : Nat}, i ∉ vs → (wipe σ vs)[i]? = σ[i]?
  | [], _, _, _ => rfl
  | v :: vs, σ, i, h => by
    show ((wipe σ vs).set v none)[i]? = σ[i]?
    rw [List.getElem?_set_ne fun e => h (by simp [e])]
    exact wipe_get fun z => h (List.mem_cons_of_mem _ z)
theorem wipe_at : ∀ {vs : List Nat} {σ : St} {i : Nat}, i ∈ vs → i < σ.length → (wipe σ vs)[i]? = some none
  | v :: vs, σ, i, h, hl => by
    show ((wipe σ vs).set v none)[i]? = some none
    by_cases e : i = v
    · subst e
      rw [List.getElem?_set_self (by rw [wipe_length]; exact hl)]
    · rw [List.getElem?_set_ne (Ne.symm e)]
      exact wipe_at ((List.mem_cons.mp h).resolve_left e) hl
theorem wipe_sm {ix vs : List Nat} {σ σ' : St} (h : Sm ix (wipe σ vs) σ') (hx : ∀ i ∈ ix, i ∈ vs) : wipe σ' vs = wipe σ vs := by
  have hl : σ'.length = σ.length := h.1.trans (wipe_length σ vs)
  refine List.ext_getElem? fun i => ?_
  by_cases hi : i ∈ vs
  · by_cases hlt : i < σ.length
    · rw [wipe_at hi hlt, wipe_at hi (by omega)]
    · rw [List.getElem?_eq_none (by rw [wipe_length]; omega), List.getElem?_eq_none (by rw [wipe_length]; omega)]
  · rw [wipe_get hi, h.2 i fun z => hi (hx i z)]
/-- a turn of a comprehension: the test, the element -/
def ElJ (E : Ec) (tt : TT) (te : TE) (Γ : List Cell) {β τ : Type} [Dat β] (m : Res (Option β × τ)) (Γs : τ → List Cell) : Prop :=
  ∀ (σ : St) (H : Hp) (R : Asr) (Qn : Hp → Prop) (Qy : VK), Top (sep (base E σ Γ) R) H →
    m.wp (fun r => match r.1 with
      | none => ∀ H', Top (sep (base E σ (Γs r.2)) R) H' → Qn H'
      | some b => ∀ v H', Top (sep (base E σ (Γs r.2)) (sep (vA (dat b) v) R)) H' → Qy v H') (Exn E R σ) → tt σ H fun b H3 => if b = true then te σ H3 Qy else Qn H3
theorem elj_yes [Dat β] {m : Res γ} {Γ' : γ → List Cell} {c : γ → RC} {b : γ → β} {s : γ → τ} {Γs : τ → List Cell} (h : EvJ E te Γ m Γ' c) (f : ∀ a, Fz (c a) (dat (b a))) (l : ∀ a, Le (Γ' a) (Γs (s a))) :
    ElJ E tYes te Γ (m.bind fun a => .ok (some (b a), s a)) Γs := fun σ H R Qn Qy t q =>
  h σ H R _ t (wp_mono (wp_bind.mp q) (fun a _ q v H' t' => q v H' (((f a σ v _ H' (t'.ent frontE)).ent frontE).ent (Ent.sepL (Ent.sepL (l a).ent)))) fun _ x => x)
theorem elj_if [Dat β] {p : Bool} {m : Res γ} {Γ' : γ → List Cell} {c : γ → RC} {b : γ → β} {s : γ → τ} {s0 : τ} {Γs : τ → List Cell} (ht : EvTP E tt Γ p) (h : EvJ E te Γ m Γ' c) (f : ∀ a, Fz (c a) (dat (b a))) (l : ∀ a, Le (Γ' a) (Γs (s a))) (l0 : Le Γ (Γs s0)) :
    ElJ E tt te Γ (if p then m.bind fun a => .ok (some (b a), s a) else .ok (none, s0)) Γs := fun σ H R Qn Qy t q =>
  ht σ H R _ t fun H1 t1 => by
    cases p with
    | true => exact h σ H1 R _ t1 (wp_mono (wp_bind.mp (show (Res.bind m _).wp _ _ from q)) (fun a _ q v H' t' => q v H' (((f a σ v _ H' (t'.ent frontE)).ent frontE).ent (Ent.sepL (Ent.sepL (l a).ent)))) fun _ x => x)
    | false => exact (show ∀ H', Top (sep (base E σ (Γs s0)) R) H' → Qn H' from q) H1 (t1.ent (Ent.sepL (Ent.sepL l0.ent)))
theorem elj_ifM [Dat β] {mt : Res Bool} {m : Res γ} {Γ' : γ → List Cell} {c : γ → RC} {b : γ → β} {s : γ → τ} {s0 : τ} {Γs : τ → List Cell} (ht : EvT E tt Γ mt (fun _ => Γ) id) (h : EvJ E te Γ m Γ' c) (f : ∀ a, Fz (c a) (dat (b a))) (l : ∀ a, Le (Γ' a) (Γs (s a))) (l0 : Le Γ (Γs s0)) :
    ElJ E tt te Γ (mt.bind fun p => if p then m.bind fun a => .ok (some (b a), s a) else .ok (none, s0)) Γs := fun σ H R Qn Qy t q =>
  ht σ H R _ t (wp_mono (wp_bind.mp q) (fun p _ q H1 t1 => by
    cases p with
    | true => exact h σ H1 R _ t1 (wp_mono (wp_bind.mp (show (Res.bind m _).wp _ _ from q)) (fun a _ q v H' t' => q v H' (((f a σ v _ H' (t'.ent frontE)).ent frontE).ent (Ent.sepL (Ent.sepL (l a).ent)))) fun _ x => x)
    | false => exact (show ∀ H', Top (sep (base E σ (Γs s0)) R) H' → Qn H' from q) H1 (t1.ent (Ent.sepL (Ent.sepL l0.ent)))) fun _ x => x)
def noErr {α : Type} : Res α → Res α
  | .ok a => .ok a
  | _ => .bad
@[simp] theorem noErr_ok (a : α) : noErr (.ok a) = .ok a := rfl
theorem wp_noErr {m : Res α} {Q : α → Prop} {X Y : Nat → Prop} (h : (noErr m).wp Q X) : m.wp Q Y := by
  cases m with
  | ok a => exact h
  | err k => exact (show False from h).elim
  | bad => exact (show False from h).elim
def compR {α β τ : Type} : List α → τ → List β → (τ → α → Res (Option β × τ)) → Res (List β × τ)
  | [], s, acc, _ => .ok (acc, s)
  | a :: l, s, acc, f => (noErr (f s a)).bind fun r => match r.1 with
    | some b => need (acc.length < lim) (compR l r.2 (acc ++ [b]) f)
    | none => compR l r.2 acc f
theorem el_comp [Dat α] [Dat β] {mi : Res ι} {Γ0 : ι → List Cell} {xs : ι → List α} {Kp : ι → List Cell → Prop} {Γs : τ → List Cell} {Γt : τ → α → List Cell} {s0 : ι → τ} {f : τ → α → Res (Option β × τ)} {vs ix : List Nat}
    (hi : EvI E wi Γ mi Γ0 (fun a => (xs a).map dat) Kp) (hk : ∀ a s, Kp a (Γs s)) (h0 : ∀ a, Le (Γ0 a) (Γs (s0 a))) (hv : ∀ s, ∀ i ∈ vs, (Γs s)[i]? = some cAny) (hg : ∀ s x, EvG E.calm g (dat x) (Γs s) (Γt s x) ix) (hx : ∀ i ∈ ix, i ∈ vs)
    (hb : ∀ s x, ElJ E.calm tt te (Γt s x) (f s x) Γs) : EvJ E (tLc wi g tt te vs) Γ (mi.bind fun a => compR (xs a) (s0 a) [] f) (fun r => Γs r.2) fun r => rO (r.1.map dat) := fun σ H R Q t q =>
  hi σ H R _ t (wp_mono (wp_bind.mp q) (fun a _ q J H1 B hJ t1 => by
    intro D hD
    have t1' : Top (sep (base E σ (Γs (s0 a))) (sep B R)) H1 := t1.ent (Ent.sepL (Ent.sepL (h0 a).ent))
    have tD : Top (sep (oA D []) (sep (base E σ (Γs (s0 a))) (sep B R))) (upd H1 D (.lst [])) := t1'.alloc hD fun _ _ _ _ => .nil
    refine ⟨fun i mm H' => mm = (xs a).length - i ∧ i ≤ (xs a).length ∧ ∃ s acc, Top (sep (base E σ (Γs s)) (sep (oA D (acc.map dat)) (sep B R))) H' ∧ (compR ((xs a).drop i) s acc f).wp (fun r => ∀ v H', Top (sep (base E σ (Γs r.2)) (sep (rO (r.1.map dat) σ v) R)) H' → Q v H') (Exn E R σ),
      ⟨_, rfl, Nat.zero_le _, s0 a, [], tD.ent frontE, q⟩, ?_⟩
    rintro i mm H' ⟨rfl, hle, s, acc, t2, q2⟩
    have ok := hJ σ (Γs s) (hk a s)
    have t2' : Top (sep (sep (base E σ (Γs s)) B) (sep (oA D (acc.map dat)) R)) H' := t2.ent (rotE.trans Ent.assoc')
    by_cases hlt : i < (xs a).length
    · refine .inr ⟨ok.goes i H' _ (by rw [List.length_map]; exact hlt) t2', ?_⟩
      have ed : (xs a).drop i = (xs a)[i] :: (xs a).drop (i + 1) := List.drop_eq_getElem_cons hlt
      rw [ed] at q2
      refine ⟨fun H2 => ∃ s' acc', Top (sep (base E σ (Γs s')) (sep (oA D (acc'.map dat)) (sep B R))) H2 ∧ (compR ((xs a).drop (i + 1)) s' acc' f).wp (fun r => ∀ v H', Top (sep (base E σ (Γs r.2)) (sep (rO (r.1.map dat) σ v) R)) H' → Q v H') (Exn E R σ),
        fun H2 ⟨s', acc', t3, q3⟩ => ⟨_, by omega, rfl, hlt, s', acc', t3, q3⟩, fun x H2 hy => ?_⟩
      have t3 := ok.yields i (dat (xs a)[i]) H' x H2 _ (by simp [hlt]) t2' hy
      have t4 : Top (sep (base E σ (Γs s)) (sep (vA (dat (xs a)[i]) x) (sep B (sep (oA D (acc.map dat)) R)))) H2 := (t3.ent (Ent.sepR Ent.assoc)).ent frontE
      have t5 : Top (sep (base E.calm (wipe σ vs) (Γs s)) (sep (vA (dat (xs a)[i]) x) (sep B (sep (oA D (acc.map dat)) R)))) H2 := t4.ent (Ent.sepL (Ent.sepL (wipe_in (hv s))))
      refine hg s (xs a)[i] (wipe σ vs) H2 _ _ x t5 fun σ2 H3 sm t6 => ⟨wipe_sm sm hx, ?_⟩
      have back : ∀ s', Ent (sl σ2 (Γs s')) (sl σ (Γs s')) := fun s' => sm_out (ix := ix) (hv s') (sm.1.trans (wipe_length σ vs)) fun j hj => (sm.2 j fun z => hj (hx j z)).trans (wipe_get hj)
      refine hb s (xs a)[i] σ2 H3 _ _ _ t6 (wp_noErr (wp_mono (wp_bind.mp q2) (fun r _ q3 => ?_) fun _ x => x))
      obtain ⟨ob, s'⟩ := r
      cases ob with
      | none => exact fun H4 t7 => ⟨s', acc, ((t7.ent rotE).ent (Ent.sepL (Ent.sepL (back s')))), q3⟩
      | some b =>
        intro v H4 t7
        obtain ⟨hn, q4⟩ := wp_need q3
        have t8 : Top (sep (base E σ (Γs s')) (sep (vA (dat b) v) (sep B (sep (oA D (acc.map dat)) R)))) H4 := t7.ent (Ent.sepL (Ent.sepL (back s')))
        have t9 : Top (sep (oA D (acc.map dat)) (sep (base E σ (Γs s')) (sep (vA (dat b) v) (sep B R)))) H4 := t8.ent ((Ent.sepR (Ent.sepR frontE)).trans ((Ent.sepR frontE).trans frontE))
        obtain ⟨vs', ev, ln⟩ := own_at (A := sep (base E σ (Γs s')) (sep (vA (dat b) v) (sep B R))) (t9.ent Ent.comm)
        rw [List.length_map] at ln
        refine ⟨vs', ev, by rw [ln]; exact lim_lt hn, s', acc ++ [b], ?_, q4⟩
        have t10 := t9.write (es := (acc ++ [b]).map dat) (ws := vs' ++ [v]) fun F o us s z e2 r => by
          rw [ev] at e2
          cases e2
          obtain ⟨_, _, _, _, _, _, ⟨_, _, _, _, _, z, _⟩⟩ := z
          rw [List.map_append]
          exact r.append (.one z)
        exact t10.ent (frontE.trans (Ent.sepR (Ent.sepR Ent.right)))
    · have e : i = (xs a).length := by omega
      subst e
      rw [List.drop_length] at q2
      refine .inl ⟨?_, q2 (.ref D) H' (t2.ent (Ent.sepR (Ent.sep (oA_oV D _) Ent.right)))⟩
      have z := ok.stops H' _ t2'
      rw [List.length_map] at z
      exact z) fun _ x => x)
/-- the simple ones -/
theorem compR_map {f : τ → α → Res (Option β × τ)} {g : α → β} {s : τ} : ∀ (xs : List α) (acc : List β), (∀ a ∈ xs, f s a = .ok (some (g a), s)) → acc.length + xs.length ≤ lim → compR xs s acc f = .ok (acc ++ xs.map g, s)
  | [], acc, _, _ => by simp [compR]
  | a :: l, acc, h, hl => by
    have hl' : acc.length + (l.length + 1) ≤ lim := hl
    unfold compR
    rw [h a List.mem_cons_self, noErr_ok, bind_ok]
    show need (acc.length < lim) (compR l s (acc ++ [g a]) f) = _
    rw [need_of (by omega), compR_map l (acc ++ [g a]) (fun b hb => h b (List.mem_cons_of_mem _ hb)) (by rw [List.length_append]; simp; omega)]
    simp
theorem compR_filter {f : τ → α → Res (Option β × τ)} {p : α → Bool} {g : α → β} {s : τ} : ∀ (xs : List α) (acc : List β), (∀ a ∈ xs, f s a = if p a then .ok (some (g a), s) else .ok (none, s)) → acc.length + xs.length ≤ lim → compR xs s acc f = .ok (acc ++ (xs.filter p).map g, s)
  | [], acc, _, _ => by simp [compR]
  | a :: l, acc, h, hl => by
    have hl' : acc.length + (l.length + 1) ≤ lim := hl
    unfold compR
    rw [h a List.mem_cons_self]
    cases e : p a with
    | true =>
      rw [if_pos rfl, noErr_ok, bind_ok]
      show need (acc.length < lim) (compR l s (acc ++ [g a]) f) = _
      rw [need_of (by omega), compR_filter l (acc ++ [g a]) (fun b hb => h b (List.mem_cons_of_mem _ hb)) (by rw [List.length_append]; simp; omega)]
      simp [e]
    | false =>
      rw [if_neg (by decide), noErr_ok, bind_ok]
      show compR l s acc f = _
      rw [compR_filter l acc (fun b hb => h b (List.mem_cons_of_mem _ hb)) (by omega)]
      simp [e]
end

/-! ### results told anew -/
section
variable {E : Ec} {Γ : List Cell} {α β γ δ : Type} {te : TE} {tt : TT} {tr : TA} {tb : TS}
open Res
theorem EvJ.ret {m : Res α} {Γ1 : α → List Cell} {c1 : α → RC} (g : α → γ) {Γ' : γ → List Cell} {c : γ → RC} (h : EvJ E te Γ m Γ1 c1) (h1 : ∀ a, Γ' (g a) = Γ1 a := by intro _; rfl) (h2 : ∀ a, c (g a) = c1 a := by intro _; rfl) : EvJ E te Γ (m.bind fun a => .ok (g a)) Γ' c := fun σ H R Q t q =>
  h σ H R Q t (wp_mono (wp_bind.mp q) (fun a _ q v H' t' => by
    have q' : ∀ v H', Top (sep (base E σ (Γ' (g a))) (sep (c (g a) σ v) R)) H' → Q v H' := q
    rw [h1 a, h2 a] at q'
    exact q' v H' t') fun _ x => x)
theorem EvA.ret {m : Res α} {Γ1 : α → List Cell} {c1 : α → List RC} (g : α → γ) {Γ' : γ → List Cell} {c : γ → List RC} (h : EvA E tr Γ m Γ1 c1) (h1 : ∀ a, Γ' (g a) = Γ1 a := by intro _; rfl) (h2 : ∀ a, c (g a) = c1 a := by intro _; rfl) : EvA E tr Γ (m.bind fun a => .ok (g a)) Γ' c := fun σ H R Q t q =>
  h σ H R Q t (wp_mono (wp_bind.mp q) (fun a _ q v H' t' => by
    have q' : ∀ v H', Top (sep (base E σ (Γ' (g a))) (sep (csA (c (g a)) σ v) R)) H' → Q v H' := q
    rw [h1 a, h2 a] at q'
    exact q' v H' t') fun _ x => x)
theorem r2_to (g : γ) {r : R2} {cx cy : RC} {Γ' : γ → List Cell} {c : γ → RC} (h : R2P E r cx cy Γ (c g)) (e : Γ' g = Γ := by rfl) : R2J E r cx cy Γ (.ok g) Γ' c := fun σ H R Q x y t q => by
  have q' : ∀ v H', Top (sep (base E σ (Γ' g)) (sep (c g σ v) R)) H' → Q v H' := q
  rw [e] at q'
  exact h σ H R Q x y t q'
theorem r2_map {m : Res α} (g : α → γ) {r : R2} {cx cy : RC} {c1 : α → RC} {Γ' : γ → List Cell} {c : γ → RC} (h : R2J E r cx cy Γ m (fun _ => Γ) c1) (h1 : ∀ a, Γ' (g a) = Γ := by intro _; rfl) (h2 : ∀ a, c (g a) = c1 a := by intro _; rfl) : R2J E r cx cy Γ (m.bind fun a => .ok (g a)) Γ' c := fun σ H R Q x y t q =>
  h σ H R Q x y t (wp_mono (wp_bind.mp q) (fun a _ q v H' t' => by
    have q' : ∀ v H', Top (sep (base E σ (Γ' (g a))) (sep (c (g a) σ v) R)) H' → Q v H' := q
    rw [h1 a, h2 a] at q'
    exact q' v H' t') fun _ x => x)
theorem rn_to (g : γ) {r : List V → Hp → VK → Prop} {cs : List RC} {Γ' : γ → List Cell} {c : γ → RC} (h : RnP E r cs Γ (c g)) (e : Γ' g = Γ := by rfl) : RnJ E r cs Γ (.ok g) Γ' c := fun σ H R Q vs t q => by
  have q' : ∀ v H', Top (sep (base E σ (Γ' g)) (sep (c g σ v) R)) H' → Q v H' := q
  rw [e] at q'
  exact h σ H R Q vs t q'
theorem rn_map {m : Res α} (g : α → γ) {r : List V → Hp → VK → Prop} {cs : List RC} {c1 : α → RC} {Γ' : γ → List Cell} {c : γ → RC} (h : RnJ E r cs Γ m (fun _ => Γ) c1) (h1 : ∀ a, Γ' (g a) = Γ := by intro _; rfl) (h2 : ∀ a, c (g a) = c1 a := by intro _; rfl) : RnJ E r cs Γ (m.bind fun a => .ok (g a)) Γ' c := fun σ H R Q vs t q =>
  h σ H R Q vs t (wp_mono (wp_bind.mp q) (fun a _ q v H' t' => by
    have q' : ∀ v H', Top (sep (base E σ (Γ' (g a))) (sep (c (g a) σ v) R)) H' → Q v H' := q
    rw [h1 a, h2 a] at q'
    exact q' v H' t') fun _ x => x)
theorem r1_to (g : γ) {r : V → Hp → VK → Prop} {cx : RC} {Γ' : γ → List Cell} {c : γ → RC} (h : R1P E r cx Γ (c g)) (e : Γ' g = Γ := by rfl) : R1J E r cx Γ (.ok g) Γ' c := fun σ H R Q x t q => by
  have q' : ∀ v H', Top (sep (base E σ (Γ' g)) (sep (c g σ v) R)) H' → Q v H' := q
  rw [e] at q'
  exact h σ H R Q x t q'
theorem EvS.is {m : Res γ} {post : γ → Fin} {Δ : List Cell} (e : Γ = Δ) (h : EvS E tb Δ m post) : EvS E tb Γ m post := e ▸ h
theorem EvS1.to {m : Res γ} {Γ1 : γ → List Cell} {Δ : γ → List Cell} (h : EvS1 E tb Γ m Γ1) (l : ∀ a, Le (Γ1 a) (Δ a)) : EvS1 E tb Γ m Δ := fun σ H R D t q =>
  h σ H R D t (wp_mono q (fun a _ q σ' H' t' => q σ' H' (t'.ent (Ent.sepL (Ent.sepL (l a).ent)))) fun _ x => x)
/-- a join's branch: its end's values -/
theorem EvS1.ret {m : Res α} {Γ1 : α → List Cell} (g : α → γ) {Γ' : γ → List Cell} (h : EvS1 E tb Γ m Γ1) (l : ∀ a, Le (Γ1 a) (Γ' (g a))) : EvS1 E tb Γ (m.bind fun a => .ok (g a)) Γ' := fun σ H R D t q =>
  h σ H R D t (wp_mono (wp_bind.mp q) (fun a _ q σ' H' t' => (show ∀ σ H, Top (sep (base E σ (Γ' (g a))) R) H → D.nx σ H from q) σ' H' (t'.ent (Ent.sepL (Ent.sepL (l a).ent)))) fun _ x => x)
end
/-! ### a def -/
def allP (F H : Hp) : St → List Cell → Prop
  | [], [] => True
  | o :: σ, c :: Γ => (∀ w, (c o).P F H w) ∧ allP F H σ Γ
  | _, _ => False
theorem sl_all {F H : Hp} : ∀ {σ : St} {Γ : List Cell} (w : Addr → Prop), allP F H σ Γ → (sl σ Γ).P F H w
  | [], [], _, _ => trivial
  | _ :: _, _ :: _, w, h => sep_pers h.1 (sl_all w h.2)
  | [], _ :: _, _, h => (show False from h).elim
  | _ :: _, [], _, h => (show False from h).elim
abbrev Ecf (K : PySem.W.Frag) (Ex : XK) (ec : Nat → Value) (C : Asr) : Ec := ⟨K, fun cls d _ H => Ex cls d H, ec, fun _ => emp, C⟩
theorem xok_emp {K : PySem.W.Frag} {Ex : XK} {ec : Nat → Value} {C : Asr} {Γ : List Cell} : XOk (Ecf K Ex ec C) Γ := fun _ => Ent.emp
theorem xok_calm {K : PySem.W.Frag} {Ex : XK} {ec : Nat → Value} {C : Asr} {Γ : List Cell} : XOk (Ecf K Ex ec C).calm Γ := fun _ => Ent.emp
section
variable {K : PySem.W.Frag} {ec : Nat → Value} {C : Asr} {Q : VK} {Ex : XK} {H : Hp} {σ : St} {t : TS} {Γ0 : List Cell} {β : Type} {m : Res β} {c : β → V → Asr} {Γr : β → List Cell}
open Res
theorem fin0 (hT : Top C H) (hin : ∀ F o, Same F H → C.P F H o → allP F H σ Γ0) (hw : m.wp (fun b => ∀ v H', Top (sep C (c b v)) H' → Q v H') fun k => ∀ H', Top C H' → Ex (ec k) none H')
    (hb : EvS (Ecf K Ex ec C) t Γ0 m fun b => .rt (Γr b) fun _ => c b) : t { nx := fun _ H' => Q .non H', rt := Q } σ H := by
  obtain ⟨F, o, s, k, p⟩ := hT
  refine hb σ H emp _ ⟨F, o, s, k, ?_⟩ (wp_mono hw (fun b _ q σ' v H' t' => q v H' (t'.ent (Ent.sep Ent.right Ent.left))) fun k q σ' H' t' => q H' (t'.ent (Ent.left.trans Ent.right)))
  exact Ent.comm F H o s (sep_pers (A := emp) (fun _ => trivial) (sep_pers (fun w => sl_all w (hin F o s p)) p))
/-- .. that falls off its end -/
theorem fin0N (hT : Top C H) (hin : ∀ F o, Same F H → C.P F H o → allP F H σ Γ0) (hw : m.wp (fun b => ∀ v H', Top (sep C (vA .none v)) H' → Q v H') fun k => ∀ H', Top C H' → Ex (ec k) none H')
    (hb : EvS (Ecf K Ex ec C) t Γ0 m fun b => .nx (Γr b)) : t { nx := fun _ H' => Q .non H', rt := Q } σ H := by
  obtain ⟨F, o, s, k, p⟩ := hT
  refine hb σ H emp _ ⟨F, o, s, k, ?_⟩ (wp_mono hw (fun b _ q σ' H' t' => q .non H' (((t'.ent (Ent.left.trans Ent.right)).addV (v := .non) (d := .none) fun _ _ _ _ => .non).ent Ent.comm)) fun k q σ' H' t' => q H' (t'.ent (Ent.left.trans Ent.right)))
  exact Ent.comm F H o s (sep_pers (A := emp) (fun _ => trivial) (sep_pers (fun w => sl_all w (hin F o s p)) p))
/-- the list of a parameter, put into its slot -/
theorem at_in {p : Addr} {i : Nat} {ds : List PyData} {Γ : List Cell} {o : Addr → Prop} {F : Hp} (hi : i < Γ.length) (hs : σ[i]? = some (some (.ref p))) (ha : allP F H σ (Γ.set i cAny)) (h : (oA p ds).P F H o) : (sl σ (Γ.set i (cAt p ds))).P F H o :=
  sl_put hi hs ⟨o, fun _ => False, fun _ z => z, fun _ z => z.elim, fun _ _ z => z, sep_pers (fun _ => rfl) h, sl_all _ ha⟩
theorem at_out {E : Ec} {p : Addr} {i : Nat} {ds : List PyData} {Γ : List Cell} {A : Asr} (hi : Γ[i]? = some (cAt p ds)) : Ent (sep (base E σ Γ) A) (sep E.C (sep (oA p ds) A)) := fun F H o s ⟨o1, o2, h1, h2, d, ⟨o3, o4, h3, h4, e, a, b⟩, z⟩ => by
  obtain ⟨x, ex, _, o6, _, h6, _, _, pa⟩ := sl_get hi a
  have pa' := (oA p ds).up h6 pa
  exact ⟨o4, fun q => o3 q ∨ o2 q, fun q z => h1 q (h4 q z), fun q z => z.elim (fun z => h1 q (h3 q z)) (h2 q), fun q z w => w.elim (fun w => e q w z) (d q (h4 q z)), b, o3, o2, fun _ z => .inl z, fun _ z => .inr z, fun q z w => d q (h3 q z) w, pa', z⟩
theorem fin1 {p : Addr} {i : Nat} {i0 : List PyData} {i1 : β → List PyData} {Γ : List Cell} {Er : Nat → Prop} (hT : Top (sep C (oA p i0)) H) (hi : i < Γ.length) (hs : σ[i]? = some (some (.ref p))) (hin : ∀ F o, Same F H → C.P F H o → allP F H σ (Γ.set i cAny)) (hr : ∀ b, (Γr b)[i]? = some (cAt p (i1 b)))
    (hw : (noErr m).wp (fun b => ∀ v H', Top (sep C (sep (oA p (i1 b)) (c b v))) H' → Q v H') Er)
    (hb : EvS (Ecf K Ex ec C) t (Γ.set i (cAt p i0)) m fun b => .rt (Γr b) fun _ => c b) : t { nx := fun _ H' => Q .non H', rt := Q } σ H := by
  obtain ⟨F, o, s, k, o1, o2, h1, h2, d, pc, po⟩ := hT
  refine hb σ H emp _ ⟨F, o, s, k, ?_⟩ (wp_noErr (wp_mono hw (fun b _ q σ' v H' t' => q v H' ((t'.ent (at_out (hr b))).ent (Ent.sepR (Ent.sepR Ent.left)))) fun k q => q))
  exact Ent.comm F H o s (sep_pers (A := emp) (fun _ => trivial) ⟨o2, o1, h2, h1, fun q z w => d q w z, at_in hi hs (hin F o1 s pc) po, pc⟩)
end
end Lc
/-! Lc: more operations -/
namespace Lc
open PySem L2
section
variable {E : Ec} {Γ : List Cell} {R A : Asr} {H : Hp} {x y v : V} {d : PyData} {cx cy : RC} {α β γ δ : Type} {ta tb tc te : TE} {tr : TA}
open Res
/-! comparisons -/
theorem r2_eqI {i j : Int} : R2P E rEq (rV (.int i)) (rV (.int j)) Γ (rV (.bool (decide (i = j)))) := fun σ H R Q x y t q => by
  have e1 := int1 t
  have e2 := int2 t
  subst e1
  subst e2
  refine ⟨rfl, q _ H (res2 t fun F => ?_)⟩
  have e : decide (V.int i = V.int j) = decide (i = j) := decide_eq_decide.mpr ⟨fun h => by cases h; rfl, fun h => by rw [h]⟩
  rw [e]
  exact .bl _
theorem r2_neI {i j : Int} : R2P E rNe (rV (.int i)) (rV (.int j)) Γ (rV (.bool (!decide (i = j)))) := fun σ H R Q x y t q => by
  have e1 := int1 t
  have e2 := int2 t
  subst e1
  subst e2
  refine ⟨rfl, q _ H (res2 t fun F => ?_)⟩
  have e : decide (V.int i = V.int j) = decide (i = j) := decide_eq_decide.mpr ⟨fun h => by cases h; rfl, fun h => by rw [h]⟩
  rw [e]
  exact .bl _
theorem str1 {i : Str} (t : Top (sep A (sep (vA (.str i) x) R)) H) : x = .str i := by
  obtain ⟨F, _, z⟩ := top1 t
  cases z; rfl
theorem r2_eqS {i j : Str} : R2P E rEq (rV (.str i)) (rV (.str j)) Γ (rV (.bool (decide (i = j)))) := fun σ H R Q x y t q => by
  have e1 := str1 t
  have e2 := str1 (t.ent Ent.assoc')
  subst e1
  subst e2
  refine ⟨rfl, q _ H (res2 t fun F => ?_)⟩
  have e : decide (V.str i = V.str j) = decide (i = j) := decide_eq_decide.mpr ⟨fun h => by cases h; rfl, fun h => by rw [h]⟩
  rw [e]
  exact .bl _
theorem r2_neS {i j : Str} : R2P E rNe (rV (.str i)) (rV (.str j)) Γ (rV (.bool (!decide (i = j)))) := fun σ H R Q x y t q => by
  have e1 := str1 t
  have e2 := str1 (t.ent Ent.assoc')
  subst e1
  subst e2
  refine ⟨rfl, q _ H (res2 t fun F => ?_)⟩
  have e : decide (V.str i = V.str j) = decide (i = j) := decide_eq_decide.mpr ⟨fun h => by cases h; rfl, fun h => by rw [h]⟩
  rw [e]
  exact .bl _
/-- a < b < c, nothing computes -/
theorem evp_chain {r r' : R2} {a b c : Int} {p p' : Int → Int → Bool} (ha : EvP E ta Γ (rV (.int a))) (hb : EvP E tb Γ (rV (.int b))) (hc : EvP E tc Γ (rV (.int c)))
    (h1 : ∀ H (Q : VK), Q (.bl (p a b)) H → r (.int a) (.int b) H Q) (h2 : ∀ H (Q : VK), Q (.bl (p' b c)) H → r' (.int b) (.int c) H Q) : EvP E (tChain r r' ta tb tc) Γ (rV (.bool (p a b && p' b c))) := fun σ H R Q t q =>
  ha σ H R _ t fun x H1 t1 => by
    have ex := int1 t1
    subst ex
    refine hb σ H1 R _ (t1.ent (Ent.sepR Ent.right)) fun y H2 t2 => ?_
    have ey := int1 t2
    subst ey
    refine h1 H2 _ ⟨p a b, rfl, ?_⟩
    cases e : p a b with
    | false => exact q (.bl false) H2 (res1 t2 fun F => by rw [e]; exact .bl _)
    | true =>
      refine hc σ H2 R _ (t2.ent (Ent.sepR Ent.right)) fun z H3 t3 => ?_
      have ez := int1 t3
      subst ez
      exact h2 H3 Q (q _ H3 (res1 t3 fun F => by rw [e]; exact .bl _))
theorem ch_B0 {g : Int → Int → Bool} {a b : Int} : ∀ H (Q : VK), Q (.bl (g a b)) H → (rI0 fun i j => .bl (g i j)) (.int a) (.int b) H Q := fun H Q q => ⟨a, b, rfl, rfl, q⟩

/-! several names at once -/
theorem three_args {c1 c2 c3 : RC} {σ : St} {vs : List V} (t : Top (sep A (sep (csA [c1, c2, c3] σ vs) R)) H) : ∃ x y z, vs = [x, y, z] ∧ Top (sep A (sep (c1 σ x) (sep (c2 σ y) (sep (c3 σ z) R)))) H := by
  cases vs with
  | nil => exact (t.fact (φ := False) fun _ _ _ ⟨_, _, _, _, _, _, ⟨_, _, _, _, _, a, _⟩⟩ => a).elim
  | cons x r =>
    have t' : Top (sep (sep A (c1 σ x)) (sep (csA [c2, c3] σ r) R)) H := t.ent ((Ent.sepR Ent.assoc).trans Ent.assoc')
    obtain ⟨y, z, rfl, t2⟩ := two_args t'
    exact ⟨x, y, z, rfl, t2.ent Ent.assoc⟩
/-- a result that does not hang on the slots -/
def Fl (c : RC) : Prop := ∀ σ σ', c σ = c σ'
theorem fl_v : Fl (rV d) := fun _ _ => rfl
theorem fl_o {ds : List PyData} : Fl (rO ds) := fun _ _ => rfl
theorem es_par {m : Res γ} {Γ1 : γ → List Cell} {c1 c2 : γ → RC} {k1 k2 : γ → Cell} {i j : Nat} (h : EvA E tr Γ m Γ1 fun a => [c1 a, c2 a]) (s1 : ∀ a, Sto (c1 a) (k1 a)) (s2 : ∀ a, Sto (c2 a) (k2 a)) (f2 : ∀ a, Fl (c2 a)) (hi : ∀ a, i < (Γ1 a).length) (hj : ∀ a, j < (Γ1 a).length) :
    EvS1 E (tPar i j tr) Γ m fun a => ((Γ1 a).set i (k1 a)).set j (k2 a) := fun σ H R D t q =>
  h σ H R _ t (wp_mono q (fun a _ q vs H' t' => by
    obtain ⟨x, y, rfl, t2⟩ := two_args t'
    refine ⟨x, y, rfl, q _ H' ?_⟩
    have t3 := put_slot (s1 a) (hi a) t2
    rw [f2 a σ (σ.set i (some x))] at t3
    exact put_slot (s2 a) (by rw [List.length_set]; exact hj a) t3) fun _ x => x σ)
theorem es_par3 {m : Res γ} {Γ1 : γ → List Cell} {c1 c2 c3 : γ → RC} {k1 k2 k3 : γ → Cell} {i j l : Nat} (h : EvA E tr Γ m Γ1 fun a => [c1 a, c2 a, c3 a]) (s1 : ∀ a, Sto (c1 a) (k1 a)) (s2 : ∀ a, Sto (c2 a) (k2 a)) (s3 : ∀ a, Sto (c3 a) (k3 a)) (f2 : ∀ a, Fl (c2 a)) (f3 : ∀ a, Fl (c3 a))
    (hi : ∀ a, i < (Γ1 a).length) (hj : ∀ a, j < (Γ1 a).length) (hl : ∀ a, l < (Γ1 a).length) :
    EvS1 E (tPar3 i j l tr) Γ m fun a => (((Γ1 a).set i (k1 a)).set j (k2 a)).set l (k3 a) := fun σ H R D t q =>
  h σ H R _ t (wp_mono q (fun a _ q vs H' t' => by
    obtain ⟨x, y, z, rfl, t2⟩ := three_args t'
    refine ⟨x, y, z, rfl, q _ H' ?_⟩
    have t3 := put_slot (s1 a) (hi a) t2
    rw [f2 a σ (σ.set i (some x)), f3 a σ (σ.set i (some x))] at t3
    have t4 := put_slot (s2 a) (by rw [List.length_set]; exact hj a) t3
    rw [f3 a _ ((σ.set i (some x)).set j (some y))] at t4
    exact put_slot (s3 a) (by rw [List.length_set, List.length_set]; exact hl a) t4) fun _ x => x σ)
/-- names of a tuple's targets, their values' cells -/
def GlJ (E : Ec) (g : TGs) (cs : List RC) (Γ Γ' : List Cell) : Prop := ∀ (σ0 σ : St) (H : Hp) (R : Asr) (Q : St → Hp → Prop) (vs : List V), Top (sep (base E σ Γ) (sep (csA cs σ0 vs) R)) H → (∀ σ' H', Top (sep (base E σ' Γ') R) H' → Q σ' H') → g vs σ H Q
theorem gl_nil : GlJ E gNil [] Γ Γ := fun σ0 σ H R Q vs t q => by
  cases vs with
  | nil => exact ⟨rfl, q σ H (t.ent (Ent.sepR Ent.right))⟩
  | cons v vs => exact (t.fact (φ := False) fun _ _ _ ⟨_, _, _, _, _, _, ⟨_, _, _, _, _, a, _⟩⟩ => a).elim
theorem gl_cons {g : TGs} {i : Nat} {c : RC} {cl : Cell} {cs : List RC} {Γ' : List Cell} (hs : Sto c cl) (hf : Fl c) (hi : i < Γ.length) (h : GlJ E g cs (Γ.set i cl) Γ') : GlJ E (gCons (gName i) g) (c :: cs) Γ Γ' := fun σ0 σ H R Q vs t q => by
  cases vs with
  | nil => exact (t.fact (φ := False) fun _ _ _ ⟨_, _, _, _, _, _, ⟨_, _, _, _, _, a, _⟩⟩ => a).elim
  | cons v vs =>
    refine ⟨v, vs, rfl, ?_⟩
    have t1 : Top (sep (base E σ Γ) (sep (c σ0 v) (sep (csA cs σ0 vs) R))) H := t.ent (Ent.sepR Ent.assoc)
    rw [hf σ0 σ] at t1
    exact h σ0 _ H R Q vs (put_slot hs hi t1) q
theorem Top.grow {p : Addr} {ob : HO} (t : Top A H) (hp : H p = none) : Top A (upd H p ob) := by
  obtain ⟨F, o, s, k, a⟩ := t
  have ne : ∀ q, o q → q ≠ p := fun q hq e => (k q hq).2 (e ▸ hp)
  refine ⟨F, o, fun b u e => ?_, fun q hq => ?_, A.st (Same.refl F) (fun q hq => upd_ne (ne q hq)) a⟩
  · have h := s b u e
    rw [upd_ne (fun z => by rw [z, hp] at h; cases h)]
    exact h
  · rw [upd_ne (ne q hq)]
    exact k q hq
/-- a, b, .. = (x, y, ..) by a tuple -/
theorem es_tupasg {m : Res γ} {Γ1 : γ → List Cell} {cs : γ → List RC} {g : TGs} {n : Nat} {Γ' : γ → List Cell} (h : EvA E tr Γ m Γ1 cs) (hg : ∀ a, GlJ E g (cs a) (Γ1 a) (Γ' a)) (hn : ∀ a, (cs a).length = n) (h9 : n ≤ 1000 := by decide) :
    EvS1 E (tAsg (tTup tr) (gTup E.K n g)) Γ m Γ' := fun σ H R D t q =>
  h σ H R _ t (wp_mono q (fun a _ q vs H' t' => by
    have len : ∀ (cs : List RC) (vs : List V), (∃ F H o, (csA cs σ vs).P F H o) → vs.length = cs.length := by
      intro cs
      induction cs with
      | nil => intro vs ⟨F, H, o, h⟩; cases vs with
        | nil => rfl
        | cons v vs => exact (show False from h).elim
      | cons c cs ih => intro vs ⟨F, H, o, h⟩; cases vs with
        | nil => exact (show False from h).elim
        | cons v vs =>
          obtain ⟨_, _, _, _, _, _, z⟩ := h
          rw [List.length_cons, List.length_cons, ih vs ⟨_, _, _, z⟩]
    have ln : vs.length = n := (t'.fact fun F o s ⟨_, _, _, _, _, _, ⟨_, _, _, _, _, z, _⟩⟩ => len (cs a) vs ⟨_, _, _, z⟩).trans (hn a)
    refine ⟨by rw [ln]; exact Nat.le_trans h9 (by decide), fun p hp => ⟨p, vs, rfl, SqT.of upd_same, ln, hg a σ σ _ R _ vs (t'.grow hp) q⟩⟩) fun _ x => x σ)
/-- a, b = a list of two -/
theorem es_unl {ds : List PyData} {m : Res γ} {Γ1 : γ → List Cell} {c : γ → RC} {g : TGs} {n : Nat} {ds : γ → List PyData} {Γ' : γ → List Cell} {ix : List Nat} (h : EvJ E te Γ m Γ1 c) (hr : ∀ a, PArg E (Γ1 a) K0 (c a) (ppS E.K (ds a))) (hg : ∀ a, (ds a).length = n → EvGs E g (ds a) (Γ1 a) (Γ' a) ix) :
    EvS1 E (tAsg te (gUnl E.K n g)) Γ (m.bind fun a => need ((ds a).length = n) (.ok a)) Γ' := fun σ H R D t q =>
  h σ H R _ t (wp_mono (wp_bind.mp q) (fun a _ q v H' t' => by
    obtain ⟨hn, q⟩ := wp_need q
    obtain ⟨p, vs, rfl, hs, ln, t2⟩ := readS (hr a) t'
    exact ⟨p, vs, rfl, hs, ln.trans hn, hg a hn σ H' R _ vs (t2.ent (Ent.sepR (Ent.sepR Ent.right))) fun σ' H'' _ t3 => q σ' H'' t3⟩) fun _ x => x σ)
/-! xs[::-1], list(range(a, b)) -/
theorem evp_rev [Dat α] {xs : List α} (h : EvP E te Γ cx) (hr : PArg E Γ K0 cx (ppS E.K (xs.map dat))) : EvP E (tRevL E.K te) Γ (rO (xs.reverse.map dat)) := fun σ H R Q t q =>
  h σ H R _ t fun x H1 t1 => by
    obtain ⟨a, vs, rfl, hs, ln, t2⟩ := readS hr t1
    refine ⟨a, vs, rfl, hs, fun p hp => q _ _ ((newL t2 hp fun F' o s' z => ?_).ent (Ent.sepR (Ent.sepR (Ent.right.trans Ent.right))))⟩
    rw [List.map_reverse]
    exact (as_of F' o s' z).reverse
theorem ev_rev [Dat α] {m : Res γ} {Γ1 : γ → List Cell} {c : γ → RC} {xs : γ → List α} (h : EvJ E te Γ m Γ1 c) (hr : ∀ a, PArg E (Γ1 a) K0 (c a) (ppS E.K ((xs a).map dat))) : EvJ E (tRevL E.K te) Γ m Γ1 fun a => rO ((xs a).reverse.map dat) := fun σ H R Q t q =>
  h σ H R _ t (wp_mono q (fun g _ q x H1 t1 => by
    obtain ⟨a, vs, rfl, hs, ln, t2⟩ := readS (hr g) t1
    refine ⟨a, vs, rfl, hs, fun p hp => q _ _ ((newL t2 hp fun F' o s' z => ?_).ent (Ent.sepR (Ent.sepR (Ent.right.trans Ent.right))))⟩
    rw [List.map_reverse]
    exact (as_of F' o s' z).reverse) fun _ x => x)
theorem rgV_rp {F : Hp} (a b : Int) : RpAll F (rgV a b) ((rangeL a b).map dat) := by
  have e : rgV a b = (rangeL a b).map V.int := by unfold rgV rangeL; rw [List.map_map]; rfl
  rw [e]
  exact RpAll.of_ints _
def listRg (a b : Int) : Res (List Int) := need (-(2 ^ 62) ≤ a ∧ a < 2 ^ 62 ∧ -(2 ^ 62) ≤ b ∧ b < 2 ^ 62 ∧ (b - a).toNat ≤ 2 ^ 24) (.ok (rangeL a b))
theorem ev_listRg2 {ma : Res α} {Γ1 : α → List Cell} {fa : α → Int} {mb : α → Res β} {Γ2 : α → β → List Cell} {fb : α → β → Int} (ha : EvJ E ta Γ ma Γ1 fun a => rV (.int (fa a))) (hb : ∀ a, EvJ E tb (Γ1 a) (mb a) (Γ2 a) fun b => rV (.int (fb a b))) :
    EvJ E (tLstRg (tRg2 ta tb)) Γ (ma.bind fun a => (mb a).bind fun b => (listRg (fa a) (fb a b)).bind fun l => .ok (a, b, l)) (fun r => Γ2 r.1 r.2.1) fun r => rO (r.2.2.map dat) := fun σ H R Q t q =>
  ha σ H R _ t (wp_mono (wp_bind.mp q) (fun a _ q x H1 t1 => by
    have e := int1 t1
    subst e
    refine hb a σ H1 R _ (t1.ent (Ent.sepR Ent.right)) (wp_mono (wp_bind.mp q) (fun b _ q y H2 t2 => ?_) fun _ x => x)
    have e := int1 t2
    subst e
    unfold listRg at q
    obtain ⟨ok, q⟩ := wp_need (wp_bind.mp q)
    refine ⟨fa a, fb a b, rfl, rfl, ok, fun p hp => q (.ref p) _ ?_⟩
    exact newL (t2.ent (Ent.sepR Ent.right)) hp fun F o s z => rgV_rp _ _) fun _ x => x)
theorem ev_listRg1 {ma : Res α} {Γ1 : α → List Cell} {fa : α → Int} (ha : EvJ E ta Γ ma Γ1 fun a => rV (.int (fa a))) :
    EvJ E (tLstRg (tRg1 ta)) Γ (ma.bind fun a => (listRg 0 (fa a)).bind fun l => .ok (a, l)) (fun r => Γ1 r.1) fun r => rO (r.2.map dat) := fun σ H R Q t q =>
  ha σ H R _ t (wp_mono (wp_bind.mp q) (fun a _ q x H1 t1 => by
    have e := int1 t1
    subst e
    unfold listRg at q
    obtain ⟨ok, q⟩ := wp_need (wp_bind.mp q)
    refine ⟨fa a, rfl, ok, fun p hp => q (.ref p) _ ?_⟩
    exact newL (t1.ent (Ent.sepR Ent.right)) hp fun F o s z => rgV_rp _ _) fun _ x => x)
/-! turns of a comprehension that compute nothing -/
theorem elj_yesP [Dat β] {τ : Type} {c : RC} {b : β} {s : τ} {Γs : τ → List Cell} (h : EvP E te Γ c) (f : Fz c (dat b)) (l : Le Γ (Γs s)) : ElJ E tYes te Γ (.ok (some b, s)) Γs := fun σ H R Qn Qy t q =>
  h σ H R _ t fun v H' t' => q v H' (((f σ v _ H' (t'.ent frontE)).ent frontE).ent (Ent.sepL (Ent.sepL l.ent)))
theorem elj_ifP [Dat β] {τ : Type} {tt : TT} {p : Bool} {c : RC} {b : β} {s : τ} {Γs : τ → List Cell} (ht : EvTP E tt Γ p) (h : EvP E te Γ c) (f : Fz c (dat b)) (l : Le Γ (Γs s)) : ElJ E tt te Γ (if p then .ok (some b, s) else .ok (none, s)) Γs := fun σ H R Qn Qy t q =>
  ht σ H R _ t fun H1 t1 => by
    cases p with
    | true => exact h σ H1 R _ t1 fun v H' t' => (show ∀ v H', Top (sep (base E σ (Γs s)) (sep (vA (dat b) v) R)) H' → Qy v H' from q) v H' (((f σ v _ H' (t'.ent frontE)).ent frontE).ent (Ent.sepL (Ent.sepL l.ent)))
    | false => exact (show ∀ H', Top (sep (base E σ (Γs s)) R) H' → Qn H' from q) H1 (t1.ent (Ent.sepL (Ent.sepL l.ent)))
theorem hv_nil {Γ : List Cell} : ∀ j ∈ ([] : List Nat), Γ[j]? = some cAny := fun _ h => by cases h
theorem hv_cons {Γ : List Cell} {i : Nat} {vs : List Nat} (h : Γ[i]? = some cAny) (hr : ∀ j ∈ vs, Γ[j]? = some cAny) : ∀ j ∈ i :: vs, Γ[j]? = some cAny := fun j hj => by
  rcases List.mem_cons.mp hj with e | hj
  · rw [e]
    exact h
  · exact hr j hj
theorem kp_true {ι τ : Type} : ∀ (a : ι) (s : τ), (fun (_ : ι) (_ : List Cell) => True) a Γ := fun _ _ => trivial
/-! numbers of any size -/
def CMulA (i j : Int) : Prop := ((-(2 ^ 64) < i ∧ i < 2 ^ 64) ∨ (-(2 ^ 64) < j ∧ j < 2 ^ 64)) ∨ i.natAbs.log2 + j.natAbs.log2 < 1000000
instance (i j : Int) : Decidable (CMulA i j) := by unfold CMulA; infer_instance
theorem op_mulA {X : Cx} : OpR X (binaryOp .Mult) (rI CMulA fun i j => .int (i * j)) := opI fun i j _ _ _ _ _ hc q => PyProof.Rows.mul_int q (hc.elim (fun h => CMul.ok h) fun h => CMulW.ok h)
def CPowA (i j : Int) : Prop := 0 ≤ j ∧ (Builtin.Int.intBits i : Int) * j ≤ 2 ^ 27
instance (i j : Int) : Decidable (CPowA i j) := by unfold CPowA; infer_instance
theorem op_powA {X : Cx} : OpR X (binaryOp .Pow) (rI CPowA fun i j => .int (i ^ j.toNat)) := opI fun i j _ _ _ _ _ hc q => PyProof.Rows.pow_int hc.1 hc.2 q
def mulA (i j : Int) : Res Int := need (CMulA i j) (.ok (i * j))
def powA (i j : Int) : Res Int := need (CPowA i j) (.ok (i ^ j.toNat))
theorem r2_mulA {i j : Int} : R2J E (rI CMulA fun i j => .int (i * j)) (rV (.int i)) (rV (.int j)) Γ (mulA i j) (fun _ => Γ) fun a => rV (.int a) := r2_IN fun h => h
theorem r2_powA {i j : Int} : R2J E (rI CPowA fun i j => .int (i ^ j.toNat)) (rV (.int i)) (rV (.int j)) Γ (powA i j) (fun _ => Γ) fun a => rV (.int a) := r2_IN fun h => h
/-! lists that grow, typed -/
variable {mk : List PyData → Cell} {i : Nat} {post : β → Fin} {tb : TS}
theorem es_bad {post : γ → Fin} : EvS E tb Γ .bad post := fun σ H R D t q => (show False from q).elim
theorem es_never {u : TS} {post : γ → Fin} : EvS E (tSeq tNever u) Γ .bad post := es_bad
theorem es_appendT [Dat α] {xs : List α} {a : α} {c : RC} (hk : OwnC mk) (h : EvP E te Γ c) (f : Fz c (dat a)) (hi : Γ[i]? = some (mk (xs.map dat))) :
    EvS1 E (tDrop (tBM E.K "list" rAppend (tVar i) (tCons te tNil))) Γ (need (xs.length < lim) (.ok ())) fun _ => Γ.set i (mk ((xs ++ [a]).map dat)) := by
  by_cases hn : xs.length < lim
  · have h1 := es_append hk h f hi
    rw [need_of (by rw [List.length_map]; exact hn)] at h1
    rw [need_of hn, List.map_append]
    exact h1
  · have e : need (xs.length < lim) (Res.ok ()) = .bad := if_neg hn
    rw [e]
    exact es_bad
theorem es_appendTM [Dat α] {m : Res γ} {Γ1 : γ → List Cell} {xs : γ → List α} {a : γ → α} {c : γ → RC} {ds0 : List PyData} (hk : OwnC mk) (h : EvJ E te Γ m Γ1 c) (f : ∀ g, Fz (c g) (dat (a g))) (h0 : Γ[i]? = some (mk ds0)) (hi : ∀ g, (Γ1 g)[i]? = some (mk ((xs g).map dat))) :
    EvS1 E (tDrop (tBM E.K "list" rAppend (tVar i) (tCons te tNil))) Γ (m.bind fun g => need ((xs g).length < lim) (.ok g)) fun g => (Γ1 g).set i (mk ((xs g ++ [a g]).map dat)) := by
  have h1 := es_appendM (ds := fun g => (xs g).map dat) (e := fun g => dat (a g)) hk h f h0 hi
  have e1 : (m.bind fun g => need (((xs g).map (dat : α → PyData)).length < lim) (.ok g)) = m.bind fun g => need ((xs g).length < lim) (.ok g) := by
    congr 1
    funext g
    by_cases hn : (xs g).length < lim
    · rw [need_of hn, need_of (by rw [List.length_map]; exact hn)]
    · unfold need
      rw [if_neg hn, if_neg (by rw [List.length_map]; exact hn)]
  rw [e1] at h1
  have e2 : (fun g => (Γ1 g).set i (mk ((xs g ++ [a g]).map dat))) = fun g => (Γ1 g).set i (mk ((xs g).map dat ++ [dat (a g)])) := by
    funext g
    rw [List.map_append]
    rfl
  rw [e2]
  exact h1
/-- the items of a short list -/
class Dflt (α : Type) where
  d : α
instance : Dflt Int := ⟨0⟩
instance {α β : Type} [Dflt α] [Dflt β] : Dflt (α × β) := ⟨(Dflt.d, Dflt.d)⟩
instance {α : Type} : Dflt (List α) := ⟨[]⟩
def getD0 {α : Type} [Dflt α] (xs : List α) (k : Nat) : α := xs.getD k Dflt.d
theorem es_unlT [Dat α] [Dflt α] {m : Res γ} {Γ1 : γ → List Cell} {c : γ → RC} {g : TGs} {n : Nat} {xs : γ → List α} {Γ' : γ → List Cell} {ix : List Nat} (h : EvJ E te Γ m Γ1 c) (hr : ∀ a, PArg E (Γ1 a) K0 (c a) (ppS E.K ((xs a).map dat)))
    (hg : ∀ a, EvGs E g ((List.range n).map fun k => dat (getD0 (xs a) k)) (Γ1 a) (Γ' a) ix) : EvS1 E (tAsg te (gUnl E.K n g)) Γ (m.bind fun a => need ((xs a).length = n) (.ok a)) Γ' := fun σ H R D t q =>
  h σ H R _ t (wp_mono (wp_bind.mp q) (fun a _ q v H' t' => by
    obtain ⟨hn, q⟩ := wp_need q
    obtain ⟨p, vs, rfl, hs, ln, t2⟩ := readS (hr a) t'
    rw [List.length_map] at ln
    have e : (xs a).map dat = (List.range n).map fun k => dat (getD0 (xs a) k) := by
      refine List.ext_getElem? fun k => ?_
      rw [List.getElem?_map, List.getElem?_map]
      by_cases hk : k < n
      · rw [List.getElem?_range hk, List.getElem?_eq_getElem (by omega)]
        simp [getD0, List.getD, List.getElem?_eq_getElem (show k < (xs a).length by omega)]
      · rw [List.getElem?_eq_none (by omega), List.getElem?_eq_none (by simp; omega)]
        rfl
    rw [e] at t2
    exact ⟨p, vs, rfl, hs, ln.trans hn, hg a σ H' R _ vs (t2.ent (Ent.sepR (Ent.sepR Ent.right))) fun σ' H'' _ t3 => q σ' H'' t3⟩) fun _ x => x σ)
/-! slices whose bounds compute -/
theorem rsl_stg {r : V → Option Int → Option Int → Hp → VK → Prop} {lo hi : Option Int} {c1 : RC} (g : γ) {Γ' : γ → List Cell} {c : γ → RC} (h : RslJ E r cx lo hi Γ (.ok ()) fun _ => c1) (e1 : Γ' g = Γ := by rfl) (e2 : c g = c1 := by rfl) :
    ∀ (σ : St) (H : Hp) (R : Asr) (Q : VK) (x : V), Top (sep (base E σ Γ) (sep (cx σ x) R)) H → (Res.ok g).wp (fun g => ∀ v H', Top (sep (base E σ (Γ' g)) (sep (c g σ v) R)) H' → Q v H') (Exn E R σ) → r x lo hi H Q := fun σ H R Q x t q => by
  have q' : ∀ v H', Top (sep (base E σ (Γ' g)) (sep (c g σ v) R)) H' → Q v H' := q
  rw [e1, e2] at q'
  exact h σ H R Q x t q'
theorem ev_slS {tl th : TO} {r : V → Option Int → Option Int → Hp → VK → Prop} {m0 : Res δ} {ca : δ → RC} {τ ε : Type} {ml : δ → Res τ} {mh : δ → τ → Res ε} {lo : τ → Option Int} {hi : ε → Option Int} {Γ0 : δ → List Cell} {Γ1 : δ → τ → List Cell} {Γ2 : δ → τ → ε → List Cell} {k : δ → τ → ε → Res γ} {c : γ → RC} {Γ' : γ → List Cell}
    (h : EvJ E te Γ m0 Γ0 ca) (h1 : ∀ d, EvO E tl (Γ0 d) (ml d) (Γ1 d) lo) (h2 : ∀ d a, EvO E th (Γ1 d a) (mh d a) (Γ2 d a) hi)
    (hr : ∀ d a b (σ : St) (H : Hp) (R : Asr) (Q : VK) (x : V), Top (sep (base E σ (Γ2 d a b)) (sep (ca d σ x) R)) H → (k d a b).wp (fun g => ∀ v H', Top (sep (base E σ (Γ' g)) (sep (c g σ v) R)) H' → Q v H') (Exn E R σ) → r x (lo a) (hi b) H Q) :
    EvJ E (tSl r te tl th) Γ (m0.bind fun d => (ml d).bind fun a => (mh d a).bind fun b => k d a b) Γ' c := ev_sl h h1 h2 hr
theorem eoS {τ : Type} {v : τ → Int} {m : Res τ} {Γ' : τ → List Cell} (h : EvJ E te Γ m Γ' fun a => rV (.int (v a))) : EvO E (tPart te) Γ m Γ' fun a => some (v a) := fun σ H R Q t q =>
  h σ H R _ t (wp_mono q (fun a _ q x H1 t1 => ⟨v a, int1 t1, q H1 (t1.ent (Ent.sepR Ent.right))⟩) fun _ x => x)
/-! any value -/
def ppX (d : PyData) : PP := fun v F H => Rp F v d ∨ ∃ ds, d = .list ds ∧ ppL ds v F H
theorem pa_xv {Kn : St → Prop} {d : PyData} : PArg E Γ Kn (rV d) (ppX d) := fun _ _ _ _ _ _ _ ⟨_, _, _, _, _, _, x⟩ => .inl x
theorem pa_xl {Kn : St → Prop} {c : RC} {ds : List PyData} (h : PArg E Γ Kn c (ppL ds)) : PArg E Γ Kn c (ppX (.list ds)) := fun σ v F H o kn s q => .inr ⟨ds, rfl, h σ v F H o kn s q⟩
theorem pa_xd {Kn : St → Prop} {c : RC} {d : PyData} (h : PArg E Γ Kn c (ppX d)) : PArg E Γ Kn c (ppD E.K d) := fun σ v F H o kn s q => by
  rcases h σ v F H o kn s q with z | ⟨ds, rfl, p, vs, rfl, e, r⟩
  · exact z.dp s
  · exact .lst (SqL.of e) (r.dp s)
theorem bwS {v : V} {ds : List PyData} (h : Bw E v (ppL ds)) : Bw E v (ppS E.K ds) := fun F H o s c => ppS_of (h F H o s c)
/-! a loop inside a part with other results -/
theorem es_seqG {t u : TS} {ρ : Type} {m : Res (Jn α ρ)} {Γ1 : α → List Cell} {k : α → Res β} {post0 : ρ → Fin} (g : ρ → β) (hg : ∀ r, (post (g r)).out = (post0 r).out) (h1 : EvS E t Γ m (Jn.post Γ1 post0)) (h2 : ∀ a, EvS E u (Γ1 a) (k a) post) :
    EvS E (tSeq t u) Γ (m.bind fun j => match j with | .go a => k a | .out b => .ok (g b)) post := fun σ H R D tt q =>
  h1 σ H R { D with nx := u D } tt (wp_mono (wp_bind.mp q) (fun j _ q1 => by
    cases j with
    | go a => exact fun σ' H' t' => h2 a σ' H' R D t' q1
    | out b =>
      show (post0 b).out.ok E R _
      rw [← hg b]
      exact Fin.out_ok q1) fun _ x => x)
theorem len_of {ps : List PP} {vs : List V} {C : Asr} (t : Top C H) (h : ∀ F H o, Same F H → C.P F H o → parOk ps vs F H) : vs.length = ps.length := by
  obtain ⟨F, o, s, _, p⟩ := t
  exact parOk_len (h F H o s p)
theorem len_of1 {ps : List PP} {vs : List V} {C B : Asr} (t : Top (sep C B) H) (h : ∀ F H o, Same F H → C.P F H o → parOk ps vs F H) : vs.length = ps.length := len_of (t.ent Ent.left) h
end
theorem len0 {vs : List V} (h : vs.length = 0) : vs = [] := List.eq_nil_of_length_eq_zero h
theorem len1 {vs : List V} (h : vs.length = 1) : ∃ a, vs = [a] := match vs, h with | [a], _ => ⟨a, rfl⟩
theorem len2 {vs : List V} (h : vs.length = 2) : ∃ a b, vs = [a, b] := match vs, h with | [a, b], _ => ⟨a, b, rfl⟩
theorem len3 {vs : List V} (h : vs.length = 3) : ∃ a b c, vs = [a, b, c] := match vs, h with | [a, b, c], _ => ⟨a, b, c, rfl⟩
theorem len4 {vs : List V} (h : vs.length = 4) : ∃ a b c d, vs = [a, b, c, d] := match vs, h with | [a, b, c, d], _ => ⟨a, b, c, d, rfl⟩
theorem len5 {vs : List V} (h : vs.length = 5) : ∃ a b c d e, vs = [a, b, c, d, e] := match vs, h with | [a, b, c, d, e], _ => ⟨a, b, c, d, e, rfl⟩
theorem len6 {vs : List V} (h : vs.length = 6) : ∃ a b c d e f, vs = [a, b, c, d, e, f] := match vs, h with | [a, b, c, d, e, f], _ => ⟨a, b, c, d, e, f, rfl⟩
end Lc
/-! Lc: values of any kind: isinstance, what a start and cards are -/
namespace Lc
theorem lt_len {n m : Nat} (h : Nat.ble (n + 1) m = true) : n < m := Nat.le_of_ble_eq_true h
open PySem L2
section
variable {E : Ec} {Γ : List Cell} {R A : Asr} {H : Hp} {x y v : V} {d : PyData} {cx cy : RC} {α β γ δ : Type} {ta tb tc te : TE} {tr : TA} {tt tu : TT}
open Res
theorem pg_tupK {X : Cx} {pos : Pos} {es : List Expr} {k : Nat} {t : TGs} (K : PySem.W.Frag) (n : Nat) (hK : X.K = K) (hc : X.calm = true) (h : PGs X es t) (hn : (assignEach es X.env).length = n) (hst : (assignEach es X.env).findIdx? (·.1) = none) : PG X (.Tuple es k pos) (gTup K n t) :=
  hK ▸ pg_tup hc h hn hst
theorem ixK {X : Cx} (K : PySem.W.Frag) (h : X.K = K) : IxR X (rIxL K) := h ▸ ix_list
theorem slK {X : Cx} (K : PySem.W.Frag) (h : X.K = K) : SlR X (rSlL K) := h ▸ sl_list
theorem lenK {X : Cx} (K : PySem.W.Frag) (h : X.K = K) : CallR X (.builtin "len") (fun xs H Q => ∃ p ys, xs = [.ref p] ∧ (SqL K H p ys ∨ SqT K H p ys) ∧ Q (.int ys.length) H) := by
  subst h
  exact call_len_seq
theorem listK {X : Cx} (K : PySem.W.Frag) (h : X.K = K) : CallR X (.type "list") (fun xs H Q => ∃ p ys, xs = [.ref p] ∧ (SqL K H p ys ∨ SqT K H p ys) ∧ ∀ l, H l = none → Q (.ref l) (upd H l (.lst ys))) := by
  subst h
  exact call_list_of
theorem sumK {X : Cx} (K : PySem.W.Frag) (h : X.K = K) (hc : X.calm = true) : CallR X (.builtin "sum") (rSum K) := h ▸ cr_sum hc
theorem minK {X : Cx} (K : PySem.W.Frag) (h : X.K = K) (hc : X.calm = true) : CallR X (.builtin "min") (rMin K) := h ▸ cr_min hc
theorem maxK {X : Cx} (K : PySem.W.Frag) (h : X.K = K) (hc : X.calm = true) : CallR X (.builtin "max") (rMax K) := h ▸ cr_max hc
theorem allK {X : Cx} (K : PySem.W.Frag) (h : X.K = K) (hc : X.calm = true) : CallR X (.builtin "all") (rAll K) := h ▸ cr_all hc
theorem anyK {X : Cx} (K : PySem.W.Frag) (h : X.K = K) (hc : X.calm = true) : CallR X (.builtin "any") (rAny K) := h ▸ cr_any hc
theorem es_parC {m : Res γ} {Γ1 : γ → List Cell} {c1 c2 : γ → RC} {k1 k2 : γ → Cell} {i j : Nat} {cs : γ → List RC} (h : EvA E tr Γ m Γ1 cs) (e : cs = fun a => [c1 a, c2 a]) (s1 : ∀ a, Sto (c1 a) (k1 a)) (s2 : ∀ a, Sto (c2 a) (k2 a)) (f2 : ∀ a, Fl (c2 a)) (hi : ∀ a, i < (Γ1 a).length) (hj : ∀ a, j < (Γ1 a).length) :
    EvS1 E (tPar i j tr) Γ m fun a => ((Γ1 a).set i (k1 a)).set j (k2 a) := es_par (e ▸ h) s1 s2 f2 hi hj
theorem es_par3C {m : Res γ} {Γ1 : γ → List Cell} {c1 c2 c3 : γ → RC} {k1 k2 k3 : γ → Cell} {i j l : Nat} {cs : γ → List RC} (h : EvA E tr Γ m Γ1 cs) (e : cs = fun a => [c1 a, c2 a, c3 a]) (s1 : ∀ a, Sto (c1 a) (k1 a)) (s2 : ∀ a, Sto (c2 a) (k2 a)) (s3 : ∀ a, Sto (c3 a) (k3 a)) (f2 : ∀ a, Fl (c2 a)) (f3 : ∀ a, Fl (c3 a))
    (hi : ∀ a, i < (Γ1 a).length) (hj : ∀ a, j < (Γ1 a).length) (hl : ∀ a, l < (Γ1 a).length) :
    EvS1 E (tPar3 i j l tr) Γ m fun a => (((Γ1 a).set i (k1 a)).set j (k2 a)).set l (k3 a) := es_par3 (e ▸ h) s1 s2 s3 f2 f3 hi hj hl
theorem ei_range1C {m : Res α} {Γ1 : α → List Cell} {n : α → Int} {cs : α → List RC} (h : EvA E tr Γ m Γ1 cs) (e : cs = fun a => [rV (.int (n a))]) : EvI E (iRng1 tr) Γ (m.bind fun a => (rangeR 0 (n a)).bind fun xs => .ok (a, xs)) (fun p => Γ1 p.1) (fun p => p.2.map dat) fun _ _ => True := ei_range1M (e ▸ h)
theorem ei_range2C {m : Res α} {Γ1 : α → List Cell} {a b : α → Int} {cs : α → List RC} (h : EvA E tr Γ m Γ1 cs) (e : cs = fun r => [rV (.int (a r)), rV (.int (b r))]) : EvI E (iRng2 tr) Γ (m.bind fun r => (rangeR (a r) (b r)).bind fun xs => .ok (r, xs)) (fun p => Γ1 p.1) (fun p => p.2.map dat) fun _ _ => True := ei_range2M (e ▸ h)
theorem ei_enumC [Dat α] {m : Res γ} {Γ' : γ → List Cell} {c : γ → RC} {xs : γ → List α} {Kp : γ → List Cell → Prop} {cs : γ → List RC} (h : EvA E tr Γ m Γ' cs) (e : cs = fun a => [c a]) (hs : ∀ a, Src E (Γ' a) (c a) ((xs a).map dat) (Kp a)) : EvI E (iEnum E.K tr) Γ m Γ' (fun a => (enumL (xs a)).map dat) Kp := ei_enumM (e ▸ h) hs
theorem ei_zipC [Dat α] [Dat β] {m : Res γ} {Γ' : γ → List Cell} {c c' : γ → RC} {xs : γ → List α} {ys : γ → List β} {Kp Kp' : γ → List Cell → Prop} {cs : γ → List RC} (h : EvA E tr Γ m Γ' cs) (e : cs = fun a => [c a, c' a]) (hs : ∀ a, Src E (Γ' a) (c a) ((xs a).map dat) (Kp a)) (hs' : ∀ a, Src E (Γ' a) (c' a) ((ys a).map dat) (Kp' a)) :
    EvI E (iZip E.K tr) Γ m Γ' (fun a => ((xs a).zip (ys a)).map dat) fun a Γ'' => Kp a Γ'' ∧ Kp' a Γ'' := ei_zip (e ▸ h) hs hs'
theorem ev_callSC {ma : Res δ} {Γ1 : δ → List Cell} {cs : δ → List RC} {ps : α → List PP} {m : α → Res β} {cb : β → V → Asr} (x : δ → α) (h : EvA E tr Γ ma Γ1 cs) (e : Γ1 = fun _ => Γ) (hp : ∀ a, Pars E Γ K0 (cs a) (ps (x a))) (hx : XOk E Γ) :
    EvJ E (tCallS (Sp0 E.ec ps m cb) (WE E.W) tr) Γ (ma.bind fun a => m (x a)) (fun _ => Γ) (fun b _ => cb b) := ev_callS' x (e ▸ h) hp hx
/-- a part that may go on or end -/
def Jn.sq {τ ρ β : Type} (m : Res (Jn τ ρ)) (k : τ → Res β) (g : ρ → β) : Res β := m.bind fun j => match j with | .go a => k a | .out b => .ok (g b)
theorem es_seqGJ {t u : TS} {ρ : Type} {m : Res (Jn α ρ)} {Γ1 : α → List Cell} {k : α → Res β} {post0 : ρ → Fin} {post : β → Fin} (g : ρ → β) (hg : ∀ r, (post (g r)).out = (post0 r).out) (h1 : EvS E t Γ m (Jn.post Γ1 post0)) (h2 : ∀ a, EvS E u (Γ1 a) (k a) post) :
    EvS E (tSeq t u) Γ (Jn.sq m k g) post := es_seqG g hg h1 h2
theorem es_seqCJ {t u : TS} {m1 : Res (Jn α β)} {Γ1 : α → List Cell} {k : α → Res β} {post : β → Fin} (h1 : EvS E t Γ m1 (Jn.post Γ1 post)) (h2 : ∀ a, EvS E u (Γ1 a) (k a) post) :
    EvS E (tSeq t u) Γ (Jn.sq m1 k fun b => b) post := es_seqC h1 h2
theorem Top.allocX {p : Addr} {ob : HO} {B : Asr} (t : Top A H) (hp : H p = none) (r : ∀ F, F p = none → ∀ H o, B.P (upd F p ob) H o) : Top (sep B A) (upd H p ob) := by
  obtain ⟨F, o, s, k, a⟩ := t
  have ne : ∀ q, o q → q ≠ p := fun q hq e => (k q hq).2 (e ▸ hp)
  have fp : F p = none := by
    cases e : F p with
    | none => rfl
    | some u => rw [s p u e] at hp; cases hp
  have sF : Same F (upd F p ob) := fun b u e => by
    rw [upd_ne (fun z => by rw [z, fp] at e; cases e)]
    exact e
  refine ⟨upd F p ob, o, fun b u e => ?_, fun q hq => ?_, sep_pers (fun _ => r F fp _ _) (A.st sF (fun q hq => upd_ne (ne q hq)) a)⟩
  · by_cases hb : b = p
    · subst hb
      rw [upd_same] at e ⊢
      exact e
    · rw [upd_ne hb] at e ⊢
      exact s b u e
  · rw [upd_ne (ne q hq), upd_ne (ne q hq)]
    exact k q hq
/-- a tuple of classes -/
def tyT (ns : List String) (v : V) : Asr := ⟨fun F _ _ => ∃ p, v = .ref p ∧ F p = some (.tup (ns.map V.ty)), fun s _ ⟨p, e, h⟩ => ⟨p, e, s _ _ h⟩, fun _ h => h⟩
theorem ev_tyT2 {a b : String} : EvP E (tTup (tCons (tC (.ty a)) (tCons (tC (.ty b)) tNil))) Γ (fun _ v => tyT [a, b] v) := fun σ H R Q t q =>
  ⟨(show 2 ≤ sizeLine by decide), fun p hp => q (.ref p) _ (((Top.allocX (B := tyT [a, b] (.ref p)) (ob := .tup [.ty a, .ty b]) t hp fun F fp H o => ⟨p, rfl, upd_same⟩)).ent frontE)⟩
theorem tyT_pair : ∀ ns : List String, Paired ClsV (ns.map V.ty) (ns.map Value.type)
  | [] => .nil
  | n :: ns => .cons (.ty n) (tyT_pair ns)
theorem rn_isiT {ns : List String} {b : Bool} (hk : PySem.W.kitAny E.K (.type (tyName d)) (ns.map Value.type) = some b) : RnP E (rIsiT E.K) [rV d, fun _ v => tyT ns v] Γ (rV (.bool b)) := fun σ H R Q vs t q => by
  obtain ⟨x, y, rfl, t1⟩ := two_args t
  obtain ⟨F, s, z⟩ := top1 t1
  obtain ⟨p, rfl, hp⟩ : ∃ p, y = .ref p ∧ H p = some (.tup (ns.map V.ty)) := t1.fact fun F o s ⟨_, _, _, _, _, _, ⟨_, _, _, _, _, _, ⟨_, _, _, _, _, ⟨p, e, h⟩, _⟩⟩⟩ => ⟨p, e, s _ _ h⟩
  exact ⟨x, p, _, .type (tyName d), _, b, rfl, hp, tyT_pair ns, ty_of s z, hk, q _ H (res2 t1 fun F => .bl _)⟩
theorem rn_isiTL {ns : List String} {ds : List PyData} {b : Bool} (h : PArg E Γ K0 cx (ppL ds)) (hk : PySem.W.kitAny E.K (.type "list") (ns.map Value.type) = some b) : RnP E (rIsiT E.K) [cx, fun _ v => tyT ns v] Γ (rV (.bool b)) := fun σ H R Q vs t q => by
  obtain ⟨x, y, rfl, t1⟩ := two_args t
  obtain ⟨a, ws, rfl, e, _, _⟩ := readL h t1
  obtain ⟨p, rfl, hp⟩ : ∃ p, y = .ref p ∧ H p = some (.tup (ns.map V.ty)) := t1.fact fun F o s ⟨_, _, _, _, _, _, ⟨_, _, _, _, _, _, ⟨_, _, _, _, _, ⟨p, e, h⟩, _⟩⟩⟩ => ⟨p, e, s _ _ h⟩
  exact ⟨_, p, _, .type "list", _, b, rfl, hp, tyT_pair ns, .base (.lst e), hk, q _ H (res2 t1 fun F => .bl _)⟩
def kitAnyB (a : String) : List String → Option Bool
  | [] => some false
  | n :: ns => match kitB a n with
    | some true => some true
    | some false => kitAnyB a ns
    | none => none
theorem kit_any {K : PySem.W.Frag} {a : String} : ∀ {ns : List String} {b : Bool}, kitAnyB a ns = some b → PySem.W.kitAny K (.type a) (ns.map Value.type) = some b
  | [], b, h => by
    cases h
    rfl
  | n :: ns, b, h => by
    unfold kitAnyB at h
    cases e : kitB a n with
    | none => rw [e] at h; cases h
    | some c =>
      rw [e] at h
      cases c with
      | true =>
        cases h
        exact kitAny_cons (kit_ty e) (fun z => by cases z) fun _ => rfl
      | false => exact kitAny_cons (kit_ty e) (fun _ => kit_any h) fun z => by cases z
theorem etp_eq {a b : Bool} (h : EvTP E tt Γ a) (e : a = b) : EvTP E tt Γ b := e ▸ h
theorem es_ifFF {t u : TS} {m : Res β} {post : β → Fin} (h : EvTP E tt Γ false) (h2 : EvS E u Γ m post) : EvS E (tSeq (tIfS tt t tNext) u) Γ m post := fun σ H R D t0 q =>
  h σ H R _ t0 fun H1 t1 => h2 σ H1 R D t1 q
theorem ev_callS1M {mk : List PyData → Cell} {i : Nat} {ma : Res δ} {Γ1 : δ → List Cell} {cs : δ → List RC} {ps : Addr → α → List PP} {i0 : α → List PyData} {m : α → Res β} {i1 : β → List PyData} {cb : β → V → Asr} (x : δ → α) (hk : OwnC mk) (h : EvA E tr Γ ma Γ1 cs) (hi : ∀ a, (Γ1 a)[i]? = some (mk (i0 (x a))))
    (hp : ∀ a p, Pars E ((Γ1 a).set i cAny) (K1 i p) (cs a) (ps p (x a))) (hx : ∀ a, XOk E (Γ1 a)) : EvJ E (tCallS (Sp1 E.ec ps i0 m i1 cb) (WE E.W) tr) Γ (ma.bind fun a => (m (x a)).bind fun b => .ok (a, b)) (fun r => (Γ1 r.1).set i (mk (i1 r.2))) (fun r _ => cb r.2) := fun σ H R Q t q =>
  h σ H R _ t (wp_mono (wp_bind.mp q) (fun a _ q1 vs H1 t1 => call1_core hk (hi a) (hp a) (hx a) (fun k H z => z) t1 (wp_mono (wp_bind.mp q1) (fun b _ q2 => q2) fun _ z => z)) fun _ z => z)
theorem ev_call01M {mk : List PyData → Cell} {i : Nat} {ma : Res δ} {Γ1 : δ → List Cell} {cs : δ → List RC} {ps : Addr → α → List PP} {i0 : α → List PyData} {m : α → Res β} {i1 : β → List PyData} {cb : β → V → Asr} (x : δ → α) (hk : OwnC mk) (h : EvA E tr Γ ma Γ1 cs) (hi : ∀ a, (Γ1 a)[i]? = some (mk (i0 (x a))))
    (hp : ∀ a p, Pars E ((Γ1 a).set i cAny) (K1 i p) (cs a) (ps p (x a))) (hx : ∀ a, XOk E (Γ1 a)) (hc : Calm E) : EvJ E (tCall (Sp1 E.ec ps i0 m i1 cb) [] E0 tr) Γ (ma.bind fun a => (m (x a)).bind fun b => .ok (a, b)) (fun r => (Γ1 r.1).set i (mk (i1 r.2))) (fun r _ => cb r.2) := fun σ H R Q t q =>
  h σ H R _ t (wp_mono (wp_bind.mp q) (fun a _ q1 vs H1 t1 => by
    rw [List.append_nil]
    exact call1_core hk (hi a) (hp a) (hx a) (fun k H z => (hc _ _ _ _ z).elim) t1 (wp_mono (wp_bind.mp q1) (fun b _ q2 => q2) fun _ z => z)) fun _ z => z)
/-- a promise that no reduction looks into -/
structure WP {α : Type} (m : Res α) (Q : α → Prop) (X : Nat → Prop) : Prop where
  wp : m.wp Q X
theorem sp0_go {ec : Nat → Value} {ps : α → List PP} {m : α → Res β} {c : β → V → Asr} {vs : List V} {Q : VK} {X : XK} {G : Prop} (h : Sp0 ec ps m c vs H Q X)
    (k : ∀ (x : α) (C : Asr), Top C H → (∀ F H o, Same F H → C.P F H o → parOk (ps x) vs F H) → WP (m x) (fun b => ∀ v H', Top (sep C (c b v)) H' → Q v H') (fun k => ∀ H', Top C H' → X (ec k) none H') → G) : G := by
  obtain ⟨x, C, a, b, d⟩ := h
  exact k x C a b ⟨d⟩
theorem sp1_go {ec : Nat → Value} {ps : Addr → α → List PP} {i0 : α → List PyData} {m : α → Res β} {i1 : β → List PyData} {c : β → V → Asr} {vs : List V} {Q : VK} {X : XK} {G : Prop} (h : Sp1 ec ps i0 m i1 c vs H Q X)
    (k : ∀ (p : Addr) (x : α) (C : Asr), Top (sep C (oA p (i0 x))) H → (∀ F H o, Same F H → C.P F H o → parOk (ps p x) vs F H) → WP (m x) (fun b => ∀ v H', Top (sep C (sep (oA p (i1 b)) (c b v))) H' → Q v H') (fun k => ∀ H', Top (sep C (oA p (i0 x))) H' → X (ec k) none H') → G) : G := by
  obtain ⟨p, x, C, a, b, d⟩ := h
  exact k p x C a b ⟨d⟩
theorem evp_andF (h : EvP E ta Γ (rV (.bool false))) : EvP E (tAndV ta tb) Γ (rV (.bool false)) := fun σ H R Q t q => h σ H R _ t fun v H1 t1 => ⟨false, bl_of t1, q (.bl false) H1 (bl_of t1 ▸ t1)⟩
theorem etp_orT (h : EvTP E tt Γ true) : EvTP E (tOr tt tu) Γ true := fun σ H R Q t q => h σ H R _ t fun H1 t1 => q H1 t1
theorem es_ifTT {t u : TS} {m : Res β} {post : β → Fin} (h : EvTP E tt Γ true) (h1 : EvS E t Γ m fun b => (post b).out) : EvS E (tSeq (tIfS tt t tNext) u) Γ m post := fun σ H R D t0 q =>
  h σ H R _ t0 fun H1 t1 => h1 σ H1 R { D with nx := u D } t1 (wp_mono q (fun b _ q1 => Fin.out_ok q1) fun _ x => x)
theorem ev_bwX {i : Nat} (hi : Γ[i]? = some (cIs v)) (h : Bw E v (ppX d)) (hd : ∀ ds, d ≠ .list ds) : EvP E (tVar i) Γ (rV d) := fun σ H R Q t q => by
  obtain ⟨F, o, s, kk, o1, o2, h1, h2, e, ⟨o3, o4, h3, h4, e', a, b⟩, b2⟩ := t
  obtain ⟨x, ex, hx⟩ := sl_get hi a
  have e1 : x = some v := hx
  subst e1
  have z : Rp F v d := by
    rcases h F H _ s b with z | ⟨ds, e, _⟩
    · exact z
    · exact (hd ds e).elim
  exact ⟨v, ex, q v H ⟨F, o, s, kk, o1, o2, h1, h2, e, ⟨o3, o4, h3, h4, e', a, b⟩, sep_pers (fun _ => z) b2⟩⟩
theorem tyX_of {K : PySem.W.Frag} {F : Hp} (s : Same F H) (h : ppX d x F H) : TyX K H x (.type (tyName d)) := by
  rcases h with z | ⟨ds, rfl, p, vs, rfl, e, r⟩
  · exact ty_of s z
  · exact .base (.lst e)
theorem rn_isiX {n : String} {b : Bool} (h : PArg E Γ K0 cx (ppX d)) (hk : PySem.W.kitOne E.K (.type (tyName d)) (.type n) = some b) : RnP E (rIsi E.K) [cx, fun _ v => pur (v = .ty n)] Γ (rV (.bool b)) := fun σ H R Q vs t q => by
  obtain ⟨x, y, rfl, t1⟩ := two_args t
  obtain ⟨F, s, z⟩ := par1 h t1
  have ey : y = .ty n := t1.fact fun F o s ⟨_, _, _, _, _, _, ⟨_, _, _, _, _, _, ⟨_, _, _, _, _, e, _⟩⟩⟩ => e
  subst ey
  exact ⟨x, .ty n, .type (tyName d), .type n, b, rfl, .ty n, tyX_of s z, hk, q _ H (res2 t1 fun F => .bl _)⟩
def isIntD (d : PyData) (a b : Int) : Bool := match d with
  | .int i => decide (a ≤ i) && decide (i ≤ b)
  | _ => false
abbrev tIsi (K : PySem.W.Frag) (te : TE) (n : String) : TE := tCB (rIsi K) (tCons te (tCons (tC (.ty n)) tNil))
theorem ev_isiX {n : String} {b : Bool} {i : Nat} (hi : Γ[i]? = some (cIs v)) (h : Bw E v (ppX d)) (hk : PySem.W.kitOne E.K (.type (tyName d)) (.type n) = some b) : EvP E (tIsi E.K (tVar i) n) Γ (rV (.bool b)) :=
  evp_cb (eap_cons (ev_slot hi no_Is) (eap_cons ev_ty eap_nil)) (rn_isiX (pa_bw hi h) hk)
abbrev rLe' : R2 := rI0 fun i j => .bl (decide (i ≤ j))
theorem ev_is_integer {a b : Int} {i j k : Nat} (hi : Γ[i]? = some (cIs v)) (hj : Γ[j]? = some (cV (.int a))) (hk : Γ[k]? = some (cV (.int b))) (h : Bw E v (ppX d)) :
    EvP E (tAndV (tIsi E.K (tVar i) "int") (tAndV (tNotV (tIsi E.K (tVar i) "bool")) (tChain rLe' rLe' (tVar j) (tVar i) (tVar k)))) Γ (rV (.bool (isIntD d a b))) := by
  cases d with
  | int n =>
    have h1 : EvP E (tIsi E.K (tVar i) "int") Γ (rV (.bool true)) := ev_isiX hi h (kit_ty (show kitB "int" "int" = some true by decide +kernel))
    have h2 : EvP E (tIsi E.K (tVar i) "bool") Γ (rV (.bool false)) := ev_isiX hi h (kit_ty (show kitB "int" "bool" = some false by decide +kernel))
    have h3 : EvP E (tVar i) Γ (rV (.int n)) := ev_bwX hi h (fun _ z => by cases z)
    have z : EvP E _ Γ (rV (.bool (true && (!false && (decide (a ≤ n) && decide (n ≤ b)))))) := evp_and h1 (evp_and (evp_not h2) (evp_chain (p := fun i j => decide (i ≤ j)) (p' := fun i j => decide (i ≤ j)) (ev_var hj) h3 (ev_var hk) (ch_B0 (g := fun i j => decide (i ≤ j))) (ch_B0 (g := fun i j => decide (i ≤ j)))))
    exact z
  | bool n =>
    have h1 : EvP E (tIsi E.K (tVar i) "int") Γ (rV (.bool true)) := ev_isiX hi h (kit_ty (show kitB "bool" "int" = some true by decide +kernel))
    have h2 : EvP E (tIsi E.K (tVar i) "bool") Γ (rV (.bool true)) := ev_isiX hi h (kit_ty (show kitB "bool" "bool" = some true by decide +kernel))
    exact evp_and h1 (evp_andF (evp_not h2))
  | none =>
    have h1 : EvP E (tIsi E.K (tVar i) "int") Γ (rV (.bool false)) := ev_isiX hi h (kit_ty (show kitB "NoneType" "int" = some false by decide +kernel))
    exact evp_andF h1
  | str z =>
    have h1 : EvP E (tIsi E.K (tVar i) "int") Γ (rV (.bool false)) := ev_isiX hi h (kit_ty (show kitB "str" "int" = some false by decide +kernel))
    exact evp_andF h1
  | list z =>
    have h1 : EvP E (tIsi E.K (tVar i) "int") Γ (rV (.bool false)) := ev_isiX hi h (kit_ty (show kitB "list" "int" = some false by decide +kernel))
    exact evp_andF h1
  | tuple z =>
    have h1 : EvP E (tIsi E.K (tVar i) "int") Γ (rV (.bool false)) := ev_isiX hi h (kit_ty (show kitB "tuple" "int" = some false by decide +kernel))
    exact evp_andF h1
  | dict z =>
    have h1 : EvP E (tIsi E.K (tVar i) "int") Γ (rV (.bool false)) := ev_isiX hi h (kit_ty (show kitB "dict" "int" = some false by decide +kernel))
    exact evp_andF h1
def isStartD (d : PyData) : Bool := match d with
  | .list ds => decide (1 ≤ ds.length) && decide (ds.length ≤ 30) && ds.all fun d => isIntD d 0 1000000000000000000000000000000
  | _ => false
def isCardsD (d : PyData) : Bool := match d with
  | .list ds => decide (ds.length ≤ 200) && ds.all fun d => isIntD d 1 1000000000000000000000000000000
  | _ => false
theorem bwL_of {ds : List PyData} (h : Bw E v (ppX (.list ds))) : Bw E v (ppL (ds.map dat)) := fun F H o s c => by
  have e : ds.map (dat : PyData → PyData) = ds := List.map_id ds
  rw [e]
  rcases h F H o s c with z | ⟨ds', e, z⟩
  · exact ppL_of s z
  · cases e
    exact z
/-- the test that a value is no list -/
theorem et_nolist {i : Nat} (hi : Γ[i]? = some (cIs v)) (h : Bw E v (ppX d)) (hd : ∀ ds, d ≠ .list ds) : EvTP E (tNot (tB (tIsi E.K (tVar i) "list"))) Γ true := by
  have z : EvP E (tIsi E.K (tVar i) "list") Γ (rV (.bool false)) := by
    cases d with
    | list ds => exact (hd ds rfl).elim
    | dict ds => exact ev_isiX hi h (kit_ty (show kitB "dict" "list" = some false by decide +kernel))
    | none => exact ev_isiX hi h (kit_ty (show kitB "NoneType" "list" = some false by decide +kernel))
    | bool b => exact ev_isiX hi h (kit_ty (show kitB "bool" "list" = some false by decide +kernel))
    | int b => exact ev_isiX hi h (kit_ty (show kitB "int" "list" = some false by decide +kernel))
    | str b => exact ev_isiX hi h (kit_ty (show kitB "str" "list" = some false by decide +kernel))
    | tuple b => exact ev_isiX hi h (kit_ty (show kitB "tuple" "list" = some false by decide +kernel))
  exact etp_not (et_val (b := fun _ => false) z)
end
section
variable {K : PySem.W.Frag} {Ex : XK} {ec : Nat → Value} {C : Asr} {Q : VK} {H : Hp} {σ : St} {t : TS} {β : Type} {m : Res β} {c : β → V → Asr} {Γ0 : List Cell} {Γr : β → List Cell}
theorem fin0W (hT : Top C H) (hin : ∀ F o, Same F H → C.P F H o → allP F H σ Γ0) (hw : WP m (fun b => ∀ v H', Top (sep C (c b v)) H' → Q v H') fun k => ∀ H', Top C H' → Ex (ec k) none H')
    (hb : EvS (Ecf K Ex ec C) t Γ0 m fun b => .rt (Γr b) fun _ => c b) : t { nx := fun _ H' => Q .non H', rt := Q } σ H := fin0 hT hin hw.wp hb
theorem fin0NW (hT : Top C H) (hin : ∀ F o, Same F H → C.P F H o → allP F H σ Γ0) (hw : WP m (fun b => ∀ v H', Top (sep C (vA .none v)) H' → Q v H') fun k => ∀ H', Top C H' → Ex (ec k) none H')
    (hb : EvS (Ecf K Ex ec C) t Γ0 m fun b => .nx (Γr b)) : t { nx := fun _ H' => Q .non H', rt := Q } σ H := fin0N hT hin hw.wp hb
theorem fin1W {p : Addr} {i : Nat} {i0 : List PyData} {i1 : β → List PyData} {Γ : List Cell} {Er : Nat → Prop} (hT : Top (sep C (oA p i0)) H) (hi : i < Γ.length) (hs : σ[i]? = some (some (.ref p))) (hin : ∀ F o, Same F H → C.P F H o → allP F H σ (Γ.set i cAny)) (hr : ∀ b, (Γr b)[i]? = some (cAt p (i1 b)))
    (hw : WP (noErr m) (fun b => ∀ v H', Top (sep C (sep (oA p (i1 b)) (c b v))) H' → Q v H') Er)
    (hb : EvS (Ecf K Ex ec C) t (Γ.set i (cAt p i0)) m fun b => .rt (Γr b) fun _ => c b) : t { nx := fun _ H' => Q .non H', rt := Q } σ H := fin1 hT hi hs hin hr hw.wp hb
end
end Lc
/-! Lc: more: a value that may be None, sorted -/
namespace Lc
open PySem L2
section
variable {E : Ec} {Γ : List Cell} {R A : Asr} {H : Hp} {cx : RC} {α β γ : Type} {te : TE} {tr : TA} {t : TS}
open Res
instance : Dflt (Option α) := ⟨none⟩
def unO : Option α → Res α
  | some a => .ok a
  | none => .bad
theorem es_unO [Dat α] {i : Nat} {o : Option α} {m : α → Res β} {post : β → Fin} (h0 : Γ[i]? = some (cV (dat o))) (h : ∀ a, EvS E t (Γ.set i (cV (dat a))) (m a) post) : EvS E t Γ ((unO o).bind m) post := by
  cases o with
  | none => exact fun σ H R D t0 q => (show False from q).elim
  | some a =>
    obtain ⟨hl, e⟩ := List.getElem?_eq_some_iff.mp h0
    have z := h a
    have e2 : Γ.set i (cV (dat a)) = Γ := by
      have : Γ.set i (Γ[i]) = Γ := List.set_getElem_self hl
      rw [e] at this
      exact this
    rw [e2] at z
    exact z
theorem sort_uniq : ∀ {a b : List Int}, a.Perm b → a.Pairwise (· ≤ ·) → b.Pairwise (· ≤ ·) → a = b
  | [], b, p, _, _ => (List.nil_perm.mp p).symm
  | x :: a, [], p, _, _ => (List.perm_nil.mp p)
  | x :: a, y :: b, p, ha, hb => by
    have h1 := List.pairwise_cons.mp ha
    have h2 := List.pairwise_cons.mp hb
    have hx : x ∈ y :: b := p.subset List.mem_cons_self
    have hy : y ∈ x :: a := p.symm.subset List.mem_cons_self
    have e : x = y := by
      rcases List.mem_cons.mp hx with e | hx
      · exact e
      · rcases List.mem_cons.mp hy with e | hy
        · exact e.symm
        · have := h1.1 y hy
          have := h2.1 x hx
          omega
    subst e
    rw [sort_uniq (p.cons_inv) h1.2 h2.2]
def sortL (l : List Int) : List Int := l.mergeSort
theorem sortL_perm (l : List Int) : (sortL l).Perm l := List.mergeSort_perm l _
theorem sortL_sorted (l : List Int) : (sortL l).Pairwise (· ≤ ·) := by
  have := List.pairwise_mergeSort (le := fun a b : Int => decide (a ≤ b)) (fun a b c h1 h2 => by simp at *; omega) (fun a b => by simp; omega) l
  exact this.imp fun h => by simpa using h
theorem rn_sorted {ns : List Int} (h : PArg E Γ K0 cx (ppS E.K (ns.map dat))) : RnP E (rSortedI E.K) [cx] Γ (rO ((sortL ns).map dat)) := fun σ H R Q vs t q => by
  obtain ⟨x, rfl, t1⟩ := one_arg t
  obtain ⟨a, rfl, hs⟩ := ints_of h t1
  refine ⟨a, ns, rfl, hs, fun ns' p hp ho hn => ?_⟩
  have e : ns' = sortL ns := sort_uniq (hp.trans (sortL_perm ns).symm) ho (sortL_sorted ns)
  subst e
  exact q _ _ ((newL t1 hn fun F o s _ => RpAll.of_ints _).ent (Ent.sepR (Ent.sepR Ent.right)))
theorem RpAll_erase {F : Hp} {vs : List V} {ds : List PyData} (r : RpAll F vs ds) (j : Nat) : RpAll F (vs.eraseIdx j) (ds.eraseIdx j) := by
  rw [List.eraseIdx_eq_take_drop_succ, List.eraseIdx_eq_take_drop_succ]
  exact (r.take j).append (r.drop (j + 1))
/-- xs.pop(k) -/
def popR {α : Type} (xs : List α) (k : Int) : Res (α × List α) := need (xs.length ≤ lim) (match ixN xs.length k with
  | some j => match xs[j]? with
    | some a => .ok (a, xs.eraseIdx j)
    | none => .bad
  | none => .bad)
theorem ev_popAt [Dat α] {mk : List PyData → Cell} {i : Nat} {xs : List α} {k : Int} (hk : OwnC mk) (h : EvP E te Γ (rV (.int k))) (hi : Γ[i]? = some (mk (xs.map dat))) :
    EvJ E (tBM E.K "list" rPopAt (tVar i) (tCons te tNil)) Γ (popR xs k) (fun r => Γ.set i (mk (r.2.map dat))) (fun r => rV (dat r.1)) := fun σ H R Q t q => by
  obtain ⟨hn, q⟩ := wp_need q
  obtain ⟨p, hs, t2, _⟩ := take_own (A := R) hk hi t
  obtain ⟨vs, ep, _⟩ := own_at t2
  refine ⟨_, hs, .inl ⟨rfl, vs, SqL.of ep⟩, ?_⟩
  refine h σ H R _ t fun w H1 t1 => ?_
  have ew : w = .int k := int1 t1
  subst ew
  have t3 := t1.ent (Ent.sepR Ent.right)
  obtain ⟨p', hs', t4, back⟩ := take_own hk hi t3
  rw [hs] at hs'
  cases hs'
  obtain ⟨vs', ep', ln⟩ := own_at t4
  rw [List.length_map] at ln
  cases ej : ixN xs.length k with
  | none =>
    rw [ej] at q
    exact (show False from q).elim
  | some j =>
    rw [ej] at q
    obtain ⟨sq, jl, b1, b2⟩ := ixN_seq ej
    cases ea : xs[j]? with
    | none =>
      simp only [ea] at q
      exact (show False from q).elim
    | some a =>
      simp only [ea] at q
      have hj : j < vs'.length := by omega
      have hv : vs'[j]? = some vs'[j] := List.getElem?_eq_getElem hj
      have l62 : (xs.length : Int) ≤ 16000000 := by
        have : xs.length ≤ 16000000 := hn
        omega
      refine ⟨p, vs', k, j, vs'[j], rfl, rfl, ep', by omega, by omega, by rw [ln]; exact sq, hv, q _ _ ?_⟩
      have t5 := t4.addV (v := vs'[j]) (d := dat a) fun F o s ⟨_, _, _, _, _, _, ⟨_, vs'', e2, r⟩⟩ => by
        rw [ep'] at e2
        cases e2
        obtain ⟨v', e3, r3⟩ := r.get (i := j) (d := dat a) (by simp [ea])
        rw [hv] at e3
        cases e3
        exact r3
      have t6 := own_write (σ := σ) (es := (xs.eraseIdx j).map dat) (ws := vs'.eraseIdx j) (t5.ent Ent.assoc') fun F o vs'' s z e2 r => by
        rw [ep'] at e2
        cases e2
        have := RpAll_erase r j
        rw [List.eraseIdx_eq_take_drop_succ (l := xs.map dat)] at this
        rw [List.eraseIdx_eq_take_drop_succ (l := xs), List.map_append, List.map_take, List.map_drop]
        exact this
      exact ((t6.ent Ent.assoc).ent (Ent.sepR (back _))).ent frontE
/-- xs.extend(ys), ys new -/
theorem es_extendTM [Dat α] {mk : List PyData → Cell} {i : Nat} {m : Res γ} {Γ1 : γ → List Cell} {xs ys : γ → List α} {ds0 : List PyData} (hk : OwnC mk) (h : EvJ E te Γ m Γ1 fun a => rO ((ys a).map dat)) (h0 : Γ[i]? = some (mk ds0)) (hi : ∀ a, (Γ1 a)[i]? = some (mk ((xs a).map dat))) :
    EvS1 E (tDrop (tBM E.K "list" rExtend (tVar i) (tCons te tNil))) Γ (m.bind fun a => need ((xs a).length + (ys a).length ≤ lim) (.ok a)) fun a => (Γ1 a).set i (mk ((xs a ++ ys a).map dat)) := fun σ H R D t q => by
  obtain ⟨p, hs, t2, _⟩ := take_own (A := R) hk h0 t
  obtain ⟨vs, ep, _⟩ := own_at t2
  refine ⟨_, hs, .inl ⟨rfl, vs, SqL.of ep⟩, ?_⟩
  refine h σ H R _ t (wp_mono (wp_bind.mp q) (fun a _ q w H1 t1 => ?_) fun _ x => x σ)
  obtain ⟨hn, q⟩ := wp_need q
  obtain ⟨p', hs', t4, back⟩ := take_own hk (hi a) t1
  rw [hs] at hs'
  cases hs'
  obtain ⟨vs', ep', ln⟩ := own_at t4
  rw [List.length_map] at ln
  obtain ⟨b, zs, rfl, eb, lb⟩ : ∃ b zs, w = .ref b ∧ H1 b = some (.lst zs) ∧ zs.length = (ys a).length := t4.fact fun F o s ⟨_, _, _, _, _, ⟨_, _, _, _, _, _, ⟨_, _, _, _, _, ⟨b, e, _, zs, eb, r⟩, _⟩⟩, _⟩ => ⟨b, zs, e, eb, by rw [r.len, List.length_map]⟩
  refine ⟨p, b, vs', zs, rfl, rfl, ep', eb, by rw [ln, lb]; exact lim_le hn, q σ _ ?_⟩
  have t5 := own_write (σ := σ) (es := (xs a ++ ys a).map dat) (ws := vs' ++ zs) t4 fun F o vs'' s z e2 r => by
    rw [ep'] at e2
    cases e2
    obtain ⟨_, _, _, _, _, _, ⟨_, _, _, _, _, ⟨b', e, _, zs', eb', r'⟩, _⟩⟩ := z
    cases e
    rw [eb] at eb'
    cases eb'
    rw [List.map_append]
    exact r.append r'
  exact (t5.ent (back _)).ent (Ent.sepR Ent.right)
theorem eqDK {X : Cx} (K : PySem.W.Frag) (h : X.K = K) (hu : X.A.units + 64 < cLine) : OpR X (compareOp .Eq) (rEqD K) := h ▸ op_eqD hu
theorem neDK {X : Cx} (K : PySem.W.Frag) (h : X.K = K) (hu : X.A.units + 64 < cLine) : OpR X (compareOp .NotEq) (rNeD K) := h ▸ op_neD hu
theorem sortedK {X : Cx} (K : PySem.W.Frag) (h : X.K = K) : CallR X (.builtin "sorted") (rSortedI K) := h ▸ cr_sortedI
end
end Lc
/-! Lc: a law's end -/
namespace Lc
open PySem L2
def scA (K : PySem.W.Frag) (p : Addr) (vs : List V) : Asr := ⟨fun F _ _ => ∀ H, Same F H → SqL K H p vs, fun s _ h H t => h H (Same.trans s t), fun _ h => h⟩
theorem sql_same {K : PySem.W.Frag} {H H' : Hp} {a : Addr} {xs : List V} (h : SqL K H a xs) (e : Same H H') : SqL K H' a xs :=
  h.elim (fun h => .inl (h.elim (fun h => .inl (e _ _ h)) fun ⟨o, h⟩ => .inr ⟨o, e _ _ h⟩)) fun h => .inr h
def spLaw (K : PySem.W.Frag) : Sp := fun vs H Q _ => ∃ (a : Addr) (ns : List Int), vs = [.ref a] ∧ SqL K H a (ns.map V.int) ∧ ns.length ≤ 63 ∧ ∀ H', Q (.bl true) H'
theorem law_sp {ec : Nat → Value} {K : PySem.W.Frag} {m : List Int → Res Bool} (hm : ∀ ns, ns.length ≤ 63 → m ns = .ok true) (vs : List V) (H : Hp) (Q : VK) (E : XK) (h : spLaw K vs H Q E) :
    Sp0 ec (fun x : List Int => [ppS K (x.map dat)]) m (fun b => vA (.bool b)) vs H Q E := by
  obtain ⟨a, ns, rfl, hS, hl, q⟩ := h
  refine ⟨ns, scA K a (ns.map V.int), ⟨H, fun _ => False, fun _ _ h => h, fun _ h => h.elim, fun H' s => sql_same hS s⟩, fun F H' o s c => ⟨⟨a, _, rfl, c H' s, RpAll.of_ints ns⟩, trivial⟩, ?_⟩
  rw [hm ns hl]
  intro v H' t
  have e : v = .bl true := t.fact fun F o s ⟨_, _, _, _, _, _, r⟩ => by
    cases r
    rfl
  subst e
  exact q H'
theorem walk {l : PySem.W.OpenLaw} {q : Program} {loose : List Str} {XP : (Str → Option Value) → Heap → Prop} {YP : World → Heap → Prop} {d : DefRec} {K : Params → PySem.W.Frag} {k : Nat} (hn : l.most = some 63) (hdf : d.params.defaults = []) (hr : Room k callerA)
    (hY : ∀ (w : World) (h : Heap), YP w h → (K w.params).In h)
    (F : ∀ (w : World) (mg : Str → Option Value) (fa : Addr) (h : Heap), (K w.params).In h → h.Ns mainGlobals mg → mg d.name = some (.ref fa) →
      ∃ fd : FuncData, (∀ (s : Shared) (u : Value), BindsTo s fd ⟨[u], []⟩ [("script", u)]) ∧ ∀ base : Heap, (K w.params).In base → base.Ns mainGlobals mg → FnOk l.prog w (K w.params) mg base (L2.CX l.prog w) k fa fd ["script"] (spLaw (K w.params))) :
    PySem.W.WalkO q loose XP YP l.row.toRowW d [] (fun f vs => PySem.call f vs) :=
  L2.walk_of (n := 63) (k := k) (x := "script") (CX := fun w => L2.CX l.prog w) (sp := fun w => spLaw (K w.params)) hn (by decide) hdf hr hY F (fun _ _ a ns hl _ hS => ⟨a, ns, rfl, hS, hl, fun _ => rfl⟩) fun _ _ _ _ _ ⟨_, _, _, _, _, _, _, _, _, _, _, _, z⟩ => z
end Lc
/-! Lc: defs called where no repr is under way (guards = []), calls with keywords, repr -/
namespace Lc
open PySem L2 PySem.Spec PyProof.Rows

structure RoomG (gp : Prop) (k : Nat) (A : Around) : Prop where
  rm : Room k A
  gd : gp → A.guards = some []
theorem RoomG.mono {gp : Prop} {j k : Nat} {A : Around} (r : RoomG gp k A) (h : j ≤ k) : RoomG gp j A := ⟨r.rm.mono h, r.gd⟩
theorem RoomG.deeper {gp : Prop} {k : Nat} {A : Around} (r : RoomG gp (k + 1) A) (env : Env) : RoomG gp k (A.deeper env) := ⟨r.rm.deeper env, r.gd⟩
theorem RoomG.un {gp : Prop} {k : Nat} {A : Around} (r : RoomG gp k A) : A.units + 16 * k + 200 < cLine := r.rm.un

structure FnG (gp : Prop) (P : Program) (w : World) (K : PySem.W.Frag) (mg : Str → Option Value) (base : Heap) (CX : CXT) (k : Nat) (f : Addr) (fd : FuncData) (ps : List Str) (sp : Sp) : Prop where
  len : ∀ vs H Q E, sp vs H Q E → vs.length = ps.length
  run : ∀ (A : Around) (outer : List Env) (s : Shared) (H : Hp) (args : Args) (us : List Value) (vs : List V) (Q : VK) (E : XK), RoomG gp k A → Env0 P w K mg base A outer s H → BindsTo s fd args (ps.zip us) → Vals vs us → sp vs H Q E →
    codeAny (model P w) A (.call (.ref f) args) (CR CX outer P w H s Q E) s
theorem FnG.imp {gp : Prop} {P : Program} {w : World} {K : PySem.W.Frag} {mg : Str → Option Value} {base : Heap} {CX : CXT} {k : Nat} {f : Addr} {fd : FuncData} {ps : List Str} {sp sp' : Sp} (F : FnG gp P w K mg base CX k f fd ps sp)
    (h : ∀ vs H Q E, sp' vs H Q E → sp vs H Q E) : FnG gp P w K mg base CX k f fd ps sp' :=
  ⟨fun vs H Q E q => F.len vs H Q E (h _ _ _ _ q), fun A outer s H args us vs Q E hr he hb hv hs => F.run A outer s H args us vs Q E hr he hb hv (h _ _ _ _ hs)⟩

section
variable {P : Program} {w : World} {K : PySem.W.Frag} {mg : Str → Option Value} {base : Heap}
theorem fn_ofG {CX : CXT} {k : Nat} {f : Addr} {name qual : Str} {params : Arguments} {body : List Stmt} {scope : Scope} {dV kV doc pm cdv ct oc : Value} {an od : Option Addr}
    {osl : Array (Option Value)} {N ps : List Str} {sp : Sp} (lk : K.lookup f = some ⟨oc, od, .func (PySem.W.fnOf name qual params body scope dV kV doc pm an cdv ct), osl⟩) (hcd : PySem.W.codeIn K cdv qual = true) (S : FnScope N ps scope)
    (len : ∀ vs H Q E, sp vs H Q E → vs.length = ps.length)
    (hbody : ∀ (A : Around) (outer : List Env) (s : Shared) (H : Hp) (vs : List V) (Q : VK) (E : XK), RoomG gp k (A.deeper (envOfC qual scope s.heap.objs.size f cdv)) → sp vs H Q E →
      ∃ t, PSs (cxOf CX P w K mg base N qual scope f cdv A outer s H E) body t ∧ t { nx := fun _ H' => Q .non H', rt := Q } (start N vs) H) :
    FnG gp P w K mg base CX (k + 1) f (PySem.W.fnOf name qual params body scope dV kV doc pm an cdv ct) ps sp := by
  refine ⟨len, fun A outer s H args us vs Q E hr e0 hb r hsp => ?_⟩
  have hl := len _ _ _ _ hsp
  have KX : K.In s.heap := e0.mod.kin.keeps fun b o e => (e0.bs b o e).1
  have lim : s.heap.NoLimit := e0.mod.nolimit.keeps fun b o e => (e0.bs b o e).1
  have hkind : ∀ y ∈ ps.zip us, scope.names.lookup y.1 = some .local ∨ (scope.names.lookup y.1 = some .cell ∧ ((cellsFrom (s.heap.objs.size + 1) scope.names []).lookup y.1).isSome = true) := fun ⟨n, v⟩ hy => by
    rcases S.par n (List.of_mem_zip hy).1 with q | q
    · exact .inl q
    · exact .inr ⟨q, PySem.W.cellsFrom_some _ _ _ (.inl q)⟩
  refine codeAny_call_function hr.rm.depth (KX _ _ lk) rfl S.co S.gen rfl (PySem.W.codeRec_of KX hcd) (hb _ _ _ _ ?_)
  refine wpAny_newFunctionEnv_cells S.kind hkind fun env he s1 x => ?_
  subst he
  refine ⟨lim.keeps x.toInCall.keep, codeAny_func ?_⟩
  obtain ⟨t, ht, hq⟩ := hbody A outer s H vs Q E (hr.deeper _) hsp
  have I : Inv (cxOf CX P w K mg base N qual scope f cdv A outer s H E) [] (start N vs) H s1 := inv_start S hr.rm.hd e0 hl r x
  refine wpAny_mono (ht.run [] s1 (start N vs) H _ I hq) (fun fl s' hs => ?_) fun e s' hs => hs
  have fin : ∀ {σ' : L2.St} {H' : Hp} {v : V} {u : Value}, Inv (cxOf CX P w K mg base N qual scope f cdv A outer s H E) [] σ' H' s' → RelV v u → Q v H' → CE outer P w H s Q u s' :=
    fun {σ' H' v u} J rv q => ⟨v, H', J.os, J.bare, J.base, J.hok, rv, q⟩
  cases fl with
  | ret u =>
    obtain ⟨v, σ', H', J, rv, q⟩ := hs
    exact fin J rv q
  | next =>
    obtain ⟨σ', H', J, q⟩ := hs
    exact fin (v := V.non) (u := Value.none) J rfl q
  | brk =>
    obtain ⟨_, _, _, q⟩ := hs
    exact False.elim q
  | cont =>
    obtain ⟨_, _, _, q⟩ := hs
    exact False.elim q
/-- a def's defaults: none of the positional ones; fd's own -/
structure FunG (K : PySem.W.Frag) (x qual : Str) (st : Stmt) (f : Addr) (fd : FuncData) : Prop where
  ex : ∃ (oc : Value) (od : Option Addr) (dV kV doc pm : Value) (an : Option Addr) (cdv ct : Value) (osl : Array (Option Value)),
    fd = PySem.W.fnOf x qual (defArgs st) (defBody st) (defScope st) dV kV doc pm an cdv ct ∧ K.lookup f = some ⟨oc, od, .func fd, osl⟩ ∧ PySem.W.codeIn K cdv qual = true
  kp : PySem.W.keepIn K (.ref f) = true
theorem fun_mkG {x qual : Str} {st : Stmt} {f : Addr} {oc dV kV doc pm cdv ct : Value} {od an : Option Addr} {osl : Array (Option Value)}
    (l : K.lookup f = some ⟨oc, od, .func (PySem.W.fnOf x qual (defArgs st) (defBody st) (defScope st) dV kV doc pm an cdv ct), osl⟩) (c : PySem.W.codeIn K cdv qual = true) (k : PySem.W.keepIn K (.ref f) = true) :
    FunG K x qual st f (PySem.W.fnOf x qual (defArgs st) (defBody st) (defScope st) dV kV doc pm an cdv ct) := ⟨⟨_, _, _, _, _, _, _, _, _, _, rfl, l, c⟩, k⟩
theorem FunG.okX {x qual : Str} {st : Stmt} {f : Addr} {fd : FuncData} {N ps : List Str} {k : Nat} {sp : Sp} (F : FunG K x qual st f fd) (S : FnScope N ps (defScope st)) (len : ∀ vs H Q E, sp vs H Q E → vs.length = ps.length)
    (hbody : ∀ (cdv : Value) (A : Around) (outer : List Env) (s : Shared) (H : Hp) (vs : List V) (Q : VK) (E : XK), RoomG gp k (A.deeper (envOfC qual (defScope st) s.heap.objs.size f cdv)) → sp vs H Q E →
      ∃ t, PSs (cxOf (L2.CX P w) P w K mg base N qual (defScope st) f cdv A outer s H E) (defBody st) t ∧ t { nx := fun _ H' => Q .non H', rt := Q } (start N vs) H) : FnG gp P w K mg base (L2.CX P w) (k + 1) f fd ps sp := by
  obtain ⟨oc, od, dV, kV, doc, pm, an, cdv, ct, osl, rfl, lk, hcd⟩ := F.ex
  exact fn_ofG lk hcd S len fun A outer s H vs Q E hr hsp => hbody cdv A outer s H vs Q E hr hsp
end

/-! ### calls: n values by position, then the keywords' values (names ks) -/
/-- what the call binds: h puts the values in the parameters' order -/
def KB (K : PySem.W.Frag) (fd : FuncData) (ps : List Str) (n : Nat) (ks : List Str) (h : List Value → List Value) : Prop :=
  ∀ (s : Shared) (us ws : List Value), K.In s.heap → us.length = n → ws.length = ks.length → BindsTo s fd ⟨us, ks.zip ws⟩ (ps.zip (h (us ++ ws)))
theorem KB.of {K : PySem.W.Frag} {fd : FuncData} {ps : List Str} {n : Nat} {ks : List Str} {h : List Value → List Value} (e : ∀ us ws : List Value, us.length = n → ws.length = ks.length → bindArgs fd ⟨us, ks.zip ws⟩ = pure (ps.zip (h (us ++ ws)))) : KB K fd ps n ks h :=
  fun s us ws _ l1 l2 => .of_eq (e us ws l1 l2)
/-- a list has n items -/
def chk : Nat → List V → Prop → Prop
  | 0, [], P => P
  | n + 1, _ :: l, P => chk n l P
  | _, _, _ => False
theorem chk_len : ∀ {n : Nat} {l : List V} {P : Prop}, chk n l P → l.length = n ∧ P
  | 0, [], _, h => ⟨rfl, h⟩
  | n + 1, _ :: l, _, h => ⟨congrArg Nat.succ (chk_len (n := n) (l := l) h).1, (chk_len (n := n) (l := l) h).2⟩
  | 0, _ :: _, _, h => (show False from h).elim
  | _ + 1, [], _, h => (show False from h).elim
structure PKN (X : Cx) (kws : List Keyword) (m : Nat) (t : TA) : Prop where
  pk : PK X kws t
  eq : ∀ σ H Q, t σ H Q = t σ H fun zs H2 => chk m zs (Q zs H2)
structure PKA (X : Cx) (es : List Expr) (kws : List Keyword) (n m : Nat) (t : TA) : Prop where
  ex : ∃ t1 tk, PA X es t1 ∧ PK X kws tk ∧ ∀ σ H Q, t σ H Q = t1 σ H fun vs H1 => tk σ H1 fun zs H2 => chk n vs (chk m zs (Q (vs ++ zs) H2))
section
variable {X : Cx} {e : Expr} {es : List Expr} {kws : List Keyword} {te : TE} {t : TA} {n m : Nat} {nm : Option Str} {kpos : Pos}
theorem pkn_nil : PKN X [] 0 tNil := ⟨pk_nil, fun _ _ _ => rfl⟩
theorem pkn_cons (he : PE X e te) (h : PKN X kws m t) : PKN X (⟨nm, e, kpos⟩ :: kws) (m + 1) (tCons te t) :=
  ⟨pk_cons he h.pk, fun σ H Q => congrArg (te σ H) (funext fun x => funext fun H1 => h.eq σ H1 fun xs H2 => Q (x :: xs) H2)⟩
theorem pka_kw (h : PKN X kws m t) : PKA X [] kws 0 m t := ⟨_, _, pa_nil, h.pk, fun σ H Q => h.eq σ H Q⟩
theorem pka_cons (he : PE X e te) (h : PKA X es kws n m t) (hs : starEach (e :: es) X.env = (false, eval e X.env) :: starEach es X.env := by rfl) : PKA X (e :: es) kws (n + 1) m (tCons te t) := by
  obtain ⟨t1, tk, h1, h2, q⟩ := h.ex
  exact ⟨_, _, pa_cons he h1 hs, h2, fun σ H Q => congrArg (te σ H) (funext fun x => funext fun H1 => q σ H1 fun xs H2 => Q (x :: xs) H2)⟩
end
/-- the values by their places -/
def Pm {α : Type} (d : α) (is : List Nat) (l : List α) : List α := is.map fun i => l.getD i d
theorem vals_pm : ∀ (is : List Nat) {vs : List V} {us : List Value}, (∀ i ∈ is, i < vs.length) → Vals vs us → Vals (Pm .non is vs) (Pm .none is us)
  | [], _, _, _, _ => .nil
  | i :: is, vs, us, h, r => by
    have hi := h i List.mem_cons_self
    obtain ⟨u, hu, rv⟩ := r.get (List.getElem?_eq_getElem hi)
    refine .cons ?_ (vals_pm is (fun j hj => h j (List.mem_cons_of_mem _ hj)) r)
    show L2.RelV (vs.getD i V.non) (us.getD i Value.none)
    rw [List.getD_eq_getElem?_getD, List.getD_eq_getElem?_getD, hu, List.getElem?_eq_getElem hi]
    exact rv
/-- what is promised of a call of that shape: the values in the order of the text; dv the defaults -/
structure SpK (sp sp' : Sp) (n : Nat) (is : List Nat) (dv : List V) : Prop where
  go : ∀ vs H Q E, sp' vs H Q E → vs.length = n ∧ sp (Pm .non is (vs ++ dv)) H Q E
theorem spk {ec : Nat → Value} {α α' β : Type} {ps : α → List PP} {ps' : α' → List PP} {m : α → Res β} {m' : α' → Res β} {cb : β → V → Asr} {n : Nat} {is : List Nat} {dv : List V} (g : α' → α) (hlen : ∀ x', (ps' x').length = n)
    (hpar : ∀ x' vs F H, parOk (ps' x') vs F H → parOk (ps (g x')) (Pm .non is (vs ++ dv)) F H) (hm : ∀ x', m' x' = m (g x')) : SpK (Sp0 ec ps m cb) (Sp0 ec ps' m' cb) n is dv := ⟨fun vs H Q E ⟨x, C, t, hp, hw⟩ => by
  refine ⟨?_, g x, C, t, fun F H o s c => hpar x vs F H (hp F H o s c), hm x ▸ hw⟩
  obtain ⟨F, o, s, _, c⟩ := t
  rw [parOk_len (hp F H o s c), hlen]⟩
section
variable {X : Cx} {CX : CXT} {k : Nat} {f : Addr} {fd : FuncData} {ps ks : List Str} {sp sp' : Sp} {x : Str} {p pos : Pos} {e : Expr} {es : List Expr} {kws : List Keyword} {t : TA} {n m : Nat} {is : List Nat} {dv : List V} {du : List Value}
theorem run_fnG {Ex : XK} {pins : List (Addr × Obj)} {σ : L2.St} {H : Hp} {s : Shared} {Q : VK} {us ws : List Value} {vs : List V} (F : FnG gp X.prog X.w X.K X.mg X.base CX k f fd ps sp) (hr : RoomG gp k X.A) (hb : KB X.K fd ps n ks fun l => Pm .none is (l ++ du)) (hd : Vals dv du)
    (his : ∀ i ∈ is, i < n + ks.length + dv.length) (hx : ∀ pins H s e s', Inv X pins σ H s → CX X.stack H s Ex e s' → X.xe e s')
    (I : Inv X pins σ H s) (r : Vals vs (us ++ ws)) (l1 : us.length = n) (l2 : ws.length = ks.length) (hs : sp (Pm .non is (vs ++ dv)) H Q Ex) : wpAny (model X.prog X.w) X.A (call (.ref f) us (ks.zip ws)) (EP X pins σ Q) X.xe s := by
  have hlv : vs.length = n + ks.length := by rw [r.length, List.length_append, l1, l2]
  have hv := vals_pm is (fun i hi => by rw [List.length_append, hlv]; exact his i hi) (r.append hd)
  refine wpAny_call (codeAny_mono (F.run X.A X.stack s H ⟨us, ks.zip ws⟩ _ _ Q Ex hr I.env0 (hb s us ws I.kIn l1 l2) hv hs) fun r s' hq => ?_)
  cases r with
  | error e => exact hx pins H s e s' I hq
  | ok fl =>
    cases fl with
    | ret u => exact I.after hq
    | next => exact False.elim hq
    | brk => exact False.elim hq
    | cont => exact False.elim hq
/-- the reading of a call: the arguments, then the promise -/
theorem pe_callG {E : L2.St → XK} (F : FnG gp X.prog X.w X.K X.mg X.base CX k f fd ps sp) (hr : RoomG gp k X.A) (hg : Gl X x) (hm : X.mg x = some (.ref f)) (hk : PySem.W.keepIn X.K (.ref f) = true) (hb : Binds X.K fd ps []) (hx : ∀ σ, PassesAt CX X σ (E σ))
    (ha : PA X (e :: es) t) (hdb : (x == ("__debug__" : Str)) = false := by decide) (he : starEach (e :: es) X.env = (false, eval e X.env) :: starEach es X.env := by rfl) (hpl : (backTo pos (starEach es X.env)).any (·.1) = false := by rfl) :
    PE X (.Call (.Name x p) (e :: es) [] pos) (tCallS sp E t) := by
  refine ⟨fun pins s σ H Q I h => ?_⟩
  refine wpAny_Call_Name_kw (ld_glob I hg hm ?_ hdb)
  refine PySem.W.callWith_K (h₀ := X.base) I.ok.mod.kin hk (thn (ha.run pos pins s σ H _ I h) fun us s1 ⟨vs, H1, I1, r, q⟩ => ⟨I1.kIn, ?_⟩) he hpl
  have hl : us.length = ps.length := by rw [← r.length]; exact F.len _ _ _ _ q
  have b := hb s1 us I1.kIn (by rw [List.append_nil]; exact hl)
  rw [List.append_nil] at b
  refine wpAny_call (codeAny_mono (F.run X.A X.stack s1 H1 ⟨us, []⟩ us vs Q (E σ) hr I1.env0 b r q) fun r s' hq => ?_)
  cases r with
  | error e => exact hx σ pins H1 s1 e s' I1 hq
  | ok fl =>
    cases fl with
    | ret u => exact I1.after hq
    | next => exact False.elim hq
    | brk => exact False.elim hq
    | cont => exact False.elim hq
/-- .. within a comprehension -/
theorem pe_callG0 {E : XK} (F : FnG gp X.prog X.w X.K X.mg X.base CX k f fd ps sp) (hr : RoomG gp k X.A) (hg : Gl X x) (hm : X.mg x = some (.ref f)) (hk : PySem.W.keepIn X.K (.ref f) = true) (hb : Binds X.K fd ps []) (hd : Vals ([] : List V) []) (hx : Passes CX X E)
    (ha : PA X (e :: es) t) (hdb : (x == ("__debug__" : Str)) = false := by decide) (he : starEach (e :: es) X.env = (false, eval e X.env) :: starEach es X.env := by rfl) (hpl : (backTo pos (starEach es X.env)).any (·.1) = false := by rfl) :
    PE X (.Call (.Name x p) (e :: es) [] pos) (tCall sp [] E t) := by
  refine ⟨fun pins s σ H Q I h => ?_⟩
  refine wpAny_Call_Name_kw (ld_glob I hg hm ?_ hdb)
  refine PySem.W.callWith_K (h₀ := X.base) I.ok.mod.kin hk (thn (ha.run pos pins s σ H _ I h) fun us s1 ⟨vs, H1, I1, r, q⟩ => ⟨I1.kIn, ?_⟩) he hpl
  have q : sp (vs ++ []) H1 Q E := q
  rw [List.append_nil] at q
  have hl : us.length = ps.length := by rw [← r.length]; exact F.len _ _ _ _ q
  have b := hb s1 us I1.kIn (by rw [List.append_nil]; exact hl)
  rw [List.append_nil] at b
  refine wpAny_call (codeAny_mono (F.run X.A X.stack s1 H1 ⟨us, []⟩ us vs Q E hr I1.env0 b r q) fun r s' hq => ?_)
  cases r with
  | error e => exact hx pins σ H1 s1 e s' I1 hq
  | ok fl =>
    cases fl with
    | ret u => exact I1.after hq
    | next => exact False.elim hq
    | brk => exact False.elim hq
    | cont => exact False.elim hq
/-- f(e, .., k = v, ..); sp' is the promise of that shape -/
theorem pe_callGK {E : L2.St → XK} (F : FnG gp X.prog X.w X.K X.mg X.base CX k f fd ps sp) (hr : RoomG gp k X.A) (hg : Gl X x) (hm : X.mg x = some (.ref f)) (hk : PySem.W.keepIn X.K (.ref f) = true) (hb : KB X.K fd ps n ks fun l => Pm .none is (l ++ du)) (hd : Vals dv du)
    (his : ∀ i ∈ is, i < n + ks.length + dv.length) (hsp : SpK sp sp' (n + ks.length) is dv) (hx : ∀ σ, PassesAt CX X σ (E σ))
    (ha : PKA X (e :: es) kws n ks.length t) (hall : (backToKw pos (keywordEach kws X.env)).all (·.1.isSome) = true := by rfl) (hks : (backToKw pos (keywordEach kws X.env)).filterMap (·.1) = ks := by rfl)
    (hdb : (x == ("__debug__" : Str)) = false := by decide) (he : starEach (e :: es) X.env = (false, eval e X.env) :: starEach es X.env := by rfl)
    (hpl : ((backTo pos (starEach (e :: es) X.env)).any (·.1) || (backToKw pos (keywordEach kws X.env)).any (·.1.isNone)) = false := by rfl) :
    PE X (.Call (.Name x p) (e :: es) kws pos) (tCallS sp' E t) := by
  refine ⟨fun pins s σ H Q I h => ?_⟩
  obtain ⟨t1, tk, h1, h2, q0⟩ := ha.ex
  have h : t1 σ H _ := (q0 σ H _).mp h
  refine wpAny_Call_Name_kw (ld_glob I hg hm ?_ hdb)
  refine PySem.W.callWith_KW (h₀ := X.base) I.ok.mod.kin hk hall (thn (h1.run pos pins s σ H _ I h) fun us s1 ⟨vs, H1, I1, r, q⟩ => ?_) hpl he
  refine thn (h2.run pos pins s1 σ H1 _ I1 q) fun ws s2 ⟨zs, H2, I2, rz, q2⟩ => ⟨I2.kIn, ?_⟩
  rw [hks]
  obtain ⟨l1, q2⟩ := chk_len q2
  obtain ⟨l2, q2⟩ := chk_len q2
  exact run_fnG F hr hb hd his (fun pins H s e s' I c => hx σ pins H s e s' I c) I2 (r.append rz) (r.length.symm.trans l1) (rz.length.symm.trans l2) (hsp.go _ _ _ _ q2).2
/-- f(k = v, ..) -/
theorem pe_callGK0 {E : L2.St → XK} (F : FnG gp X.prog X.w X.K X.mg X.base CX k f fd ps sp) (hr : RoomG gp k X.A) (hg : Gl X x) (hm : X.mg x = some (.ref f)) (hk : PySem.W.keepIn X.K (.ref f) = true) (hb : KB X.K fd ps n ks fun l => Pm .none is (l ++ du)) (hn : n = 0) (hd : Vals dv du)
    (his : ∀ i ∈ is, i < n + ks.length + dv.length) (hsp : SpK sp sp' (n + ks.length) is dv) (hx : ∀ σ, PassesAt CX X σ (E σ))
    (ha : PKN X kws ks.length t) (hall : (backToKw pos (keywordEach kws X.env)).all (·.1.isSome) = true := by rfl) (hks : (backToKw pos (keywordEach kws X.env)).filterMap (·.1) = ks := by rfl)
    (hdb : (x == ("__debug__" : Str)) = false := by decide)
    (hpl : ((backTo pos (starEach [] X.env)).any (·.1) || (backToKw pos (keywordEach kws X.env)).any (·.1.isNone)) = false := by rfl) :
    PE X (.Call (.Name x p) [] kws pos) (tCallS sp' E t) := by
  refine ⟨fun pins s σ H Q I h => ?_⟩
  subst hn
  have h : t σ H _ := (ha.eq σ H _).mp h
  refine wpAny_Call_Name_kw (ld_glob I hg hm ?_ hdb)
  refine PySem.W.callWith_KW0 (h₀ := X.base) I.ok.mod.kin hk hall ?_ hpl
  refine thn (ha.pk.run pos pins s σ H _ I h) fun ws s2 ⟨zs, H2, I2, rz, q2⟩ => ⟨I2.kIn, ?_⟩
  rw [hks]
  obtain ⟨l2, q2⟩ := chk_len q2
  exact run_fnG (us := []) F hr hb hd his (fun pins H s e s' I c => hx σ pins H s e s' I c) I2 rz rfl (rz.length.symm.trans l2) (hsp.go _ _ _ _ q2).2
end

/-! ### repr -/
mutual
theorem Dq.shows {X : Cx} {pins : List (Addr × Obj)} {σ : L2.St} {H : Hp} {s : Shared} (I : Inv X pins σ H s) : ∀ (d : PyData) (v : V) (u : Value), Dq X.K H v d → RelV v u → d.showable = true → d.shown.length ≤ sizeLine →
    ∃ as bs, Reads s.heap u d as ∧ ReadAtMost s.heap d.depth bs ∧ ReprK X.prog X.w bs s.heap d.depth u d.shown
  | .none, _, _, q, r, _, _ => by
    cases q
    cases r
    refine ⟨_, [], .none, (fun _ h => nomatch h), ?_⟩
    rw [PyData.shown]
    exact .of_is ReprIs.none _ _ _
  | .bool b, _, _, q, r, _, _ => by
    cases q
    cases r
    refine ⟨_, [], .bool b, (fun _ h => nomatch h), ?_⟩
    rw [PyData.shown]
    exact .of_is (ReprIs.bool b) _ _ _
  | .int i, _, _, q, r, hs, _ => by
    cases q
    obtain ⟨t, rfl⟩ := r
    refine ⟨_, [], .int i t, (fun _ h => nomatch h), ?_⟩
    rw [PyData.shown]
    simp only [PyData.showable, decide_eq_true_eq] at hs
    exact .of_is (ReprIs.int t hs) _ _ _
  | .str x, _, _, q, r, _, hz => by
    cases q
    obtain ⟨t, rfl⟩ := r
    refine ⟨_, [], .str x t, (fun _ h => nomatch h), ?_⟩
    rw [PyData.shown] at hz ⊢
    exact .of_is (ReprIs.str x t hz) _ _ _
  | .list ds, _, _, q, r, hs, hz => by
    cases q with
    | lst h ha =>
      cases r
      obtain ⟨its, rv, ⟨o, n, ho, hc, _, hd⟩, _⟩ := I.list h
      simp only [PyData.showable] at hs
      rw [PyData.shown] at hz ⊢
      obtain ⟨as, bs, ra, hb, hk⟩ := DqAll.shows I ds _ its ha rv hs fun t ht => Nat.le_trans (listText_mem_le ht) hz
      have rd : Reads s.heap (.ref _) (.list ds) _ := .list ho hc hd ra
      have hn := not_mem_of_deeper rd (by simp only [PyData.depth]; omega) hb
      refine ⟨_, _ :: bs, rd, ReadAtMost.cons rd (by simp only [PyData.depth]; omega) hb, ?_⟩
      simp only [PyData.depth]
      cases its with
      | nil =>
        cases ra
        rw [PyData.shownAll, listText_nil]
        exact ReprK.listEmpty ho hc hd
      | cons x its => exact ReprK.list ho hc hd hn (by simpa using hk.length_eq) fun i y e => hk.item i y (by simpa using e)
  | .tuple ds, _, _, q, r, hs, hz => by
    cases q with
    | tup h ha =>
      cases r
      obtain ⟨its, rv, ⟨o, ho, hc, n, hd⟩, _⟩ := I.tuple h
      simp only [PyData.showable] at hs
      rw [PyData.shown] at hz ⊢
      obtain ⟨as, bs, ra, hb, hk⟩ := DqAll.shows I ds _ its ha rv hs fun t ht => Nat.le_trans (tupleText_mem_le ht) hz
      have rd : Reads s.heap (.ref _) (.tuple ds) _ := .tuple ho hc hd ra
      have hn := not_mem_of_deeper rd (by simp only [PyData.depth]; omega) hb
      refine ⟨_, _ :: bs, rd, ReadAtMost.cons rd (by simp only [PyData.depth]; omega) hb, ?_⟩
      simp only [PyData.depth]
      exact ReprK.tuple ho hc hd hn hk
  | .dict kvs, _, _, q, r, _, _ => by
    cases q with
    | dk0 h =>
      cases r
      obtain ⟨_, hy, vs, rel, o, es, n, ho, hx, hd, _, hp, _⟩ := dk_of I.hok h
      have e1 : vs = [] := by
        cases rel
        rfl
      have e2 : es = #[] := by
        subst e1
        have : es.toList = [] := by
          cases hl : es.toList with
          | nil => rfl
          | cons a l =>
            rw [hl] at hp
            cases hp
        exact Array.toList_eq_nil_iff.mp this
      subst e2
      have rd : Reads s.heap (.ref _) (.dict []) _ := .dict ho hx.1 hd .nil .nil
      refine ⟨_, [_], rd, ReadAtMost.cons (n := 0) rd (by simp only [PyData.depth]; omega) (fun _ h => nomatch h), ?_⟩
      have k := ReprK.dict (prog := X.prog) (w := X.w) (as := []) (d := 0) ho hx.1 hd hy (by simp) .nil
      simpa only [PyData.depth, PyData.shown, PyData.depthKv, PyData.shownKv] using k
theorem DqAll.shows {X : Cx} {pins : List (Addr × Obj)} {σ : L2.St} {H : Hp} {s : Shared} (I : Inv X pins σ H s) : ∀ (ds : List PyData) (vs : List V) (us : List Value), DqAll X.K H vs ds → Vals vs us → PyData.showableAll ds = true → (∀ t ∈ PyData.shownAll ds, t.length ≤ sizeLine) →
    ∃ as bs, ReadsAll s.heap us ds as ∧ ReadAtMost s.heap (PyData.depthAll ds) bs ∧ ReprAllK X.prog X.w bs s.heap (PyData.depthAll ds) us (PyData.shownAll ds)
  | [], _, _, q, r, _, _ => by
    cases q
    cases r
    refine ⟨_, [], .nil, (fun _ h => nomatch h), ?_⟩
    rw [PyData.shownAll]
    exact .nil
  | d :: ds, _, _, q, r, hs, hz => by
    cases q with
    | cons h1 h2 =>
      cases r with
      | cons r1 r2 =>
        simp only [PyData.showableAll, Bool.and_eq_true] at hs
        simp only [PyData.shownAll, List.mem_cons, forall_eq_or_imp] at hz
        obtain ⟨as, bs, q1, b1, k1⟩ := Dq.shows I d _ _ h1 r1 hs.1 hz.1
        obtain ⟨as', bs', q2, b2, k2⟩ := DqAll.shows I ds _ _ h2 r2 hs.2 hz.2
        simp only [PyData.depthAll, PyData.shownAll]
        refine ⟨_, bs ++ bs', .cons q1 q2, (b1.mono (Nat.le_max_left _ _)).append (b2.mono (Nat.le_max_right _ _)), .cons ?_ ?_⟩
        · exact (k1.more fun b => List.mem_append_left _).level_le (Nat.le_max_left _ _)
        · exact k2.more_le (fun b => List.mem_append_right _) (Nat.le_max_right _ _)
end
def reprOk (d : PyData) : Bool := d.showable && decide (d.depth ≤ 50) && decide (d.shown.length ≤ sizeLine)
def reprR (d : PyData) : Res Str := Res.need (reprOk d = true) (.ok d.shown)
def rRepr (K : PySem.W.Frag) : List V → Hp → VK → Prop := fun xs H Q => ∃ v d, xs = [v] ∧ Dq K H v d ∧ reprOk d = true ∧ Q (.str d.shown) H
theorem reprK {X : Cx} (K : PySem.W.Frag) (h : X.K = K) (hg : X.A.guards = some []) (hu : X.A.units + 64 < cLine) : CallR X (.builtin "repr") (rRepr K) := by
  subst h
  intro pins s σ H xs us Q I r h
  obtain ⟨v, d, rfl, hd, ho, q⟩ := h
  obtain ⟨u, rfl, rv⟩ := vals1 r
  unfold reprOk at ho
  simp only [Bool.and_eq_true, decide_eq_true_eq] at ho
  obtain ⟨⟨h1, h3⟩, h4⟩ := ho
  have hend : ∀ h' u' tk, (∀ b o, s.heap.get? b = some o → h'.get? b = some o) → EP X pins σ Q (.str d.shown u') { s with heap := h', toks := tk } := fun h' u' tk hk => ⟨.str _, H, I.kept hk, ⟨_, rfl⟩, q⟩
  cases hd with
  | non =>
    cases rv
    exact PySem.P.repr_of_none (by simpa only [PyData.shown] using hend s.heap _ _ fun _ _ e => e)
  | bl b =>
    cases rv
    exact PySem.P.repr_of_bool (by simpa only [PyData.shown] using hend s.heap _ _ fun _ _ e => e)
  | int i =>
    obtain ⟨t, rfl⟩ := rv
    simp only [PyData.showable, decide_eq_true_eq] at h1
    exact PySem.P.repr_of_int h1 (by simpa only [PyData.shown] using hend s.heap _ _ fun _ _ e => e)
  | str x =>
    obtain ⟨t, rfl⟩ := rv
    rw [PyData.shown] at h4
    exact PySem.P.repr_of_str (by simpa only [PyData.shown] using hend s.heap _ _ fun _ _ e => e) h4
  | lst hl ha =>
    cases rv
    obtain ⟨its, rv, ⟨o, n, ho, hc, _, hd⟩, _⟩ := I.list hl
    simp only [PyData.showable] at h1
    rw [PyData.shown] at h4 hend
    simp only [PyData.depth] at h3
    obtain ⟨as, bs, ra, hb, hk⟩ := DqAll.shows I _ _ its ha rv h1 fun t ht => Nat.le_trans (listText_mem_le ht) h4
    have hn := not_mem_of_deeper (.list ho hc hd ra) (by simp only [PyData.depth]; omega) hb
    refine call_repr_slot (by omega) ⟨o, ho, hc⟩ F.slot_list_repr.toG ?_
    cases its with
    | nil =>
      cases ra
      simp only [PyData.shownAll, listText_nil] at hend
      exact call_list_repr_empty ⟨o, ho, hc⟩ ho hd ⟨_, _, rfl, hend s.heap _ _ fun _ _ e => e⟩
    | cons x its => exact call_list_reprK ho hc hd hn (by simpa using hk.length_eq) (fun i y e => hk.item i y (by simpa using e)) hg (fun b _ => Clear.nil b) (by show X.A.units + 1 + _ < cLine; omega) (fun _ _ e => e) (fun h' u tk hk => ⟨_, _, rfl, hend h' u tk hk⟩) h4
  | tup hl ha =>
    cases rv
    obtain ⟨its, rv, ⟨o, ho, hc, n, hd⟩, _⟩ := I.tuple hl
    simp only [PyData.showable] at h1
    rw [PyData.shown] at h4 hend
    simp only [PyData.depth] at h3
    obtain ⟨as, bs, ra, hb, hk⟩ := DqAll.shows I _ _ its ha rv h1 fun t ht => Nat.le_trans (tupleText_mem_le ht) h4
    have hn := not_mem_of_deeper (.tuple ho hc hd ra) (by simp only [PyData.depth]; omega) hb
    refine call_repr_slot (by omega) ⟨o, ho, hc⟩ F.slot_tuple_repr ?_
    exact call_tuple_reprK ho hc hd hn hk hg (fun b _ => Clear.nil b) (by show X.A.units + 1 + _ < cLine; omega) (fun _ _ e => e) (fun h' u tk hk => ⟨_, _, rfl, hend h' u tk hk⟩) h4
  | dk0 hl =>
    cases rv
    obtain ⟨_, hy, vs, rel, o, es, n, ho, hx, hd, _, hp, _⟩ := dk_of I.hok hl
    have e1 : vs = [] := by
      cases rel
      rfl
    have e2 : es = #[] := by
      subst e1
      have : es.toList = [] := by
        cases hl : es.toList with
        | nil => rfl
        | cons a l =>
          rw [hl] at hp
          cases hp
      exact Array.toList_eq_nil_iff.mp this
    subst e2
    refine call_repr_slot (by omega) ⟨o, ho, hx.1⟩ F.slot_dict_repr ?_
    simp only [PyData.shown, PyData.shownKv] at hend h4
    exact call_dict_reprK (as := []) (d := 0) ho hx.1 hd hy (by simp) .nil hg (fun b _ => Clear.nil b) (by show X.A.units + 1 + _ < cLine; omega) (fun _ _ e => e) (fun h' u tk hk => ⟨_, _, rfl, hend h' u tk hk⟩) h4

/-! ### the law's end -/
theorem law_callG {P : Program} {w : World} {K : PySem.W.Frag} {mg mb : Str → Option Value} {CX : CXT} {k : Nat} {fa a : Addr} {fd : FuncData} {x : Str} {sp : Sp} {s₁ : Shared} {vs : List Value} {ns : List Int}
    (KX : K.In s₁.heap) (hns : s₁.heap.Ns mainGlobals mg) (hb : s₁.heap.Ns builtinsNs mb) (hbb : ∀ x : Str, x ≠ "__name__" → mb x = bootBuiltins x) (hlim : s₁.heap.NoLimit) (hg : s₁.gens = #[])
    (ha : s₁.heap.get? a = some { cls := .type "list", data := .seq vs.toArray }) (hi : IntsAre vs ns) (hl : ns.length ≤ sizeLine) (hr : RoomG gp k callerA)
    (F : ∀ base : Heap, K.In base → base.Ns mainGlobals mg → FnG gp P w K mg base CX k fa fd [x] sp) (hbind : ∀ (s : Shared) (u : Value), BindsTo s fd ⟨[u], []⟩ [(x, u)])
    (hsp : ∀ H : Hp, Only H → SqL K H a (ns.map V.int) → sp [.ref a] H (fun v _ => v = .bl true) fun _ _ _ => False)
    (hCX : ∀ H e s', CX [] H s₁ (fun _ _ _ => False) e s' → False) :
    codeAny (model P w) callerA (.call (.ref fa) ⟨[.ref a], []⟩) (fun r s' => r = .ok (.ret (.bool true)) ∧ OldK s₁.heap s'.heap ∧ s'.os = s₁.os ∧ AllBare s'.gens) s₁ := by
  have rv := vals_ints hi
  have lenV := hi.length
  have core : ∀ H : Hp, Only H → SqL K H a (ns.map V.int) → HOk P w H s₁.heap → (∀ b, H b ≠ none → b = a) → (H a ≠ none → K.lookup a = none) →
      codeAny (model P w) callerA (.call (.ref fa) ⟨[.ref a], []⟩) (fun r s' => r = .ok (.ret (.bool true)) ∧ OldK s₁.heap s'.heap ∧ s'.os = s₁.os ∧ AllBare s'.gens) s₁ := by
    intro H hO hS hok hA hK
    have base_of : ∀ {b : Addr} {o : Obj}, s₁.heap.get? b = some o → H b = none → (hidT s₁.heap H).get? b = some o := fun e n => hidT_get e n
    have noA : ∀ {b : Addr} {o : Obj} {es : Array DictEntry} {ep : Nat}, s₁.heap.get? b = some o → o.data = .dict es ep → H b = none := fun {b o es ep} e d => by
      cases q : H b with
      | none => rfl
      | some u =>
        have e' : b = a := hA b (by rw [q]; simp)
        subst e'
        rw [ha] at e; cases e
        have d' : Data.seq vs.toArray _ = Data.dict es ep := d
        cases d'
    have nsK : ∀ {b : Addr} {m : Str → Option Value}, s₁.heap.Ns b m → (hidT s₁.heap H).Ns b m := fun {b m} ⟨o, es, ep, e, d, r⟩ => ⟨o, es, ep, base_of e (noA e d), d, r⟩
    have hKb : K.In (hidT s₁.heap H) := fun b o e => base_of (KX b o e) (by
      cases q : H b with
      | none => rfl
      | some u =>
        have e' : b = a := hA b (by rw [q]; simp)
        subst e'
        rw [hK (by rw [q]; simp)] at e; cases e)
    have hM : Mod K mg (hidT s₁.heap H) := ⟨hKb, nsK hns, ⟨mb, nsK hb, hbb⟩, let ⟨mc, h1, h2⟩ := hlim; ⟨mc, nsK h1, h2⟩⟩
    have e0 : Env0 P w K mg (hidT s₁.heap H) callerA [] s₁ H := ⟨rfl, hM, fun b o e => of_hidT e, Nat.le_of_eq (hidT_size _ _), trivial, fun b hb => absurd (show b ∈ ([] : List Addr) from hb) (by simp), hok, .of_eq hg⟩
    refine codeAny_mono ((F _ hKb (nsK hns)).run callerA [] s₁ H ⟨[.ref a], []⟩ [.ref a] [.ref a] _ _ hr e0 (hbind s₁ (.ref a)) (.cons rfl .nil) (hsp H hO hS)) fun r s' h => ?_
    cases r with
    | error e => exact (hCX H e s' h).elim
    | ok fl =>
      cases fl with
      | next => exact False.elim h
      | brk => exact False.elim h
      | cont => exact False.elim h
      | ret u =>
        obtain ⟨v, H', os, bare, un, hok', r', q⟩ := h
        have q' : v = .bl true := q
        subst q'
        obtain rfl : u = Value.bool true := r'
        refine ⟨rfl, OldK.of_keep fun b o e => ?_, os, bare⟩
        cases q : H b with
        | none => exact un.keep b o e q (by intro z; exact absurd (show b ∈ ([] : List Addr) from z) (by simp)) (by simp)
        | some u =>
          rcases hO b with z | ⟨ob, xs, z⟩
          · rw [q] at z; cases z
          · have z2 := un.frzs b ob _ z
            obtain ⟨e1, _⟩ := hok b _ z
            obtain ⟨e2, _⟩ := hok' b _ z2
            rw [e] at e1; cases e1
            exact e2
  cases hk : K.lookup a with
  | some o =>
    have e := KX a o hk
    rw [ha] at e
    cases e
    refine core (fun _ => none) (fun _ => .inl rfl) (.inr ⟨_, vs.toArray, _, hk, rfl, rfl, rfl, by rw [List.size_toArray, lenV]; exact hl, by simpa using rv⟩) (fun b u z => by have z' : (none : Option HO) = some u := z; cases z') (fun b z => absurd rfl z) fun z => absurd rfl z
  | none =>
    refine core (fun b => if b = a then some (.frz { cls := .type "list", data := .seq vs.toArray } (.lst (ns.map V.int))) else none) (fun b => ?_) (.inl (.inr ⟨{ cls := .type "list", data := .seq vs.toArray }, if_pos rfl⟩)) (fun b u z => ?_) (fun b z => ?_) fun _ => hk
    · by_cases hb : b = a
      · exact .inr ⟨_, _, if_pos hb⟩
      · exact .inl (if_neg hb)
    · by_cases hb : b = a
      · have z' := (if_pos hb).symm.trans z
        cases z'
        subst hb
        exact ⟨ha, by rw [List.length_map]; exact hl, vs, _, rv, ha⟩
      · have z' := (if_neg hb).symm.trans z
        cases z'
    · by_cases hb : b = a
      · exact hb
      · exact absurd (if_neg hb) z
theorem walkG {l : PySem.W.OpenLaw} {q : Program} {loose : List Str} {XP : (Str → Option Value) → Heap → Prop} {YP : World → Heap → Prop} {d : DefRec} {K : Params → PySem.W.Frag} {k : Nat} (hn : l.most = some 63) (hdf : d.params.defaults = []) (hr : Room k callerA)
    (hY : ∀ (w : World) (h : Heap), YP w h → (K w.params).In h)
    (F : ∀ (w : World) (mg : Str → Option Value) (fa : Addr) (h : Heap), (K w.params).In h → h.Ns mainGlobals mg → mg d.name = some (.ref fa) →
      ∃ fd : FuncData, (∀ (s : Shared) (u : Value), BindsTo s fd ⟨[u], []⟩ [("script", u)]) ∧ ∀ base : Heap, (K w.params).In base → base.Ns mainGlobals mg → FnG True l.prog w (K w.params) mg base (L2.CX l.prog w) k fa fd ["script"] (spLaw (K w.params))) :
    PySem.W.WalkO q loose XP YP l.row.toRowW d [] (fun f vs => PySem.call f vs) := by
  refine Att.attach_call hn hdf fun w s₀ s₁ mg mb fa o pm cd doc a vs ns G Y ho hd hcd hmg hobj hints hlen hg => ?_
  have KX := hY w _ Y
  obtain ⟨fd, hb, hF⟩ := F w mg fa _ KX G.T.g hmg
  exact law_callG KX G.T.g G.T.b G.T.builtins G.T.nolimit hg hobj hints (Nat.le_trans hlen (by decide)) ⟨hr, fun _ => rfl⟩ hF hb (fun H hO hS => ⟨a, ns, rfl, hS, hlen, fun _ => rfl⟩) fun H e s' ⟨_, _, _, _, _, _, _, _, _, _, _, _, z⟩ => z
end Lc
/-! Lc: repr, min of pairs, shifts of cells, reverse, pokes -/
namespace Lc
open PySem L2 PySem.Spec PyProof.Rows
section
variable {E : Ec} {te ta tb tc : TE} {tr : TA} {t : TS} {Γ : List Cell} {α β γ δ : Type} {A B R : Asr} {H : Hp} {cx cy : RC} {i : Nat}
open Res
theorem put_cell {σ : L2.St} {x : Option V} {c : Cell} (hlt : i < Γ.length) (ex : σ[i]? = some x) (hB : Ent B (c x)) : Ent (sep (sep (base E σ (Γ.set i cAny)) A) B) (sep (base E σ (Γ.set i c)) A) := by
  intro F H o s ⟨o1, o2, h1, h2, d, ⟨o3, o4, h3, h4, d', ⟨o5, o6, h5, h6, d2, a, cc⟩, r⟩, b⟩
  refine ⟨fun q => o2 q ∨ o5 q ∨ o6 q, o4, fun q z => ?_, fun q z => h1 q (h4 q z), fun q z w => ?_, ⟨fun q => o2 q ∨ o5 q, o6, fun q z => z.elim .inl fun z => .inr (.inl z), fun q z => .inr (.inr z), fun q z w => ?_,
      sl_put hlt ex ⟨o2, o5, fun _ z => .inl z, fun _ z => .inr z, fun q z w => d q (h3 q (h5 q w)) z, hB F H o2 s b, a⟩, cc⟩, r⟩
  · rcases z with z | z | z
    · exact h2 q z
    · exact h1 q (h3 q (h5 q z))
    · exact h1 q (h3 q (h6 q z))
  · rcases z with z | z | z
    · exact d q (h4 q w) z
    · exact d' q (h5 q z) w
    · exact d' q (h6 q z) w
  · rcases z with z | z
    · exact d q (h3 q (h6 q w)) z
    · exact d2 q z w
/-- a list of one's own by its address -/
theorem es_at {mk : List PyData → Cell} {ds : List PyData} {m : Res β} {post : β → Fin} (hk : OwnC mk) (hi : Γ[i]? = some (mk ds)) (h : ∀ p, EvS E t (Γ.set i (cAt p ds)) m post) : EvS E t Γ m post := fun σ H R D t0 q => by
  obtain ⟨p, hs, t2, _⟩ := take_own (A := R) hk hi t0
  exact h p σ H R D (t2.ent (put_cell (c := cAt p ds) (List.getElem?_eq_some_iff.mp hi).1 hs fun F H o s a => sep_pers (fun _ => rfl) a)) q
/-- a list of one's own is frozen where it stands -/
theorem es_frz {mk : List PyData → Cell} {ds : List PyData} {m : Res β} {post : β → Fin} (hk : OwnC mk) (hi : Γ[i]? = some (mk ds)) (h : EvS E t (Γ.set i (cV (.list ds))) m post) : EvS E t Γ m post := fun σ H R D t0 q => by
  obtain ⟨p, hs, t2, _⟩ := take_own (A := R) hk hi t0
  exact h σ H R D (((t2.ent Ent.comm).freeze.ent Ent.comm).ent (put_cell (c := cV (.list ds)) (List.getElem?_eq_some_iff.mp hi).1 hs fun F H o s a => a)) q
/-- a slot is forgotten -/
theorem es_forget {c : Cell} {m : Res β} {post : β → Fin} (l : Le Γ (Γ.set i cAny)) (h : EvS E t (Γ.set i cAny) m post) : EvS E t Γ m post := EvS.pre l h

/-! ### repr -/
theorem rn_repr {d : PyData} (h : PArg E Γ K0 cx (ppD E.K d)) (hf : ∃ ds, d = .list ds ∨ d = .tuple ds) : RnJ E (rRepr E.K) [cx] Γ (reprR d) (fun _ => Γ) fun s => rV (.str s) := fun σ H R Q vs t q => by
  obtain ⟨ho, q⟩ := wp_need q
  obtain ⟨x, rfl, t1⟩ := one_arg t
  obtain ⟨_, _, z⟩ := par1 h t1
  exact ⟨x, d, rfl, z, ho, q _ H (res1 t1 fun F => .str _)⟩
mutual
theorem Dq.up {K : PySem.W.Frag} {H H' : Hp} (s : Same H H') : ∀ {v : V} {d : PyData}, Dq K H v d → Dq K H' v d
  | _, _, .non => .non
  | _, _, .bl b => .bl b
  | _, _, .int i => .int i
  | _, _, .str x => .str x
  | _, _, .dk0 h => .dk0 (s _ _ h)
  | _, _, .lst h r => .lst (sql_same h s) (DqAll.up s r)
  | _, _, .tup h r => .tup (h.elim (fun h => .inl (h.elim (fun h => .inl (s _ _ h)) fun ⟨o, h⟩ => .inr ⟨o, s _ _ h⟩)) fun h => .inr h) (DqAll.up s r)
theorem DqAll.up {K : PySem.W.Frag} {H H' : Hp} (s : Same H H') : ∀ {vs : List V} {ds : List PyData}, DqAll K H vs ds → DqAll K H' vs ds
  | _, _, .nil => .nil
  | _, _, .cons h r => .cons (Dq.up s h) (DqAll.up s r)
end
theorem dpAll_of {K : PySem.W.Frag} {F H : Hp} : ∀ {ds : List PyData} {vs : List V}, parOk (ds.map (ppD K)) vs F H → DqAll K H vs ds
  | [], [], _ => .nil
  | _ :: _, _ :: _, h => .cons h.1 (dpAll_of h.2)
  | [], _ :: _, h => (show False from h).elim
  | _ :: _, [], h => (show False from h).elim
theorem same_upd {H : Hp} {p : Addr} {u : HO} (h : H p = none) : Same H (upd H p u) := fun b w e => by
  rw [upd_ne (fun z => by rw [z, h] at e; cases e)]
  exact e
/-- repr([a, b, ..]), the items may be names of lists of one's own -/
theorem ev_reprL {ma : Res α} {Γ1 : α → List Cell} {cs : α → List RC} {ds : α → List PyData} (h : EvA E tr Γ ma Γ1 cs) (hp : ∀ a, Pars E (Γ1 a) K0 (cs a) ((ds a).map (ppD E.K))) (hl : ∀ a, (ds a).length ≤ 1000 := by exact fun _ => Nat.le_of_ble_eq_true rfl) :
    EvJ E (tCB (rRepr E.K) (tCons (tLst tr) tNil)) Γ (ma.bind fun a => (reprR (.list (ds a))).bind fun s => .ok (a, s)) (fun r => Γ1 r.1) fun r => rV (.str r.2) := fun σ H R Q t q =>
  h σ H R _ t (wp_mono (wp_bind.mp q) (fun a _ q vs H1 t1 => by
    obtain ⟨ho, q⟩ := wp_need (wp_bind.mp q)
    obtain ⟨F, o, s, k, P⟩ := t1
    have hpar : parOk ((ds a).map (ppD E.K)) vs F H1 := hp a σ vs F H1 o trivial s (Ent.left F H1 o s (Ent.assoc' F H1 o s P))
    have hd := dpAll_of hpar
    have ln : vs.length = (ds a).length := by rw [parOk_len hpar, List.length_map]
    refine ⟨by rw [ln]; exact Nat.le_trans (hl a) (by decide), fun p hp => ⟨.ref p, .list (ds a), rfl, .lst (SqL.of upd_same) (DqAll.up (same_upd hp) hd), ho, ?_⟩⟩
    have t2 : Top (sep emp (sep (base E σ (Γ1 a)) (sep (csA (cs a) σ vs) R))) (upd H1 p (.lst vs)) := Top.allocX ⟨F, o, s, k, P⟩ hp fun _ _ _ _ => trivial
    exact q (.str _) _ (res1 (t2.ent Ent.right) fun F => .str _)) fun _ x => x)

/-! ### min of pairs -/
theorem nodict_pairs : ∀ l : List (Int × Int), PyData.hasDictAll (l.map dat) = false
  | [] => by rw [List.map_nil, PyData.hasDictAll]
  | p :: l => by
    have e : PyData.hasDict (dat p) = false := rfl
    rw [List.map_cons, PyData.hasDictAll, e, nodict_pairs l]
    rfl
def ltPr (a b : Int × Int) : Bool := decide (a.1 < b.1 ∨ (a.1 = b.1 ∧ a.2 < b.2))
def minP : List (Int × Int) → Res (Int × Int)
  | [] => .bad
  | x :: xs => .ok (xs.foldl (fun a y => if ltPr y a then y else a) x)
theorem minP_data (x : Int × Int) : ∀ xs : List (Int × Int), PySem.W.minD (dat x) (xs.map dat) = dat (xs.foldl (fun a y => if ltPr y a then y else a) x) := by
  intro xs
  unfold PySem.W.minD
  induction xs generalizing x with
  | nil => rfl
  | cons y ys ih =>
    rw [List.map_cons, List.foldl_cons, List.foldl_cons, ← ih]
    have e : (if PySem.W.dataLt (dat y) (dat x) = true then dat y else dat x) = dat (if ltPr y x = true then y else x) := by
      have e1 : PySem.W.dataLt (dat y) (dat x) = ltPr y x := PySem.W.dataLt_ii y.1 y.2 x.1 x.2
      rw [e1]
      split <;> rfl
    rw [e]
def rMinD (K : PySem.W.Frag) : List V → Hp → VK → Prop := fun vs H Q => ∃ (a : Addr) (xs : List V) (p : Int × Int) (ps : List (Int × Int)), vs = [.ref a] ∧ SqL K H a xs ∧ DpAll K H xs ((p :: ps).map dat) ∧ ∀ (i : Nat) (v : V), xs[i]? = some v → ((p :: ps).map dat)[i]? = some (PySem.W.minD (dat p) (ps.map dat)) → Q v H
theorem minPK {X : Cx} (K : PySem.W.Frag) (h : X.K = K) (hc : X.calm = true) (hu : X.A.units + 64 < cLine) : CallR X (.builtin "min") (rMinD K) := by
  subst h
  intro pins s σ H vs us Q I r h
  obtain ⟨a, xs, p, ps, rfl, hs, hd, q⟩ := h
  obtain ⟨its, rv, hl, _⟩ := I.list hs
  rw [Vals.ref1 r]
  obtain ⟨as, hr⟩ := Dp.readsAll I ((p :: ps).map dat) xs its hd rv
  have hr' : ReadsAll s.heap its.toArray.toList (dat p :: ps.map dat) as := hr
  have depth : ∀ l : List (Int × Int), PyData.depthAll (l.map dat) ≤ 3 := by
    intro l
    induction l with
    | nil => exact Nat.zero_le _
    | cons y ys ih =>
      refine Nat.max_le.mpr ⟨?_, ih⟩
      show PyData.depth (.tuple [.int y.1, .int y.2]) ≤ 3
      simp [PyData.depth, PyData.depthAll]
  have hal : PySem.W.AlikeAll (dat p :: ps.map dat) := by
    have e : (dat p :: ps.map dat) = (p :: ps).map dat := rfl
    rw [e]
    refine ⟨fun x hx y hy => ?_, fun x hx => ?_⟩
    · obtain ⟨x', _, rfl⟩ := List.mem_map.mp hx
      obtain ⟨y', _, rfl⟩ := List.mem_map.mp hy
      rfl
    · obtain ⟨x', _, rfl⟩ := List.mem_map.mp hx
      exact fun z => by cases z
  have hn : its.toArray.size = ps.length + 1 := by
    have := PySem.W.readsAll_len hr'
    simpa using this
  have du : X.A.units + 1 + PyData.depthAll (dat p :: ps.map dat) < cLine := by
    have := depth (p :: ps)
    have e : PyData.depthAll (dat p :: ps.map dat) = PyData.depthAll ((p :: ps).map dat) := rfl
    omega
  refine call_min_walkH (PySem.W.iter_listW (A := X.A.in1) (I.ok.hd hc) hl.isList fun s₂ e W st hfp hw hk => ?_)
  refine ⟨_, _, _, _, _, _, _, s.heap, _, rfl, W, st, hfp, by omega, hw, hk, PySem.W.cmpIn_lt (A := X.A.in1) hr' hal du, fun v s' hP m => ?_⟩
  obtain ⟨h', tk, rfl, hk'⟩ := PySem.W.moved_old e rfl m
  have e1 : its.toArray.size - 1 = (ps.map dat).length := by rw [List.length_map]; omega
  have e2 := (PySem.W.argBest_fold PySem.W.dataLt PyData.none (dat p) (ps.map dat) (ps.map dat).length (Nat.le_refl _)).2
  rw [List.take_length] at e2
  rw [← e1] at e2
  generalize hb : argBest (fun i j => PySem.W.dataLt ((dat p :: ps.map dat).getD i PyData.none) ((dat p :: ps.map dat).getD j PyData.none)) (its.toArray.size - 1) = b at hP e2
  have hP' : its[b]? = some v := by simpa using hP
  have hlt : b < its.length := (List.getElem?_eq_some_iff.mp hP').1
  have hx : b < xs.length := by
    have := rv.length
    omega
  obtain ⟨u, hu, hw2⟩ := rv.get (List.getElem?_eq_getElem hx)
  rw [hP'] at hu
  cases hu
  refine ⟨xs[b], H, I.kept hk', hw2, q b _ (List.getElem?_eq_getElem hx) ?_⟩
  have hb2 : b < (dat p :: ps.map dat).length := by
    rw [List.length_cons, List.length_map]
    have : its.toArray.size = its.length := by simp
    omega
  show (dat p :: ps.map dat)[b]? = _
  rw [List.getElem?_eq_getElem hb2]
  rw [List.getD_eq_getElem?_getD, List.getElem?_eq_getElem hb2] at e2
  exact congrArg some e2
theorem rn_minP {ps : List (Int × Int)} (h : PArg E Γ K0 cx (ppS E.K (ps.map dat))) : RnJ E (rMinD E.K) [cx] Γ (minP ps) (fun _ => Γ) fun r => rV (dat r) := fun σ H R Q vs t q => by
  obtain ⟨x, rfl, t1⟩ := one_arg t
  cases ps with
  | nil => exact (show False from q).elim
  | cons p ps =>
    have q : ∀ v H', Top (sep (base E σ Γ) (sep (rV (dat (ps.foldl (fun a y => if ltPr y a then y else a) p)) σ v) R)) H' → Q v H' := q
    obtain ⟨a, ws, rfl, hs, ln, t2⟩ := readS h t1
    have hd : DpAll E.K H ws ((p :: ps).map dat) := t2.fact fun F o s z => DqAll.noDict (nodict_pairs (p :: ps)) ((as_of F o s z).dp s)
    refine ⟨a, ws, p, ps, rfl, hs, hd, fun i v hv hi => ?_⟩
    rw [minP_data] at hi
    exact q v H (res1' (t2.ent (Ent.sepR (Ent.sepR Ent.right))) fun F o s z => by
      obtain ⟨v', e1, e2⟩ := (as_of F o s z).get hi
      rw [hv] at e1
      cases e1
      exact e2)
end
end Lc
/-! Lc: xs[a:b] = ys, reverse, pokes, chains -/
namespace Lc
open PySem L2 PySem.Spec PyProof.Rows
section
open PySem.SeqAt
open PySem.AutoSeq1 (wpAny_loadPart')
open PySem.MeetsSeq PySem.MeetsSeq2 PySem.MeetsSeq3
variable {prog : Program} {w : World} {A : Around} {E : Value → Shared → Prop} {s : Shared}
theorem setItem_sliceG {l b sl : Addr} {items new : Array Value} {n n2 : Nat} {vl vu : Value} {lo hi : Option Int} {a c : Nat} {Q : Unit → Shared → Prop}
    (e : s.heap.get? l = some { cls := .type "list", data := .seq items n }) (e2 : s.heap.get? b = some { cls := .type "list", data := .seq new n2 }) (hne : l ≠ b)
    (hs : s.heap.IsSliceOf sl vl vu .none) (pl : IsPart vl lo) (pu : IsPart vu hi) (hb0 : sliceBounds lo hi none items.size = ((a : Int), (c : Int), 1)) (hac : a ≤ c) (hc : c ≤ items.size)
    (hsz : items.size + new.size ≤ sizeLine) (h : Q () { s with heap := s.heap.update l (Obj.mapSeq fun xs => xs.extract 0 a ++ new ++ xs.extract c xs.size) }) :
    wpAny (model prog w) A (setItem (.ref l) (.ref sl) (.ref b)) Q E s := by
  have hl : s.heap.IsList l items := PySem.IsL.isList e
  have hb : s.heap.IsList b new := PySem.IsL.isList e2
  obtain ⟨os, hos, hcs, hds⟩ := id hs
  have hTs : s.TypeIs (.ref sl) "slice" := ⟨os, hos, hcs⟩
  have hstep : ¬ ((rawPart none == rawInt 0) = true) := Bool.false_ne_true
  have hsame : Builtin.List.listSameRef (.ref l) (.ref b) = false := by
    unfold Builtin.List.listSameRef
    exact beq_eq_false_iff_ne.mpr hne
  have hmax : (max (a : Int) (c : Int)).toNat = c := by omega
  have hz' : ((fun xs : Array Value => xs.extract 0 a ++ new ++ xs.extract c xs.size) items).size ≤ sizeLine + 1 := by
    simp only [Array.size_append, Array.size_extract]
    omega
  unfold setItem
  try with_reducible refine wpAny_holding ?_
  first | refine wpAny_bind (wpAny_pure ?_) | skip
  refine wpAny_bind (wpAny_sequenceKey hl.typeIs (by decide) ?_)
  refine wpAny_bind (wpAny_callSpecial?_slot (name := Str.ofString "__setitem__") hl.typeIs slot_list_setitem
    (wpAny_call_entry slot_list_setitem hl.typeIs entry_list_setitem ?_ (args_list_setitem _ _ _)))
  show wpAny _ _ (Builtin.List.listSubscript? (.ref sl) >>= _) _ _ s
  refine wpAny_bind ?_
  unfold Builtin.List.listSubscript?
  refine wpAny_bind (wpAny_specialOf hTs slice_no_index ?_)
  simp only [Option.isNone_none, if_true]
  refine wpAny_pure ?_
  show wpAny _ _ (typeOf (.ref sl) >>= _) _ _ s
  refine wpAny_bind (wpAny_typeOf hTs ?_)
  first
    | rw [if_neg (by decide)]
    | refine PySem.W.KFB.if_not (by decide) ?_
  rw [listSliceParts_eq]
  refine wpAny_bind (wpAny_bind (wpAny_field hos hds (x := .none) rfl (wpAny_bind (wpAny_listPart .none ?_))))
  rw [if_neg hstep]
  refine wpAny_bind (wpAny_field hos hds (x := vl) rfl (wpAny_bind (wpAny_listPart pl ?_)))
  refine wpAny_bind (wpAny_field hos hds (x := vu) rfl (wpAny_bind (wpAny_listPart pu (wpAny_pure ?_))))
  first
    | simp only [hsame, Bool.false_eq_true, if_false]
    | refine PySem.W.KFB.if_not hsame ?_
    | (dsimp only
       rw [if_neg (by rw [hsame]; exact Bool.false_ne_true)])
  refine wpAny_bind (m := Builtin.List.listAllItems (.ref b) "must assign iterable to extended slice") ?_
  unfold Builtin.List.listAllItems
  refine wpAny_bind (wpAny_typeOf hb.typeIs ?_)
  first
    | refine PySem.W.KFB.if_so (by decide) ?_
    | rw [if_pos (by decide)]
    | simp only [beq_self_eq_true, Bool.true_or, if_true]
  unfold Builtin.List.listItems
  refine wpAny_bind (wpAny_seqItems e2 rfl (wpAny_pure ?_))
  refine wpAny_bind (wpAny_bind (wpAny_seqItems e rfl (wpAny_pure ?_)))
  refine wpAny_bind (wpAny_of_eq ((sliceIndices_raw lo hi none items.size (by simp)).trans (congrArg (pure : Int × Int × Int → Sem (Int × Int × Int)) hb0)) ?_)
  show wpAny _ _ (if ((1 : Int) == 1) = true then _ else _) _ _ s
  rw [if_pos (by decide)]
  refine wpAny_bind (wpAny_rule ?_)
  first
    | simp only [notLongL hsz, Bool.false_eq_true, if_false]
    | refine PySem.W.KFB.if_not (notLongL hsz) ?_
  first | refine wpAny_bind (wpAny_pure ?_) | skip
  show wpAny _ _ (updateSeq l (fun xs => xs.extract 0 ((a : Int)).toNat ++ new ++ xs.extract (max (a : Int) (c : Int)).toNat xs.size) >>= _) _ _ s
  rw [hmax, Int.toNat_natCast]
  refine wpAny_bind (wpAny_updateSeq (hz := Nat.le_trans (Nat.le_add_right _ _) hsz) (_hz' := hz') e rfl ?_)
  refine wpAny_bind (wpAny_letGo ?_)
  first
    | exact wpAny_bind (wpAny_pure (wpAny_pure ⟨.none, rfl, wpAny_pure h⟩))
    | exact wpAny_pure ⟨.none, rfl, wpAny_pure h⟩
end
section
variable {X : Cx} {o : Expr} {lo hi : Option Expr} {to : TE} {tl th : TO} {pos p2 : Pos}
/-- o[lo:hi] = ys -/
def gSl (to : TE) (tl th : TO) : TG := fun v σ H Q => to σ H fun x H1 => tl σ H1 fun l H2 => th σ H2 fun u H3 => ∃ (a b : Addr) (xs ys : List V) (i j : Nat), x = .ref a ∧ v = .ref b ∧ a ≠ b ∧ H3 a = some (.lst xs) ∧ H3 b = some (.lst ys) ∧
  sliceBounds l u none xs.length = ((i : Int), (j : Int), 1) ∧ i ≤ j ∧ j ≤ xs.length ∧ xs.length + ys.length ≤ sizeLine ∧ Q σ (upd H3 a (.lst (xs.take i ++ ys ++ xs.drop j)))
theorem pg_slice (ho : PE X o to) (hl : PO X lo tl) (hu : PO X hi th)
    (ha : ∀ v, assign (.Subscript o (.Slice lo hi none p2) pos) X.env v = (do
      let ov ← holding [v] (eval o X.env)
      let iv ← holding [v, ov] (eval (.Slice lo hi none p2) X.env)
      standAt pos
      holding [v, ov, iv] (setItem ov iv v)
      release [iv, v, ov] []) := by intro _; rfl) : PG X (.Subscript o (.Slice lo hi none p2) pos) (gSl to tl th) := by
  refine ⟨fun pins s σ H v u Q I r h => ?_⟩
  rw [ha]
  refine wpAny_bind (wpAny_holding (thn (ho.run pins s σ H _ I h) fun ov s1 ⟨x, H1, I1, r1, q1⟩ => ?_))
  refine wpAny_bind (wpAny_holding (wpAny_Slice (thn (hl.run pins s1 σ H1 _ I1 q1) fun vl s2 ⟨l, H2, I2, pl, q2⟩ => thn (hu.run pins s2 σ H2 _ I2 q2) fun vu s3 ⟨u', H3, I3, pu, q3⟩ => ?_)))
  rw [evalPart_none]
  refine wpAny_pure ?_
  have I4 : Inv X pins σ H3 { s3 with heap := s3.heap.push { cls := .type "slice", data := .fields #[vl, vu, .none] } } := I3.kept (t' := s3.toks) fun b ob q => Heap.get?_push_of_some _ q
  obtain ⟨a, b, xs, ys, i, j, rfl, rfl, hne, hH, hB, hb, hij, hj, hz, q⟩ := q3
  cases r
  cases r1
  obtain ⟨z, its, n, rr, hl', e⟩ := I4.lstM hH
  obtain ⟨z2, its2, n2, r2, hl2, e2⟩ := I4.lstM hB
  refine wpAny_bind (wpAny_standAt (wpAny_bind (wpAny_holding ?_)))
  have hle : its.toArray.size = xs.length := by rw [List.size_toArray]; omega
  have hle2 : its2.toArray.size = ys.length := by rw [List.size_toArray]; omega
  refine setItem_sliceG (a := i) (c := j) e e2 hne (Heap.IsSliceOf.new ..) pl pu (by rw [hle]; exact hb) hij (by omega) (by omega) ?_
  refine wpAny_release ⟨σ, _, I4.lset (its' := its.take i ++ its2 ++ its.drop j) (t' := s3.toks) hH e (splice_eq its its2 i j) (Vals.append (Vals.append (rr.take _) r2) (rr.drop _)) ?_, q⟩
  rw [List.length_append, List.length_append, List.length_take, List.length_drop]
  omega
end
section
variable {E : Ec} {te ta tb tc : TE} {tr : TA} {t : TS} {Γ : List Cell} {α β γ δ : Type} {A B R : Asr} {H : Hp} {cx cy : RC} {i : Nat}
open Res
theorem es_reverse {mk : List PyData → Cell} {ds : List PyData} (hk : OwnC mk) (hi : Γ[i]? = some (mk ds)) :
    EvS1 E (tDrop (tBM0 E.K "list" rReverse (tVar i))) Γ (.ok ()) fun _ => Γ.set i (mk ds.reverse) := fun σ H R D t q => by
  obtain ⟨p, hs, t2, back⟩ := take_own (A := R) hk hi t
  obtain ⟨vs, ep, _⟩ := own_at t2
  refine ⟨_, hs, .inl ⟨rfl, vs, SqL.of ep⟩, p, vs, rfl, rfl, ep, q σ _ ?_⟩
  have t5 := own_write (σ := σ) (es := ds.reverse) (ws := vs.reverse) t2 fun F o vs'' s a e2 r => by
    rw [ep] at e2
    cases e2
    exact r.reverse
  exact t5.ent (back ds.reverse)
theorem es_reverseT [Dat α] {mk : List PyData → Cell} {xs : List α} (hk : OwnC mk) (hi : Γ[i]? = some (mk (xs.map dat))) :
    EvS1 E (tDrop (tBM0 E.K "list" rReverse (tVar i))) Γ (.ok ()) fun _ => Γ.set i (mk (xs.reverse.map dat)) := by
  rw [List.map_reverse]
  exact es_reverse hk hi
/-- xs[lo:hi] = ys of another list, frozen or new -/
def setSl {α : Type} (xs ys : List α) (lo hi : Option Int) : List α := let b := sliceBounds lo hi none xs.length; xs.take b.1.toNat ++ ys ++ xs.drop b.2.1.toNat
def setSlR {α : Type} (xs ys : List α) (lo hi : Option Int) : Res (List α) := let b := sliceBounds lo hi none xs.length
  need (0 ≤ b.1 ∧ b.1 ≤ b.2.1 ∧ b.2.1 ≤ xs.length ∧ xs.length + ys.length ≤ lim) (.ok (setSl xs ys lo hi))
theorem es_setSl [Dat α] {mk : List PyData → Cell} {xs : List α} {ys : γ → List α} {m : Res γ} {c : γ → RC} {tl th : TO} {lo hi : Option Int} (hk : OwnC mk) (h : EvJ E te Γ m (fun _ => Γ) c) (f : ∀ a, Fz (c a) (.list ((ys a).map dat))) (hi0 : Γ[i]? = some (mk (xs.map dat)))
    (h1 : EvOP E tl Γ lo) (h2 : EvOP E th Γ hi) :
    EvS1 E (tAsg te (gSl (tVar i) tl th)) Γ (m.bind fun a => (setSlR xs (ys a) lo hi)) fun zs => Γ.set i (mk (zs.map dat)) := fun σ H R D t q => by
  refine h σ H R _ t (wp_mono (wp_bind.mp q) (fun a _ q w H1 t1 => ?_) fun _ x => x σ)
  obtain ⟨⟨n0, n1, n2, n3⟩, q⟩ := wp_need q
  have t3 : Top (sep (base E σ Γ) (sep (vA (.list ((ys a).map dat)) w) R)) H1 := (f a σ w _ H1 (t1.ent frontE)).ent frontE
  obtain ⟨p, hs, t4, back⟩ := take_own hk hi0 t3
  refine ⟨_, hs, h1 σ H1 _ _ t3 fun H2 t3 => h2 σ H2 _ _ t3 fun H3 t3 => ?_⟩
  obtain ⟨p', hs', t4, back⟩ := take_own hk hi0 t3
  rw [hs] at hs'
  cases hs'
  obtain ⟨vs, ep, ln⟩ := own_at t4
  rw [List.length_map] at ln
  obtain ⟨b, zs, rfl, eb, lb, hne⟩ : ∃ b zs, w = .ref b ∧ H3 b = some (.lst zs) ∧ zs.length = (ys a).length ∧ p ≠ b := by
    obtain ⟨F, o, s, k, o1, o2, h1, h2, d, ⟨_, _, _, _, _, _, ⟨_, _, _, _, _, z, _⟩⟩, ⟨op, _⟩⟩ := t4
    have z : Rp F w (.list ((ys a).map dat)) := z
    cases z with
    | lst e r =>
      refine ⟨_, _, rfl, s _ _ e, by rw [r.len, List.length_map], fun hp => ?_⟩
      have := (k p (h2 p op)).1
      rw [hp] at this
      rw [this] at e
      cases e
  obtain ⟨i', ei⟩ := Int.eq_ofNat_of_zero_le n0
  obtain ⟨j', ej⟩ := Int.eq_ofNat_of_zero_le (Int.le_trans n0 n1)
  have hb3 : sliceBounds lo hi none xs.length = ((i' : Int), (j' : Int), 1) := by
    have e1 : (sliceBounds lo hi none xs.length).2.2 = 1 := rfl
    generalize hg : sliceBounds lo hi none xs.length = g at ei ej e1
    obtain ⟨g1, g2, g3⟩ := g
    simp only at ei ej e1
    rw [ei, ej, e1]
  rw [ei, ej] at n1
  rw [ej] at n2
  refine ⟨p, b, vs, zs, i', j', rfl, rfl, hne, ep, eb, by rw [ln]; exact hb3, by omega, by omega, by rw [ln, lb]; exact lim_le n3, q σ _ ?_⟩
  have t5 := own_write (σ := σ) (es := (setSl xs (ys a) lo hi).map dat) (ws := vs.take i' ++ zs ++ vs.drop j') t4 fun F o vs'' s z e2 r => by
    rw [ep] at e2
    cases e2
    obtain ⟨_, _, _, _, _, _, ⟨_, _, _, _, _, z, _⟩⟩ := z
    have z : Rp F (.ref b) (.list ((ys a).map dat)) := z
    cases z with
    | lst e rz =>
      have e' := s _ _ e
      rw [eb] at e'
      cases e'
      unfold setSl
      dsimp only
      rw [ei, ej]
      simp only [Int.toNat_natCast, Int.ofNat_eq_natCast]
      rw [List.map_append, List.map_append, List.map_take, List.map_drop]
      exact ((r.take i').append rz).append (r.drop j')
  exact (t5.ent (back _)).ent (Ent.sepR Ent.right)
theorem ev_ixT {ma : Res α} {Γ1 : α → List Cell} {ds : α → List PyData} {i : Int} {d : α → PyData} (ha : EvJ E ta Γ ma Γ1 fun a => rV (.tuple (ds a))) (hb : ∀ a, EvP E tb (Γ1 a) (rV (.int i))) (h : ∀ a, atI (ds a) i = some (d a)) :
    EvJ E (tOp (rIxT E.K) ta tb) Γ ma Γ1 fun a => rV (d a) :=
  (ev_op ha (fun a => ev_pure (a := ()) (cc := fun _ => rV (.int i)) (hb a)) (fun a _ => r2_to a (Γ' := Γ1) (c := fun a => rV (d a)) (r2_ixT (h a)))).eq (by cases ma <;> rfl)
/-- a < b < c, the parts may fail, no state changes -/
theorem ev_chainM {r r' : R2} {ma mb mc : Res Int} {p p' : Int → Int → Bool} (ha : EvJ E ta Γ ma (fun _ => Γ) fun a => rV (.int a)) (hb : EvJ E tb Γ mb (fun _ => Γ) fun a => rV (.int a)) (hc : EvJ E tc Γ mc (fun _ => Γ) fun a => rV (.int a))
    (h1 : ∀ a b H (Q : VK), Q (.bl (p a b)) H → r (.int a) (.int b) H Q) (h2 : ∀ a b H (Q : VK), Q (.bl (p' a b)) H → r' (.int a) (.int b) H Q) :
    EvJ E (tChain r r' ta tb tc) Γ (ma.bind fun a => mb.bind fun b => if p a b then mc.bind fun c => .ok (p' b c) else .ok false) (fun _ => Γ) fun x => rV (.bool x) := fun σ H R Q t q =>
  ha σ H R _ t (wp_mono (wp_bind.mp q) (fun a _ q x H1 t1 => by
    have ex := int1 t1
    subst ex
    refine hb σ H1 R _ (t1.ent (Ent.sepR Ent.right)) (wp_mono (wp_bind.mp q) (fun b _ q y H2 t2 => ?_) fun _ z => z)
    have ey := int1 t2
    subst ey
    refine h1 a b H2 _ ⟨p a b, rfl, ?_⟩
    cases e : p a b with
    | false =>
      rw [e] at q
      exact q (.bl false) H2 (res1 t2 fun F => .bl _)
    | true =>
      rw [e] at q
      refine hc σ H2 R _ (t2.ent (Ent.sepR Ent.right)) (wp_mono (wp_bind.mp q) (fun c _ q z H3 t3 => ?_) fun _ z => z)
      have ez := int1 t3
      subst ez
      exact h2 b c H3 _ (q (.bl (p' b c)) H3 (res1 t3 fun F => .bl _))) fun _ z => z)
end
section
variable {K : PySem.W.Frag} {x qual : Str} {st : Stmt} {f : Addr} {fd : FuncData} {ps ks : List Str} {n : Nat} {is : List Nat} {du : List Value}
theorem FunG.bindsAll (F : FunG K x qual st f fd) (h : ∀ us : List Value, us.length = ps.length → bindArgs fd ⟨us, []⟩ = pure (ps.zip us)) : L2.Binds K fd ps [] := Binds.all h
theorem FunG.kb (F : FunG K x qual st f fd) (h : ∀ us ws : List Value, us.length = n → ws.length = ks.length → bindArgs fd ⟨us, ks.zip ws⟩ = pure (ps.zip (Pm .none is (us ++ ws ++ du)))) : KB K fd ps n ks fun l => Pm .none is (l ++ du) := KB.of h
theorem kb_looks {D : Addr} {qs : List (Str × Value)} (hq : ∀ q ∈ qs, PySem.W.nsIn K D q.1 = some (some q.2))
    (h : ∀ us ws : List Value, us.length = n → ws.length = ks.length → KwChain D qs (bindArgs fd ⟨us, ks.zip ws⟩) (ps.zip (Pm .none is (us ++ ws ++ du)))) : KB K fd ps n ks fun l => Pm .none is (l ++ du) :=
  fun s us ws X l1 l2 => BindsTo.of_looks fun M => KwChain.looks X hq (h us ws l1 l2)
end
end Lc
/-! Lc: a list of one's own whose items are lists of one's own -/
namespace Lc
open PySem L2 PySem.Spec PyProof.Rows
/-- so many turns a while has at most -/
def fuelN : Nat := 100000
def exA {α : Type} (f : α → Asr) : Asr := ⟨fun F H o => ∃ a, (f a).P F H o, fun s k ⟨a, h⟩ => ⟨a, (f a).st s k h⟩, fun u ⟨a, h⟩ => ⟨a, (f a).up u h⟩⟩
/-- the list object alone -/
def lA (p : Addr) (vs : List V) : Asr where
  P := fun F H o => o p ∧ H p = some (.lst vs)
  st := fun s k ⟨h, e⟩ => ⟨h, (k p h).trans e⟩
  up := fun u ⟨h, e⟩ => ⟨u p h, e⟩
def oOs : List (List PyData) → List V → Asr
  | [], [] => emp
  | ds :: dss, v :: vs => sep (oV ds v) (oOs dss vs)
  | _, _ => bot
def rOO (dss : List (List PyData)) : RC := fun _ v => exA fun x : Addr × List V => sep (pur (v = .ref x.1)) (sep (lA x.1 x.2) (oOs dss x.2))
def cOO (dss : List (List PyData)) : Cell := fun o => match o with
  | some v => rOO dss [] v
  | none => bot
theorem oOs_len {F H : Hp} {o : Addr → Prop} : ∀ {dss : List (List PyData)} {vs : List V}, (∃ o, (oOs dss vs).P F H o) → vs.length = dss.length
  | [], [], _ => rfl
  | _ :: dss, _ :: vs, ⟨_, _, _, _, _, _, _, h⟩ => by rw [List.length_cons, List.length_cons, oOs_len (o := o) ⟨_, h⟩]
  | [], _ :: _, ⟨_, h⟩ => (show False from h).elim
  | _ :: _, [], ⟨_, h⟩ => (show False from h).elim
theorem oOs_dp {K : PySem.W.Frag} {F H : Hp} (s : Same F H) : ∀ {dss : List (List PyData)} {vs : List V} {o : Addr → Prop}, (oOs dss vs).P F H o → DqAll K H vs (dss.map .list)
  | [], [], _, _ => .nil
  | _ :: dss, _ :: vs, _, ⟨_, _, _, _, _, ⟨p, e, _, ws, ew, r⟩, h⟩ => .cons (e ▸ .lst (SqL.of ew) (r.dp s)) (oOs_dp s h)
  | [], _ :: _, _, h => (show False from h).elim
  | _ :: _, [], _, h => (show False from h).elim
section
variable {E : Ec} {te ta tb' tc : TE} {tr : TA} {t tb : TS} {Γ : List Cell} {α β γ δ : Type} {A B R : Asr} {H : Hp} {cx cy : RC} {i j : Nat}
open Res
theorem Top.allocN {p : Addr} {vs : List V} (t : Top A H) (hp : H p = none) : Top (sep (lA p vs) A) (upd H p (.lst vs)) := by
  obtain ⟨F, o, s, k, a⟩ := t
  have ne : ∀ q, o q → q ≠ p := fun q hq e => (k q hq).2 (e ▸ hp)
  have fp : F p = none := by
    cases e : F p with
    | none => rfl
    | some u => rw [s p u e] at hp; cases hp
  refine ⟨F, fun q => q = p ∨ o q, fun b u e => ?_, fun q hq => ?_, (fun q => q = p), o, fun _ z => .inl z, fun _ z => .inr z, fun q e hq => ne q hq e, ⟨rfl, upd_same⟩, A.st (Same.refl F) (fun q hq => upd_ne (ne q hq)) a⟩
  · rw [upd_ne (fun z => by rw [z, fp] at e; cases e)]
    exact s b u e
  · rcases hq with hq | hq
    · rw [hq]
      exact ⟨fp, by rw [upd_same]; exact fun z => by cases z⟩
    · exact ⟨(k q hq).1, by rw [upd_ne (ne q hq)]; exact (k q hq).2⟩
theorem cs_oOs {σ : L2.St} : ∀ {dss : List (List PyData)} {vs : List V}, Ent (csA (dss.map rO) σ vs) (oOs dss vs)
  | [], [] => Ent.refl _
  | _ :: dss, _ :: vs => Ent.sepR (cs_oOs (dss := dss) (vs := vs))
  | [], _ :: _ => fun _ _ _ _ h => (show False from h).elim
  | _ :: _, [] => fun _ _ _ _ h => (show False from h).elim
/-- [f(), g(), ..] of new lists -/
theorem ev_lstOO {ma : Res α} {Γ1 : α → List Cell} {cs : α → List RC} {dss : α → List (List PyData)} (h : EvA E tr Γ ma Γ1 cs) (e : cs = fun a => (dss a).map rO) (hl : ∀ a, (dss a).length ≤ 1000 := by exact fun _ => Nat.le_of_ble_eq_true rfl) :
    EvJ E (tLst tr) Γ ma Γ1 fun a => rOO (dss a) := fun σ H R Q t q => by
  subst e
  refine h σ H R _ t (wp_mono q (fun a _ q vs H1 t1 => ?_) fun _ x => x)
  have t2 : Top (sep (base E σ (Γ1 a)) (sep (oOs (dss a) vs) R)) H1 := t1.ent (Ent.sepR (Ent.sepL cs_oOs))
  have ln : vs.length = (dss a).length := t2.fact fun F o s ⟨_, _, _, _, _, _, ⟨o1, _, _, _, _, z, _⟩⟩ => oOs_len (o := o) ⟨o1, z⟩
  refine ⟨by rw [ln]; exact Nat.le_trans (hl a) (by decide), fun p hp => q _ _ ?_⟩
  refine ((t2.allocN hp).ent frontE).ent (Ent.sepR (Ent.assoc'.trans (Ent.sepL ?_)))
  exact fun F H o s z => ⟨(p, vs), sep_pers (fun _ => rfl) z⟩
theorem sto_OO {dss : List (List PyData)} : Sto (rOO dss) (cOO dss) := fun _ _ _ _ t => t
/-- slot i's list of lists, taken out of the state -/
theorem take_OO {dss : List (List PyData)} {σ : L2.St} (hi : Γ[i]? = some (cOO dss)) (t : Top (sep (base E σ Γ) A) H) :
    ∃ p vs, σ[i]? = some (some (.ref p)) ∧ Top (sep (base E σ (Γ.set i cAny)) (sep (sep (lA p vs) (oOs dss vs)) A)) H := by
  obtain ⟨F, o, s, kk, o1, o2, h1, h2, e, ⟨o3, o4, h3, h4, e', a, b⟩, r⟩ := t
  obtain ⟨x, ex, o5, o6, h5, h6, e2, cx, rest⟩ := sl_take hi a
  cases x with
  | none => exact (show False from cx).elim
  | some v =>
    obtain ⟨⟨p, vs⟩, o7, o8, h7, h8, d7, ev, z⟩ := cx
    have ev : v = .ref p := ev
    subst ev
    refine ⟨p, vs, ex, F, o, s, kk, fun q => o6 q ∨ o4 q, fun q => o5 q ∨ o2 q, fun q z => ?_, fun q z => ?_, fun q z w => ?_, ⟨o6, o4, fun _ z => .inl z, fun _ z => .inr z, fun q z w => e' q (h6 q z) w, rest, b⟩,
      o8, o2, fun q z => .inl (h8 q z), fun q z => .inr z, fun q z w => e q (h3 q (h5 q (h8 q z))) w, z, r⟩
    · rcases z with z | z
      · exact h1 q (h3 q (h6 q z))
      · exact h1 q (h4 q z)
    · rcases z with z | z
      · exact h1 q (h3 q (h5 q z))
      · exact h2 q z
    · rcases z with z | z <;> rcases w with w | w
      · exact e2 q w z
      · exact e q (h3 q (h6 q z)) w
      · exact e' q (h5 q w) z
      · exact e q (h4 q z) w
theorem no_OO {dss : List (List PyData)} : ∀ F H o, ¬ (cOO dss none).P F H o := fun _ _ _ h => h
theorem pa_OO {Kn : L2.St → Prop} {dss : List (List PyData)} (hi : Γ[i]? = some (cOO dss)) : PArg E Γ Kn (rS i) (ppD E.K (.list (dss.map .list))) := fun σ w F H o _ s ⟨_, _, _, _, _, ⟨_, _, _, _, _, a, _⟩, x⟩ => by
  obtain ⟨y, ey, hy⟩ := sl_get hi a
  have e2 : σ[i]? = some (some w) := x
  rw [ey] at e2
  cases e2
  obtain ⟨⟨p, vs⟩, _, _, _, _, _, ev, ⟨_, _, _, _, _, ⟨_, hp⟩, z⟩⟩ := hy
  have ev : w = .ref p := ev
  subst ev
  exact .lst (SqL.of hp) (oOs_dp s z)
theorem le_any : ∀ (Γ : List Cell) (j : Nat), Le Γ (Γ.set j cAny)
  | [], _ => .nil
  | _ :: Γ, 0 => .any (Le.refl Γ)
  | _ :: Γ, j + 1 => .same (le_any Γ j)
theorem map_datId (ds : List PyData) : ds.map dat = ds := List.map_id ds
/-- for row in rows: .., the rows are given away -/
theorem es_forOO {dss : List (List PyData)} {f : List PyData → Res Unit} (hi : Γ[i]? = some (cOO dss)) (hj : j < Γ.length)
    (hb0 : ∀ ds : List PyData, EvS E tb ((Γ.set i cAny).set j (cO (ds.map dat))) (f ds) fun _ => .lp ((Γ.set i cAny).set j cAny)) :
    EvS1 E (tFor (iList E.K (tVar i)) (gName j) tb) Γ (foldR dss () fun _ ds => f ds) fun _ => (Γ.set i cAny).set j cAny := fun σ H R D t q => by
  have hb : ∀ ds, EvS E tb ((Γ.set i cAny).set j (cO ds)) (f ds) fun _ => .lp ((Γ.set i cAny).set j cAny) := fun ds => by
    have := hb0 ds
    rwa [map_datId] at this
  obtain ⟨p, vs, hs, t1⟩ := take_OO hi t
  have ep : H p = some (.lst vs) := t1.fact fun F o s ⟨_, _, _, _, _, _, ⟨_, _, _, _, _, ⟨_, _, _, _, _, ⟨_, z⟩, _⟩, _⟩⟩ => z
  refine ⟨.ref p, hs, p, rfl, ⟨vs, SqL.of ep⟩, fun n mm σ' H' => mm = dss.length - n ∧ n ≤ dss.length ∧ Top (sep (base E σ' ((Γ.set i cAny).set j cAny)) (sep (lA p vs) (sep (oOs (dss.drop n) (vs.drop n)) R))) H' ∧ (foldR (dss.drop n) () fun _ ds => f ds).wp (fun b => (Fin.nx ((Γ.set i cAny).set j cAny)).ok E R D) (ExnS E R),
    ⟨_, rfl, Nat.zero_le _, (t1.ent (Ent.sepL (Ent.sepL (le_any _ j).ent))).ent (Ent.sepR Ent.assoc), q⟩, ?_⟩
  rintro n mm σ' H' ⟨rfl, hle, t2, q2⟩
  have ep' : H' p = some (.lst vs) := t2.fact fun F o s ⟨_, _, _, _, _, _, ⟨_, _, _, _, _, ⟨_, z⟩, _⟩⟩ => z
  have ln : (vs.drop n).length = (dss.drop n).length := t2.fact fun F o s ⟨_, _, _, _, _, _, ⟨_, _, _, _, _, _, ⟨o1, _, _, _, _, z, _⟩⟩⟩ => oOs_len (o := o) ⟨o1, z⟩
  rw [List.length_drop, List.length_drop] at ln
  by_cases hlt : n < dss.length
  · have hv : n < vs.length := by omega
    refine .inr ⟨⟨vs, vs[n], SqL.of ep', by simp [hv]⟩, ?_⟩
    have ed : dss.drop n = dss[n] :: dss.drop (n + 1) := List.drop_eq_getElem_cons hlt
    have ev : vs.drop n = vs[n] :: vs.drop (n + 1) := List.drop_eq_getElem_cons hv
    rw [ed] at q2
    rw [ed, ev] at t2
    refine ⟨fun σ2 H2 => Top (sep (base E σ2 ((Γ.set i cAny).set j cAny)) (sep (lA p vs) (sep (oOs (dss.drop (n + 1)) (vs.drop (n + 1))) R))) H2 ∧ (foldR (dss.drop (n + 1)) () fun _ ds => f ds).wp (fun b => (Fin.nx ((Γ.set i cAny).set j cAny)).ok E R D) (ExnS E R), fun σ2 H2 ⟨t3, q3⟩ => ⟨_, by omega, rfl, hlt, t3, q3⟩, fun x H2 hy => ?_⟩
    obtain ⟨rfl, hy⟩ := hy
    have ex := hy vs (SqL.of ep')
    rw [List.getElem?_eq_getElem hv] at ex
    cases ex
    have t3 : Top (sep (base E σ' ((Γ.set i cAny).set j cAny)) (sep (rO dss[n] σ' vs[n]) (sep (lA p vs) (sep (oOs (dss.drop (n + 1)) (vs.drop (n + 1))) R)))) H2 :=
      t2.ent (Ent.sepR ((Ent.sepR Ent.assoc).trans frontE))
    have t4 := put_slot (c := rO dss[n]) sto_o (by rw [List.length_set, List.length_set]; exact hj) t3
    rw [List.set_set] at t4
    refine hb dss[n] _ H2 _ _ t4 (wp_mono (wp_bind.mp q2) (fun _ _ q3 σ4 H4 t6 => ⟨⟨t6, q3⟩, ⟨t6, q3⟩⟩) fun _ x σ => ((x σ).drop).drop)
  · have e : n = dss.length := by omega
    subst e
    rw [List.drop_length] at q2
    exact .inl ⟨⟨vs, SqL.of ep', by omega⟩, q2 σ' H' (t2.ent (Ent.sepR (Ent.right.trans Ent.right)))⟩
/-- xs.pop(k), k computes -/
theorem ev_popAtM [Dat α] {mk : List PyData → Cell} {m : Res γ} {Γ1 : γ → List Cell} {xs : List α} {k : γ → Int} (hk : OwnC mk) (h : EvJ E te Γ m Γ1 fun a => rV (.int (k a))) (h0 : Γ[i]? = some (mk (xs.map dat))) (hi : ∀ a, (Γ1 a)[i]? = some (mk (xs.map dat))) :
    EvJ E (tBM E.K "list" rPopAt (tVar i) (tCons te tNil)) Γ (m.bind fun a => (popR xs (k a)).bind fun r => .ok (a, r)) (fun r => (Γ1 r.1).set i (mk (r.2.2.map dat))) (fun r => rV (dat r.2.1)) := fun σ H R Q t q => by
  obtain ⟨p, hs, t2, _⟩ := take_own (A := R) hk h0 t
  obtain ⟨vs, ep, _⟩ := own_at t2
  refine ⟨_, hs, .inl ⟨rfl, vs, SqL.of ep⟩, ?_⟩
  refine h σ H R _ t (wp_mono (wp_bind.mp q) (fun a _ q w H1 t1 => ?_) fun _ x => x)
  obtain ⟨hn, q⟩ := wp_need (wp_bind.mp q)
  have ew : w = .int (k a) := int1 t1
  subst ew
  have t3 := t1.ent (Ent.sepR Ent.right)
  obtain ⟨p', hs', t4, back⟩ := take_own hk (hi a) t3
  rw [hs] at hs'
  cases hs'
  obtain ⟨vs', ep', ln⟩ := own_at t4
  rw [List.length_map] at ln
  cases ej : ixN xs.length (k a) with
  | none =>
    rw [ej] at q
    exact (show False from q).elim
  | some j =>
    rw [ej] at q
    obtain ⟨sq, jl, b1, b2⟩ := ixN_seq ej
    cases ea : xs[j]? with
    | none =>
      simp only [ea] at q
      exact (show False from q).elim
    | some y =>
      simp only [ea] at q
      have hj : j < vs'.length := by omega
      have hv : vs'[j]? = some vs'[j] := List.getElem?_eq_getElem hj
      have l62 : (xs.length : Int) ≤ 16000000 := by
        have : xs.length ≤ 16000000 := hn
        omega
      refine ⟨p, vs', k a, j, vs'[j], rfl, rfl, ep', by omega, by omega, by rw [ln]; exact sq, hv, q _ _ ?_⟩
      have t5 := t4.addV (v := vs'[j]) (d := dat y) fun F o s ⟨_, _, _, _, _, _, ⟨_, vs'', e2, r⟩⟩ => by
        rw [ep'] at e2
        cases e2
        obtain ⟨v', e3, r3⟩ := r.get (i := j) (d := dat y) (by simp [ea])
        rw [hv] at e3
        cases e3
        exact r3
      have t6 := own_write (σ := σ) (es := (xs.eraseIdx j).map dat) (ws := vs'.eraseIdx j) (t5.ent Ent.assoc') fun F o vs'' s z e2 r => by
        rw [ep'] at e2
        cases e2
        have := RpAll_erase r j
        rw [List.eraseIdx_eq_take_drop_succ (l := xs.map dat)] at this
        rw [List.eraseIdx_eq_take_drop_succ (l := xs), List.map_append, List.map_take, List.map_drop]
        exact this
      exact ((t6.ent Ent.assoc).ent (Ent.sepR (back _))).ent frontE
theorem oOs_at : ∀ {dss : List (List PyData)} {vs : List V} {k : Nat} {ds : List PyData} {v : V}, dss[k]? = some ds → vs[k]? = some v → Ent (oOs dss vs) (oV ds v)
  | [], _, _, _, _, h, _ => by simp at h
  | _ :: _, [], _, _, _, _, h => by simp at h
  | _ :: _, _ :: _, 0, _, _, h, k => by
    simp at h k
    subst h
    subst k
    exact Ent.left
  | _ :: dss, _ :: vs, k + 1, _, _, h, e => Ent.right.trans (oOs_at (dss := dss) (vs := vs) (k := k) (by simpa using h) (by simpa using e))
def pokeIx (dss : List (List PyData)) (k : Nat) : Res Unit := match dss[k]? with
  | some ds => need (ds.length < lim) (.ok ())
  | none => .bad
/-- rows[k].append(None), the rows are given away -/
theorem es_pokeIx {dss : List (List PyData)} {k : Nat} (hi : Γ[i]? = some (cOO dss)) :
    EvS1 E (tDrop (tBM E.K "list" rAppend (tOp (rIxL E.K) (tVar i) (tC (.int (k : Int)))) (tCons (tC .non) tNil))) Γ (pokeIx dss k) fun _ => Γ.set i cAny := fun σ H R D t q => by
  unfold pokeIx at q
  cases e : dss[k]? with
  | none =>
    rw [e] at q
    exact (show False from q).elim
  | some ds =>
    rw [e] at q
    obtain ⟨hn, q⟩ := wp_need q
    obtain ⟨p, vs, hs, t1⟩ := take_OO hi t
    have ep : H p = some (.lst vs) := t1.fact fun F o s ⟨_, _, _, _, _, _, ⟨_, _, _, _, _, ⟨_, _, _, _, _, ⟨_, z⟩, _⟩, _⟩⟩ => z
    have ln : vs.length = dss.length := t1.fact fun F o s ⟨_, _, _, _, _, _, ⟨_, _, _, _, _, ⟨_, o1, _, _, _, _, z⟩, _⟩⟩ => oOs_len (o := o) ⟨o1, z⟩
    have hk : k < dss.length := (List.getElem?_eq_some_iff.mp e).1
    have hv : vs[k]? = some (vs[k]'(by omega)) := List.getElem?_eq_getElem _
    have t2 : Top (sep (sep (base E σ (Γ.set i cAny)) R) (oV ds (vs[k]'(by omega)))) H := t1.ent ((Ent.sepR (Ent.comm.trans (Ent.sepR (Ent.right.trans (oOs_at e hv))))).trans Ent.assoc')
    obtain ⟨p', ep'⟩ : ∃ p', vs[k]'(by omega) = .ref p' := t2.fact fun F o s ⟨_, _, _, _, _, _, ⟨p', e, _⟩⟩ => ⟨p', e⟩
    rw [ep'] at t2 hv
    have t3 : Top (sep (sep (base E σ (Γ.set i cAny)) R) (oA p' ds)) H := t2.ent (Ent.sepR fun F H o s ⟨p'', e, z⟩ => by
      cases e
      exact z)
    obtain ⟨ws, ew, lw⟩ := own_at t3
    have hat : atI vs (k : Int) = some (.ref p') := atI_nat hv
    refine ⟨.ref p, hs, p, vs, k, .ref p', rfl, rfl, SqL.of ep, hat, .inl ⟨rfl, ws, SqL.of ew⟩, p', ws, .non, rfl, rfl, ew, by rw [lw]; exact lim_lt hn, q σ _ ?_⟩
    have t4 := own_write (σ := σ) (es := ds ++ [.none]) (ws := ws ++ [.non]) t3 fun F o vs'' s a e2 r => by
      rw [ew] at e2
      cases e2
      exact r.append (.one .non)
    exact t4.ent Ent.left
end
theorem pe_bmK {X : Cx} {o e : Expr} {es : List Expr} {to : TE} {t : TA} {name : Str} {apos cpos : Pos} {T id : String} {r : V → List V → Hp → VK → Prop} (K : PySem.W.Frag) (hK : X.K = K) (pa : PlainAttrs T) (slot : Slot T name id) (hty : typeOf (.builtin id) = pure (.type "method_descriptor")) (hm : MtR X id r) (ho : PE X o to) (ha : PA X (e :: es) t)
    (hbase : attributeBase o name X.env (eval o X.env) = eval o X.env := by rfl)
    (hfew : ((backTo cpos (starEach (e :: es) X.env)).all (fun x => !x.1) && (backToKw cpos (keywordEach [] X.env)).all (fun x => x.1.isSome)
      && decide ((e :: es).length + ([] : List Keyword).length + (if ([] : List Keyword).isEmpty then 0 else 1) < 30)) = true := by rfl)
    (hline : (apos.endLine == cpos.line) = true := by rfl) (hs : starEach (e :: es) X.env = (false, eval e X.env) :: starEach es X.env := by rfl) (hplain : (backTo cpos (starEach es X.env)).any (·.1) = false := by rfl) :
    PE X (.Call (.Attribute o name apos) (e :: es) [] cpos) (tBM K T r to t) := hK ▸ pe_bm pa slot hty hm ho ha hbase hfew hline hs hplain
end Lc
/-! Lc: dicts of one's own, numbers by numbers -/
namespace Lc
open PySem L2 PySem.Spec PyProof.Rows
def kvI (p : Int × Int) : Key × V := (Sum.inl p.1, V.int p.2)
def getD' (kvs : List (Int × Int)) (k : Int) : Option Int := (kvs.find? fun kv => decide (kv.1 = k)).map (·.2)
def putD (kvs : List (Int × Int)) (k v : Int) : List (Int × Int) :=
  if (kvs.any fun kv => decide (kv.1 = k)) = true then kvs.map (fun kv => if kv.1 = k then (kv.1, v) else kv) else kvs ++ [(k, v)]
theorem valV_kvI (k : Int) : ∀ kvs : List (Int × Int), valV (kvs.map kvI) (Sum.inl k : Key) = (getD' kvs k).map V.int
  | [] => rfl
  | p :: r => by
    have ih := valV_kvI k r
    rw [List.map_cons]
    by_cases e : p.1 = k
    · rw [valV_pos (p := kvI p) (congrArg Sum.inl e)]
      unfold getD'
      simp [List.find?_cons, e, kvI]
    · rw [valV_neg (p := kvI p) (fun z => e (Sum.inl.inj z)), ih]
      unfold getD'
      simp [List.find?_cons, e]
theorem any_kvI (k : Int) (kvs : List (Int × Int)) : ((kvs.map kvI).any fun kv => decide (kv.1 = (Sum.inl k : Key))) = kvs.any fun kv => decide (kv.1 = k) := by
  rw [List.any_map]
  congr 1
  funext p
  simp [kvI]
theorem putK_kvI (kvs : List (Int × Int)) (k v : Int) : putK (kvs.map kvI) (Sum.inl k : Key) (V.int v) = (putD kvs k v).map kvI := by
  unfold putK putD
  rw [any_kvI]
  split
  · rw [List.map_map, List.map_map]
    refine List.map_congr_left fun p _ => ?_
    simp only [Function.comp_apply, kvI]
    by_cases e : p.1 = k
    · simp [e]
    · simp [e]
  · rw [List.map_append]
    rfl
/-- an owned dict -/
def dA (p : Addr) (kvs : List (Int × Int)) : Asr where
  P := fun F H o => o p ∧ H p = some (.dK (kvs.map kvI))
  st := fun s k ⟨h, e⟩ => ⟨h, (k p h).trans e⟩
  up := fun u ⟨h, e⟩ => ⟨u p h, e⟩
def rD (kvs : List (Int × Int)) : RC := fun _ v => exA fun p : Addr => sep (pur (v = .ref p)) (dA p kvs)
def cD (kvs : List (Int × Int)) : Cell := fun o => match o with
  | some v => rD kvs [] v
  | none => bot
theorem no_D {kvs : List (Int × Int)} : ∀ F H o, ¬ (cD kvs none).P F H o := fun _ _ _ h => h
theorem sto_D {kvs : List (Int × Int)} : Sto (rD kvs) (cD kvs) := fun _ _ _ _ t => t
section
variable {E : Ec} {te ta tb' tc tx ty : TE} {tr : TA} {t tb : TS} {Γ : List Cell} {α β γ δ : Type} {A B R : Asr} {H : Hp} {cx cy : RC} {i j : Nat} {kvs : List (Int × Int)}
open Res
theorem Top.allocD {p : Addr} (t : Top A H) (hp : H p = none) : Top (sep (dA p []) A) (upd H p (.dK [])) := by
  obtain ⟨F, o, s, k, a⟩ := t
  have ne : ∀ q, o q → q ≠ p := fun q hq e => (k q hq).2 (e ▸ hp)
  have fp : F p = none := by
    cases e : F p with
    | none => rfl
    | some u => rw [s p u e] at hp; cases hp
  refine ⟨F, fun q => q = p ∨ o q, fun b u e => ?_, fun q hq => ?_, (fun q => q = p), o, fun _ z => .inl z, fun _ z => .inr z, fun q e hq => ne q hq e, ⟨rfl, upd_same⟩, A.st (Same.refl F) (fun q hq => upd_ne (ne q hq)) a⟩
  · rw [upd_ne (fun z => by rw [z, fp] at e; cases e)]
    exact s b u e
  · rcases hq with hq | hq
    · rw [hq]
      exact ⟨fp, by rw [upd_same]; exact fun z => by cases z⟩
    · exact ⟨(k q hq).1, by rw [upd_ne (ne q hq)]; exact (k q hq).2⟩
theorem Top.writeD {p : Addr} {kvs' : List (Int × Int)} (t : Top (sep A (dA p kvs)) H) : Top (sep A (dA p kvs')) (upd H p (.dK (kvs'.map kvI))) := by
  obtain ⟨F, o, s, k, o1, o2, h1, h2, d, a, ⟨hp, e⟩⟩ := t
  have fp : F p = none := (k p (h2 p hp)).1
  refine ⟨F, o, fun b u e' => ?_, fun q hq => ?_, o1, o2, h1, h2, d, A.st (Same.refl F) (fun q hq => upd_ne fun z => d q hq (z ▸ hp)) a, ⟨hp, upd_same⟩⟩
  · rw [upd_ne (fun z => by rw [z, fp] at e'; cases e')]
    exact s b u e'
  · by_cases hb : q = p
    · rw [hb]
      exact ⟨fp, by rw [upd_same]; exact fun z => by cases z⟩
    · rw [upd_ne hb]
      exact k q hq
theorem ev_dnew : EvP E tDNewK Γ (rD []) := fun σ H R Q t q p hp => q _ _ (((Top.allocD t hp).ent (Ent.sepL fun F H o s z => (⟨p, sep_pers (fun _ => rfl) z⟩ : (rD [] σ (.ref p)).P F H o))).ent frontE)
/-- slot i's dict, taken out of the state -/
theorem take_D {σ : L2.St} (hi : Γ[i]? = some (cD kvs)) (t : Top (sep (base E σ Γ) A) H) :
    ∃ p, σ[i]? = some (some (.ref p)) ∧ Top (sep (sep (base E σ (Γ.set i cAny)) A) (dA p kvs)) H ∧ ∀ kvs', Ent (sep (sep (base E σ (Γ.set i cAny)) A) (dA p kvs')) (sep (base E σ (Γ.set i (cD kvs'))) A) := by
  obtain ⟨F, o, s, kk, o1, o2, h1, h2, e, ⟨o3, o4, h3, h4, e', a, b⟩, r⟩ := t
  obtain ⟨x, ex, o5, o6, h5, h6, e2, cx, rest⟩ := sl_take hi a
  have hlt : i < Γ.length := (List.getElem?_eq_some_iff.mp hi).1
  cases x with
  | none => exact (show False from cx).elim
  | some v =>
    obtain ⟨p, o7, o8, h7, h8, d7, ev, z⟩ := cx
    have ev : v = .ref p := ev
    subst ev
    refine ⟨p, ex, ⟨F, o, s, kk, fun q => o6 q ∨ o4 q ∨ o2 q, o8, fun q z => ?_, fun q z => h1 q (h3 q (h5 q (h8 q z))), fun q z w => ?_, ⟨fun q => o6 q ∨ o4 q, o2, fun q z => z.elim .inl fun z => .inr (.inl z), fun q z => .inr (.inr z), fun q z w => ?_, ⟨o6, o4, fun _ z => .inl z, fun _ z => .inr z, fun q z w => e' q (h6 q z) w, rest, b⟩, r⟩, z⟩, fun kvs' => put_cell (c := cD kvs') hlt ex fun F H o s z => ⟨p, sep_pers (fun _ => rfl) z⟩⟩
    · rcases z with z | z | z
      · exact h1 q (h3 q (h6 q z))
      · exact h1 q (h4 q z)
      · exact h2 q z
    · rcases z with z | z | z
      · exact e2 q (h8 q w) z
      · exact e' q (h5 q (h8 q w)) z
      · exact e q (h3 q (h5 q (h8 q w))) z
    · rcases z with z | z
      · exact e q (h3 q (h6 q z)) w
      · exact e q (h4 q z) w
theorem d_at {σ : L2.St} {p : Addr} (t : Top (sep A (dA p kvs)) H) : H p = some (.dK (kvs.map kvI)) := t.fact fun F o s ⟨_, _, _, _, _, _, ⟨_, z⟩⟩ => z
theorem ev_dget2 {m1 m2 : Res Int} (hi : Γ[i]? = some (cD kvs)) (h1 : EvJ E ty Γ m1 (fun _ => Γ) fun a => rV (.int a)) (h2 : EvJ E tx Γ m2 (fun _ => Γ) fun a => rV (.int a)) :
    EvJ E (tDGet2 (tVar i) ty tx) Γ (m1.bind fun k => m2.bind fun d => .ok ((getD' kvs k).getD d)) (fun _ => Γ) fun r => rV (.int r) := fun σ H R Q t q => by
  obtain ⟨p, hs, t2, _⟩ := take_D (A := R) hi t
  refine ⟨.ref p, hs, p, rfl, .inl ⟨_, .inl (d_at (σ := σ) t2)⟩, ?_⟩
  refine h1 σ H R _ t (wp_mono (wp_bind.mp q) (fun k _ q y H1 t1 => ?_) fun _ x => x)
  have ey := int1 t1
  subst ey
  refine h2 σ H1 R _ (t1.ent (Ent.sepR Ent.right)) (wp_mono (wp_bind.mp q) (fun d _ q z H2 t2 => ?_) fun _ x => x)
  have ez := int1 t2
  subst ez
  have t3 := t2.ent (Ent.sepR (B' := R) Ent.right)
  obtain ⟨p', hs', t4, _⟩ := take_D (A := R) hi t3
  rw [hs] at hs'
  cases hs'
  refine ⟨_, DGet.k (k := Sum.inl k) (d_at (σ := σ) t4), ?_⟩
  rw [valV_kvI]
  have e : ((getD' kvs k).map V.int).getD (.int d) = .int ((getD' kvs k).getD d) := by cases getD' kvs k <;> rfl
  rw [e]
  exact q _ H2 (res1 t2 fun F => .int _)
theorem es_dput {m1 m2 : Res Int} (hi : Γ[i]? = some (cD kvs)) (h1 : EvJ E tx Γ m1 (fun _ => Γ) fun a => rV (.int a)) (h2 : EvJ E ty Γ m2 (fun _ => Γ) fun a => rV (.int a)) :
    EvS1 E (sDPut (tVar i) ty tx) Γ (m1.bind fun v => m2.bind fun k => need (kvs.length < lim) (.ok (putD kvs k v))) fun r => Γ.set i (cD r) := fun σ H R D t q => by
  refine h1 σ H R _ t (wp_mono (wp_bind.mp q) (fun v _ q x H1 t1 => ?_) fun _ x => x σ)
  have ex := int1 t1
  subst ex
  have t1' := t1.ent (Ent.sepR (B' := R) Ent.right)
  obtain ⟨p, hs, _, _⟩ := take_D (A := R) hi t1'
  refine ⟨.ref p, hs, ?_⟩
  refine h2 σ H1 R _ t1' (wp_mono (wp_bind.mp q) (fun k _ q y H2 t2 => ?_) fun _ x => x σ)
  obtain ⟨hn, q⟩ := wp_need q
  have ey := int1 t2
  subst ey
  obtain ⟨p', hs', t4, back⟩ := take_D (A := R) hi (t2.ent (Ent.sepR Ent.right))
  rw [hs] at hs'
  cases hs'
  refine ⟨p, _, rfl, DPut.k (k := Sum.inl k) (d_at (σ := σ) t4) (by rw [List.length_map]; exact lim_lt hn), q σ _ ?_⟩
  rw [putK_kvI]
  exact (t4.writeD).ent (back _)
end
theorem kv_vals {κ : Type} {kvs : List (κ × V)} {vs : List (κ × Value)} (r : KV kvs vs) : Vals (kvs.map (·.2)) (vs.map (·.2)) := by
  unfold KV at r
  induction r with
  | nil => exact .nil
  | cons r t ih => exact .cons r.2 ih
/-- list(d.values()) -/
def tLVals (td : TE) : TE := fun σ H Q => td σ H fun x H1 => ∃ a kvs, x = V.ref a ∧ H1 a = some (.dK kvs) ∧ ∀ p, H1 p = none → Q (.ref p) (upd H1 p (.lst (kvs.map (·.2))))
section
variable {E : Ec} {Γ : List Cell} {R : Asr} {H : Hp} {i : Nat} {kvs : List (Int × Int)} {cx : RC}
theorem ev_listVals (hi : Γ[i]? = some (cD kvs)) : EvP E (tLVals (tVar i)) Γ (rO ((kvs.map (·.2)).map dat)) := fun σ H R Q t q => by
  obtain ⟨p, hs, t2, _⟩ := take_D (A := R) hi t
  refine ⟨.ref p, hs, p, _, rfl, d_at (σ := σ) t2, fun p' hp => ?_⟩
  have e : (kvs.map kvI).map (·.2) = (kvs.map (·.2)).map V.int := by
    rw [List.map_map, List.map_map]
    rfl
  rw [e]
  exact q _ _ (newL t hp fun F o s _ => RpAll.of_ints _)
/-- repr of a number -/
def reprI (i : Int) : Res Str := Res.need (i.natAbs.log2 < 1920) (.ok (toString i : String))
def rReprI : List V → Hp → VK → Prop := fun xs H Q => ∃ i : Int, xs = [.int i] ∧ i.natAbs.log2 < 1920 ∧ Q (.str (toString i : String)) H
theorem rn_reprI {n : Int} : RnJ E rReprI [rV (.int n)] Γ (reprI n) (fun _ => Γ) fun s => rV (.str s) := fun σ H R Q vs t q => by
  obtain ⟨hn, q⟩ := Res.wp_need q
  obtain ⟨x, rfl, t1⟩ := one_arg t
  obtain ⟨F, s, z⟩ := top1 t1
  have e : x = .int n := by cases z; rfl
  subst e
  exact ⟨n, rfl, hn, q _ H (res1 t1 fun F => .str _)⟩
end
section
variable {X : Cx} {o : Expr} {p pos apos mpos : Pos} {td : TE}
theorem reprIK : CallR X (.builtin "repr") rReprI := SkE.call_repr_int
theorem pe_listVals (hc : X.calm = true) (hg : Gl X "list") (hm : X.mg "list" = none) (hd : PE X o td) (hbase : attributeBase o "values" X.env (eval o X.env) = eval o X.env := by rfl) (hline : (apos.endLine == mpos.line) = true := by rfl)
    (hse : starEach [Expr.Call (.Attribute o "values" apos) [] [] mpos] X.env = [(false, eval (Expr.Call (.Attribute o "values" apos) [] [] mpos) X.env)] := by rfl) :
    PE X (.Call (.Name "list" p) [.Call (.Attribute o "values" apos) [] [] mpos] [] pos) (tLVals td) := by
  refine ⟨fun pins s σ H Q I h => ?_⟩
  refine wpAny_Call_Name_kw (ld_blt I hg hm (u := .type "list") (by first | rfl | decide +kernel) ?_ (by first | decide +kernel | decide) (by first | decide +kernel | decide))
  rw [hse]
  refine PySem.callWith_type1 (wpAny_Call_method0_late hbase hline (thn (hd.run pins s σ H _ I h) fun v s1 ⟨x, H1, I1, r1, a, kvs, ex, ha, q⟩ => ?_))
  subst ex
  obtain rfl : v = Value.ref a := r1
  obtain ⟨hz, hsys, vs, rel, dof⟩ := dk_of I1.hok ha
  obtain ⟨ep, dat⟩ := dof.dictAt
  have dat' := dat
  obtain ⟨ob, es, ho, ex, hdat, hko, hpr, hnd⟩ := dat'
  refine ⟨"dict", "dict.values", F.plainAttrs_dict, F.slot_dict_values, F.type_dict_values, ⟨ob, ho, ex.1⟩, fun b e => ?_, Calls.callWith_builtin rfl (PySem.evalArgs_none ?_)⟩
  · cases e
    exact ⟨ob, ho, ex.2.1⟩
  refine call_meetsIn F.slot_dict_values ⟨ob, ho, ex.1⟩ F.entry_dict_values (F.args_dict_values_1 _) (meets_dict_values (mixKind X.prog X.w) a hsys) ⟨⟨vs, dof⟩, ?_⟩
  have k1 : ∀ b u, s1.heap.get? b = some u → (s1.heap.push { cls := .type "dict_values", data := .fields #[.ref a] }).get? b = some u := fun b u e => Heap.get?_push_of_some _ e
  have dat1 : (s1.heap.push { cls := .type "dict_values", data := .fields #[.ref a] }).DictAt (mixKind X.prog X.w) a vs ep := dat.keep k1
  have hlv : vs.length = kvs.length := (KV.length rel).symm
  refine PySem.W.kdl_call (PySem.W.kdl_values (knd := mixKind X.prog X.w) (r := s1.heap.objs.size) (d := a) (kvs := vs) (ep := ep)) (I.ok.hd hc) ⟨⟨_, Heap.get?_push_size _ rfl, rfl, rfl⟩, dat1⟩ (by rw [hlv]; exact hz) fun h' tk acc c' hk hS hacc => ?_
  have hsz : (s1.heap.push { cls := .type "dict_values", data := .fields #[.ref a] }).objs.size = s1.heap.objs.size + 1 := Heap.size_push _ _
  rw [hsz] at hS
  have hvals : Vals (kvs.map (·.2)) acc.toList := by
    have e : acc.toList = vs.map (·.2) := PySem.W.kdl_vals_eq acc.toList (by simpa using hacc.1) fun j u hu => hacc.2 j u (by simpa using hu)
    rw [e]
    exact kv_vals rel
  have hlen : (kvs.map (·.2)).length ≤ sizeLine := by rw [List.length_map]; exact hz
  refine ⟨.ref (s1.heap.objs.size + 1), upd H1 (s1.heap.objs.size + 1) (.lst (kvs.map (·.2))), I1.laid (t' := tk) (fun b u e => hk b u (k1 b u e)) (Nat.le_succ _) ⟨hlen, acc.toList, c', hvals, by simpa using hS⟩, congrArg Value.ref hsz, q _ (I1.hok.fresh (Nat.le_succ _))⟩
end
theorem hU1 {n : Nat} (h : n + 64 < cLine) : n + 1 < cLine := Nat.lt_of_le_of_lt (Nat.add_le_add_left (by decide) n) h
/-! ### a list made for the call, changed in place by the callee -/
def rT (p : Addr) : RC := fun _ v => ⟨fun _ _ _ => v = .ref p, fun _ _ h => h, fun _ h => h⟩
section
variable {E : Ec} {tr : TA} {Γ : List Cell} {α β δ : Type}
open Res
theorem pa_tp {Kn : L2.St → Prop} {p : Addr} : PArg E Γ Kn (rT p) (ppAt p) := fun σ w F H o kn s ⟨_, _, _, _, _, _, x⟩ => x
/-- argument j, a list of one's own, taken out -/
theorem take_tmp {σ : L2.St} {ds : List PyData} : ∀ {cs : List RC} {j : Nat} {vs : List V} {F H : Hp} {o : Addr → Prop}, cs[j]? = some (rO ds) → (csA cs σ vs).P F H o → ∃ p, (sep (csA (cs.set j (rT p)) σ vs) (oA p ds)).P F H o
  | [], _, _, _, _, _, h, _ => by cases h
  | _ :: _, _, [], _, _, _, _, a => (show False from a).elim
  | c :: cs, 0, v :: vs, F, H, o, h, ⟨o1, o2, h1, h2, d, a, b⟩ => by
    cases h
    obtain ⟨p, e, x⟩ := a
    exact ⟨p, o2, o1, h2, h1, fun q z w => d q w z, sep_pers (fun _ => e) b, x⟩
  | c :: cs, j+1, v :: vs, F, H, o, h, ⟨o1, o2, h1, h2, d, a, b⟩ => by
    obtain ⟨p, o3, o4, h3, h4, d', x, y⟩ := take_tmp (cs := cs) (j := j) h b
    refine ⟨p, fun q => o1 q ∨ o3 q, o4, fun q z => z.elim (h1 q) fun z => h2 q (h3 q z), fun q z => h2 q (h4 q z), fun q z w => z.elim (fun z => d q z (h4 q w)) fun z => d' q z w, ?_, y⟩
    exact ⟨o1, o3, fun _ z => .inl z, fun _ z => .inr z, fun q z w => d q z (h3 q w), a, x⟩
theorem callT_core {j : Nat} {cs : List RC} {ps : Addr → α → List PP} {i0 : α → List PyData} {m : α → Res β} {i1 : β → List PyData} {cb : β → V → Asr} {x : α} {Ex : XK} {σ : L2.St} (hj : cs[j]? = some (rO (i0 x)))
    (hp : ∀ p, Pars E Γ K0 (cs.set j (rT p)) (ps p x)) (hx : XOk E Γ) (hE : ∀ k H, E.W (E.ec k) none σ H → Ex (E.ec k) none H) {H : Hp} {R : Asr} {Q : VK} {vs : List V}
    (t : Top (sep (base E σ Γ) (sep (csA cs σ vs) R)) H) (q : (m x).wp (fun b => ∀ v H', Top (sep (base E σ Γ) (sep (cb b v) R)) H' → Q v H') (Exn E R σ)) : Sp1 E.ec ps i0 m i1 cb vs H Q Ex := by
  obtain ⟨F, o, s, kk, o1, o2, h1, h2, d, a, ⟨o3, o4, h3, h4, d', b, c⟩⟩ := t
  obtain ⟨p, o5, o6, h5, h6, d2, b1, b2⟩ := take_tmp hj b
  have t2 : Top (sep (sep (base E σ Γ) (sep (csA (cs.set j (rT p)) σ vs) R)) (oA p (i0 x))) H := by
    refine ⟨F, o, s, kk, fun q => o1 q ∨ o5 q ∨ o4 q, o6, fun q z => ?_, fun q z => h2 q (h3 q (h6 q z)), fun q z w => ?_, ⟨o1, fun q => o5 q ∨ o4 q, fun _ z => .inl z, fun _ z => .inr z, fun q z w => ?_, a, ⟨o5, o4, fun _ z => .inl z, fun _ z => .inr z, fun q z w => d' q (h5 q z) w, b1, c⟩⟩, b2⟩
    · rcases z with z | z | z
      · exact h1 q z
      · exact h2 q (h3 q (h5 q z))
      · exact h2 q (h4 q z)
    · rcases z with z | z | z
      · exact d q z (h3 q (h6 q w))
      · exact d2 q z w
      · exact d' q (h6 q w) z
    · rcases w with w | w
      · exact d q z (h3 q (h5 q w))
      · exact d q z (h4 q w)
  refine ⟨p, x, _, t2, fun F H o s h => hp p σ vs F H o trivial s (Ent.sepR Ent.left F H o s h), wp_mono q (fun b _ q1 v H' t' => q1 v H' (t'.ent ?_)) fun k q1 H' t' => hE k H' (q1 H' (t'.ent ?_))⟩
  · exact Ent.assoc.trans (Ent.sepR ((Ent.sep Ent.right Ent.right).trans Ent.comm))
  · exact Ent.left.trans (Ent.sep (Ent.sepL (hx σ)) Ent.right)
theorem evp_callT {j : Nat} {cs : List RC} {ps : Addr → α → List PP} {i0 : α → List PyData} {m : α → Res β} {i1 : β → List PyData} {cb : β → V → Asr} (x : α) (h : EvAP E tr Γ cs) (hj : cs[j]? = some (rO (i0 x)))
    (hp : ∀ p, Pars E Γ K0 (cs.set j (rT p)) (ps p x)) (hx : XOk E Γ) : EvJ E (tCallS (Sp1 E.ec ps i0 m i1 cb) (WE E.W) tr) Γ (m x) (fun _ => Γ) (fun b _ => cb b) := fun σ H R Q t q =>
  h σ H R _ t fun vs H1 t1 => callT_core hj hp hx (fun k H z => z) t1 q
theorem ev_callT {j : Nat} {ma : Res δ} {Γ1 : δ → List Cell} {cs : δ → List RC} {ps : Addr → α → List PP} {i0 : α → List PyData} {m : α → Res β} {i1 : β → List PyData} {cb : β → V → Asr} (x : δ → α) (h : EvA E tr Γ ma Γ1 cs) (e : Γ1 = fun _ => Γ) (hj : ∀ a, (cs a)[j]? = some (rO (i0 (x a))))
    (hp : ∀ a p, Pars E Γ K0 ((cs a).set j (rT p)) (ps p (x a))) (hx : XOk E Γ) : EvJ E (tCallS (Sp1 E.ec ps i0 m i1 cb) (WE E.W) tr) Γ (ma.bind fun a => m (x a)) (fun _ => Γ) (fun b _ => cb b) := fun σ H R Q t q => by
  subst e
  exact h σ H R _ t (wp_mono (wp_bind.mp q) (fun a _ q1 vs H1 t1 => callT_core (hj a) (hp a) hx (fun k H z => z) t1 q1) fun _ z => z)
end
/-! ### x *= e -/
def ipIN (C : Int → Int → Prop) (f : Int → Int → Int) : TIp := fun x y H Q => ∃ i j, x = .int i ∧ y = .int j ∧ C i j ∧ Q (.int (f i j)) H
theorem ip_mulA {X : Cx} : PIp X .Mult (ipIN CMulA fun i j => i * j) := by
  intro pins s σ H x y v u Q I r1 r2 h
  obtain ⟨i, j, e1, e2, hc, q⟩ := h
  subst e1; subst e2
  obtain ⟨t, rfl⟩ := r1
  obtain ⟨t', rfl⟩ := r2
  exact PyProof.Rows.imul_int ⟨.int _, H, I.tok _, ⟨_, rfl⟩, q⟩ (hc.elim (fun h => CMul.ok h) fun h => CMulW.ok h)
section
variable {E : Ec} {te : TE} {Γ : List Cell}
open Res
theorem es_augmul {i : Nat} {x : Int} {m1 : Res Int} {Γ1 : Int → List Cell} (h : EvJ E te Γ m1 Γ1 fun a => rV (.int a)) (h0 : Γ[i]? = some (cV (.int x))) (hi : ∀ a, i < (Γ1 a).length) :
    EvS1 E (tAug i te (ipIN CMulA fun i j => i * j)) Γ (m1.bind fun a => (mulA x a).bind fun b => .ok (a, b)) fun r => (Γ1 r.1).set i (cV (.int r.2)) := fun σ H R D t0 q => by
  have e : σ[i]? = some (some (.int x)) := t0.fact fun F o s ⟨_, _, _, _, _, ⟨_, _, _, _, _, a, _⟩, _⟩ => by
    obtain ⟨y, ey, hy⟩ := sl_get h0 a
    cases y with
    | none => exact (show False from hy).elim
    | some v =>
      cases (show Rp F v (.int x) from hy)
      exact ey
  refine ⟨.int x, e, h σ H R _ t0 (wp_mono (wp_bind.mp q) (fun a _ q1 v H' t' => ?_) fun _ x => x σ)⟩
  have ev : v = .int a := t'.fact fun F o s ⟨_, _, _, _, _, _, ⟨_, _, _, _, _, z, _⟩⟩ => by
    cases (show Rp F v (.int a) from z)
    rfl
  obtain ⟨hc, q2⟩ := wp_need (wp_bind.mp q1)
  refine ⟨x, a, rfl, ev, hc, ?_⟩
  have q3 := q2
  refine q3 _ H' ?_
  have t2 := t'.ent (Ent.sepR (B' := R) Ent.right)
  have t3 := (t2.addV (v := .int (x * a)) (d := .int (x * a)) fun F _ _ _ => .int _).ent ((Ent.assoc'.trans (Ent.sepL Ent.comm)).trans Ent.assoc)
  exact put_slot (c := rV (.int (x * a))) sto_v (hi a) t3
end
end Lc
/-! Lc: divmod, xs += ys, a list that may be None -/
namespace Lc
open PySem L2
section
variable {E : Ec} {te : TE} {tr : TA} {Γ : List Cell} {α β γ : Type}
open Res
def CDivm (i j : Int) : Prop := 0 < j ∧ Builtin.Int.intBits i ≤ Builtin.Int.intBits j + 4000
instance (i j : Int) : Decidable (CDivm i j) := by unfold CDivm; infer_instance
def divmodR (i j : Int) : Res (Int × Int) := need (CDivm i j) (.ok (i / j, i % j))
def rDivm : List V → Hp → VK → Prop := fun xs H Q => ∃ i j, xs = [.int i, .int j] ∧ CDivP i j ∧ ∀ p, H p = none → Q (.ref p) (upd H p (.tup [.int (i / j), .int (i % j)]))
theorem divmodK {X : Cx} : CallR X (.builtin "divmod") rDivm := call_divmodW
theorem rn_divm {i j : Int} : RnJ E rDivm [rV (.int i), rV (.int j)] Γ (divmodR i j) (fun _ => Γ) fun r => rV (.tuple [.int r.1, .int r.2]) := fun σ H R Q vs t q => by
  obtain ⟨hc, q⟩ := wp_need q
  obtain ⟨x, y, rfl, t1⟩ := two_args t
  have e1 := int1 t1
  have e2 := int2 t1
  subst e1
  subst e2
  refine ⟨i, j, rfl, divp_ok hc.1 hc.2, fun p hp => q (.ref p) _ ?_⟩
  exact newT (ds := [.int (i / j), .int (i % j)]) (t1.ent (Ent.sepR (Ent.right.trans Ent.right))) hp fun F o _ _ => .cons (.int _) (.cons (.int _) .nil)
/-- xs += ys, a frozen list -/
theorem ip_ext {X : Cx} : PIp X .Add rExt2 := fun pins s σ H x y v u Q I rx ry h => iop_ext pins s σ H x y v u Q I rx ry h
theorem es_augL [Dat α] {mk : List PyData → Cell} {i : Nat} {m : Res γ} {Γ1 : γ → List Cell} {c : γ → RC} {xs ys : γ → List α} {ds0 : List PyData} (hk : OwnC mk) (h : EvJ E te Γ m Γ1 c) (hp : ∀ a, PArg E ((Γ1 a).set i cAny) K0 (c a) (ppL ((ys a).map dat))) (h0 : Γ[i]? = some (mk ds0)) (hi : ∀ a, (Γ1 a)[i]? = some (mk ((xs a).map dat))) :
    EvS1 E (tAug i te rExt2) Γ (m.bind fun a => need ((xs a).length + (ys a).length ≤ lim) (.ok a)) fun a => (Γ1 a).set i (mk ((xs a ++ ys a).map dat)) := fun σ H R D t q => by
  obtain ⟨p, hs, t2, _⟩ := take_own (A := R) hk h0 t
  refine ⟨_, hs, ?_⟩
  refine h σ H R _ t (wp_mono (wp_bind.mp q) (fun a _ q w H1 t1 => ?_) fun _ x => x σ)
  obtain ⟨hn, q⟩ := wp_need q
  obtain ⟨p', hs', t4, back⟩ := take_own hk (hi a) t1
  rw [hs] at hs'
  cases hs'
  obtain ⟨vs', ep', ln⟩ := own_at t4
  rw [List.length_map] at ln
  have rd : ∀ F o, Same F H1 → (sep (base E σ ((Γ1 a).set i cAny)) (sep (c a σ w) R)).P F H1 o → ppL ((ys a).map dat) w F H1 := fun F o s ⟨o1, o2, h1, h2, d, x1, ⟨o3, o4, h3, h4, d', x2, x3⟩⟩ =>
    hp a σ w F H1 o trivial s ⟨o1, o3, h1, fun p z => h2 p (h3 p z), fun p z w => d p z (h3 p w), x1, x2⟩
  obtain ⟨b, zs, rfl, eb, lb⟩ : ∃ b zs, w = .ref b ∧ H1 b = some (.lst zs) ∧ zs.length = (ys a).length := t4.fact fun F o s ⟨_, _, _, _, _, z, _⟩ => by
    obtain ⟨b, zs, e, eb, r⟩ := rd F _ s z
    exact ⟨b, zs, e, eb, by rw [r.len, List.length_map]⟩
  refine ⟨p, b, vs', zs, rfl, rfl, ep', eb, by rw [ln, lb]; exact lim_le hn, ?_⟩
  have es : σ.set i (some (V.ref p)) = σ := by
    obtain ⟨hl, e⟩ := List.getElem?_eq_some_iff.mp hs
    rw [← e, List.set_getElem_self]
  show D.nx (σ.set i (some (V.ref p))) _
  rw [es]
  refine q σ _ ?_
  have t5 := own_write (σ := σ) (es := (xs a ++ ys a).map dat) (ws := vs' ++ zs) t4 fun F o vs'' s z e2 r => by
    rw [ep'] at e2
    cases e2
    obtain ⟨b', zs', e, eb', r'⟩ := rd F o s z
    cases e
    rw [eb] at eb'
    cases eb'
    rw [List.map_append]
    exact r.append r'
  exact (t5.ent (back _)).ent (Ent.sepR Ent.right)
/-- a list that may be None -/
def optR {α : Type} : Option α → Res α
  | some a => .ok a
  | none => .bad
theorem ev_optR [Dat α] {o : Option (List α)} (h : EvP E te Γ (rV (dat o))) : EvJ E te Γ (optR o) (fun _ => Γ) fun l => rV (.list (l.map dat)) := by
  cases o with
  | none => exact fun σ H R Q t q => (show False from q).elim
  | some l => exact fun σ H R Q t q => h σ H R Q t q
theorem et_norm {tt : TT} {m : Res γ} {b : γ → Bool} (h : EvT E tt Γ m (fun _ => Γ) b) : EvT E tt Γ (m.bind fun a => .ok (b a)) (fun _ => Γ) id := fun σ H R Q t q =>
  h σ H R Q t (wp_mono (wp_bind.mp q) (fun _ _ x => x) fun _ x => x)
end
end Lc
/-! Lc: dicts of one's own, read; dict(pairs) -/
namespace Lc
open PySem L2
section
variable {E : Ec} {te ta ty : TE} {tr : TA} {Γ : List Cell} {α β γ : Type} {A B R : Asr} {H : Hp} {cx : RC} {i : Nat} {kvs : List (Int × Int)}
open Res
/-- d[k] -/
theorem ev_dget {m1 : Res Int} (hi : Γ[i]? = some (cD kvs)) (h1 : EvJ E ty Γ m1 (fun _ => Γ) fun a => rV (.int a)) :
    EvJ E (tDGet (tVar i) ty) Γ (m1.bind fun k => optR (getD' kvs k)) (fun _ => Γ) fun r => rV (.int r) := fun σ H R Q t q => by
  obtain ⟨p, hs, _, _⟩ := take_D (A := R) hi t
  refine ⟨.ref p, hs, ?_⟩
  refine h1 σ H R _ t (wp_mono (wp_bind.mp q) (fun k _ q y H1 t1 => ?_) fun _ x => x)
  have ey := int1 t1
  subst ey
  obtain ⟨p', hs', t4, _⟩ := take_D (A := R) hi (t1.ent (Ent.sepR Ent.right))
  rw [hs] at hs'
  cases hs'
  cases e : getD' kvs k with
  | none =>
    rw [e] at q
    exact (show False from q).elim
  | some v =>
    rw [e] at q
    have q : ∀ w H', Top (sep (base E σ Γ) (sep (vA (.int v) w) R)) H' → Q w H' := q
    refine ⟨p, .int v, rfl, ?_, q _ H1 (res1 t1 fun F => .int _)⟩
    have := DGet.k (k := Sum.inl k) (d_at (σ := σ) t4)
    rw [valV_kvI, e] at this
    exact this
/-- k in d -/
theorem ev_din {m1 : Res Int} (hi : Γ[i]? = some (cD kvs)) (h1 : EvJ E ty Γ m1 (fun _ => Γ) fun a => rV (.int a)) :
    EvJ E (tDIn ty (tVar i)) Γ (m1.bind fun k => .ok (getD' kvs k).isSome) (fun _ => Γ) fun r => rV (.bool r) := fun σ H R Q t q => by
  refine h1 σ H R _ t (wp_mono (wp_bind.mp q) (fun k _ q y H1 t1 => ?_) fun _ x => x)
  have ey := int1 t1
  subst ey
  obtain ⟨p, hs, t4, _⟩ := take_D (A := R) hi (t1.ent (Ent.sepR Ent.right))
  refine ⟨.ref p, hs, p, _, rfl, DGet.k (k := Sum.inl k) (d_at (σ := σ) t4), ?_⟩
  rw [valV_kvI]
  have e : ((getD' kvs k).map V.int).isSome = (getD' kvs k).isSome := by cases getD' kvs k <;> rfl
  rw [e]
  have q : ∀ w H', Top (sep (base E σ Γ) (sep (vA (.bool (getD' kvs k).isSome) w) R)) H' → Q w H' := q
  exact q _ H1 (res1 t1 fun F => .bl _)
theorem ev_dnin {m1 : Res Int} (hi : Γ[i]? = some (cD kvs)) (h1 : EvJ E ty Γ m1 (fun _ => Γ) fun a => rV (.int a)) :
    EvJ E (tDNotIn ty (tVar i)) Γ (m1.bind fun k => .ok (!(getD' kvs k).isSome)) (fun _ => Γ) fun r => rV (.bool r) := fun σ H R Q t q => by
  refine h1 σ H R _ t (wp_mono (wp_bind.mp q) (fun k _ q y H1 t1 => ?_) fun _ x => x)
  have ey := int1 t1
  subst ey
  obtain ⟨p, hs, t4, _⟩ := take_D (A := R) hi (t1.ent (Ent.sepR Ent.right))
  refine ⟨.ref p, hs, p, _, rfl, DGet.k (k := Sum.inl k) (d_at (σ := σ) t4), ?_⟩
  rw [valV_kvI]
  have e : ((getD' kvs k).map V.int).isSome = (getD' kvs k).isSome := by cases getD' kvs k <;> rfl
  rw [e]
  have q : ∀ w H', Top (sep (base E σ Γ) (sep (vA (.bool (!(getD' kvs k).isSome)) w) R)) H' → Q w H' := q
  exact q _ H1 (res1 t1 fun F => .bl _)
/-- dict(pairs) -/
def mkD (ps : List (Int × Int)) : List (Int × Int) := ps.foldl (fun d p => putD d p.1 p.2) []
theorem mergeK_kvI : ∀ (ps d : List (Int × Int)), mergeK (d.map kvI) (ps.map kvI) = (ps.foldl (fun d p => putD d p.1 p.2) d).map kvI
  | [], d => rfl
  | p :: ps, d => by
    have ih := mergeK_kvI ps (putD d p.1 p.2)
    rw [← putK_kvI] at ih
    exact ih
theorem Top.allocDk {p : Addr} {kvs : List (Int × Int)} (t : Top A H) (hp : H p = none) : Top (sep (dA p kvs) A) (upd H p (.dK (kvs.map kvI))) := by
  have h := (Top.writeD (kvs' := kvs) ((Top.allocD t hp).ent Ent.comm)).ent Ent.comm
  have e : upd (upd H p (.dK [])) p (.dK (kvs.map kvI)) = upd H p (.dK (kvs.map kvI)) := by
    funext q
    by_cases z : q = p
    · subst z
      rw [upd_same, upd_same]
    · rw [upd_ne z, upd_ne z, upd_ne z]
  rw [e] at h
  exact h
def rDictP (K : PySem.W.Frag) : List V → Hp → VK → Prop := fun xs H Q => ∃ (a : Addr) (ps : List Addr) (kvs : List (Key × V)), xs = [.ref a] ∧ SqL K H a (ps.map V.ref) ∧ Paired (fun p kv => SqT K H p [kV kv.1, kv.2]) ps kvs ∧
    ∀ p, H p = none → Q (.ref p) (upd H p (.dK (mergeK [] kvs)))
theorem dictPK {X : Cx} (K : PySem.W.Frag) (h : X.K = K) (hc : X.calm = true) : CallR X (.type "dict") (rDictP K) := h ▸ call_dictP hc
theorem pairs_rp {K : PySem.W.Frag} {F : Hp} (s : Same F H) : ∀ {vs : List V} {ps : List (Int × Int)}, RpAll F vs (ps.map dat) → ∃ as : List Addr, vs = as.map V.ref ∧ Paired (fun p kv => SqT K H p [kV kv.1, kv.2]) as (ps.map kvI)
  | [], [], _ => ⟨[], rfl, .nil⟩
  | [], _ :: _, h => by cases h
  | _ :: _, [], h => by cases h
  | v :: vs, p :: ps, h => by
    cases h with
    | cons h1 h2 =>
      obtain ⟨as, rfl, hp⟩ := pairs_rp s h2
      have h1 : Rp F v (.tuple [.int p.1, .int p.2]) := h1
      cases h1 with
      | tup e r =>
        rename_i a ws
        cases r with
        | cons r1 r2 =>
          cases r2 with
          | cons r2 r3 =>
            cases r3
            cases r1
            cases r2
            exact ⟨a :: as, rfl, .cons (SqT.of (s _ _ e)) hp⟩
theorem rn_dictP {ps : List (Int × Int)} (h : PArg E Γ K0 cx (ppL (ps.map dat))) : RnP E (rDictP E.K) [cx] Γ (rD (mkD ps)) := fun σ H R Q vs t q => by
  obtain ⟨x, rfl, t1⟩ := one_arg t
  obtain ⟨a, ws, rfl, e, _, t2⟩ := readL h t1
  obtain ⟨as, ew, hp⟩ : ∃ as : List Addr, ws = as.map V.ref ∧ Paired (fun p kv => SqT E.K H p [kV kv.1, kv.2]) as (ps.map kvI) := t2.fact fun F o s z => pairs_rp s (as_of F o s z)
  subst ew
  refine ⟨a, as, ps.map kvI, rfl, SqL.of e, hp, fun p hn => ?_⟩
  have em : mergeK [] (ps.map kvI) = (mkD ps).map kvI := mergeK_kvI ps []
  rw [em]
  refine q _ _ (((Top.allocDk (t1.ent (Ent.sepR Ent.right)) hn).ent (Ent.sepL fun F H o s z => (⟨p, sep_pers (fun _ => rfl) z⟩ : (rD (mkD ps) σ (.ref p)).P F H o))).ent frontE)
end
end Lc
/-! Lc: a number in a tuple of numbers -/
namespace Lc
open PySem L2
def inI (i : Int) (ns : List Int) : Bool := ns.any fun j => decide (j = i)
theorem ints_rp {F : Hp} : ∀ {ws : List V} {ns : List Int}, RpAll F ws (ns.map dat) → ws = ns.map V.int
  | [], [], _ => rfl
  | [], _ :: _, h => by cases h
  | _ :: _, [], h => by cases h
  | w :: ws, n :: ns, h => by
    cases h with
    | cons h1 h2 =>
      have h1 : Rp F w (.int n) := h1
      cases h1
      rw [ints_rp h2]
      rfl
theorem inV_ints (i : Int) (ns : List Int) : inV (.int i) (ns.map V.int) = inI i ns := by
  unfold inV inI
  rw [List.any_map]
  rfl
theorem flat_ints (ns : List Int) : (ns.map V.int).all flatV = true := by
  rw [List.all_map, List.all_eq_true]
  intro x _
  rfl
theorem inK {X : Cx} (K : PySem.W.Frag) (h : X.K = K) : OpR X (compareOp .In) (rIn K false) := h ▸ op_in_seq
theorem ninK {X : Cx} (K : PySem.W.Frag) (h : X.K = K) : OpR X (compareOp .NotIn) (rIn K true) := h ▸ op_notIn_seq
section
variable {E : Ec} {Γ : List Cell}
open Res
theorem r2_inT {i : Int} {ns : List Int} : R2P E (rIn E.K false) (rV (.int i)) (rV (.tuple (ns.map dat))) Γ (rV (.bool (inI i ns))) := fun σ H R Q x y t q => by
  have e1 := int1 t
  subst e1
  obtain ⟨F, s, z⟩ := top1 (t.ent Ent.assoc')
  cases z with
  | tup e r =>
    have er := ints_rp r
    subst er
    refine ⟨_, _, rfl, .inr (SqT.of (s _ _ e)), rfl, flat_ints _, ?_⟩
    rw [inV_ints]
    exact q _ H (res2 t fun F => .bl _)
theorem r2_ninT {i : Int} {ns : List Int} : R2P E (rIn E.K true) (rV (.int i)) (rV (.tuple (ns.map dat))) Γ (rV (.bool (!inI i ns))) := fun σ H R Q x y t q => by
  have e1 := int1 t
  subst e1
  obtain ⟨F, s, z⟩ := top1 (t.ent Ent.assoc')
  cases z with
  | tup e r =>
    have er := ints_rp r
    subst er
    refine ⟨_, _, rfl, .inr (SqT.of (s _ _ e)), rfl, flat_ints _, ?_⟩
    rw [inV_ints]
    exact q _ H (res2 t fun F => .bl _)
end
end Lc
/-! Lc: walks of tuples, list.index -/
namespace Lc
open PySem L2 RZ
section
variable {E : Ec} {te ta tb tx : TE} {tr : TA} {Γ : List Cell} {α β γ δ : Type} {R : Asr} {H : Hp} {cx : RC}
open Res
theorem sqT_ofR {K : PySem.W.Frag} {a : Addr} {ds : List PyData} {F H : Hp} (s : Same F H) (h : Rp F (.ref a) (.tuple ds)) : ∃ vs, SqT K H a vs ∧ RpAll F vs ds := by
  cases h with
  | tup e r => exact ⟨_, SqT.of (s _ _ e), r⟩
theorem tup_ref {F : Hp} {v : V} {ds : List PyData} (h : Rp F v (.tuple ds)) : ∃ a, v = .ref a := by
  cases h with
  | tup e r => exact ⟨_, rfl⟩
/-- zip(xs, ys), both tuples -/
theorem itok_zipT [Dat α] [Dat β] {K : PySem.W.Frag} {a b : Addr} {xs : List α} {ys : List β} {G : Asr} (h : ∀ F H o, Same F H → G.P F H o → ∃ vs, SqT K H a vs ∧ RpAll F vs (xs.map dat)) (h' : ∀ F H o, Same F H → G.P F H o → ∃ vs, SqT K H b vs ∧ RpAll F vs (ys.map dat)) :
    ItOk (ItzT K a b) ((xs.zip ys).map dat) G where
  goes := fun i H R hi t => by
    obtain ⟨F, o, s, k, p⟩ := t
    obtain ⟨vs, hs, r⟩ := h F H o s (Ent.left F H o s p)
    obtain ⟨ws, hs', r'⟩ := h' F H o s (Ent.left F H o s p)
    have ln := r.len
    have ln' := r'.len
    rw [List.length_map] at hi ln ln'
    rw [List.length_zip] at hi
    exact ⟨vs, ws, vs[i]'(by omega), ws[i]'(by omega), hs, hs', by simp [show i < vs.length by omega], by simp [show i < ws.length by omega]⟩
  stops := fun H R t => by
    obtain ⟨F, o, s, k, p⟩ := t
    obtain ⟨vs, hs, r⟩ := h F H o s (Ent.left F H o s p)
    obtain ⟨ws, hs', r'⟩ := h' F H o s (Ent.left F H o s p)
    have ln := r.len
    have ln' := r'.len
    rw [List.length_map] at ln ln'
    exact ⟨vs, ws, hs, hs', by rw [List.length_map, List.length_zip]; omega⟩
  yields := fun i d H x H' R hd t y => by
    obtain ⟨T, u, w, rfl, hT, rfl, hy, hy'⟩ := y
    rw [List.getElem?_map] at hd
    cases e : (xs.zip ys)[i]? with
    | none =>
      rw [e] at hd
      cases hd
    | some z =>
      rw [e] at hd
      cases hd
      obtain ⟨z1, z2⟩ := z
      obtain ⟨e1, e2⟩ := List.getElem?_zip_eq_some.mp e
      refine (Top.allocT (vs := [u, w]) (ds := [dat z1, dat z2]) t hT fun F o s p => ?_)
      obtain ⟨vs, hs, r⟩ := h F H o s (Ent.left F H o s p)
      obtain ⟨ws, hs', r'⟩ := h' F H o s (Ent.left F H o s p)
      obtain ⟨v, ev, rv⟩ := r.get (i := i) (d := dat z1) (by rw [List.getElem?_map, e1]; rfl)
      obtain ⟨v', ev', rv'⟩ := r'.get (i := i) (d := dat z2) (by rw [List.getElem?_map, e2]; rfl)
      have q1 := hy vs hs
      have q2 := hy' ws hs'
      rw [ev] at q1
      rw [ev'] at q2
      cases q1
      cases q2
      exact .cons rv (.one rv')
theorem ei_zipT [Dat α] [Dat β] {xs : List α} {ys : List β} (h : EvAP E tr Γ [rV (.tuple (xs.map dat)), rV (.tuple (ys.map dat))]) :
    EvI E (iZipA E.K tr) Γ (.ok ()) (fun _ => Γ) (fun _ => (xs.zip ys).map dat) fun _ _ => True := fun σ H R Qi t q =>
  h σ H R _ t fun vs H1 t1 => by
    obtain ⟨x, y, rfl, t2⟩ := two_args t1
    obtain ⟨F, s, z⟩ := top1 t2
    obtain ⟨F', s', z'⟩ := top1 (top_rot t2)
    obtain ⟨a, rfl⟩ := tup_ref z
    obtain ⟨b, rfl⟩ := tup_ref z'
    obtain ⟨us, hu, _⟩ := sqT_ofR (K := E.K) s z
    obtain ⟨ws, hw, _⟩ := sqT_ofR (K := E.K) s' z'
    refine ⟨a, b, us, ws, rfl, .inr ⟨hu, hw, q _ H1 (sep (vA (.tuple (xs.map dat)) (.ref a)) (vA (.tuple (ys.map dat)) (.ref b))) (fun σ' Γ'' _ => itok_zipT (fun F' H' o s z => ?_) fun F' H' o s z => ?_) (t2.ent (Ent.sepR Ent.assoc'))⟩⟩
    · exact sqT_ofR s (Ent.left F' H' o s (Ent.right F' H' o s z))
    · exact sqT_ofR s (Ent.right F' H' o s (Ent.right F' H' o s z))
/-- xs.index(y) -/
def indexR (xs : List Int) (y : Int) : Res Int := match xs.findIdx? (fun x => decide (x = y)) with
  | some j => .ok (j : Int)
  | none => .bad
theorem ev_index {xs : List Int} {m : Res γ} {Γ1 : γ → List Cell} {y : γ → Int} (hx : EvP E tx Γ cx) (hp : PArg E Γ K0 cx (ppS E.K (xs.map dat))) (h : EvJ E te Γ m Γ1 fun a => rV (.int (y a))) (e : Γ1 = fun _ => Γ) :
    EvJ E (tBM E.K "list" (rIndex E.K) tx (tCons te tNil)) Γ (m.bind fun a => indexR xs (y a)) (fun _ => Γ) fun r => rV (.int r) := fun σ H R Q t q => by
  subst e
  refine hx σ H R _ t fun x H1 t1 => ?_
  obtain ⟨a, rfl, hs⟩ := ints_of hp t1
  refine ⟨.inl ⟨rfl, _, hs⟩, ?_⟩
  refine h σ H1 _ _ t1 (wp_mono (wp_bind.mp q) (fun g _ q w H2 t2 => ?_) fun _ x => x.drop)
  have ew := int1 t2
  subst ew
  obtain ⟨a', e2, hs2⟩ := ints_of hp (top_rot t2)
  cases e2
  unfold indexR at q
  cases ej : xs.findIdx? (fun x => decide (x = y g)) with
  | none =>
    rw [ej] at q
    exact (show False from q).elim
  | some j =>
    rw [ej] at q
    obtain ⟨hj, hj1, hj2⟩ := List.findIdx?_eq_some_iff_getElem.mp ej
    refine ⟨a, xs.map V.int, .int (y g), j, .int xs[j], rfl, rfl, hs2, rfl, by simp [flatV], by rw [List.getElem?_map, List.getElem?_eq_getElem hj]; rfl, ?_, fun m z' hm hz => ?_, q _ _ (res1 (t2.ent (Ent.sepR (Ent.sepR Ent.right))) fun F => .int _)⟩
    · have := of_decide_eq_true hj1
      show (xs[j] == y g) = true
      rw [this]
      exact beq_self_eq_true _
    · rw [List.getElem?_map, List.getElem?_eq_getElem (by omega)] at hz
      cases hz
      have := hj2 m hm
      show (xs[m] == y g) = false
      simpa using this
theorem rn_lenU [Dat α] {xs : List α} : RnP E (rLen E.K) [rV (.tuple (xs.map dat))] Γ (rV (.int xs.length)) := by
  have := rn_lenT (E := E) (Γ := Γ) (ds := xs.map dat)
  rwa [List.length_map] at this
end
section
variable {E : Ec} {tr : TA} {Γ : List Cell} {α β δ : Type}
open Res
theorem ev_callSe {ma : Res δ} {Γ1 : δ → List Cell} {Γ2 : δ × β → List Cell} {cs : δ → List RC} {ps : α → List PP} {m : α → Res β} {cb : β → V → Asr} (x : δ → α) (h : EvA E tr Γ ma Γ1 cs) (hp : ∀ a, Pars E (Γ1 a) K0 (cs a) (ps (x a))) (hx : ∀ a, XOk E (Γ1 a)) (e : ∀ r, Γ1 r.1 = Γ2 r) :
    EvJ E (tCallS (Sp0 E.ec ps m cb) (WE E.W) tr) Γ (ma.bind fun a => (m (x a)).bind fun b => .ok (a, b)) Γ2 (fun p _ => cb p.2) := by
  have e2 : Γ2 = fun r => Γ1 r.1 := funext fun r => (e r).symm
  rw [e2]
  exact ev_callS x h hp hx
end
theorem indexK {X : Cx} (K : PySem.W.Frag) (h : X.K = K) : MtR X "list.index" (rIndex K) := h ▸ mt_index
end Lc
/-! Lc: dicts of one's own, texts or tuples of numbers by numbers -/
namespace Lc
open PySem L2
instance {α : Type} [DecidableEq α] : DecidableEq (Tu α) := fun a b => if h : a.l = b.l then isTrue (by cases a; cases b; cases h; rfl) else isFalse fun e => h (congrArg Tu.l e)
def getK {κ : Type} [DecidableEq κ] (kvs : List (κ × Int)) (k : κ) : Option Int := (kvs.find? fun kv => decide (kv.1 = k)).map (·.2)
def putKd {κ : Type} [DecidableEq κ] (kvs : List (κ × Int)) (k : κ) (v : Int) : List (κ × Int) :=
  if (kvs.any fun kv => decide (kv.1 = k)) = true then kvs.map (fun kv => if kv.1 = k then (kv.1, v) else kv) else kvs ++ [(k, v)]
section
variable {κ g : Type} [DecidableEq κ] [DecidableEq g] {e : κ → g}
theorem valV_enc (inj : ∀ a b, e a = e b → a = b) (k : κ) : ∀ kvs : List (κ × Int), valV (kvs.map fun p => (e p.1, V.int p.2)) (e k) = (getK kvs k).map V.int
  | [] => rfl
  | p :: r => by
    have ih := valV_enc inj k r
    rw [List.map_cons]
    by_cases q : p.1 = k
    · rw [valV_pos (p := (e p.1, V.int p.2)) (congrArg e q)]
      unfold getK
      simp [List.find?_cons, q]
    · rw [valV_neg (p := (e p.1, V.int p.2)) (fun z => q (inj _ _ z)), ih]
      unfold getK
      simp [List.find?_cons, q]
theorem putK_enc (inj : ∀ a b, e a = e b → a = b) (kvs : List (κ × Int)) (k : κ) (v : Int) : putK (kvs.map fun p => (e p.1, V.int p.2)) (e k) (V.int v) = (putKd kvs k v).map fun p => (e p.1, V.int p.2) := by
  have ha : ((kvs.map fun p => (e p.1, V.int p.2)).any fun kv => decide (kv.1 = e k)) = kvs.any fun kv => decide (kv.1 = k) := by
    rw [List.any_map]
    congr 1
    funext p
    have : (e p.1 = e k) ↔ p.1 = k := ⟨inj _ _, congrArg e⟩
    simp [this]
  unfold putK putKd
  rw [ha]
  split
  · rw [List.map_map, List.map_map]
    refine List.map_congr_left fun p _ => ?_
    simp only [Function.comp_apply]
    by_cases q : p.1 = k
    · simp [q]
    · have : ¬ e p.1 = e k := fun z => q (inj _ _ z)
      simp [q, this]
  · rw [List.map_append]
    rfl
end
/-- what can be a dict's key -/
class DKey (κ : Type) [Dat κ] [DecidableEq κ] where
  ob : List (κ × Int) → HO
  isD : ∀ {H : Hp} {a : Addr} {kvs : List (κ × Int)}, H a = some (ob kvs) → IsD H a
  get : ∀ {F H : Hp} {a : Addr} {y : V} {kvs : List (κ × Int)} {k : κ}, Same F H → H a = some (ob kvs) → Rp F y (dat k) → DGet H a y ((getK kvs k).map V.int)
  put : ∀ {F H : Hp} {a : Addr} {y : V} {kvs : List (κ × Int)} {k : κ} {v : Int}, Same F H → H a = some (ob kvs) → Rp F y (dat k) → kvs.length < sizeLine → DPut H a y (.int v) (upd H a (ob (putKd kvs k v)))
instance : DKey Str where
  ob kvs := .dK (kvs.map fun p => ((Sum.inr p.1 : Key), V.int p.2))
  isD h := .inl ⟨_, .inl h⟩
  get {F H a y kvs k} s h r := by
    have r : Rp F y (.str k) := r
    cases r
    have := DGet.k (k := (Sum.inr k : Key)) h
    rwa [valV_enc (e := fun x : Str => (Sum.inr x : Key)) (fun a b z => Sum.inr.inj z)] at this
  put {F H a y kvs k v} s h r hl := by
    have r : Rp F y (.str k) := r
    cases r
    have := DPut.k (k := (Sum.inr k : Key)) (v := V.int v) h (by rw [List.length_map]; exact hl)
    rwa [putK_enc (e := fun x : Str => (Sum.inr x : Key)) (fun a b z => Sum.inr.inj z)] at this
theorem tu_enc : ∀ a b : Tu Int, a.l.map (Sum.inl : Int → Key) = b.l.map Sum.inl → a = b := fun a b h => by
  cases a; cases b
  rw [List.map_inj_right (fun x y z => Sum.inl.inj z)] at h
  exact congrArg Tu.mk h
theorem tu_at {F H : Hp} {y : V} {k : Tu Int} (s : Same F H) (r : Rp F y (dat k)) : ∃ b, y = .ref b ∧ H b = some (.tup ((k.l.map (Sum.inl : Int → Key)).map kV)) := by
  have r : Rp F y (.tuple (k.l.map dat)) := r
  cases r with
  | tup e r =>
    refine ⟨_, rfl, ?_⟩
    rw [s _ _ e, RpAll.ints r, List.map_map]
    rfl
instance : DKey (Tu Int) where
  ob kvs := .dT (kvs.map fun p => (p.1.l.map (Sum.inl : Int → Key), V.int p.2))
  isD h := .inr ⟨_, .inl h⟩
  get {F H a y kvs k} s h r := by
    obtain ⟨b, rfl, eb⟩ := tu_at s r
    have := DGet.t h eb
    rwa [valV_enc (e := fun x : Tu Int => x.l.map (Sum.inl : Int → Key)) tu_enc] at this
  put {F H a y kvs k v} s h r hl := by
    obtain ⟨b, rfl, eb⟩ := tu_at s r
    have := DPut.t (v := V.int v) h eb (by rw [List.length_map]; exact hl)
    rwa [putK_enc (e := fun x : Tu Int => x.l.map (Sum.inl : Int → Key)) tu_enc] at this
section
variable {κ : Type} [Dat κ] [DecidableEq κ] [DKey κ]
/-- an owned dict -/
def kA (p : Addr) (kvs : List (κ × Int)) : Asr where
  P := fun F H o => o p ∧ H p = some (DKey.ob kvs)
  st := fun s k ⟨h, e⟩ => ⟨h, (k p h).trans e⟩
  up := fun u ⟨h, e⟩ => ⟨u p h, e⟩
def rK (kvs : List (κ × Int)) : RC := fun _ v => exA fun p : Addr => sep (pur (v = .ref p)) (kA p kvs)
def cK (kvs : List (κ × Int)) : Cell := fun o => match o with
  | some v => rK kvs [] v
  | none => bot
theorem no_K {kvs : List (κ × Int)} : ∀ F H o, ¬ (cK kvs none).P F H o := fun _ _ _ h => h
theorem sto_K {kvs : List (κ × Int)} : Sto (rK kvs) (cK kvs) := fun _ _ _ _ t => t
end
section
variable {κ : Type} [Dat κ] [DecidableEq κ] [DKey κ] {E : Ec} {te ta tx ty : TE} {tr : TA} {t : TS} {Γ : List Cell} {α β γ δ : Type} {A B R : Asr} {H : Hp} {cx cy : RC} {i j : Nat} {kvs : List (κ × Int)}
open Res
theorem Top.allocK {p : Addr} {kvs : List (κ × Int)} (t : Top A H) (hp : H p = none) : Top (sep (kA p kvs) A) (upd H p (DKey.ob kvs)) := by
  obtain ⟨F, o, s, k, a⟩ := t
  have ne : ∀ q, o q → q ≠ p := fun q hq e => (k q hq).2 (e ▸ hp)
  have fp : F p = none := by
    cases e : F p with
    | none => rfl
    | some u => rw [s p u e] at hp; cases hp
  refine ⟨F, fun q => q = p ∨ o q, fun b u e => ?_, fun q hq => ?_, (fun q => q = p), o, fun _ z => .inl z, fun _ z => .inr z, fun q e hq => ne q hq e, ⟨rfl, upd_same⟩, A.st (Same.refl F) (fun q hq => upd_ne (ne q hq)) a⟩
  · rw [upd_ne (fun z => by rw [z, fp] at e; cases e)]
    exact s b u e
  · rcases hq with hq | hq
    · rw [hq]
      exact ⟨fp, by rw [upd_same]; exact fun z => by cases z⟩
    · exact ⟨(k q hq).1, by rw [upd_ne (ne q hq)]; exact (k q hq).2⟩
theorem Top.writeK {p : Addr} {kvs kvs' : List (κ × Int)} (t : Top (sep A (kA p kvs)) H) : Top (sep A (kA p kvs')) (upd H p (DKey.ob kvs')) := by
  obtain ⟨F, o, s, k, o1, o2, h1, h2, d, a, ⟨hp, e⟩⟩ := t
  have fp : F p = none := (k p (h2 p hp)).1
  refine ⟨F, o, fun b u e' => ?_, fun q hq => ?_, o1, o2, h1, h2, d, A.st (Same.refl F) (fun q hq => upd_ne fun z => d q hq (z ▸ hp)) a, ⟨hp, upd_same⟩⟩
  · rw [upd_ne (fun z => by rw [z, fp] at e'; cases e')]
    exact s b u e'
  · by_cases hb : q = p
    · rw [hb]
      exact ⟨fp, by rw [upd_same]; exact fun z => by cases z⟩
    · rw [upd_ne hb]
      exact k q hq
theorem ev_knew {tD : TE} (h : ∀ σ H Q, (∀ p, H p = none → Q (.ref p) (upd H p (DKey.ob ([] : List (κ × Int))))) → tD σ H Q) : EvP E tD Γ (rK ([] : List (κ × Int))) := fun σ H R Q t q =>
  h σ H Q fun p hp => q _ _ (((Top.allocK t hp).ent (Ent.sepL fun F H o s z => (⟨p, sep_pers (fun _ => rfl) z⟩ : (rK ([] : List (κ × Int)) σ (.ref p)).P F H o))).ent frontE)
theorem ev_knewS : EvP E tDNewK Γ (rK ([] : List (Str × Int))) := ev_knew fun σ H Q h => h
theorem ev_knewT : EvP E tDNewT Γ (rK ([] : List (Tu Int × Int))) := ev_knew fun σ H Q h => h
/-- slot i's dict, taken out of the state -/
theorem take_K {σ : L2.St} (hi : Γ[i]? = some (cK kvs)) (t : Top (sep (base E σ Γ) A) H) :
    ∃ p, σ[i]? = some (some (.ref p)) ∧ Top (sep (sep (base E σ (Γ.set i cAny)) A) (kA p kvs)) H ∧ ∀ kvs' : List (κ × Int), Ent (sep (sep (base E σ (Γ.set i cAny)) A) (kA p kvs')) (sep (base E σ (Γ.set i (cK kvs'))) A) := by
  obtain ⟨F, o, s, kk, o1, o2, h1, h2, e, ⟨o3, o4, h3, h4, e', a, b⟩, r⟩ := t
  obtain ⟨x, ex, o5, o6, h5, h6, e2, cx, rest⟩ := sl_take hi a
  have hlt : i < Γ.length := (List.getElem?_eq_some_iff.mp hi).1
  cases x with
  | none => exact (show False from cx).elim
  | some v =>
    obtain ⟨p, o7, o8, h7, h8, d7, ev, z⟩ := cx
    have ev : v = .ref p := ev
    subst ev
    refine ⟨p, ex, ⟨F, o, s, kk, fun q => o6 q ∨ o4 q ∨ o2 q, o8, fun q z => ?_, fun q z => h1 q (h3 q (h5 q (h8 q z))), fun q z w => ?_, ⟨fun q => o6 q ∨ o4 q, o2, fun q z => z.elim .inl fun z => .inr (.inl z), fun q z => .inr (.inr z), fun q z w => ?_, ⟨o6, o4, fun _ z => .inl z, fun _ z => .inr z, fun q z w => e' q (h6 q z) w, rest, b⟩, r⟩, z⟩, fun kvs' => put_cell (c := cK kvs') hlt ex fun F H o s z => ⟨p, sep_pers (fun _ => rfl) z⟩⟩
    · rcases z with z | z | z
      · exact h1 q (h3 q (h6 q z))
      · exact h1 q (h4 q z)
      · exact h2 q z
    · rcases z with z | z | z
      · exact e2 q (h8 q w) z
      · exact e' q (h5 q (h8 q w)) z
      · exact e q (h3 q (h5 q (h8 q w))) z
    · rcases z with z | z
      · exact e q (h3 q (h6 q z)) w
      · exact e q (h4 q z) w
theorem k_at {σ : L2.St} {p : Addr} (t : Top (sep A (kA p kvs)) H) : H p = some (DKey.ob kvs) := t.fact fun F o s ⟨_, _, _, _, _, _, ⟨_, z⟩⟩ => z
/-- the frozen heap knows key and dict -/
theorem k_read {σ : L2.St} {k : κ} {y : V} (hi : Γ[i]? = some (cK kvs)) (t : Top (sep (base E σ Γ) (sep (vA (dat k) y) R)) H) : ∃ p F, σ[i]? = some (some (.ref p)) ∧ Same F H ∧ H p = some (DKey.ob kvs) ∧ Rp F y (dat k) := by
  obtain ⟨p, hs, t2, _⟩ := take_K (A := sep (vA (dat k) y) R) hi t
  obtain ⟨F, s, z⟩ := top1 t
  exact ⟨p, F, hs, s, k_at (σ := σ) t2, z⟩
/-- d[k] -/
theorem ev_kget {m1 : Res γ} {Γ1 : γ → List Cell} {k : γ → κ} (hi : Γ[i]? = some (cK kvs)) (h1 : EvJ E ty Γ m1 Γ1 fun a => rV (dat (k a))) (e1 : Γ1 = fun _ => Γ) :
    EvJ E (tDGet (tVar i) ty) Γ (m1.bind fun a => optR (getK kvs (k a))) (fun _ => Γ) fun r => rV (.int r) := fun σ H R Q t q => by
  subst e1
  obtain ⟨p, hs, _, _⟩ := take_K (A := R) hi t
  refine ⟨.ref p, hs, ?_⟩
  refine h1 σ H R _ t (wp_mono (wp_bind.mp q) (fun a _ q y H1 t1 => ?_) fun _ x => x)
  obtain ⟨p', F, hs', s, ep, r⟩ := k_read hi t1
  rw [hs] at hs'
  cases hs'
  cases e : getK kvs (k a) with
  | none =>
    rw [e] at q
    exact (show False from q).elim
  | some v =>
    rw [e] at q
    have q : ∀ w H', Top (sep (base E σ Γ) (sep (vA (.int v) w) R)) H' → Q w H' := q
    refine ⟨p, .int v, rfl, ?_, q _ H1 (res1 t1 fun F => .int _)⟩
    have := DKey.get s ep r
    rw [e] at this
    exact this
/-- k in d -/
theorem ev_kin {m1 : Res γ} {Γ1 : γ → List Cell} {k : γ → κ} (hi : Γ[i]? = some (cK kvs)) (h1 : EvJ E ty Γ m1 Γ1 fun a => rV (dat (k a))) (e1 : Γ1 = fun _ => Γ) :
    EvJ E (tDIn ty (tVar i)) Γ (m1.bind fun a => .ok (getK kvs (k a)).isSome) (fun _ => Γ) fun r => rV (.bool r) := fun σ H R Q t q => by
  subst e1
  refine h1 σ H R _ t (wp_mono (wp_bind.mp q) (fun a _ q y H1 t1 => ?_) fun _ x => x)
  obtain ⟨p, F, hs, s, ep, r⟩ := k_read hi t1
  refine ⟨.ref p, hs, p, _, rfl, DKey.get s ep r, ?_⟩
  have e : ((getK kvs (k a)).map V.int).isSome = (getK kvs (k a)).isSome := by cases getK kvs (k a) <;> rfl
  rw [e]
  have q : ∀ w H', Top (sep (base E σ Γ) (sep (vA (.bool (getK kvs (k a)).isSome) w) R)) H' → Q w H' := q
  exact q _ H1 (res1 t1 fun F => .bl _)
theorem ev_knin {m1 : Res γ} {Γ1 : γ → List Cell} {k : γ → κ} (hi : Γ[i]? = some (cK kvs)) (h1 : EvJ E ty Γ m1 Γ1 fun a => rV (dat (k a))) (e1 : Γ1 = fun _ => Γ) :
    EvJ E (tDNotIn ty (tVar i)) Γ (m1.bind fun a => .ok (!(getK kvs (k a)).isSome)) (fun _ => Γ) fun r => rV (.bool r) := fun σ H R Q t q => by
  subst e1
  refine h1 σ H R _ t (wp_mono (wp_bind.mp q) (fun a _ q y H1 t1 => ?_) fun _ x => x)
  obtain ⟨p, F, hs, s, ep, r⟩ := k_read hi t1
  refine ⟨.ref p, hs, p, _, rfl, DKey.get s ep r, ?_⟩
  have e : ((getK kvs (k a)).map V.int).isSome = (getK kvs (k a)).isSome := by cases getK kvs (k a) <;> rfl
  rw [e]
  have q : ∀ w H', Top (sep (base E σ Γ) (sep (vA (.bool (!(getK kvs (k a)).isSome)) w) R)) H' → Q w H' := q
  exact q _ H1 (res1 t1 fun F => .bl _)
/-- d[k] = n, the number first -/
theorem es_kput {v : Int} {m2 : Res γ} {Γ1 : γ → List Cell} {k : γ → κ} (hi : Γ[i]? = some (cK kvs)) (h1 : EvP E tx Γ (rV (.int v))) (h2 : EvJ E ty Γ m2 Γ1 fun a => rV (dat (k a))) (e1 : Γ1 = fun _ => Γ) :
    EvS1 E (sDPut (tVar i) ty tx) Γ (m2.bind fun a => need (kvs.length < lim) (.ok (putKd kvs (k a) v))) fun r => Γ.set i (cK r) := fun σ H R D t q => by
  subst e1
  refine h1 σ H R _ t fun x H1 t1 => ?_
  have ex := int1 t1
  subst ex
  have t1' := t1.ent (Ent.sepR (B' := R) Ent.right)
  obtain ⟨p, hs, _, _⟩ := take_K (A := R) hi t1'
  refine ⟨.ref p, hs, ?_⟩
  refine h2 σ H1 R _ t1' (wp_mono (wp_bind.mp q) (fun a _ q y H2 t2 => ?_) fun _ x => x σ)
  obtain ⟨hn, q⟩ := wp_need q
  obtain ⟨p', F, hs', s, ep, r⟩ := k_read hi t2
  rw [hs] at hs'
  cases hs'
  obtain ⟨p2, hs2, t4, back⟩ := take_K (A := R) hi (t2.ent (Ent.sepR Ent.right))
  rw [hs] at hs2
  cases hs2
  refine ⟨p, _, rfl, DKey.put s ep r (lim_lt hn), q σ _ ?_⟩
  exact (t4.writeK).ent (back _)
end
end Lc
/-! Lc: objects of own classes: made by __init__, frozen, read, asked -/
namespace Lc
open PySem L2 PySem.Spec PyProof.Rows
/-- a field as it is told: frozen data, or the name of a list of one's own -/
inductive FV where
  | z (d : PyData) | l (q : Addr)
def FvOk (F : Hp) (v : V) : FV → Prop
  | .z d => Rp F v d
  | .l q => v = .ref q
theorem FvOk.mono {F G : Hp} (s : Same F G) {v : V} : ∀ {g : FV}, FvOk F v g → FvOk G v g
  | .z _, h => Rp.mono s h
  | .l _, h => h
def FdOk (F : Hp) (fs : List (Str × V)) (gs : List (Str × FV)) : Prop :=
  (∀ f, match gs.lookup f with | none => fs.lookup f = none | some g => ∃ v, fs.lookup f = some v ∧ FvOk F v g) ∧ fs.length ≤ gs.length
theorem FdOk.mono {F G : Hp} (s : Same F G) {fs : List (Str × V)} {gs : List (Str × FV)} (h : FdOk F fs gs) : FdOk G fs gs := ⟨fun f => by
  have := h.1 f
  cases e : gs.lookup f with
  | none => rw [e] at this; exact this
  | some g =>
    rw [e] at this
    obtain ⟨v, a, b⟩ := this
    exact ⟨v, a, b.mono s⟩, h.2⟩
theorem FdOk.nil {F : Hp} : FdOk F [] [] := ⟨fun _ => rfl, Nat.le_refl _⟩
theorem FdOk.put {F : Hp} {fs : List (Str × V)} {gs : List (Str × FV)} {f : Str} {y : V} {g : FV} (h : FdOk F fs gs) (r : FvOk F y g) : FdOk F (putF f y fs) ((f, g) :: gs) := ⟨fun k => by
  rw [List.lookup_cons, lookup_putF]
  by_cases e : k = f
  · subst e
    rw [if_pos rfl]
    simp only [beq_self_eq_true]
    exact ⟨y, rfl, r⟩
  · have e2 : (k == f) = false := by simpa using e
    rw [if_neg e, e2]
    exact h.1 k, by
  have := length_putF f y fs
  have := h.2
  rw [List.length_cons]
  omega⟩
theorem FdOk.get {F : Hp} {fs : List (Str × V)} {gs : List (Str × FV)} {f : Str} {g : FV} (h : FdOk F fs gs) (e : gs.lookup f = some g) : ∃ v, fs.lookup f = some v ∧ FvOk F v g := by
  have := h.1 f
  rw [e] at this
  exact this
theorem FdOk.no {F : Hp} {fs : List (Str × V)} {gs : List (Str × FV)} {f : Str} (h : FdOk F fs gs) (e : gs.lookup f = none) : fs.lookup f = none := by
  have := h.1 f
  rw [e] at this
  exact this
/-- the lists of one's own frozen -/
def fzV (ds : List PyData) : FV → FV
  | .z d => .z d
  | .l _ => .z (.list ds)
def OnlyQ (q : Addr) : List (Str × FV) → Prop
  | [] => True
  | (_, .z _) :: gs => OnlyQ q gs
  | (_, .l q') :: gs => q' = q ∧ OnlyQ q gs
theorem lookup_fz (ds : List PyData) (f : Str) : ∀ gs : List (Str × FV), (gs.map fun g => (g.1, fzV ds g.2)).lookup f = (gs.lookup f).map (fzV ds)
  | [] => rfl
  | (k, g) :: gs => by
    rw [List.map_cons, List.lookup_cons, List.lookup_cons]
    cases f == k with
    | true => rfl
    | false => exact lookup_fz ds f gs
theorem onlyQ_of {q : Addr} {f : Str} {q' : Addr} : ∀ {gs : List (Str × FV)}, OnlyQ q gs → gs.lookup f = some (.l q') → q' = q
  | [], _, e => by cases e
  | (k, .z d) :: gs, h, e => by
    rw [List.lookup_cons] at e
    cases e2 : f == k with
    | true => rw [e2] at e; cases e
    | false => rw [e2] at e; exact onlyQ_of (gs := gs) h e
  | (k, .l p) :: gs, h, e => by
    rw [List.lookup_cons] at e
    cases e2 : f == k with
    | true => rw [e2] at e; cases e; exact h.1
    | false => rw [e2] at e; exact onlyQ_of (gs := gs) h.2 e
theorem FdOk.fz {F : Hp} {fs : List (Str × V)} {gs : List (Str × FV)} {q : Addr} {ds : List PyData} (h : FdOk F fs gs) (ho : OnlyQ q gs) (r : Rp F (.ref q) (.list ds)) : FdOk F fs (gs.map fun g => (g.1, fzV ds g.2)) := ⟨fun f => by
  rw [lookup_fz]
  cases e : gs.lookup f with
  | none => exact h.no e
  | some g =>
    obtain ⟨v, a, b⟩ := h.get e
    refine ⟨v, a, ?_⟩
    cases g with
    | z d => exact b
    | l q' =>
      have := onlyQ_of ho e
      subst this
      have b : v = .ref q' := b
      subst b
      exact r, by rw [List.length_map]; exact h.2⟩
/-- an owned instance -/
def iA (C p : Addr) (gs : List (Str × FV)) : Asr where
  P := fun F H o => o p ∧ ∃ dx fs, H p = some (.ins C dx fs) ∧ FdOk F fs gs
  st := fun s k ⟨h, dx, fs, e, r⟩ => ⟨h, dx, fs, (k p h).trans e, r.mono s⟩
  up := fun u ⟨h, r⟩ => ⟨u p h, r⟩
/-- an instance in slot .., A beside it -/
def cI (C p : Addr) (gs : List (Str × FV)) (A : Asr) : Cell := fun o => sep (pur (o = some (.ref p))) (sep (iA C p gs) A)
/-- a frozen instance -/
def fA (C : Addr) (gs : List (Str × FV)) (v : V) : Asr := ⟨fun F _ _ => ∃ p dx fs, v = .ref p ∧ F p = some (.ins C dx fs) ∧ FdOk F fs gs, fun s _ ⟨p, dx, fs, e, h, r⟩ => ⟨p, dx, fs, e, s _ _ h, r.mono s⟩, fun _ h => h⟩
def rF (C : Addr) (gs : List (Str × FV)) : RC := fun _ v => fA C gs v
def cF (C : Addr) (gs : List (Str × FV)) : Cell := fun o => match o with | some v => fA C gs v | none => bot
def rAt (q : Addr) : RC := fun _ v => pur (v = .ref q)
theorem no_F {C : Addr} {gs : List (Str × FV)} : ∀ F H o, ¬ (cF C gs none).P F H o := fun _ _ _ h => h
theorem sto_F {C : Addr} {gs : List (Str × FV)} : Sto (rF C gs) (cF C gs) := fun _ _ _ _ t => t
def ppF (C : Addr) (gs : List (Str × FV)) : PP := fun v F _ => ∃ p dx fs, v = .ref p ∧ F p = some (.ins C dx fs) ∧ FdOk F fs gs
section
variable {E : Ec} {te ta tx : TE} {tr : TA} {t u : TS} {Γ : List Cell} {α β γ δ : Type} {A B R : Asr} {H : Hp} {cx : RC} {i : Nat} {C p q : Addr} {gs : List (Str × FV)} {f : Str} {d : PyData} {ds : List PyData}
open Res
/-- a cell, taken out of the state -/
theorem take_cell {σ : L2.St} {c : Cell} (hi : Γ[i]? = some c) (t : Top (sep (base E σ Γ) A) H) : ∃ x, σ[i]? = some x ∧ Top (sep (sep (base E σ (Γ.set i cAny)) A) (c x)) H := by
  obtain ⟨F, o, s, kk, o1, o2, h1, h2, e, ⟨o3, o4, h3, h4, e', a, b⟩, r⟩ := t
  obtain ⟨x, ex, o5, o6, h5, h6, e2, cx, rest⟩ := sl_take hi a
  refine ⟨x, ex, F, o, s, kk, fun q => o6 q ∨ o4 q ∨ o2 q, o5, fun q z => ?_, fun q z => h1 q (h3 q (h5 q z)), fun q z w => ?_, ⟨fun q => o6 q ∨ o4 q, o2, fun q z => z.elim .inl fun z => .inr (.inl z), fun q z => .inr (.inr z), fun q z w => ?_, ⟨o6, o4, fun _ z => .inl z, fun _ z => .inr z, fun q z w => e' q (h6 q z) w, rest, b⟩, r⟩, cx⟩
  · rcases z with z | z | z
    · exact h1 q (h3 q (h6 q z))
    · exact h1 q (h4 q z)
    · exact h2 q z
  · rcases z with z | z | z
    · exact e2 q w z
    · exact e' q (h5 q w) z
    · exact e q (h3 q (h5 q w)) z
  · rcases z with z | z
    · exact e q (h3 q (h6 q z)) w
    · exact e q (h4 q z) w
/-- the instance of slot i -/
theorem take_I {σ : L2.St} (hi : Γ[i]? = some (cI C p gs B)) (t : Top (sep (base E σ Γ) A) H) :
    σ[i]? = some (some (.ref p)) ∧ Top (sep (sep (sep (base E σ (Γ.set i cAny)) A) B) (iA C p gs)) H ∧ ∀ gs' B', Ent (sep (sep (sep (base E σ (Γ.set i cAny)) A) B') (iA C p gs')) (sep (base E σ (Γ.set i (cI C p gs' B'))) A) := by
  have hlt : i < Γ.length := (List.getElem?_eq_some_iff.mp hi).1
  obtain ⟨x, ex, t1⟩ := take_cell hi t
  have ex' : x = some (.ref p) := t1.fact fun F o s ⟨_, _, _, _, _, _, ⟨_, _, _, _, _, z, _⟩⟩ => z
  subst ex'
  refine ⟨ex, (t1.ent (Ent.sepR (Ent.right.trans Ent.comm))).ent Ent.assoc', fun gs' B' => ?_⟩
  exact (Ent.assoc.trans (Ent.sepR Ent.comm)).trans (put_cell (c := cI C p gs' B') hlt ex fun F H o s z => sep_pers (fun _ => rfl) z)
theorem i_at {σ : L2.St} (t : Top (sep A (iA C p gs)) H) : ∃ F dx fs, Same F H ∧ H p = some (.ins C dx fs) ∧ FdOk F fs gs := by
  obtain ⟨F, o, s, _, _, _, _, _, _, _, ⟨_, dx, fs, e, r⟩⟩ := t
  exact ⟨F, dx, fs, s, e, r⟩
theorem Top.writeI {gs' : List (Str × FV)} {C' dx : Addr} {fs' : List (Str × V)} (t : Top (sep A (iA C p gs)) H) (r : ∀ F o, Same F H → A.P F H o → ∀ dx' fs, H p = some (.ins C dx' fs) → FdOk F fs gs → FdOk F fs' gs') : Top (sep A (iA C p gs')) (upd H p (.ins C dx fs')) := by
  obtain ⟨F, o, s, k, o1, o2, h1, h2, d, a, ⟨hp, dx', fs, e, rv⟩⟩ := t
  have fp : F p = none := (k p (h2 p hp)).1
  refine ⟨F, o, fun b u e' => ?_, fun q hq => ?_, o1, o2, h1, h2, d, A.st (Same.refl F) (fun q hq => upd_ne fun z => d q hq (z ▸ hp)) a, ⟨hp, dx, fs', upd_same, r F o1 s a dx' fs e rv⟩⟩
  · rw [upd_ne (fun z => by rw [z, fp] at e'; cases e')]
    exact s b u e'
  · by_cases hb : q = p
    · rw [hb]
      exact ⟨fp, by rw [upd_same]; exact fun z => by cases z⟩
    · rw [upd_ne hb]
      exact k q hq
/-- self.f, frozen -/
theorem ev_fldz (hi : Γ[i]? = some (cI C p gs B)) (hl : gs.lookup f = some (.z d)) (hc : Cls E.K C) (hn : NoAttr E.K C f) : EvP E (tFld E.K (tVar i) f) Γ (rV d) := fun σ H R Q t q => by
  obtain ⟨hs, t1, _⟩ := take_I (A := R) hi t
  obtain ⟨F, o, s, k, o1, o2, h1, h2, dd, a, ⟨hp, dx, fs, e, r⟩⟩ := t1
  obtain ⟨v, lv, rv⟩ := r.get hl
  have rv : Rp F v d := rv
  refine ⟨_, hs, p, C, dx, fs, v, rfl, e, hc, hn, lv, q v H ?_⟩
  obtain ⟨_, _, back⟩ := take_I (A := R) hi t
  have t2 : Top (sep (sep (sep (base E σ (Γ.set i cAny)) R) B) (iA C p gs)) H := ⟨F, o, s, k, o1, o2, h1, h2, dd, a, ⟨hp, dx, fs, e, r⟩⟩
  have t3 : Top (sep (vA d v) (sep (sep (sep (base E σ (Γ.set i cAny)) R) B) (iA C p gs))) H := by
    exact ⟨F, o, s, k, sep_pers (fun _ => rv) ⟨o1, o2, h1, h2, dd, a, ⟨hp, dx, fs, e, r⟩⟩⟩
  have e1 : Γ.set i (cI C p gs B) = Γ := by
    obtain ⟨hl, e⟩ := List.getElem?_eq_some_iff.mp hi
    rw [← e, List.set_getElem_self]
  have b := back gs B
  rw [e1] at b
  exact (t3.ent (Ent.sepR b)).ent frontE
/-- self.f, a list of one's own -/
theorem ev_fldl (hi : Γ[i]? = some (cI C p gs B)) (hl : gs.lookup f = some (.l q)) (hc : Cls E.K C) (hn : NoAttr E.K C f) : EvP E (tFld E.K (tVar i) f) Γ (rAt q) := fun σ H R Q t qq => by
  obtain ⟨hs, t1, _⟩ := take_I (A := R) hi t
  obtain ⟨F, dx, fs, s, e, r⟩ := i_at (σ := σ) t1
  obtain ⟨v, lv, rv⟩ := r.get hl
  have rv : v = .ref q := rv
  exact ⟨_, hs, p, C, dx, fs, v, rfl, e, hc, hn, lv, qq v H ((t.addP rv).ent frontE)⟩
theorem pa_fldl {Kn : L2.St → Prop} (hi : Γ[i]? = some (cI C p gs (oA q ds))) : PArg E Γ Kn (rAt q) (ppL ds) := fun σ w F H o _ s ⟨_, _, _, _, _, ⟨_, _, _, _, _, a, _⟩, x⟩ => by
  have x : w = .ref q := x
  obtain ⟨y, _, ⟨_, _, _, _, _, _, ⟨_, _, _, _, _, _, ⟨_, vs, e, r⟩⟩⟩⟩ := sl_get hi a
  exact ⟨q, vs, x, e, r⟩
theorem src_fldl (hi : Γ[i]? = some (cI C p gs (oA q ds))) : Src E Γ (rAt q) ds fun Δ => Δ[i]? = some (cI C p gs (oA q ds)) := fun σ H R x t => by
  have ex : x = .ref q := t.fact fun F o s ⟨_, _, _, _, _, _, ⟨_, _, _, _, _, z, _⟩⟩ => z
  subst ex
  refine ⟨q, emp, rfl, ?_, fun σ' Γ'' hk F H' o s ⟨o1, _, h1, _, _, b, _⟩ => ?_, t.ent (Ent.sepR (Ent.sepL Ent.emp))⟩
  · obtain ⟨F, o, s, _, o1, _, _, _, _, b, _⟩ := t
    obtain ⟨_, vs, _, e, _⟩ := pa_fldl (Kn := K0) hi σ (.ref q) F H o1 trivial s (sep_pers (A := emp) (fun _ => trivial) b |> Ent.comm F H _ s |> fun z => by
      obtain ⟨a1, a2, b1, b2, dd, x, y⟩ := z
      exact ⟨a1, a2, b1, b2, dd, x, rfl⟩)
    cases ‹V.ref q = V.ref _›
    exact ⟨vs, SqL.of e⟩
  · obtain ⟨_, vs, e0, e, r⟩ := pa_fldl (Kn := K0) hk σ' (.ref q) F H' o1 trivial s (by
      have z : (sep (base E σ' Γ'') emp).P F H' o1 := Ent.comm F H' _ s (sep_pers (A := emp) (fun _ => trivial) b)
      obtain ⟨a1, a2, b1, b2, dd, x, y⟩ := z
      exact ⟨a1, a2, b1, b2, dd, x, rfl⟩)
    cases e0
    exact ⟨vs, SqL.of e, r⟩
/-- self.f = e, a frozen value -/
theorem es_fldz {m : Res γ} {Γ1 : γ → List Cell} {d : γ → PyData} (h : EvJ E te Γ m Γ1 fun a => rV (d a)) (hi : ∀ a, (Γ1 a)[i]? = some (cI C p gs B)) (hc : Cls E.K C) (hn : NoAttr E.K C f) (hl : gs.length < 900) :
    EvS1 E (sFld E.K (tVar i) te f) Γ m fun a => (Γ1 a).set i (cI C p ((f, .z (d a)) :: gs) B) := fun σ H R D t q =>
  h σ H R _ t (wp_mono q (fun a _ q w H1 t1 => by
    obtain ⟨hs, t2, back⟩ := take_I (A := sep (rV (d a) σ w) R) (hi a) t1
    obtain ⟨F, dx, fs, s, e, r⟩ := i_at (σ := σ) t2
    refine ⟨_, hs, p, C, dx, fs, rfl, e, hc, hn, by have := r.2; omega, q σ _ ?_⟩
    have t3 := Top.writeI (C' := C) (dx := dx) (fs' := putF f w fs) (gs' := (f, .z (d a)) :: gs) t2 fun F o s z dx' fs2 e2 r2 => by
      rw [e] at e2
      cases e2
      obtain ⟨_, _, _, _, _, ⟨_, _, _, _, _, _, ⟨_, _, _, _, _, rw, _⟩⟩, _⟩ := z
      exact r2.put rw
    exact (t3.ent (back _ B)).ent (Ent.sepR Ent.right)) fun _ x => x σ)
/-- self.f = a new list, which stays one's own -/
theorem es_fldl {m : Res γ} {post : γ → Fin} (h : EvP E te Γ (rO ds)) (hi : Γ[i]? = some (cI C p gs emp)) (hc : Cls E.K C) (hn : NoAttr E.K C f) (hl : gs.length < 900) (k : ∀ q, EvS E u (Γ.set i (cI C p ((f, .l q) :: gs) (oA q ds))) m post) :
    EvS E (tSeq (sFld E.K (tVar i) te f) u) Γ m post := fun σ H R D t qq => by
  refine h σ H R _ t fun w H1 t1 => ?_
  obtain ⟨q, rfl⟩ : ∃ q, w = .ref q := t1.fact fun F o s ⟨_, _, _, _, _, _, ⟨_, _, _, _, _, ⟨q, e, _⟩, _⟩⟩ => ⟨q, e⟩
  obtain ⟨hs, t2, back⟩ := take_I (A := sep (rO ds σ (.ref q)) R) hi t1
  obtain ⟨F, dx, fs, s, e, r⟩ := i_at (σ := σ) t2
  refine ⟨_, hs, p, C, dx, fs, rfl, e, hc, hn, by have := r.2; omega, ?_⟩
  have t3 := Top.writeI (C' := C) (dx := dx) (fs' := putF f (.ref q) fs) (gs' := (f, .l q) :: gs) t2 fun F o s z dx' fs2 e2 r2 => by
    rw [e] at e2
    cases e2
    exact r2.put (g := .l q) rfl
  have e1 : Ent (rO ds σ (.ref q)) (oA q ds) := fun F H o s h => by
    obtain ⟨q', e', z⟩ := h
    cases e'
    exact z
  have en : Ent (sep (sep (sep (base E σ (Γ.set i cAny)) (sep (rO ds σ (.ref q)) R)) emp) (iA C p ((f, .l q) :: gs))) (sep (sep (sep (base E σ (Γ.set i cAny)) R) (oA q ds)) (iA C p ((f, .l q) :: gs))) :=
    Ent.sepL (Ent.left.trans ((Ent.sepR ((Ent.sepL e1).trans Ent.comm)).trans Ent.assoc'))
  obtain ⟨_, _, back2⟩ := take_I (A := R) hi (t1.ent (Ent.sepR Ent.right))
  exact k q σ _ R D ((t3.ent en).ent (back2 ((f, .l q) :: gs) (oA q ds))) qq
/-- self.f.append(e) -/
theorem es_fldapp [Dat α] {xs : List α} {a : α} {c : RC} (h : EvP E te Γ c) (fz : Fz c (dat a)) (hi : Γ[i]? = some (cI C p gs (oA q (xs.map dat)))) (hl : gs.lookup f = some (.l q)) (hc : Cls E.K C) (hn : NoAttr E.K C f) :
    EvS1 E (tDrop (tBM E.K "list" rAppend (tFld E.K (tVar i) f) (tCons te tNil))) Γ (need (xs.length < lim) (.ok ())) fun _ => Γ.set i (cI C p gs (oA q ((xs ++ [a]).map dat))) := fun σ H R D t qq => by
  obtain ⟨hn2, qq⟩ := wp_need qq
  refine ev_fldl hi hl hc hn σ H R (fun x H1 => tyV E.K "list" x H1 ∧ tCons te tNil σ H1 fun xs H2 => rAppend x xs H2 fun _ H3 => D.nx σ H3) t fun v H1 t1 => ?_
  have ev : v = .ref q := t1.fact fun F o s ⟨_, _, _, _, _, _, ⟨_, _, _, _, _, z, _⟩⟩ => z
  subst ev
  have t1 := t1.ent (Ent.sepR (B' := R) Ent.right)
  obtain ⟨hs, t2, _⟩ := take_I (A := R) hi t1
  obtain ⟨vs, ep, _⟩ := own_at (t2.ent Ent.left)
  refine ⟨.inl ⟨rfl, vs, SqL.of ep⟩, ?_⟩
  refine h σ H1 R _ t1 fun w H2 t3 => ?_
  have t4 : Top (sep (base E σ Γ) (sep (vA (dat a) w) R)) H2 := (fz σ w _ H2 (t3.ent frontE)).ent frontE
  obtain ⟨hs', t5, back⟩ := take_I (A := sep (vA (dat a) w) R) hi t4
  have t6 : Top (sep (sep (sep (base E σ (Γ.set i cAny)) (sep (vA (dat a) w) R)) (iA C p gs)) (oA q (xs.map dat))) H2 := t5.ent ((Ent.assoc.trans (Ent.sepR Ent.comm)).trans Ent.assoc')
  obtain ⟨vs', ep', ln⟩ := own_at t6
  rw [List.length_map] at ln
  refine ⟨q, vs', w, rfl, rfl, ep', by rw [ln]; exact lim_lt hn2, qq σ _ ?_⟩
  have t7 := own_write (σ := σ) (es := (xs ++ [a]).map dat) (ws := vs' ++ [w]) t6 fun F o vs'' s z e2 r => by
    rw [ep'] at e2
    cases e2
    obtain ⟨_, _, _, _, _, ⟨_, _, _, _, _, _, ⟨_, _, _, _, _, rw, _⟩⟩, _⟩ := z
    rw [List.map_append]
    exact r.append (.one rw)
  exact ((t7.ent ((Ent.assoc.trans (Ent.sepR Ent.comm)).trans Ent.assoc')).ent (back _ _)).ent (Ent.sepR Ent.right)
/-- the instance and its list are frozen -/
theorem Top.freezeI (t : Top (sep A (iA C p gs)) H) (hz : ∀ F fs, FdOk F fs gs → FdOk F fs gs) : Top (sep (fA C gs (.ref p)) A) H := by
  obtain ⟨F, o, s, k, o1, o2, h1, h2, d, a, ⟨hp, dx, fs, e, r⟩⟩ := t
  have fp : F p = none := (k p (h2 p hp)).1
  have sF : Same F (upd F p (.ins C dx fs)) := fun b u e' => by
    rw [upd_ne (fun z => by rw [z, fp] at e'; cases e')]
    exact e'
  refine ⟨upd F p (.ins C dx fs), o1, fun b u e' => ?_, fun q hq => ?_, sep_pers (fun _ => ⟨p, dx, fs, rfl, upd_same, r.mono sF⟩) (A.st sF (fun _ _ => rfl) a)⟩
  · by_cases hb : b = p
    · subst hb
      rw [upd_same] at e'
      rw [← e']
      exact e
    · rw [upd_ne hb] at e'
      exact s b u e'
  · have ne : q ≠ p := fun z => d q hq (z ▸ hp)
    rw [upd_ne ne]
    exact k q (h1 q hq)
/-- an instance that is frozen, its address told -/
def cFp (C p : Addr) (gs : List (Str × FV)) : Cell := fun o => sep (pur (o = some (.ref p))) (fA C gs (.ref p))
theorem es_objfrz {m : Res γ} {post : γ → Fin} (hi : Γ[i]? = some (cI C p gs (oA q ds))) (ho : OnlyQ q gs) (k : EvS E t (Γ.set i (cFp C p (gs.map fun g => (g.1, fzV ds g.2)))) m post) : EvS E t Γ m post := fun σ H R D t0 qq => by
  have hlt : i < Γ.length := (List.getElem?_eq_some_iff.mp hi).1
  obtain ⟨hs, t1, _⟩ := take_I (A := R) hi t0
  have t2 : Top (sep (oA q ds) (sep (sep (base E σ (Γ.set i cAny)) R) (iA C p gs))) H := (t1.ent (Ent.sepL Ent.comm)).ent Ent.assoc
  have t3 := t2.freeze
  have t4 : Top (sep (sep (base E σ (Γ.set i cAny)) R) (iA C p (gs.map fun g => (g.1, fzV ds g.2)))) H := by
    obtain ⟨F, o, s, kk, o1, o2, h1, h2, dd, a, ⟨o3, o4, h3, h4, d', b, ⟨hp, dx, fs, e, r⟩⟩⟩ := t3
    exact ⟨F, o, s, kk, o3, o4, fun z w => h2 z (h3 z w), fun z w => h2 z (h4 z w), d', b, hp, dx, fs, e, r.fz ho a⟩
  have t5 := (t4.freezeI (fun _ _ h => h)).ent Ent.comm
  exact k σ H R D (t5.ent (put_cell (c := cFp C p (gs.map fun g => (g.1, fzV ds g.2))) hlt hs fun F H o s z => sep_pers (fun _ => rfl) z)) qq
/-! ### objects made -/
def SpI {α β : Type} (C : Addr) (ps : α → List PP) (m : α → Res β) (gs : β → List (Str × FV)) : Sp := fun vs H Q E => ∃ (p : Addr) (ws : List V) (x : α) (B : Asr), vs = .ref p :: ws ∧ Top (sep B (iA C p [])) H ∧ (∀ F H o, Same F H → B.P F H o → parOk (ps x) ws F H) ∧
  (m x).wp (fun b => ∀ H', Top (sep B (fA C (gs b) (.ref p))) H' → Q .non H') fun _ => False
theorem Top.allocI {dx : Addr} (t : Top A H) (hp : H p = none) : Top (sep (iA C p []) A) (upd H p (.ins C dx [])) := by
  obtain ⟨F, o, s, k, a⟩ := t
  have ne : ∀ q, o q → q ≠ p := fun q hq e => (k q hq).2 (e ▸ hp)
  have fp : F p = none := by
    cases e : F p with
    | none => rfl
    | some u => rw [s p u e] at hp; cases hp
  refine ⟨F, fun q => q = p ∨ o q, fun b u e => ?_, fun q hq => ?_, (fun q => q = p), o, fun _ z => .inl z, fun _ z => .inr z, fun q e hq => ne q hq e, ⟨rfl, dx, [], upd_same, FdOk.nil⟩, A.st (Same.refl F) (fun q hq => upd_ne (ne q hq)) a⟩
  · rw [upd_ne (fun z => by rw [z, fp] at e; cases e)]
    exact s b u e
  · rcases hq with hq | hq
    · rw [hq]
      exact ⟨fp, by rw [upd_same]; exact fun z => by cases z⟩
    · exact ⟨(k q hq).1, by rw [upd_ne (ne q hq)]; exact (k q hq).2⟩
theorem evp_make {cs : List RC} {ps : α → List PP} {m : α → Res β} {gs : β → List (Str × FV)} (x : α) (h : EvAP E tr Γ cs) (hp : Pars E Γ K0 cs (ps x)) :
    EvJ E (tMake C (SpI C ps m gs) [] E0 tr) Γ (noErr (m x)) (fun _ => Γ) (fun b => rF C (gs b)) := fun σ H R Q t q =>
  h σ H R _ t fun vs H1 t1 => fun y dx hy hdx hne => by
    rw [List.append_nil]
    have t2 : Top (sep (base E σ Γ) (sep (csA cs σ vs) R)) (upd H1 dx (.own y)) := t1.grow hdx
    have hy2 : (upd H1 dx (.own y)) y = none := by
      rw [upd_ne (Ne.symm hne)]
      exact hy
    have t3 := Top.allocI (C := C) (dx := dx) t2 hy2
    refine ⟨y, vs, x, _, rfl, t3.ent Ent.comm, fun F H o s z => hp σ vs F H o trivial s (Ent.left F H o s (Ent.assoc' F H o s z)), wp_mono (wp_noErr q) (fun b _ q1 H' t' => ⟨rfl, q1 _ H' ?_⟩) fun _ z => z⟩
    exact (t'.ent Ent.comm).ent (frontE.trans (Ent.sepR (Ent.sepR Ent.right)))
/-! ### objects asked -/
theorem ev_varF {gs : List (Str × FV)} (h : Γ[i]? = some (cF C gs)) : EvP E (tVar i) Γ (rF C gs) := fun σ H R Q t q => by
  obtain ⟨F, o, s, kk, o1, o2, h1, h2, e, ⟨o3, o4, h3, h4, e', a, b⟩, b2⟩ := t
  obtain ⟨x, ex, hx⟩ := sl_get h a
  cases x with
  | none => exact (show False from hx).elim
  | some v => exact ⟨v, ex, q v H ⟨F, o, s, kk, o1, o2, h1, h2, e, ⟨o3, o4, h3, h4, e', a, b⟩, sep_pers (fun _ => hx) b2⟩⟩
theorem ev_varFp {gs : List (Str × FV)} (h : Γ[i]? = some (cFp C p gs)) : EvP E (tVar i) Γ (rF C gs) := fun σ H R Q t q => by
  obtain ⟨F, o, s, kk, o1, o2, h1, h2, e, ⟨o3, o4, h3, h4, e', a, b⟩, b2⟩ := t
  obtain ⟨x, ex, _, _, _, _, _, hx, z⟩ := sl_get h a
  have hx : x = some (.ref p) := hx
  subst hx
  exact ⟨_, ex, q _ H ⟨F, o, s, kk, o1, o2, h1, h2, e, ⟨o3, o4, h3, h4, e', a, b⟩, sep_pers (fun _ => z) b2⟩⟩
theorem pa_f {Kn : L2.St → Prop} : PArg E Γ Kn (rF C gs) (ppF C gs) := fun _ _ _ _ _ _ _ ⟨_, _, _, _, _, _, x⟩ => x
/-- o.f of a frozen object -/
theorem ev_fldF (h : EvP E ta Γ (rF C gs)) (hl : gs.lookup f = some (.z d)) (hc : Cls E.K C) (hn : NoAttr E.K C f) : EvP E (tFld E.K ta f) Γ (rV d) := fun σ H R Q t q =>
  h σ H R _ t fun x H1 t1 => by
    obtain ⟨F, o, s, kk, o1, o2, h1, h2, e, b, ⟨o3, o4, h3, h4, e', ⟨p, dx, fs, ex, ef, r⟩, rr⟩⟩ := t1
    obtain ⟨v, lv, rv⟩ := r.get hl
    exact ⟨p, C, dx, fs, v, ex, s _ _ ef, hc, hn, lv, q v H1 ⟨F, o, s, kk, o1, o2, h1, h2, e, b, sep_pers (fun _ => rv) (R.up h4 rr)⟩⟩
theorem ev_meth {ma : Res δ} {Γ1 : δ → List Cell} {gs : δ → List (Str × FV)} {nm : Str} {cs : List RC} {ps : α → List PP} {m : α → Res β} {cb : β → V → Asr} (x : δ → α) (hf : EvJ E ta Γ ma Γ1 fun a => rF C (gs a)) (e1 : Γ1 = fun _ => Γ) (hm : ∀ a, (gs a).lookup nm = none) (h : EvAP E tr Γ cs) (hp : ∀ a, Pars E Γ K0 (rF C (gs a) :: cs) (ps (x a))) :
    EvJ E (tMeth C nm (Sp0 E.ec ps m cb) [] E0 ta tr) Γ (ma.bind fun a => noErr (m (x a))) (fun _ => Γ) (fun b _ => cb b) := fun σ H R Q t q => by
  subst e1
  refine hf σ H R _ t (wp_mono (wp_bind.mp q) (fun a _ q1 v H1 t1 => ?_) fun _ z => z)
  obtain ⟨F, s, p, dx, fs, ex, ef, r⟩ : ∃ F, Same F H1 ∧ ∃ p dx fs, v = .ref p ∧ F p = some (.ins C dx fs) ∧ FdOk F fs (gs a) := by
    obtain ⟨F, o, s, _, _, _, _, _, _, _, ⟨_, _, _, _, _, z, _⟩⟩ := t1
    exact ⟨F, s, z⟩
  refine ⟨p, dx, fs, ex, s _ _ ef, r.no (hm a), ?_⟩
  refine h σ H1 (sep (rF C (gs a) σ v) R) _ t1 fun vs H2 t2 => ?_
  rw [List.append_nil]
  have t3 : Top (sep (base E σ Γ) (sep (csA (rF C (gs a) :: cs) σ (v :: vs)) R)) H2 := t2.ent (Ent.sepR ((Ent.assoc'.trans (Ent.sepL Ent.comm))))
  refine ⟨x a, _, t3, fun F H o s z => hp a σ (v :: vs) F H o trivial s (Ent.left F H o s (Ent.assoc' F H o s z)), wp_mono (wp_noErr q1) (fun b _ q2 w H' t' => q2 w H' ?_) fun k z => (show False from z).elim⟩
  exact (t'.ent Ent.comm).ent (frontE.trans (Ent.sepR (Ent.sepR Ent.right)))
end
/-! ### the end of __init__ -/
section
variable {K : PySem.W.Frag} {ec : Nat → Value} {B : Asr} {Q : VK} {Ex : XK} {H : Hp} {σ : L2.St} {t : TS} {β : Type} {m : Res β} {Γr : β → List Cell} {C p : Addr}
open Res
theorem finI {i : Nat} {gs : β → List (Str × FV)} {Γ : List Cell} (hT : Top (sep B (iA C p [])) H) (hi : i < Γ.length) (hs : σ[i]? = some (some (.ref p))) (hin : ∀ F o, Same F H → B.P F H o → allP F H σ (Γ.set i cAny)) (hr : ∀ b, (Γr b)[i]? = some (cFp C p (gs b)))
    (hw : WP m (fun b => ∀ H', Top (sep B (fA C (gs b) (.ref p))) H' → Q .non H') fun _ => False)
    (hb : EvS (Ecf K Ex ec B) t (Γ.set i (cI C p [] emp)) m fun b => .nx (Γr b)) : t { nx := fun _ H' => Q .non H', rt := Q } σ H := by
  obtain ⟨F, o, s, k, o1, o2, h1, h2, d, pc, po⟩ := hT
  refine hb σ H emp _ ⟨F, o, s, k, ?_⟩ (wp_mono hw.wp (fun b _ q σ' H' t' => q H' (t'.ent (Ent.left.trans fun F H o s ⟨o3, o4, h3, h4, e, a, b'⟩ => ?_))) fun _ z => z.elim)
  · refine Ent.comm F H o s (sep_pers (A := emp) (fun _ => trivial) ⟨o2, o1, h2, h1, fun q z w => d q w z, ?_, pc⟩)
    exact sl_put hi hs ⟨o2, fun _ => False, fun _ z => z, fun _ z => z.elim, fun _ _ z => z, sep_pers (fun _ => rfl) (Ent.comm F H o2 s (sep_pers (A := emp) (fun _ => trivial) po)), sl_all _ (hin F o1 s pc)⟩
  · obtain ⟨x, ex, _, _, _, _, _, _, z⟩ := sl_get (hr b) a
    exact Ent.comm F H o s (sep_pers (fun _ => z) (B.up h4 b'))
end
theorem spI_go {α β : Type} {C : Addr} {ps : α → List PP} {m : α → Res β} {gs : β → List (Str × FV)} {vs : List V} {H : Hp} {Q : VK} {X : XK} {G : Prop} (h : SpI C ps m gs vs H Q X)
    (k : ∀ (p : Addr) (ws : List V) (x : α) (B : Asr), vs = .ref p :: ws → Top (sep B (iA C p [])) H → (∀ F H o, Same F H → B.P F H o → parOk (ps x) ws F H) → WP (m x) (fun b => ∀ H', Top (sep B (fA C (gs b) (.ref p))) H' → Q .non H') (fun _ => False) → G) : G := by
  obtain ⟨p, ws, x, B, e, a, b, d⟩ := h
  exact k p ws x B e a b ⟨d⟩
/-! ### the rules for defs under FnG -/
theorem RoomG.make {gp : Prop} {k : Nat} {A : Around} (r : RoomG gp (k + 1) A) (C : Addr) (us : List Value) (kw : List (Str × Value)) : RoomG gp k (A.under (.builtin "type.__call__" ⟨.ref C :: us, kw⟩)) := ⟨r.rm.make C us kw, r.gd⟩
section
variable {X : Cx} {CX : CXT} {k : Nat} {f C : Addr} {fd : FuncData} {ps : List Str} {sp : Sp} {E : XK} {x m : Str} {p pos apos : Pos} {e o : Expr} {es : List Expr} {ta : TE} {t : TA}
theorem run_fnB {pins : List (Addr × Obj)} {σ : L2.St} {H : Hp} {s : Shared} {Q : VK} {us : List Value} {vs : List V} (F : FnG gp X.prog X.w X.K X.mg X.base CX k f fd ps sp) (hr : RoomG gp k X.A) (hb : Binds X.K fd ps []) (hx : Passes CX X E)
    (I : Inv X pins σ H s) (r : Vals vs us) (h : sp vs H Q E) : wpAny (model X.prog X.w) X.A (call (.ref f) us) (EP X pins σ Q) X.xe s := by
  have hl : us.length = ps.length := by rw [← r.length]; exact F.len _ _ _ _ h
  have b := hb s us I.kIn (by rw [List.append_nil]; exact hl)
  rw [List.append_nil] at b
  refine wpAny_call (codeAny_mono (F.run X.A X.stack s H ⟨us, []⟩ us vs Q E hr I.env0 b r h) fun r s' hq => ?_)
  cases r with
  | error e => exact hx pins σ H s e s' I hq
  | ok fl =>
    cases fl with
    | ret u => exact I.after hq
    | next => exact False.elim hq
    | brk => exact False.elim hq
    | cont => exact False.elim hq
/-- o.m(e, ..) -/
theorem pe_methG {pl : Sem Bool} (he : PE X o ta) (c : Cls X.K C) (hm : Meth X.K C m f) (F : FnG gp X.prog X.w X.K X.mg X.base CX k f fd ps sp) (hr : RoomG gp k X.A) (hb : Binds X.K fd ps []) (hx : Passes CX X E) (ha : PA X (e :: es) t)
    (hst : starEach (e :: es) X.env = (false, eval e X.env) :: starEach es X.env := by rfl) (hpl : (backTo pos (starEach es X.env)).any (·.1) = false := by rfl)
    (ht : eval (.Call (.Attribute o m apos) (e :: es) [] pos) X.env = (do
      let ov ← eval o X.env
      standAt apos.atName
      let (f, first) ← holding [ov] (getMethod ov m pl)
      callWith pos f first (backTo pos (starEach (e :: es) X.env)) (backToKw pos (keywordEach [] X.env))) := by rfl) :
    PE X (.Call (.Attribute o m apos) (e :: es) [] pos) (tMeth C m sp [] E ta t) := by
  refine ⟨fun pins s σ H Q I h => ?_⟩
  refine PySem.W.methodCall_KW (pl := pl) (thn (he.run pins s σ H _ I h) fun u s1 ⟨x, H1, I1, rx, a, dx, fs, ex, ea, l, q⟩ => ?_) ht
  subst ex
  obtain rfl : u = Value.ref a := rx
  refine getmeth_ok I1 ea c hm l ?_
  refine PySem.W.callWith_K (first := [.ref a]) (h₀ := X.base) I.ok.mod.kin hm.kp (thn (ha.run pos pins s1 σ H1 _ I1 q) fun us s2 ⟨vs, H2, I2, r, q2⟩ => ⟨I2.kIn, ?_⟩) hst hpl
  have q2 : sp (V.ref a :: (vs ++ [])) H2 Q E := q2
  rw [List.append_nil] at q2
  exact run_fnB (us := .ref a :: us) (vs := .ref a :: vs) F hr hb hx I2 (.cons rfl r) q2
theorem run_makeG {pins : List (Addr × Obj)} {σ : L2.St} {H : Hp} {s : Shared} {Q : VK} {us : List Value} {vs : List V} (M : Mk X.K C f) (F : FnG gp X.prog X.w X.K X.mg X.base CX k f fd ps sp) (hr : RoomG gp (k + 1) X.A) (hb : Binds X.K fd ps [])
    (hx : Passes CX X E) (I : Inv X pins σ H s) (r : Vals vs us)
    (h : ∀ x dx, H x = none → H dx = none → dx ≠ x → sp (.ref x :: (vs ++ [])) (upd (upd H dx (.own x)) x (.ins C dx [])) (fun v H2 => v = .non ∧ Q (.ref x) H2) E) :
    wpAny (model X.prog X.w) X.A (call (.ref C) us) (EP X pins σ Q) X.xe s := by
  have hq := h (s.heap.objs.size + 1) s.heap.objs.size (I.hok.fresh (Nat.le_succ _)) (I.hok.fresh (Nat.le_refl _)) (Nat.ne_of_lt (Nat.lt_succ_self _))
  rw [List.append_nil] at hq
  have I2 := Inv.made (C := C) I
  have r2 : Vals (V.ref (s.heap.objs.size + 1) :: vs) (Value.ref (s.heap.objs.size + 1) :: us) := .cons rfl r
  have hl : (Value.ref (s.heap.objs.size + 1) :: us).length = ps.length := by
    rw [← r2.length, F.len _ _ _ _ hq]
  have b := hb { s with heap := (s.heap.push PySem.W.emptyDict).push (PySem.W.instObj C s.heap.objs.size) } (Value.ref (s.heap.objs.size + 1) :: us) I2.kIn (by rw [List.append_nil]; exact hl)
  rw [List.append_nil] at b
  refine wpAny_call (make_map (f := f) I.kIn M.makes M.init (beq_iff_eq.mp M.fn) (codeAny_mono (F.run _ X.stack _ _ ⟨Value.ref (s.heap.objs.size + 1) :: us, []⟩ (Value.ref (s.heap.objs.size + 1) :: us) _ _ E (hr.make C us [])
    (I2.env0.make C us []) b r2 hq) fun r s' hq' => ?_))
  cases r with
  | error e => exact hx pins σ _ _ e s' I2 hq'
  | ok fl =>
    cases fl with
    | ret u =>
      obtain ⟨v, H', I3, rv, ev, q3⟩ := I2.after hq'
      subst ev
      exact ⟨rv, ⟨V.ref (s.heap.objs.size + 1), H', I3, rfl, q3⟩⟩
    | next => exact False.elim hq'
    | brk => exact False.elim hq'
    | cont => exact False.elim hq'
theorem pe_makeG (M : Mk X.K C f) (F : FnG gp X.prog X.w X.K X.mg X.base CX k f fd ps sp) (hr : RoomG gp (k + 1) X.A) (hg : Gl X x) (hm : X.mg x = some (.ref C)) (hb : Binds X.K fd ps []) (hx : Passes CX X E)
    (ha : PA X (e :: es) t) (hdb : (x == ("__debug__" : Str)) = false := by decide) (he : starEach (e :: es) X.env = (false, eval e X.env) :: starEach es X.env := by rfl) (hpl : (backTo pos (starEach es X.env)).any (·.1) = false := by rfl) :
    PE X (.Call (.Name x p) (e :: es) [] pos) (tMake C sp [] E t) := by
  refine ⟨fun pins s σ H Q I h => ?_⟩
  refine wpAny_Call_Name_kw (ld_glob I hg hm ?_ hdb)
  refine PySem.W.callWith_K (h₀ := X.base) I.ok.mod.kin M.kp (thn (ha.run pos pins s σ H _ I h) fun us s1 ⟨vs, H1, I1, r, q⟩ => ⟨I1.kIn, ?_⟩) he hpl
  exact run_makeG M F hr hb hx I1 r q
end
end Lc
/-! Lc: rules with K given; xs[computed] += e -/
namespace Lc
open PySem L2
section
variable {E : Ec} {te ti : TE} {tr : TA} {Γ : List Cell} {α β γ δ : Type} {R : Asr} {H : Hp} {cx : RC} {i : Nat} {mk : List PyData → Cell}
open Res
theorem es_augitemI {f : Int → Int → Int} {e : Int} {xs : List Int} {m : Res γ} {Γ1 : γ → List Cell} {k : γ → Int} (hk : OwnC mk) (h : EvP E te Γ (rV (.int e))) (h2 : EvJ E ti Γ m Γ1 fun a => rV (.int (k a))) (e1 : Γ1 = fun _ => Γ) (hi : Γ[i]? = some (mk (xs.map dat))) :
    EvS1 E (tAugS (tVar i) ti te (rIxL E.K) (ipI f) rSetL) Γ (m.bind fun a => (getI xs (k a)).bind fun z => setR xs (k a) (f z e)) fun ys => Γ.set i (mk (ys.map dat)) := fun σ H R D t q => by
  subst e1
  obtain ⟨p, hs, t2, _⟩ := take_own (A := R) hk hi t
  refine ⟨_, hs, h2 σ H R _ t (wp_mono (wp_bind.mp q) (fun g _ q ik H1 t1 => ?_) fun _ x => x σ)⟩
  have ek := int1 t1
  subst ek
  have t1 := t1.ent (Ent.sepR (B' := R) Ent.right)
  obtain ⟨p', hs', t3, _⟩ := take_own (A := R) hk hi t1
  rw [hs] at hs'
  cases hs'
  obtain ⟨F, o, s, _, _, _, _, _, _, _, ⟨_, vs, ep, r⟩⟩ := t3
  cases ea : atI xs (k g) with
  | none =>
    unfold getI at q
    rw [ea] at q
    exact (show False from q).elim
  | some a =>
    rw [getI_some ea, Res.bind_ok] at q
    obtain ⟨v, ev, rv⟩ := atI_rp r (show atI (xs.map dat) (k g) = some (dat a) by rw [atI_map, ea]; rfl)
    have ev2 : v = .int a := by cases (show Rp F v (.int a) from rv); rfl
    subst ev2
    refine ⟨p, vs, k g, .int a, rfl, rfl, SqL.of ep, ev, h σ H1 R _ t1 fun w H2 t4 => ?_⟩
    have ew := int1 t4
    subst ew
    refine ⟨a, e, rfl, rfl, ?_⟩
    have t5 : Top (sep (base E σ Γ) (sep (vA (dat (f a e)) (.int (f a e))) R)) H2 := res1 t4 fun F => .int _
    refine set_core hk hi hs rfl t5 ?_
    cases es : setR xs (k g) (f a e) with
    | ok ys =>
      rw [es] at q
      exact fun H' t' => q σ H' t'
    | err n => unfold setR at es; split at es <;> cases es
    | bad =>
      rw [es] at q
      exact q
end
section
variable {X : Cx} {e o value : Expr} {f : Str} {pos pos' : Pos} {ta tv : TE} (K : PySem.W.Frag) (h : X.K = K)
include h
theorem pe_fldK (he : PE X e ta) (hb : attributeBase e f X.env (eval e X.env) = eval e X.env := by rfl) : PE X (.Attribute e f pos) (tFld K ta f) := h ▸ pe_fld he hb
theorem ps_fldK (ha : PE X o ta) (hv : PE X value tv) (hs : swapsWith value (some (.Attribute o f pos')) pos.line X.env = pure false := by rfl) : PS X (.Assign [.Attribute o f pos'] value pos) (sFld K ta tv f) := h ▸ ps_fld ha hv hs
theorem tupleK : CallR X (.type "tuple") (rTu K) := by
  subst h
  exact call_tuple_of
end
end Lc
/-! Lc: and / or of tests that change states -/
namespace Lc
open PySem L2
section
open Res
variable {E : Ec} {te ti : TE} {tr : TA} {tt tu : TT} {Γ : List Cell} {α β γ δ : Type}
theorem et_orS {ma : Res α} {ba : α → Bool} {Γa : α → List Cell} {mb : α → Res γ} {g : α → γ} {Γ2 : γ → List Cell} {c : γ → Bool} (h : EvT E tt Γ ma Γa ba) (h2 : ∀ a, EvT E tu (Γa a) (mb a) Γ2 c) (hg : ∀ a, Γ2 (g a) = Γa a) (hc : ∀ a, c (g a) = true) :
    EvT E (tOr tt tu) Γ (ma.bind fun a => if ba a then .ok (g a) else mb a) Γ2 c := fun σ H R Q t q =>
  h σ H R _ t (wp_mono (wp_bind.mp q) (fun a _ q1 H1 t1 => by
    cases hb : ba a with
    | true =>
      rw [hb, if_pos rfl] at q1
      have e := q1 H1 ((hg a).symm ▸ t1)
      rw [hc a] at e
      exact e
    | false =>
      rw [hb, if_neg (by decide)] at q1
      exact h2 a σ H1 R Q t1 q1) fun _ x => x)
theorem et_andS {ma : Res α} {ba : α → Bool} {Γa : α → List Cell} {mb : α → Res γ} {g : α → γ} {Γ2 : γ → List Cell} {c : γ → Bool} (h : EvT E tt Γ ma Γa ba) (h2 : ∀ a, EvT E tu (Γa a) (mb a) Γ2 c) (hg : ∀ a, Γ2 (g a) = Γa a) (hc : ∀ a, c (g a) = false) :
    EvT E (tAnd tt tu) Γ (ma.bind fun a => if ba a then mb a else .ok (g a)) Γ2 c := fun σ H R Q t q =>
  h σ H R _ t (wp_mono (wp_bind.mp q) (fun a _ q1 H1 t1 => by
    cases hb : ba a with
    | true =>
      rw [hb, if_pos rfl] at q1
      exact h2 a σ H1 R Q t1 q1
    | false =>
      rw [hb, if_neg (by decide)] at q1
      have e := q1 H1 ((hg a).symm ▸ t1)
      rw [hc a] at e
      exact e) fun _ x => x)
theorem et_pack {m : Res α} {b : α → Bool} {Γa : α → List Cell} {g : α → γ} {Γ2 : γ → List Cell} {c : γ → Bool} (h : EvT E tt Γ m Γa b) (hg : ∀ a, Γ2 (g a) = Γa a) (hc : ∀ a, c (g a) = b a) : EvT E tt Γ (m.bind fun a => .ok (g a)) Γ2 c := fun σ H R Q t q =>
  h σ H R _ t (wp_mono (wp_bind.mp q) (fun a _ q1 H1 t1 => (hc a) ▸ q1 H1 ((hg a).symm ▸ t1)) fun _ x => x)
theorem ixTK {X : Cx} (K : PySem.W.Frag) (h : X.K = K) : IxR X (rIxT K) := h ▸ ix_tup
/-! a tuple of one's own lists -/
/-- the tuple object alone -/
def tA (p : Addr) (vs : List V) : Asr where
  P := fun F H o => o p ∧ H p = some (.tup vs)
  st := fun s k ⟨h, e⟩ => ⟨h, (k p h).trans e⟩
  up := fun u ⟨h, e⟩ => ⟨u p h, e⟩
def tO (dss : List (List PyData)) (v : V) : Asr := exA fun x : Addr × List V => sep (pur (v = .ref x.1)) (sep (tA x.1 x.2) (oOs dss x.2))
def rTO (dss : List (List PyData)) : RC := fun _ v => tO dss v
theorem Top.allocTO {A : Asr} {H : Hp} {p : Addr} {vs : List V} (t : Top A H) (hp : H p = none) : Top (sep (tA p vs) A) (upd H p (.tup vs)) := by
  obtain ⟨F, o, s, k, a⟩ := t
  have ne : ∀ q, o q → q ≠ p := fun q hq e => (k q hq).2 (e ▸ hp)
  have fp : F p = none := by
    cases e : F p with
    | none => rfl
    | some u => rw [s p u e] at hp; cases hp
  refine ⟨F, fun q => q = p ∨ o q, fun b u e => ?_, fun q hq => ?_, (fun q => q = p), o, fun _ z => .inl z, fun _ z => .inr z, fun q e hq => ne q hq e, ⟨rfl, upd_same⟩, A.st (Same.refl F) (fun q hq => upd_ne (ne q hq)) a⟩
  · rw [upd_ne (fun z => by rw [z, fp] at e; cases e)]
    exact s b u e
  · rcases hq with hq | hq
    · rw [hq]
      exact ⟨fp, by rw [upd_same]; exact fun z => by cases z⟩
    · exact ⟨(k q hq).1, by rw [upd_ne (ne q hq)]; exact (k q hq).2⟩
theorem oOs_cs {σ : L2.St} : ∀ {dss : List (List PyData)} {vs : List V}, Ent (oOs dss vs) (csA (dss.map rO) σ vs)
  | [], [] => Ent.refl _
  | _ :: dss, _ :: vs => Ent.sepR (oOs_cs (dss := dss) (vs := vs))
  | [], _ :: _ => fun _ _ _ _ h => (show False from h).elim
  | _ :: _, [] => fun _ _ _ _ h => (show False from h).elim
/-- values computed, lists among them taken out of their slots -/
def MvAll (E : Ec) (Γ : List Cell) (cs : List RC) (Γ' : List Cell) (dss : List (List PyData)) : Prop := ∀ (σ : L2.St) (vs : List V) (R : Asr) (H : Hp), Top (sep (base E σ Γ) (sep (csA cs σ vs) R)) H → Top (sep (base E σ Γ') (sep (oOs dss vs) R)) H
theorem mv_nil : MvAll E Γ [] Γ [] := fun σ vs R H t => by
  cases vs with
  | nil => exact t
  | cons v vs => exact (t.fact (φ := False) fun _ _ _ ⟨_, _, _, _, _, _, ⟨_, _, _, _, _, a, _⟩⟩ => a).elim
theorem mv_o {ds : List PyData} {cs : List RC} {Γ' : List Cell} {dss : List (List PyData)} (h : MvAll E Γ cs Γ' dss) : MvAll E Γ (rO ds :: cs) Γ' (ds :: dss) := fun σ vs R H t => by
  cases vs with
  | nil => exact (t.fact (φ := False) fun _ _ _ ⟨_, _, _, _, _, _, ⟨_, _, _, _, _, a, _⟩⟩ => a).elim
  | cons v vs =>
    have t1 : Top (sep (base E σ Γ) (sep (csA cs σ vs) (sep (oV ds v) R))) H := t.ent (Ent.sepR ((Ent.sepL Ent.comm).trans Ent.assoc))
    exact (h σ vs _ H t1).ent (Ent.sepR (Ent.assoc'.trans (Ent.sepL Ent.comm)))
theorem mv_s {mk : List PyData → Cell} {i : Nat} {ds : List PyData} {cs : List RC} {Γ' : List Cell} {dss : List (List PyData)} (hk : OwnC mk) (hi : Γ[i]? = some (mk ds)) (h : MvAll E (Γ.set i cAny) cs Γ' dss) : MvAll E Γ (rS i :: cs) Γ' (ds :: dss) := fun σ vs R H t => by
  cases vs with
  | nil => exact (t.fact (φ := False) fun _ _ _ ⟨_, _, _, _, _, _, ⟨_, _, _, _, _, a, _⟩⟩ => a).elim
  | cons v vs =>
    have t1 : Top (sep (base E σ Γ) (sep (rS i σ v) (sep (csA cs σ vs) R))) H := t.ent (Ent.sepR Ent.assoc)
    have t2 := ret_own hk hi (Le.refl _) σ v _ H t1
    have t3 : Top (sep (base E σ (Γ.set i cAny)) (sep (csA cs σ vs) (sep (oV ds v) R))) H := t2.ent (Ent.sepR (Ent.assoc'.trans ((Ent.sepL Ent.comm).trans Ent.assoc)))
    exact (h σ vs _ H t3).ent (Ent.sepR (Ent.assoc'.trans (Ent.sepL Ent.comm)))
/-- (xs, ys, ..) of one's own lists -/
theorem ev_tupO {ma : Res α} {Γ1 Γ2 : α → List Cell} {cs : α → List RC} {dss : α → List (List PyData)} (h : EvA E tr Γ ma Γ1 cs) (mv : ∀ a, MvAll E (Γ1 a) (cs a) (Γ2 a) (dss a)) (hl : ∀ a, (dss a).length ≤ 1000 := by exact fun _ => Nat.le_of_ble_eq_true rfl) :
    EvJ E (tTup tr) Γ ma Γ2 fun a => rTO (dss a) := fun σ H R Q t q => by
  refine h σ H R _ t (wp_mono q (fun a _ q vs H1 t1 => ?_) fun _ x => x)
  have t2 := mv a σ vs R H1 t1
  have ln : vs.length = (dss a).length := t2.fact fun F o s ⟨_, _, _, _, _, _, ⟨o1, _, _, _, _, z, _⟩⟩ => oOs_len (o := o) ⟨o1, z⟩
  refine ⟨by rw [ln]; exact Nat.le_trans (hl a) (by decide), fun p hp => q _ _ ?_⟩
  refine ((t2.allocTO hp).ent frontE).ent (Ent.sepR (Ent.assoc'.trans (Ent.sepL ?_)))
  exact fun F H o s z => ⟨(p, vs), sep_pers (fun _ => rfl) z⟩
/-- a, b = f(..), a tuple of one's own lists -/
theorem es_unpO {m : Res γ} {Γ1 : γ → List Cell} {dss : γ → List (List PyData)} {g : TGs} {n : Nat} {Γ' : γ → List Cell} (h : EvJ E te Γ m Γ1 fun a => rTO (dss a)) (hg : ∀ a, GlJ E g ((dss a).map rO) (Γ1 a) (Γ' a)) (hn : ∀ a, (dss a).length = n) :
    EvS1 E (tAsg te (gTup E.K n g)) Γ m Γ' := fun σ H R D t q =>
  h σ H R _ t (wp_mono q (fun a _ q v H' t' => by
    have f : ∃ p vs, v = .ref p ∧ H' p = some (.tup vs) ∧ Top (sep (base E σ (Γ1 a)) (sep (oOs (dss a) vs) R)) H' := by
      obtain ⟨F, o, s, k, o1, o2, h1, h2, e, b, o3, o4, h3, h4, e', ⟨⟨p, vs⟩, o5, o6, h5, h6, e2, ev, o7, o8, h7, h8, e3, ⟨hp, et⟩, z⟩, r⟩ := t'
      exact ⟨p, vs, ev, et, F, o, s, k, o1, o2, h1, h2, e, b, o8, o4, fun q z => h3 q (h6 q (h8 q z)), h4, fun q z w => e' q (h6 q (h8 q z)) w, z, r⟩
    obtain ⟨p, vs, rfl, et, t2⟩ := f
    have ln : vs.length = n := (t2.fact fun F o s ⟨_, _, _, _, _, _, ⟨o1, _, _, _, _, z, _⟩⟩ => oOs_len (o := o) ⟨o1, z⟩).trans (hn a)
    exact ⟨p, vs, rfl, SqT.of et, ln, hg a σ σ _ R _ vs (t2.ent (Ent.sepR (Ent.sepL oOs_cs))) q⟩) fun _ x => x σ)
/-! + of lists that may stand in the frame's own heap -/
def rCatS (K : PySem.W.Frag) : R2 := fun x y H Q => ∃ l b xs zs, x = .ref l ∧ y = .ref b ∧ SqL K H l xs ∧ SqL K H b zs ∧ xs.length + zs.length ≤ sizeLine ∧ ∀ p, H p = none → Q (.ref p) (upd H p (.lst (xs ++ zs)))
theorem op_catS {X : Cx} : OpR X (binaryOp .Add) (rCatS X.K) := by
  intro pins s σ H x y v u Q I rx ry h
  obtain ⟨l, b, xs, zs, rfl, rfl, hH, hB, hz, q⟩ := h
  cases rx
  cases ry
  obtain ⟨its, r, hl, _⟩ := I.list hH
  obtain ⟨its2, r2, hl2, _⟩ := I.list hB
  have el := r.length
  have el2 := r2.length
  obtain ⟨⟨cls, dd, data, sl⟩, n, ho, hc, _, hd⟩ := id hl
  obtain ⟨⟨cls2, dd2, data2, sl2⟩, n2, ho2, hc2, _, hd2⟩ := id hl2
  simp only at hc hd hc2 hd2
  subst hc hd hc2 hd2
  have e : its.toArray ++ its2.toArray = (its ++ its2).toArray := by simp
  refine concat_meets ⟨_, ho, rfl⟩ ⟨_, ho2, rfl⟩ noFill_list_add seq_list_add PySem.F.slot_list_add PySem.F.entry_list_add (PySem.F.args_list_add_2 _ _) (PyProof.Rows.list_addW l b its.toArray its2.toArray n n2 dd dd2 sl sl2 (by rw [List.size_toArray, List.size_toArray]; omega)) ⟨ho, ho2, ?_⟩
  rw [e]
  exact ⟨.ref _, _, I.lnew (t' := s.toks) (r.append r2) (by rw [List.length_append]; omega), rfl, q _ I.fresh⟩
theorem opcS {X : Cx} (K : PySem.W.Frag) (h : X.K = K) : OpR X (binaryOp .Add) (rCatS K) := h ▸ op_catS
theorem r2_catS {cx cy : RC} [Dat α] {xs ys : List α} (h1 : PArg E Γ K0 cx (ppS E.K (xs.map dat))) (h2 : PArg E Γ K0 cy (ppS E.K (ys.map dat))) : R2J E (rCatS E.K) cx cy Γ (catR xs ys) (fun _ => Γ) fun zs => rO (zs.map dat) := fun σ H R Q x y t q => by
  obtain ⟨hn, q⟩ := wp_need q
  obtain ⟨F, o, s, k, p⟩ := t
  obtain ⟨a, vs, rfl, ea, ra⟩ := h1 σ x F H o trivial s (Ent.left F H o s (Ent.assoc' F H o s p))
  obtain ⟨b, ws, rfl, eb, rb⟩ := h2 σ y F H o trivial s (Ent.left F H o s (Ent.assoc' F H o s (rotE F H o s p)))
  have la := ra.len
  have lb := rb.len
  rw [List.length_map] at la lb
  have t2 := addAs s k p (ra.append rb)
  refine ⟨a, b, vs, ws, rfl, rfl, ea, eb, by rw [la, lb]; exact lim_le hn, fun l hl => q _ _ ((newL t2 hl fun F' o s' z => ?_).ent (Ent.sepR (Ent.sepR (Ent.right.trans (Ent.right.trans Ent.right)))))⟩
  rw [List.map_append]
  exact as_of F' o s' z
/-! xs.insert(k, e) -/
def insI {α : Type} (xs : List α) (k : Int) (a : α) : List α := xs.take k.toNat ++ [a] ++ xs.drop k.toNat
def rInsert : V → List V → Hp → VK → Prop := fun x vs H Q => ∃ (l : Addr) (xs : List V) (i : Int) (y : V), x = .ref l ∧ vs = [.int i, y] ∧ H l = some (.lst xs) ∧ xs.length < sizeLine ∧ 0 ≤ i ∧ i < 2 ^ 63 ∧
    Q .non (upd H l (.lst (xs.take i.toNat ++ [y] ++ xs.drop i.toNat)))
theorem mt_insertR {X : Cx} : MtR X "list.insert" rInsert := mt_insert
theorem es_insertTM {mk : List PyData → Cell} {i : Nat} [Dat α] {m : Res γ} {Γ1 : γ → List Cell} {xs : γ → List α} {a : γ → α} {c : γ → RC} {ds0 : List PyData} {k : Int} (hk : OwnC mk) (h1 : EvP E ti Γ (rV (.int k))) (h : EvJ E te Γ m Γ1 c) (f : ∀ g, Fz (c g) (dat (a g))) (h0 : Γ[i]? = some (mk ds0)) (hi : ∀ g, (Γ1 g)[i]? = some (mk ((xs g).map dat)))
    (k0 : 0 ≤ k := by decide) (k1 : k < 2 ^ 63 := by decide) :
    EvS1 E (tDrop (tBM E.K "list" rInsert (tVar i) (tCons ti (tCons te tNil)))) Γ (m.bind fun g => need ((xs g).length < lim) (.ok g)) fun g => (Γ1 g).set i (mk ((insI (xs g) k (a g)).map dat)) := fun σ H R D t q => by
  obtain ⟨p, hs, t2, _⟩ := take_own (A := R) hk h0 t
  obtain ⟨vs, ep, _⟩ := own_at t2
  refine ⟨_, hs, .inl ⟨rfl, vs, SqL.of ep⟩, ?_⟩
  refine h1 σ H R _ t fun u H0 t0 => ?_
  have eu := int1 t0
  subst eu
  refine h σ H0 R _ (t0.ent (Ent.sepR Ent.right)) (wp_mono (wp_bind.mp q) (fun g _ q w H1 t1 => ?_) fun _ x => x σ)
  obtain ⟨hn, q⟩ := wp_need q
  have t3 : Top (sep (base E σ (Γ1 g)) (sep (vA (dat (a g)) w) R)) H1 := (f g σ w _ H1 (t1.ent frontE)).ent frontE
  obtain ⟨p', hs', t4, back⟩ := take_own hk (hi g) t3
  rw [hs] at hs'
  cases hs'
  obtain ⟨vs', ep', ln⟩ := own_at t4
  rw [List.length_map] at ln
  refine ⟨p, vs', k, w, rfl, rfl, ep', by rw [ln]; exact lim_lt hn, k0, k1, q σ _ ?_⟩
  have e3 : (insI (xs g) k (a g)).map (dat : α → PyData) = ((xs g).map dat).take k.toNat ++ [dat (a g)] ++ ((xs g).map dat).drop k.toNat := by
    unfold insI
    rw [List.map_append, List.map_append, List.map_take, List.map_drop]
    rfl
  show Top (sep (base E σ ((Γ1 g).set i (mk ((insI (xs g) k (a g)).map dat)))) R) _
  rw [e3]
  have t5 := own_write (σ := σ) (es := ((xs g).map dat).take k.toNat ++ [dat (a g)] ++ ((xs g).map dat).drop k.toNat) (ws := vs'.take k.toNat ++ [w] ++ vs'.drop k.toNat) t4 fun F o vs'' s a e2 r => by
    rw [ep'] at e2
    cases e2
    obtain ⟨_, _, _, _, _, _, ⟨_, _, _, _, _, z, _⟩⟩ := a
    exact ((r.take _).append (.one z)).append (r.drop _)
  exact (t5.ent (back _)).ent (Ent.sepR Ent.right)
/-! repr of a number or None -/
def rReprO : List V → Hp → VK → Prop := fun xs H Q => (xs = [.non] ∧ Q (.str "None") H) ∨ ∃ i : Int, xs = [.int i] ∧ i.natAbs.log2 < 1920 ∧ Q (.str (toString i : String)) H
theorem reprOK {X : Cx} : CallR X (.builtin "repr") rReprO := by
  intro pins s σ H xs us Q I r h
  rcases h with ⟨rfl, q⟩ | ⟨i, rfl, hz, q⟩
  · obtain ⟨u, rfl, rv⟩ := vals1 r
    obtain rfl : u = Value.none := rv
    exact PySem.P.repr_of_none ⟨.str _, H, I.tok _, ⟨_, rfl⟩, q⟩
  · exact SkE.call_repr_int pins s σ H _ us Q I r ⟨i, rfl, hz, q⟩
def reprO : Option Int → Res Str
  | none => .ok "None"
  | some i => reprI i
theorem rn_reprO {Γ : List Cell} {d : Option Int} : RnJ E rReprO [rV (dat d)] Γ (reprO d) (fun _ => Γ) fun s => rV (.str s) := fun σ H R Q vs t q => by
  obtain ⟨x, rfl, t1⟩ := one_arg t
  obtain ⟨F, s, z⟩ := top1 t1
  cases d with
  | none =>
    have e : x = .non := by cases z; rfl
    subst e
    exact .inl ⟨rfl, q _ H (res1 t1 fun F => .str _)⟩
  | some n =>
    obtain ⟨hn, q⟩ := Res.wp_need (show (reprI n).wp _ _ from q)
    have e : x = .int n := by cases z; rfl
    subst e
    exact .inr ⟨n, rfl, hn, q _ H (res1 t1 fun F => .str _)⟩
end
end Lc
/-! Lc: for in a generator def -/
namespace Lc
open PySem L2 PySem.Spec PyProof.Rows GenW
section
variable {prog : Program} {w : World} {A : Around} {R : GenEnd} {Y : Protocol} {n : Nat} {s₀ : Shared} {fs : List Frame} {s : Shared} {env : Env}
def forK (target : Expr) (it : Value) (body : List Stmt) (env : Env) (f : Flow) : Sem PySem.Fin := match f with
  | .next | .cont => .pure (.again (.forLoop target it body [] env))
  | .brk => .pure (.done .next)
  | .ret v => .pure (.done (.ret v))
theorem seg_forLoop {target : Expr} {it : Value} {body : List Stmt}
    (h : wpAny (model prog w) (A.over (.forLoop target it body [] env) fs) (pyNext it) (fun r s1 => match r with
      | none => Seg (model prog w) A R Y n s₀ (.forLoop target it body [] env) (.pure (.again (.block [] env))) fs s1
      | some v => wpAny (model prog w) (A.over (.forLoop target it body [] env) fs) (letOwnedTupleGo target it v) (fun _ s1' => wpAny (model prog w) (A.over (.forLoop target it body [] env) fs) (assign target env v) (fun _ s2 =>
          Seg (model prog w) A R Y n s₀ (.forLoop target it body [] env) ((execs body env).wrap (forK target it body env) (fun e => (do noteFrame e env; theTreesLotGoes e : Sem Unit).wrap (fun _ => .raise e) .raise id id) id id) fs s2)
          (fun x s' => Seg (model prog w) A R Y n s₀ (.forLoop target it body [] env) ((do noteFrame x env; theTreesLotGoes x : Sem Unit).wrap (fun _ => .raise x) .raise id id) fs s') s1')
          (fun x s' => Seg (model prog w) A R Y n s₀ (.forLoop target it body [] env) ((do noteFrame x env; theTreesLotGoes x : Sem Unit).wrap (fun _ => .raise x) .raise id id) fs s') s1)
      (fun x s' => Seg (model prog w) A R Y n s₀ (.forLoop target it body [] env) ((do noteFrame x env; theTreesLotGoes x : Sem Unit).wrap (fun _ => .raise x) .raise id id) fs s') s) :
    Seg (model prog w) A R Y n s₀ (.forLoop target it body [] env) ((model prog w).den (.forLoop target it body [] env)) fs s := by
  have eE : (fun e => ((do noteFrame e env; theTreesLotGoes e : Sem Unit)).bind fun _ => (.raise e : Sem PySem.Fin)) = fun e => (do noteFrame e env; theTreesLotGoes e : Sem Unit).wrap (fun _ => .raise e) .raise id id := by
    funext e
    exact Sem.bind_eq_wrap _ _
  show Seg _ A R Y n s₀ _ ((forTurn target it body [] env).onRaise (fun x => do noteFrame x env; theTreesLotGoes x)) fs s
  rw [Sem.onRaise_eq_wrap, eE]
  unfold forTurn
  refine seg_at ?_
  refine seg_bind_wrap (wpAny_pure ?_)
  refine seg_bind_wrap (wpAny_onRaise (wpAny_mono h (fun r s1 h1 => ?_) fun x s' hx => wpAny_standAt hx))
  cases r with
  | none => exact h1
  | some v =>
    refine seg_bind_wrap (wpAny_mono h1 (fun _ s1' h2 => ?_) fun x s' hx => hx)
    refine seg_bind_wrap (wpAny_mono h2 (fun _ s2 h3 => ?_) fun x s' hx => hx)
    rw [Sem.bind_eq_wrap', Sem.wrap_wrap]
    refine Eq.mp (congrArg (fun t => Seg (model prog w) A R Y n s₀ (.forLoop target it body [] env) t fs s2) (Sem.wrap_congr (execs body env) id id (fun f => ?_) (fun e => ?_))) h3
    · cases f <;> rfl
    · rfl
end
section
variable {X : Cx}
def tGFor (wi : TI) (g : TG) (tb : TGn) : TGn := fun D ys σ H => wi σ H fun J H1 => ∃ W : Nat → Nat → List V → L2.St → Hp → Prop, (∃ m, W 0 m ys σ H1) ∧ ∀ i m ys σ H, W i m ys σ H →
  (J.stop i H ∧ D.nx ys σ H) ∨ (J.go i H ∧ ∃ N : List V → L2.St → Hp → Prop, (∀ ys' σ' H', N ys' σ' H' → ∃ m', m' < m ∧ W (i + 1) m' ys' σ' H') ∧ ∀ x H', J.yld i H x H' → g x σ H' fun σ2 H2 => tb { D with nx := N, ct := N, bk := D.nx } ys σ2 H2)
theorem gs_for {target iter : Expr} {body : List Stmt} {pos : Pos} {wi : TI} {g : TG} {tb : TGn} (hp : PassesOwn (model X.prog X.w) X.A X.env X.xe) (hc : X.calm = true) (hi : PI X target iter wi) (hg : PG X target g) (hb : GSs X body tb)
    (hs : ∀ x, foldedSetIterable iter X.env x = pure x := by intro _; rfl) : GS X (.For target iter body [] pos) (tGFor wi g tb) := by
  refine ⟨fun A S ip R n ys s₀ c fs K J gd lv s σ H D gc hn k hI ht => ?_⟩
  rw [exec_For]
  refine seg_at ?_
  refine seg_bind_wrap (wpAny_pure ?_)
  refine seg_bind_wrap ?_
  rw [gc.over]
  obtain ⟨acc, cc, r, I⟩ := hI
  refine wpAny_mono (hi.run _ s σ H _ I ht) (fun v s1 h1 => ?_) fun x s' hx => k.exc n s₀ x s' hx
  refine seg_bind_wrap (wpAny_of_eq (hs v) ?_)
  refine seg_at ?_
  refine seg_bind_wrap (wpAny_pure ?_)
  refine seg_bind_wrap (wpAny_holding ?_)
  rw [gc.over]
  refine wpAny_mono h1 (fun itv s2 h2 => ?_) fun x s' hx => k.exc n s₀ x s' hx
  obtain ⟨it, fp, tn, Jt, H2, e, I2, T, st2, f2, W, ⟨m0, w0⟩, turn⟩ := h2
  subst e
  have stat : ∀ {H' : Hp}, (∀ b ∈ fp, H' b = none) → ∀ b ∈ fp, FpOk X ((S, lstObj acc cc) :: ip) H' b := fun hn b hb => ⟨hn b hb, (f2 b hb).2⟩
  have fpS : ∀ b ∈ fp, b ≠ S := fun b hb z => (f2 b hb).2.2.2.2.2 (S, lstObj acc cc) (List.mem_append_right _ List.mem_cons_self) z.symm
  have fpI : ∀ p ∈ ip, p.1 ∉ fp := fun p hp hb => (f2 p.1 hb).2.2.2.2.2 p (List.mem_append_right _ (List.mem_cons_of_mem _ hp)) rfl
  have fpP : ∀ p ∈ X.pn, p.1 ∉ fp := fun p hp hb => (f2 p.1 hb).2.2.2.2.2 p (List.mem_append_left _ hp) rfl
  refine seg_call fun p => ?_
  have gl := fun (kk : Result → Sem PySem.Fin) => gc_loop (k := kk) (c' := .forLoop target (.ref it) body [] X.env) (l := lv []) (kp := []) (p := p) gc rfl rfl
  have gl1 := gl (fun r => ((match r with | .ok f => (.pure f : Sem Flow) | .error e => .raise e).onRaise (cameBack X.env)).wrap K J gd lv)
  have loop : ∀ (m i n : Nat) (ys : List V) (s₀ s : Shared) (σ : L2.St) (H : Hp), n + ys.length = sizeLine → W i m ys σ H → GI X S ip ys σ H s → tn i s.heap → (∀ b ∈ fp, H b = none) →
      Seg (model X.prog X.w) A R (GY X S) n s₀ (.forLoop target (.ref it) body [] X.env) ((model X.prog X.w).den (.forLoop target (.ref it) body [] X.env))
        (.ret (fun r => ((match r with | .ok f => (.pure f : Sem Flow) | .error e => .raise e).onRaise (cameBack X.env)).wrap K J gd lv) none (gd false) (lv []) c p [] :: fs) s := by
    intro m
    induction m using Nat.strongRecOn with
    | ind m ih =>
      intro i n ys s₀ s σ H hn w hI st fr
      have ee : ∀ (n : Nat) (s₀ : Shared) (x : Value) (s' : Shared), X.xe x s' → Seg (model X.prog X.w) A R (GY X S) n s₀ (.forLoop target (.ref it) body [] X.env)
          ((do noteFrame x X.env; theTreesLotGoes x : Sem Unit).wrap (fun _ => .raise x) .raise id id)
          (.ret (fun r => ((match r with | .ok f => (.pure f : Sem Flow) | .error e => .raise e).onRaise (cameBack X.env)).wrap K J gd lv) none (gd false) (lv []) c p [] :: fs) s' := fun n s₀ x s' hx => by
        refine seg_wrap ?_
        rw [(gl _).over]
        refine wpAny_bind (wpAny_mono (hp x s' hx) (fun _ s'' hcb => wpAny_theTreesLotGoes ?_) fun y s'' hcb => ?_)
        · exact seg_leaf (.error x) (seg_cameBack gc k hcb)
        · exact seg_leaf (.error y) (seg_cameBack gc k hcb)
      refine seg_forLoop ?_
      rw [(gl _).over]
      obtain ⟨acc, cc, r, I⟩ := hI
      have stat : ∀ {H' : Hp}, (∀ b ∈ fp, H' b = none) → ∀ b ∈ fp, FpOk X ((S, lstObj acc cc) :: ip) H' b := fun hn b hb => by
        obtain ⟨_, a1, a2, a3, a4, a5⟩ := f2 b hb
        refine ⟨hn b hb, a1, a2, a3, a4, fun p hp => ?_⟩
        rcases List.mem_append.mp hp with z | z
        · exact a5 p (List.mem_append_left _ z)
        · rcases List.mem_cons.mp z with z | z
          · rw [z]
            exact Ne.symm (fpS b hb)
          · exact a5 p (List.mem_append_right _ (List.mem_cons_of_mem _ z))
      rcases turn i m ys σ H w with ⟨stop, qn⟩ | ⟨go, N, hN, step⟩
      · refine wpAny_mono (T.done X rfl rfl rfl hc i _ s σ H X.xe I (stat fr) st stop) (fun q s4 hq => ?_) fun x s' hx => ee n s₀ x s' hx
        obtain ⟨hr, I4⟩ := hq
        subst hr
        refine seg_again rfl ?_
        exact seg_leaf (.ok .next) (k.ok n ys s₀ s4 .next hn ⟨σ, H, ⟨acc, cc, r, I4⟩, qn⟩)
      · refine wpAny_mono (T.item X rfl rfl rfl hc i _ s σ H X.xe I (stat fr) st go) (fun q s4 hq => ?_) fun x s' hx => ee n s₀ x s' hx
        obtain ⟨u, hr, h4⟩ := hq
        subst hr
        refine wpAny_mono h4 (fun _ s5 h5 => ?_) fun x s' hx => ee n s₀ x s' hx
        obtain ⟨x, H5, I5, r5, y5, st5, fr5⟩ := h5
        have I5' := I5.pinned (stat fr5) (T.obj _ _ st5)
        refine wpAny_mono (hg.run _ s5 σ H5 x u _ I5' r5 (step x H5 y5)) (fun _ s6 h6 => ?_) fun x s' hx => ee n s₀ x s' hx
        obtain ⟨σ6, H6, I6, q6⟩ := h6
        have hip : ∀ p ∈ ip ++ pinsAt fp s5.heap, p.1 ≠ S := fun p hp => by
          rcases List.mem_append.mp hp with z | z
          · exact gc.ip p z
          · exact fpS p.1 (of_pinsAt z).1
        have back : ∀ {ys' : List V} {σ' : L2.St} {H' : Hp} {s' : Shared}, GI X S (ip ++ pinsAt fp s5.heap) ys' σ' H' s' → GI X S ip ys' σ' H' s' ∧ tn (i + 1) s'.heap ∧ ∀ b ∈ fp, H' b = none := fun {ys' σ' H' s'} h' => by
          obtain ⟨acc', cc', r', I'⟩ := h'
          refine ⟨⟨acc', cc', r', I'.pins_of fun p hp => I'.pin p ?_⟩, T.keep _ _ _ st5 fun b hb o e => (I'.pin (b, o) (List.mem_append_right _ (List.mem_cons_of_mem _ (List.mem_append_right _ (mem_pinsAt hb e))))).1, fun b hb => ?_⟩
          · rcases List.mem_cons.mp hp with z | z
            · rw [z]
              exact List.mem_append_right _ List.mem_cons_self
            · exact List.mem_append_right _ (List.mem_cons_of_mem _ (List.mem_append_left _ z))
          · obtain ⟨o, e, d⟩ := T.obj _ _ st5 b hb
            exact (I'.pin (b, o) (List.mem_append_right _ (List.mem_cons_of_mem _ (List.mem_append_right _ (mem_pinsAt hb e))))).2.1
        refine hb.run A S (ip ++ pinsAt fp s5.heap) R n ys s₀ _ _ _ _ id id s6 σ6 H6 { D with nx := N, ct := N, bk := D.nx } ⟨gl1.pn, hip, gl1.apart, gl1.over, gl1.split, gl1.guard, rfl⟩ hn ⟨fun n' ys' s₀' s7 f hn' hs => ?_, fun n' s₀' x s7 hx => ee n' s₀' x s7 hx⟩ ⟨acc, cc, r, I6⟩ q6
        cases f with
        | next =>
          obtain ⟨σ7, H7, I7, n7⟩ := hs
          obtain ⟨m', hm, w7⟩ := hN ys' σ7 H7 n7
          obtain ⟨b1, b2, b3⟩ := back I7
          exact seg_again rfl (ih m' hm (i + 1) n' ys' s₀' s7 σ7 H7 hn' w7 b1 b2 b3)
        | cont =>
          obtain ⟨σ7, H7, I7, n7⟩ := hs
          obtain ⟨m', hm, w7⟩ := hN ys' σ7 H7 n7
          obtain ⟨b1, b2, b3⟩ := back I7
          exact seg_again rfl (ih m' hm (i + 1) n' ys' s₀' s7 σ7 H7 hn' w7 b1 b2 b3)
        | brk =>
          obtain ⟨σ7, H7, I7, q7⟩ := hs
          exact seg_leaf (.ok .next) (k.ok n' ys' s₀' s7 .next hn' ⟨σ7, H7, (back I7).1, q7⟩)
        | ret v =>
          obtain ⟨x7, σ7, H7, I7, r7, q7⟩ := hs
          exact seg_leaf (.ok (.ret v)) (k.ok n' ys' s₀' s7 (.ret v) hn' ⟨x7, σ7, H7, (back I7).1, r7, q7⟩)
  exact loop m0 0 n ys s₀ s2 σ H2 hn w0 ⟨acc, cc, r, I2⟩ st2 fun b hb => (f2 b hb).1
end
/-! ### a generator def's body, its outs among the state -/
section
open Res
variable {E : Ec} {te ti : TE} {tr : TA} {Γ : List Cell} {α β γ δ ι τ : Type} {t u : TGn} {ts : TS} {wi : TI} {g : TG} {o : List PyData} {Γ' : β → List Cell} {o' : β → List PyData}
def EvGB (E : Ec) (t : TGn) (Γ : List Cell) (o : List PyData) {β : Type} (m : Res β) (Γ' : β → List Cell) (o' : β → List PyData) : Prop :=
  ∀ (σ : L2.St) (H : Hp) (R : Asr) (D : GEnds) (ys : List V), Top (sep (base E σ Γ) (sep (vAs o ys) R)) H → m.wp (fun b => ∀ σ' H' ys', Top (sep (base E σ' (Γ' b)) (sep (vAs (o' b) ys') R)) H' → D.nx ys' σ' H') (fun _ => False) → t D ys σ H
theorem EvGB.is {m : Res β} {Δ : List Cell} {oo : List PyData} (e : Γ = Δ) (eo : o = oo) (h : EvGB E t Δ oo m Γ' o') : EvGB E t Γ o m Γ' o' := e ▸ eo ▸ h
theorem geb_nil {b : β} (l : Le Γ (Γ' b)) (e : o' b = o) : EvGB E tG0 Γ o (.ok b) Γ' o' := fun σ H R D ys t q => q σ H ys (by rw [e]; exact t.ent (Ent.sepL (Ent.sepL l.ent)))
theorem geb_plain {m1 : Res α} {Γ1 : α → List Cell} {m2 : α → Res β} (h : EvS1 E ts Γ m1 Γ1) (k : ∀ a, EvGB E u (Γ1 a) o (m2 a) Γ' o') : EvGB E (tGThen (tPlain ts) u) Γ o (m1.bind m2) Γ' o' := fun σ H R D ys t q =>
  h σ H (sep (vAs o ys) R) _ t (wp_mono (wp_bind.mp q) (fun a _ q σ1 H1 t1 => k a σ1 H1 R D ys t1 q) fun _ x => x.elim)
theorem geb_plainP {Γ1 : List Cell} {m2 : Res β} (h : EvS1 E ts Γ (.ok ()) fun _ => Γ1) (k : EvGB E u Γ1 o m2 Γ' o') : EvGB E (tGThen (tPlain ts) u) Γ o m2 Γ' o' := geb_plain (m2 := fun _ => m2) h fun _ => k
theorem vAs_snoc {F H : Hp} {oo : Addr → Prop} {ds : List PyData} {d : PyData} {vs : List V} {v : V} (h : (vAs ds vs).P F H oo) (k : Rp F v d) : (vAs (ds ++ [d]) (vs ++ [v])).P F H oo := RpAll.append h (.one k)
theorem geb_yield {m1 : Res α} {Γ1 : α → List Cell} {c : α → RC} {d : α → PyData} {m2 : α → Res β} (h : EvJ E te Γ m1 Γ1 c) (f : ∀ a, Fz (c a) (d a)) (k : ∀ a, EvGB E u (Γ1 a) (o ++ [d a]) (m2 a) Γ' o') :
    EvGB E (tGThen (tGYield te) u) Γ o (need (o.length < lim) (m1.bind m2)) Γ' o' := fun σ H R D ys t q => by
  obtain ⟨hn, q⟩ := wp_need q
  have ln : ys.length = o.length := t.fact fun F H' s ⟨_, _, _, _, _, _, ⟨_, _, _, _, _, z, _⟩⟩ => (show RpAll F ys o from z).len
  refine ⟨by rw [ln]; exact lim_lt hn, h σ H (sep (vAs o ys) R) _ t (wp_mono (wp_bind.mp q) (fun a _ q v H1 t1 => ?_) fun _ x => x.elim)⟩
  have t2 : Top (sep (base E σ (Γ1 a)) (sep (vA (d a) v) (sep (vAs o ys) R))) H1 := (f a σ v _ H1 (t1.ent frontE)).ent frontE
  refine k a σ H1 R D (ys ++ [v]) (t2.ent (Ent.sepR fun F H o2 s ⟨o3, o4, h3, h4, e, a1, o5, o6, h5, h6, e2, a2, r⟩ => ?_)) q
  exact ⟨o5, o6, fun q z => h4 q (h5 q z), fun q z => h4 q (h6 q z), e2, vAs_snoc a2 a1, r⟩
/-- a for that only goes on -/
theorem geb_for [Dat α] {mi : Res ι} {Γ0 : ι → List Cell} {xs : ι → List α} {Kp : ι → List Cell → Prop} {Γs : τ → List Cell} {os : τ → List PyData} {Γt : τ → α → List Cell} {s0 : ι → τ} {f : τ → α → Res τ} {m2 : τ → Res β} {tb : TGn}
    (hi : EvI E wi Γ mi Γ0 (fun a => (xs a).map dat) Kp) (hk : ∀ a s, Kp a (Γs s)) (h0 : ∀ a, Le (Γ0 a) (Γs (s0 a))) (h1 : ∀ a, os (s0 a) = o) {ix : List Nat} (hg : ∀ s x, EvG E g (dat x) (Γs s) (Γt s x) ix) (hb : ∀ s x, EvGB E tb (Γt s x) (os s) (f s x) Γs os)
    (k : ∀ s, EvGB E u (Γs s) (os s) (m2 s) Γ' o') :
    EvGB E (tGThen (tGFor wi g tb) u) Γ o ((mi.bind fun a => foldR (xs a) (s0 a) f).bind m2) Γ' o' := fun σ H R D ys t q => by
  refine hi σ H (sep (vAs o ys) R) _ t (wp_mono (wp_bind.mp (wp_bind.mp q)) (fun a _ q J H1 B hJ t1 => ?_) fun _ x => x.elim)
  have t1' : Top (sep (base E σ (Γs (s0 a))) (sep (vAs (os (s0 a)) ys) (sep B R))) H1 := by
    rw [h1 a]
    exact (t1.ent (Ent.sepL (Ent.sepL (h0 a).ent))).ent (Ent.sepR (Ent.assoc'.trans ((Ent.sepL Ent.comm).trans Ent.assoc)))
  refine ⟨fun i mm ys' σ' H' => mm = (xs a).length - i ∧ i ≤ (xs a).length ∧ ∃ s, Top (sep (base E σ' (Γs s)) (sep (vAs (os s) ys') (sep B R))) H' ∧ (foldR ((xs a).drop i) s f).wp (fun b => (m2 b).wp (fun b => ∀ σ' H' ys', Top (sep (base E σ' (Γ' b)) (sep (vAs (o' b) ys') R)) H' → D.nx ys' σ' H') (fun _ => False)) (fun _ => False),
    ⟨_, rfl, Nat.zero_le _, s0 a, t1', q⟩, ?_⟩
  rintro i mm ys' σ' H' ⟨rfl, hle, s, t2, q2⟩
  have ok := hJ σ' (Γs s) (hk a s)
  have t2' : Top (sep (sep (base E σ' (Γs s)) B) (sep (vAs (os s) ys') R)) H' := t2.ent ((Ent.sepR (Ent.assoc'.trans ((Ent.sepL Ent.comm).trans Ent.assoc))).trans Ent.assoc')
  by_cases hlt : i < (xs a).length
  · refine .inr ⟨ok.goes i H' _ (by rw [List.length_map]; exact hlt) t2', ?_⟩
    have ed : (xs a).drop i = (xs a)[i] :: (xs a).drop (i + 1) := List.drop_eq_getElem_cons hlt
    rw [ed] at q2
    refine ⟨fun ys2 σ2 H2 => ∃ s', Top (sep (base E σ2 (Γs s')) (sep (vAs (os s') ys2) (sep B R))) H2 ∧ (foldR ((xs a).drop (i + 1)) s' f).wp (fun b => (m2 b).wp (fun b => ∀ σ' H' ys', Top (sep (base E σ' (Γ' b)) (sep (vAs (o' b) ys') R)) H' → D.nx ys' σ' H') (fun _ => False)) (fun _ => False),
      fun ys2 σ2 H2 ⟨s', t3, q3⟩ => ⟨_, by omega, rfl, hlt, s', t3, q3⟩, fun x H2 hy => ?_⟩
    have t3 := ok.yields i (dat (xs a)[i]) H' x H2 _ (by simp [hlt]) t2' hy
    have t4 : Top (sep (base E σ' (Γs s)) (sep (vA (dat (xs a)[i]) x) (sep (vAs (os s) ys') (sep B R)))) H2 := ((t3.ent (Ent.sepR Ent.assoc)).ent frontE).ent (Ent.sepR (Ent.sepR (Ent.assoc'.trans ((Ent.sepL Ent.comm).trans Ent.assoc))))
    refine hg s (xs a)[i] σ' H2 _ _ x t4 fun σ3 H3 _ t5 => ?_
    exact hb s (xs a)[i] σ3 H3 (sep B R) _ ys' t5 (wp_mono (wp_bind.mp q2) (fun s' _ q3 σ4 H4 ys4 t6 => ⟨s', t6, q3⟩) fun _ x => x)
  · have e : i = (xs a).length := by omega
    subst e
    rw [List.drop_length] at q2
    have z := ok.stops H' _ t2'
    rw [List.length_map] at z
    refine .inl ⟨z, ?_⟩
    exact k s σ' H' R D ys' (t2.ent (Ent.sepR (Ent.sepR Ent.right))) q2
/-! the def's promise, its list -/
def SpG0 {α β : Type} (ps : α → List PP) (m : α → Res β) (o : β → List PyData) : SpG := fun vs H Q E => ∃ (x : α) (C : Asr), Top C H ∧ (∀ F H o, Same F H → C.P F H o → parOk (ps x) vs F H) ∧
  (m x).wp (fun b => ∀ ys H', Top (sep C (vAs (o b) ys)) H' → Q ys H') fun _ => False
theorem spg_go {ps : α → List PP} {m : α → Res β} {o : β → List PyData} {vs : List V} {H : Hp} {Q : List V → Hp → Prop} {Ex : XK} {G : Prop} (h : SpG0 ps m o vs H Q Ex)
    (k : ∀ (x : α) (C : Asr), Top C H → (∀ F H o, Same F H → C.P F H o → parOk (ps x) vs F H) → WP (m x) (fun b => ∀ ys H', Top (sep C (vAs (o b) ys)) H' → Q ys H') (fun _ => False) → G) : G := by
  obtain ⟨x, C, h1, h2, h3⟩ := h
  exact k x C h1 h2 ⟨h3⟩
theorem finG {K : PySem.W.Frag} {Ex : XK} {ec : Nat → Value} {C : Asr} {Q : List V → Hp → Prop} {H : Hp} {σ : L2.St} {t : TGn} {m : Res β} {Γ0 : List Cell} {Γr : β → List Cell} {o : β → List PyData} (hT : Top C H) (hin : ∀ F o, Same F H → C.P F H o → allP F H σ Γ0)
    (hw : WP m (fun b => ∀ ys H', Top (sep C (vAs (o b) ys)) H' → Q ys H') (fun _ => False)) (hb : EvGB (Ecf K Ex ec C) t Γ0 [] m Γr o) : t { nx := fun ys _ H' => Q ys H', rt := fun ys v H' => v = .non ∧ Q ys H' } [] σ H := by
  obtain ⟨F, oo, s, k, p⟩ := hT
  refine hb σ H emp _ [] ⟨F, oo, s, k, ?_⟩ (wp_mono hw.wp (fun b _ q σ' H' ys' t' => q ys' H' (t'.ent (Ent.sep Ent.right Ent.left))) fun _ x => x)
  exact Ent.comm F H oo s (sep_pers (A := sep (vAs [] []) emp) (fun w => sep_pers (fun _ => RpAll.nil) trivial) (sep_pers (fun w => sl_all w (hin F oo s p)) p))
theorem FunG.okGen {P : Program} {w : World} {K : PySem.W.Frag} {mg : Str → Option Value} {base : Heap} {x qual : Str} {st : Stmt} {f : Addr} {fd : FuncData} {N ps : List Str} {k : Nat} {sp : SpG} (F : FunG K x qual st f fd) (S : GScope N ps (defScope st)) (len : ∀ vs H Q E, sp vs H Q E → vs.length = ps.length)
    (hbody : ∀ (cdv : Value) (A : Around) (outer : List Env) (s : Shared) (H : Hp) (vs : List V) (Q : List V → Hp → Prop) (E : XK) (pn : List (Addr × Obj)), RoomG False k (A.deeper (envOfC qual (defScope st) s.heap.objs.size f cdv)) → sp vs H Q E →
      ∃ t, GSs (gcxOf P w K mg base N qual (defScope st) f cdv A outer s H E pn) (defBody st) t ∧ t { nx := fun ys _ H' => Q ys H', rt := fun ys v H' => v = .non ∧ Q ys H' } [] (start N vs) H) : GFn P w K mg base (k + 1) f fd ps sp := by
  obtain ⟨oc, od, dV, kV, doc, pm, an, cdv, ct, osl, rfl, lk, hcd⟩ := F.ex
  exact gfn_of lk hcd S len fun A outer s H vs Q E pn hr hsp => hbody cdv A outer s H vs Q E pn ⟨hr, fun h => h.elim⟩ hsp
/-- list(g(e, ..)) -/
theorem pe_listGen {X : Cx} {k : Nat} {f : Addr} {fd : FuncData} {ps : List Str} {sp : SpG} {x : Str} {p p2 pos pos' : Pos} {e : Expr} {es : List Expr} {t : TA} (F : GFn X.prog X.w X.K X.mg X.base k f fd ps sp) (hr : Room (k + 3) X.A) (hg : Gl X x) (hm : X.mg x = some (.ref f)) (hk : PySem.W.keepIn X.K (.ref f) = true) (hb : Binds X.K fd ps [])
    (ha : PA X (e :: es) t) (hgl : Gl X "list") (hml : X.mg "list" = none) (hdb : (x == ("__debug__" : Str)) = false := by decide) (he : starEach (e :: es) X.env = (false, eval e X.env) :: starEach es X.env := by rfl) (hpl : (backTo pos' (starEach es X.env)).any (·.1) = false := by rfl)
    (he2 : starEach [Expr.Call (.Name x p2) (e :: es) [] pos'] X.env = (false, eval (Expr.Call (.Name x p2) (e :: es) [] pos') X.env) :: starEach [] X.env := by rfl) :
    PE X (.Call (.Name "list" p) [.Call (.Name x p2) (e :: es) [] pos'] [] pos) (tListG (tCallG sp [] (fun _ _ _ => False) t)) :=
  pe_listG (pgen_call F (hr.mono (by omega)) hg hm hk hb .nil ha hdb he hpl) (fun pins σ H s e s' I ⟨_, _, _, _, _, _, _, _, _, _, _, _, z⟩ => z.elim) (fun _ _ _ z => z.elim) hr hgl hml (by decide +kernel) (by decide +kernel) (by decide +kernel) he2
theorem ev_listGen {ma : Res δ} {Γ1 : δ → List Cell} {cs : δ → List RC} {ps : α → List PP} {m : α → Res β} {o : β → List PyData} {Ex : XK} (x : δ → α) (h : EvA E tr Γ ma Γ1 cs) (hp : ∀ a, Pars E (Γ1 a) K0 (cs a) (ps (x a))) :
    EvJ E (tListG (tCallG (SpG0 ps m o) [] Ex tr)) Γ (ma.bind fun a => (noErr (m (x a))).bind fun b => .ok (a, b)) (fun p => Γ1 p.1) fun p => rO (o p.2) := fun σ H R Q t q =>
  h σ H R _ t (wp_mono (wp_bind.mp q) (fun a _ q1 vs H1 t1 => by
    show SpG0 ps m o (vs ++ []) H1 _ Ex
    rw [List.append_nil]
    refine ⟨x a, _, t1, fun F H o s h => hp a σ vs F H o trivial s (Ent.sepR Ent.left F H o s h), wp_mono (wp_noErr (wp_bind.mp q1)) (fun b _ q2 ys H' t' p hp => q2 _ _ ?_) fun _ x => x⟩
    have t2 : Top (sep (base E σ (Γ1 a)) (sep (vAs (o b) ys) R)) H' := t'.ent (Ent.assoc.trans (Ent.sepR ((Ent.sepL Ent.right).trans Ent.comm)))
    exact (newL t2 hp fun F o' s z => as_of F o' s z).ent (Ent.sepR (Ent.sepR Ent.right))) fun _ z => z)
end
end Lc
/-! Lc: a list given up to a call; any value -/
namespace Lc
open PySem L2
section
variable {E : Ec} {te : TE} {tr : TA} {t : TS} {Γ : List Cell} {α β γ δ : Type} {A B C R : Asr} {H : Hp} {i j : Nat}
open Res
/-! ### one list is changed in place, another one is given up -/
def Sp1d (ec : Nat → Value) {α β : Type} (ps : Addr → Addr → α → List PP) (i0 j0 : α → List PyData) (m : α → Res β) (i1 : β → List PyData) (c : β → V → Asr) : Sp := fun vs H Q E => ∃ (p q : Addr) (x : α) (C : Asr), Top (sep (sep C (oA q (j0 x))) (oA p (i0 x))) H ∧
  (∀ F H o, Same F H → C.P F H o → parOk (ps p q x) vs F H) ∧ (m x).wp (fun b => ∀ v H', Top (sep C (sep (oA p (i1 b)) (c b v))) H' → Q v H') fun _ => False
theorem sp1d_go {ec : Nat → Value} {ps : Addr → Addr → α → List PP} {i0 j0 : α → List PyData} {m : α → Res β} {i1 : β → List PyData} {c : β → V → Asr} {vs : List V} {Q : VK} {X : XK} {G : Prop} (h : Sp1d ec ps i0 j0 m i1 c vs H Q X)
    (k : ∀ (p q : Addr) (x : α) (C : Asr), Top (sep (sep C (oA q (j0 x))) (oA p (i0 x))) H → (∀ F H o, Same F H → C.P F H o → parOk (ps p q x) vs F H) → WP (m x) (fun b => ∀ v H', Top (sep C (sep (oA p (i1 b)) (c b v))) H' → Q v H') (fun _ => False) → G) : G := by
  obtain ⟨p, q, x, C, h1, h2, h3⟩ := h
  exact k p q x C h1 h2 ⟨h3⟩
abbrev K2 (i : Nat) (p : Addr) (j : Nat) (q : Addr) : L2.St → Prop := fun σ => σ[i]? = some (some (.ref p)) ∧ σ[j]? = some (some (.ref q))
theorem pa_at1 {p q : Addr} : PArg E Γ (K2 i p j q) (rS i) (ppAt p) := fun σ w F H o kn s x => pa_at σ w F H o kn.1 s x
theorem pa_at2 {p q : Addr} : PArg E Γ (K2 i p j q) (rS j) (ppAt q) := fun σ w F H o kn s x => pa_at σ w F H o kn.2 s x
theorem evp_callS1d {mk mk' : List PyData → Cell} {cs : List RC} {ps : Addr → Addr → α → List PP} {i0 j0 : α → List PyData} {m : α → Res β} {i1 : β → List PyData} {cb : β → V → Asr} (x : α) (hk : OwnC mk) (hk' : OwnC mk') (h : EvAP E tr Γ cs) (hij : i ≠ j)
    (hi : Γ[i]? = some (mk (i0 x))) (hj : Γ[j]? = some (mk' (j0 x))) (hp : ∀ p q, Pars E ((Γ.set j cAny).set i cAny) (K2 i p j q) cs (ps p q x)) :
    EvJ E (tCallS (Sp1d E.ec ps i0 j0 m i1 cb) (WE E.W) tr) Γ (noErr (m x)) (fun b => (Γ.set j cAny).set i (mk (i1 b))) (fun b _ => cb b) := fun σ H R Q t0 q =>
  h σ H R _ t0 fun vs H1 t1 => by
    obtain ⟨b, hsj, t2, _⟩ := take_own hk' hj t1
    have hi' : (Γ.set j cAny)[i]? = some (mk (i0 x)) := by rw [List.getElem?_set_ne (Ne.symm hij)]; exact hi
    obtain ⟨a, hsi, t3, _⟩ := take_own hk hi' (t2.ent Ent.assoc)
    obtain ⟨a', hsi', _, back⟩ := take_own hk hi' (t2.ent Ent.left)
    have e : a' = a := by
      rw [hsi] at hsi'
      cases hsi'
      rfl
    subst e
    refine ⟨a', b, x, _, t3.ent (Ent.sepL Ent.assoc'), fun F H o s z => hp a' b σ vs F H o ⟨hsi, hsj⟩ s (Ent.sepR Ent.left F H o s z), ?_⟩
    cases hm : m x with
    | ok r =>
      rw [hm] at q
      intro v H' t'
      exact q v H' (((t'.ent Ent.assoc').ent (Ent.sepL (back (i1 r)))).ent (Ent.assoc.trans (Ent.sepR ((Ent.sepL Ent.right).trans Ent.comm))))
    | err k =>
      rw [hm] at q
      exact q
    | bad =>
      rw [hm] at q
      exact q
end
section
open Res
variable {K : PySem.W.Frag} {ec : Nat → Value} {C : Asr} {Q : VK} {Ex : XK} {H : Hp} {σ : L2.St} {t : TS} {β : Type} {m : Res β} {c : β → V → Asr} {Γr : β → List Cell}
theorem fin1d {p q : Addr} {i j : Nat} {i0 j0 : List PyData} {i1 : β → List PyData} {Γ : List Cell} {Er : Nat → Prop} (hT : Top (sep (sep C (oA q j0)) (oA p i0)) H) (hi : i < Γ.length) (hj : j < Γ.length) (hij : i ≠ j) (hs : σ[i]? = some (some (.ref p))) (ht : σ[j]? = some (some (.ref q)))
    (hin : ∀ F o, Same F H → C.P F H o → allP F H σ ((Γ.set i cAny).set j cAny)) (hr : ∀ b, (Γr b)[i]? = some (cAt p (i1 b)))
    (hw : WP (noErr m) (fun b => ∀ v H', Top (sep C (sep (oA p (i1 b)) (c b v))) H' → Q v H') Er)
    (hb : EvS (Ecf K Ex ec C) t ((Γ.set j (cAt q j0)).set i (cAt p i0)) m fun b => .rt (Γr b) fun _ => c b) : t { nx := fun _ H' => Q .non H', rt := Q } σ H := by
  obtain ⟨F, o, s, k, o1, o2, h1, h2, d, ⟨o3, o4, h3, h4, d', pc, pq⟩, po⟩ := hT
  have hw := hw.wp
  refine hb σ H emp _ ⟨F, o, s, k, ?_⟩ (wp_noErr (wp_mono hw (fun b _ q σ' v H' t' => q v H' ((t'.ent (at_out (hr b))).ent (Ent.sepR (Ent.sepR Ent.left)))) fun k q => q))
  have a1 : (sl σ ((Γ.set i cAny).set j (cAt q j0))).P F H o4 := at_in (by rw [List.length_set]; exact hj) ht (hin F o3 s pc) pq
  rw [List.set_comm _ _ hij] at a1
  have a2 : (sl σ ((Γ.set j (cAt q j0)).set i (cAt p i0))).P F H fun z => o2 z ∨ o4 z :=
    sl_put (by rw [List.length_set]; exact hi) hs ⟨o2, o4, fun _ z => .inl z, fun _ z => .inr z, fun z w v => d z (h4 z v) w, sep_pers (fun _ => rfl) po, a1⟩
  exact Ent.comm F H o s (sep_pers (A := emp) (fun _ => trivial) ⟨fun z => o2 z ∨ o4 z, o3, fun z w => w.elim (h2 z) fun w => h1 z (h4 z w), fun z w => h1 z (h3 z w), fun z w v => w.elim (fun w => d z (h3 z v) w) (fun w => d' z v w), a2, pc⟩)
end
/-! ### tests of any value, an or parted -/
section
open Res
variable {E : Ec} {te tf : TE} {Γ : List Cell} {i : Nat} {d : PyData}
theorem etp_orF {tt tu : TT} {b : Bool} (h : EvTP E tt Γ false) (h2 : EvTP E tu Γ b) : EvTP E (tOr tt tu) Γ b := etp_or h h2
theorem ev_isV {n : String} {b : Bool} (hi : Γ[i]? = some (cV d)) (hk : PySem.W.kitOne E.K (.type (tyName d)) (.type n) = some b) : EvP E (tIsi E.K (tVar i) n) Γ (rV (.bool b)) := evp_cb (eap_cons (ev_var hi) (eap_cons ev_ty eap_nil)) (rn_isi hk)
/-- one is a bool, or no int, or out of a range -/
theorem et_noint {a b : Int} (hi : Γ[i]? = some (cV d)) (h3 : EvP E te Γ (rV (.int a))) (h4 : EvP E tf Γ (rV (.int b))) :
    EvTP E (tOr (tB (tIsi E.K (tVar i) "bool")) (tOr (tNot (tB (tIsi E.K (tVar i) "int"))) (tOr (tB (tOp (rI0 fun i j => .bl (decide (i < j))) (tVar i) te)) (tB (tOp (rI0 fun i j => .bl (decide (j < i))) (tVar i) tf))))) Γ (!(isIntD d a b)) := by
  have no : ∀ {n : String} {b : Bool}, PySem.W.kitOne E.K (.type (tyName d)) (.type n) = some b → EvTP E (tB (tIsi E.K (tVar i) n)) Γ b := fun {n b} hk => et_val (b := fun _ => b) (ev_isV hi hk)
  cases d with
  | int n =>
    have h1 : EvP E (tVar i) Γ (rV (.int n)) := ev_var hi
    have q := etp_or (no (kit_ty (show kitB "int" "bool" = some false by decide +kernel))) (etp_or (etp_not (no (kit_ty (show kitB "int" "int" = some true by decide +kernel))))
      (etp_or (et_val (b := fun _ => decide (n < a)) (evp_op h1 h3 (r2_B0 (g := fun i j => decide (i < j))))) (et_val (b := fun _ => decide (b < n)) (evp_op h1 h4 (r2_B0 (g := fun i j => decide (j < i)))))))
    have e : (false || (!true || (decide (n < a) || decide (b < n)))) = !(isIntD (.int n) a b) := by
      unfold isIntD
      by_cases h : a ≤ n <;> by_cases h' : n ≤ b <;> simp [h, h'] <;> omega
    rw [← e]
    exact q
  | bool n => exact etp_orT (no (kit_ty (show kitB "bool" "bool" = some true by decide +kernel)))
  | none => exact etp_orF (no (kit_ty (show kitB "NoneType" "bool" = some false by decide +kernel))) (etp_orT (etp_not (no (kit_ty (show kitB "NoneType" "int" = some false by decide +kernel)))))
  | str z => exact etp_orF (no (kit_ty (show kitB "str" "bool" = some false by decide +kernel))) (etp_orT (etp_not (no (kit_ty (show kitB "str" "int" = some false by decide +kernel)))))
  | list z => exact etp_orF (no (kit_ty (show kitB "list" "bool" = some false by decide +kernel))) (etp_orT (etp_not (no (kit_ty (show kitB "list" "int" = some false by decide +kernel)))))
  | tuple z => exact etp_orF (no (kit_ty (show kitB "tuple" "bool" = some false by decide +kernel))) (etp_orT (etp_not (no (kit_ty (show kitB "tuple" "int" = some false by decide +kernel)))))
  | dict z => exact etp_orF (no (kit_ty (show kitB "dict" "bool" = some false by decide +kernel))) (etp_orT (etp_not (no (kit_ty (show kitB "dict" "int" = some false by decide +kernel)))))
/-- {} as a value -/
theorem ev_dict0 : EvP E tDNewK Γ (rV (.dict [])) := fun σ H R Q t q p hp => q _ _ ((Top.allocF (d := .dict []) t hp fun F o s fp a => .dk0 upd_same).ent ((Ent.assoc'.trans (Ent.sepL Ent.comm)).trans Ent.assoc))
theorem rn_reprX {cx : RC} (h : PArg E Γ K0 cx (ppD E.K d)) : RnJ E (rRepr E.K) [cx] Γ (reprR d) (fun _ => Γ) fun s => rV (.str s) := fun σ H R Q vs t q => by
  obtain ⟨ho, q⟩ := wp_need q
  obtain ⟨x, rfl, t1⟩ := one_arg t
  obtain ⟨_, _, z⟩ := par1 h t1
  exact ⟨x, d, rfl, z, ho, q _ H (res1 t1 fun F => .str _)⟩
/-- if a or b: t, parted; t does not go on -/
theorem es_ifOr {tt tu : TT} {t u : TS} {β : Type} {m : Res β} {post : β → Fin} (ht : ∀ (D : Ends) (A : L2.St → Hp → Prop) (σ : L2.St) (H : Hp), t { D with nx := A } σ H = t D σ H)
    (h : EvS E (tSeq (tIfS tt t tNext) (tSeq (tIfS tu t tNext) u)) Γ m post) : EvS E (tSeq (tIfS (tOr tt tu) t tNext) u) Γ m post := fun σ H R D t0 q => by
  have z := h σ H R D t0 q
  simp only [tSeq, tIfS, tOr, tNext, ht] at z ⊢
  simpa using z
end
/-! ### for x in [a, b] + xs: a, b lists of one's own, read while the loop runs -/
section
open Res
variable {E : Ec} {Γ : List Cell} {tb : TS} {ρ : Type}
theorem pa_alias {p : Addr} {ds : List PyData} {i j : Nat} {Kn : L2.St → Prop} (hi : Γ[i]? = some (cAt p ds)) (hj : Γ[j]? = some (cIs (.ref p))) : PArg E Γ Kn (rS j) (ppL ds) := fun σ v F H o kn s ⟨o1, o2, h1, h2, d, ⟨o3, o4, h3, h4, d', a, b⟩, x⟩ => by
  obtain ⟨y, ey, hy⟩ := sl_get hj a
  have e1 : y = some (.ref p) := hy
  have e2 : σ[j]? = some (some v) := x
  rw [ey, e1] at e2
  cases e2
  obtain ⟨_, _, _, _, _, _, _, _, ⟨_, vs, e, r⟩⟩ := sl_get hi a
  exact ⟨p, vs, rfl, e, r⟩
theorem some_dd {mk : List PyData → Cell} {ds : List PyData} {x : Option Cell} (h : x = some (mk ds)) : x = some (mk (ds.map dat)) := by
  rw [map_datId]
  exact h
theorem sto_is {w : V} : Sto (fun _ v => pur (v = w)) (cIs w) := fun σ v A H t => t.ent (Ent.sepL fun F H o s e => congrArg some (show v = w from e))
theorem es_forXs {p q : Addr} {d1 d2 ds3 : List PyData} {i1 i2 i3 j : Nat} {f : PyData → Res (Lp Unit ρ)} {post : ρ → Fin} (h1 : Γ[i1]? = some (cAt p d1)) (h2 : Γ[i2]? = some (cAt q d2)) (h3 : Γ[i3]? = some (cO ds3)) (hj : j < Γ.length)
    (hV : ∀ d, EvS E tb (Γ.set j (cV d)) (f d) (Lp.post (fun _ => Γ.set j cAny) post)) (hA : EvS E tb (Γ.set j (cIs (.ref p))) (f (.list d1)) (Lp.post (fun _ => Γ.set j cAny) post)) (hB : EvS E tb (Γ.set j (cIs (.ref q))) (f (.list d2)) (Lp.post (fun _ => Γ.set j cAny) post))
    (hp : ∀ r, (∀ Γ, post r ≠ .bk Γ) ∧ (∀ Γ, post r ≠ .ct Γ) ∧ ∀ Γ, post r ≠ .lp Γ) :
    EvS E (tFor (iList E.K (tOp rCat (tLst (tCons (tVar i1) (tCons (tVar i2) tNil))) (tVar i3))) (gName j) tb) Γ (need (2 + ds3.length ≤ lim) (forR (.list d1 :: .list d2 :: ds3) () fun _ d => f d)) (Jn.post (fun _ => Γ.set j cAny) post) := fun σ H R D t q0 => by
  obtain ⟨hn, q0⟩ := wp_need q0
  have s1 : σ[i1]? = some (some (.ref p)) := t.fact fun F o s ⟨_, _, _, _, _, ⟨_, _, _, _, _, a, _⟩, _⟩ => by
    obtain ⟨x, ex, _, _, _, _, _, e, _⟩ := sl_get h1 a
    rw [ex, show x = some (.ref p) from e]
  have s2 : σ[i2]? = some (some (.ref q)) := t.fact fun F o s ⟨_, _, _, _, _, ⟨_, _, _, _, _, a, _⟩, _⟩ => by
    obtain ⟨x, ex, _, _, _, _, _, e, _⟩ := sl_get h2 a
    rw [ex, show x = some (.ref q) from e]
  obtain ⟨b, ovs, s3, eb, t0⟩ : ∃ b ovs, σ[i3]? = some (some (.ref b)) ∧ H b = some (.lst ovs) ∧ Top (sep (base E σ Γ) (sep (vAs ds3 ovs) R)) H := by
    obtain ⟨F, o, s, k, P⟩ := t
    have P' := P
    obtain ⟨_, _, _, _, _, ⟨_, _, _, _, _, a, _⟩, _⟩ := P'
    obtain ⟨x, ex, hx⟩ := sl_get h3 a
    cases x with
    | none => exact (show False from hx).elim
    | some v =>
      obtain ⟨b, rfl, _, ovs, eb, rb⟩ := hx
      exact ⟨b, ovs, ex, eb, Top.ent ⟨F, o, s, k, sep_pers (A := vAs ds3 ovs) (fun _ => rb) P⟩ frontE⟩
  have lo : ovs.length = ds3.length := t0.fact fun F o s ⟨_, _, _, _, _, _, ⟨_, _, _, _, _, z, _⟩⟩ => RpAll.len z
  refine ⟨.ref p, s1, .ref q, s2, by show 2 ≤ sizeLine; decide, fun l hl => ⟨.ref b, s3, l, b, [.ref p, .ref q], ovs, rfl, rfl, upd_same, ?_, ?_, fun r hr => ?_⟩⟩
  · rw [upd_ne (fun z => by rw [z, hl] at eb; cases eb)]
    exact eb
  · show 2 + ovs.length ≤ sizeLine
    rw [lo]
    exact lim_le hn
  have t1 := (Top.allocN ((Top.allocN (vs := [.ref p, .ref q]) t0 hl).ent Ent.right) hr (vs := [V.ref p, V.ref q] ++ ovs)).ent frontE
  generalize upd (upd H l (.lst [.ref p, .ref q])) r (.lst ([V.ref p, V.ref q] ++ ovs)) = H1 at t1
  have ep0 : ∀ {H' : Hp} {σ' : L2.St}, Top (sep (base E σ' (Γ.set j cAny)) (sep (lA r ([V.ref p, V.ref q] ++ ovs)) (sep (vAs ds3 ovs) R))) H' → H' r = some (.lst ([V.ref p, V.ref q] ++ ovs)) := fun {H' σ'} t2 => t2.fact fun F o s ⟨_, _, _, _, _, _, ⟨_, _, _, _, _, ⟨_, z⟩, _⟩⟩ => z
  have t1' := t1.ent (Ent.sepL (Ent.sepL (le_any _ j).ent))
  refine ⟨r, rfl, ⟨_, SqL.of (ep0 t1')⟩, fun n mm σ' H' => mm = (ds3.length + 2) - n ∧ n ≤ ds3.length + 2 ∧ Top (sep (base E σ' (Γ.set j cAny)) (sep (lA r ([V.ref p, V.ref q] ++ ovs)) (sep (vAs ds3 ovs) R))) H' ∧
    (forR ((PyData.list d1 :: PyData.list d2 :: ds3).drop n) () fun _ d => f d).wp (fun b => (Jn.post (fun _ => Γ.set j cAny) post b).ok E R D) (ExnS E R), ⟨_, rfl, Nat.zero_le _, t1', q0⟩, ?_⟩
  rintro n mm σ' H' ⟨rfl, hle, t2, q2⟩
  have ep' := ep0 t2
  by_cases hlt : n < ds3.length + 2
  · have hv : n < ([V.ref p, V.ref q] ++ ovs : List V).length := by simp [lo]; omega
    have hd : n < (PyData.list d1 :: .list d2 :: ds3).length := by simp; omega
    refine .inr ⟨⟨_, ([V.ref p, V.ref q] ++ ovs : List V)[n], SqL.of ep', by rw [List.getElem?_eq_getElem hv]⟩, ?_⟩
    have ed : (PyData.list d1 :: .list d2 :: ds3).drop n = (PyData.list d1 :: .list d2 :: ds3)[n] :: (PyData.list d1 :: .list d2 :: ds3).drop (n + 1) := List.drop_eq_getElem_cons hd
    rw [ed] at q2
    refine ⟨fun σ2 H2 => Top (sep (base E σ2 (Γ.set j cAny)) (sep (lA r ([V.ref p, V.ref q] ++ ovs)) (sep (vAs ds3 ovs) R))) H2 ∧ (forR ((PyData.list d1 :: PyData.list d2 :: ds3).drop (n + 1)) () fun _ d => f d).wp (fun b => (Jn.post (fun _ => Γ.set j cAny) post b).ok E R D) (ExnS E R),
      fun σ2 H2 ⟨t3, q3⟩ => ⟨_, by omega, rfl, hlt, t3, q3⟩, fun x H2 hy => ?_⟩
    obtain ⟨rfl, hy⟩ := hy
    have ex := hy _ (SqL.of ep')
    rw [List.getElem?_eq_getElem hv] at ex
    cases ex
    have step : ∀ (d : PyData) (v : V) (cl : Cell), (PyData.list d1 :: .list d2 :: ds3)[n] = d → EvS E tb (Γ.set j cl) (f d) (Lp.post (fun _ => Γ.set j cAny) post) → Top (sep (base E (σ'.set j (some v)) (Γ.set j cl)) (sep (lA r ([V.ref p, V.ref q] ++ ovs)) (sep (vAs ds3 ovs) R))) H2 →
        tb { D with
          nx := fun σ2 H2 => Top (sep (base E σ2 (Γ.set j cAny)) (sep (lA r ([V.ref p, V.ref q] ++ ovs)) (sep (vAs ds3 ovs) R))) H2 ∧ (forR ((PyData.list d1 :: PyData.list d2 :: ds3).drop (n + 1)) () fun _ d => f d).wp (fun b => (Jn.post (fun _ => Γ.set j cAny) post b).ok E R D) (ExnS E R)
          bk := D.nx
          ct := fun σ2 H2 => Top (sep (base E σ2 (Γ.set j cAny)) (sep (lA r ([V.ref p, V.ref q] ++ ovs)) (sep (vAs ds3 ovs) R))) H2 ∧ (forR ((PyData.list d1 :: PyData.list d2 :: ds3).drop (n + 1)) () fun _ d => f d).wp (fun b => (Jn.post (fun _ => Γ.set j cAny) post b).ok E R D) (ExnS E R) } (σ'.set j (some v)) H2 := fun d v cl e hb t4 => by
      rw [e] at q2
      refine hb _ H2 _ _ t4 (wp_mono (wp_bind.mp q2) (fun c _ q3 => ?_) fun _ x σ => ((x σ).drop).drop)
      cases c with
      | next s' => exact fun σ4 H4 t6 => ⟨⟨t6, q3⟩, ⟨t6, q3⟩⟩
      | brk s' => exact fun σ4 H4 t6 => q3 σ4 H4 (t6.ent (Ent.sepR (Ent.right.trans Ent.right)))
      | ret w =>
        have q4 : (post w).out.ok E R D := q3
        obtain ⟨p1, p2, p3⟩ := hp w
        show (post w).out.ok E _ _
        cases e : post w with
        | nx Γ => trivial
        | lp Γ => exact (p3 Γ e).elim
        | bk Γ => exact (p1 Γ e).elim
        | ct Γ => exact (p2 Γ e).elim
        | no => trivial
        | rt Γ c =>
          rw [e] at q4
          exact fun σ4 v H4 t6 => q4 σ4 v H4 (t6.ent (Ent.sepR (Ent.sepR (Ent.right.trans Ent.right))))
    have hj' : j < (Γ.set j cAny).length := by rw [List.length_set]; exact hj
    match n, hv, hd, step with
    | 0, _, _, step =>
      have t3 := put_slot (v := .ref p) (sto_is (w := .ref p)) hj' ((t2.ent fun F H o s z => sep_pers (A := pur (V.ref p = .ref p)) (fun _ => rfl) z).ent frontE)
      rw [List.set_set] at t3
      exact step _ _ _ rfl hA t3
    | 1, _, _, step =>
      have t3 := put_slot (v := .ref q) (sto_is (w := .ref q)) hj' ((t2.ent fun F H o s z => sep_pers (A := pur (V.ref q = .ref q)) (fun _ => rfl) z).ent frontE)
      rw [List.set_set] at t3
      exact step _ _ _ rfl hB t3
    | m + 2, hv, hd, step =>
      have hm : m < ds3.length := by simpa using hd
      have hm' : m < ovs.length := by omega
      have t3 := put_slot (v := ovs[m]) (sto_v (d := ds3[m])) hj' ((t2.ent fun F H o s z => sep_pers (A := vA ds3[m] ovs[m]) (fun _ => by
        obtain ⟨_, _, _, _, _, _, ⟨_, _, _, _, _, _, ⟨_, _, _, _, _, rr, _⟩⟩⟩ := z
        obtain ⟨v, ev, rv⟩ := RpAll.get (show RpAll F ovs ds3 from rr) (List.getElem?_eq_getElem hm)
        rw [List.getElem?_eq_getElem hm'] at ev
        cases ev
        exact rv) z).ent frontE)
      rw [List.set_set] at t3
      exact step _ _ _ rfl (hV _) t3
  · have e : n = ds3.length + 2 := by omega
    subst e
    have e2 : (PyData.list d1 :: .list d2 :: ds3).drop (ds3.length + 2) = [] := List.drop_length (l := PyData.list d1 :: .list d2 :: ds3)
    rw [e2] at q2
    exact .inl ⟨⟨_, SqL.of ep', by simp [lo]⟩, q2 σ' H' (t2.ent (Ent.sepR (Ent.right.trans Ent.right)))⟩
end
end Lc
/-! LcSw: a run that does not touch a suspended generator leaves it as it is -/
namespace GSw
open PySem
open Sem (wp)

def stuckK : Resume → Sem PySem.Fin := fun _ => .unsupported "hidden"
/-- what stands in the place of a suspended generator that is hidden: told the same, never to be woken -/
def stub : GenState → GenState
  | .suspended _ l c p fs cl => .suspended stuckK l c p fs cl
  | x => x
theorem stub_seen (x : GenState) : (stub x).seen = x.seen := by cases x <;> rfl
theorem stub_bare (x : GenState) : (stub x).bare = x.bare := by cases x <;> rfl
theorem no_stuck {M : Model} {Γ : Ctx} {p : Pos} {t : Sem PySem.Fin} {fs : List Frame} {s s' : Shared} {e : End} (h : Runs M Γ p t fs s e s') : ∀ w, t ≠ .unsupported w := by
  induction h with
  | segRet _ _ ih _ => exact ih
  | segGen _ _ ih _ => exact ih
  | segSuspOut _ _ ih => exact ih
  | segSuspGen _ _ _ _ ih _ => exact ih
  | _ => intro w e; cases e

/-- σ: the hidden ones, as they are -/
structure Hid (σ : Nat → Option GenState) (s : Shared) : Prop where
  here : ∀ i x, σ i = some x → x.isSuspended = true ∧ s.gens[i]? = some (stub x)
  fr : ∀ i k l c p fs cl, s.gens[i]? = some (.suspended k l c p fs cl) → σ i = none → splitAtGen fs = none
def real (σ : Nat → Option GenState) (s : Shared) : Shared := { s with gens := s.gens.mapIdx fun i x => (σ i).getD x }
section
variable {σ : Nat → Option GenState} {s s' : Shared} {g : Nat} {x : GenState}
theorem real_get (i : Nat) : (real σ s).gens[i]? = (s.gens[i]?).map fun x => (σ i).getD x := by
  unfold real
  simp [Array.getElem?_mapIdx]
theorem real_size : (real σ s).gens.size = s.gens.size := by
  unfold real
  simp
theorem real_at (h : σ g = none) : (real σ s).gens[g]? = s.gens[g]? := by
  rw [real_get, h]
  cases s.gens[g]? <;> rfl
theorem Hid.lt (h : Hid σ s) (e : σ g = some x) : g < s.gens.size := (Array.getElem?_eq_some_iff.mp (h.here g x e).2).1
theorem Hid.none_of (h : Hid σ s) (e : s.gens[g]? = some x) (hx : x.isSuspended = false) : σ g = none := by
  cases q : σ g with
  | none => rfl
  | some y =>
    obtain ⟨h1, h2⟩ := h.here g y q
    rw [e] at h2
    cases h2
    cases y <;> simp_all [stub, GenState.isSuspended]
theorem real_setGen (h : σ g = none) : real σ (s.setGen g x) = (real σ s).setGen g x := by
  have q : (real σ (s.setGen g x)).gens = ((real σ s).setGen g x).gens := by
    apply Array.ext_getElem?
    intro i
    rw [real_get]
    show ((s.gens.setIfInBounds g x)[i]?).map _ = ((real σ s).gens.setIfInBounds g x)[i]?
    by_cases hi : i = g
    · subst hi
      rw [h]
      by_cases hl : i < s.gens.size
      · simp [hl, real_size]
      · simp [hl, real_size]
    · rw [Array.getElem?_setIfInBounds_ne (Ne.symm hi), Array.getElem?_setIfInBounds_ne (Ne.symm hi), real_get]
  show (⟨_, _, _, _, _⟩ : Shared) = ⟨_, _, _, _, _⟩
  exact congrArg (fun G => (⟨s.heap, G, s.drawn, s.toks, s.os⟩ : Shared)) q
theorem real_push (h : Hid σ s) : real σ { s with gens := s.gens.push x } = { real σ s with gens := (real σ s).gens.push x } := by
  have hn : σ s.gens.size = none := by
    cases q : σ s.gens.size with
    | none => rfl
    | some y => exact absurd (h.lt q) (Nat.lt_irrefl _)
  have q : (real σ { s with gens := s.gens.push x }).gens = (real σ s).gens.push x := by
    apply Array.ext_getElem?
    intro i
    rw [real_get]
    show ((s.gens.push x)[i]?).map _ = ((real σ s).gens.push x)[i]?
    rw [Array.getElem?_push, Array.getElem?_push, real_size]
    by_cases hi : i = s.gens.size
    · rw [if_pos hi, if_pos hi, hi, hn]
      rfl
    · rw [if_neg hi, if_neg hi, real_get]
  exact congrArg (fun G => (⟨s.heap, G, s.drawn, s.toks, s.os⟩ : Shared)) q
theorem Hid.push (h : Hid σ s) (hx : x.isSuspended = false) : Hid σ { s with gens := s.gens.push x } := by
  refine ⟨fun i y e => ?_, fun i k l c p fs cl e n => ?_⟩
  · obtain ⟨h1, h2⟩ := h.here i y e
    refine ⟨h1, ?_⟩
    show (s.gens.push x)[i]? = _
    rw [Array.getElem?_push, if_neg (Nat.ne_of_lt (h.lt e))]
    exact h2
  · have e : (s.gens.push x)[i]? = some (.suspended k l c p fs cl) := e
    rw [Array.getElem?_push] at e
    by_cases hi : i = s.gens.size
    · rw [if_pos hi] at e
      cases e
      cases hx
    · rw [if_neg hi] at e
      exact h.fr i k l c p fs cl e n
theorem Hid.setGen (h : Hid σ s) (hn : σ g = none) (hx : ∀ k l c p fs cl, x = .suspended k l c p fs cl → splitAtGen fs = none) : Hid σ (s.setGen g x) := by
  refine ⟨fun i y e => ?_, fun i k l c p fs cl e n => ?_⟩
  · obtain ⟨h1, h2⟩ := h.here i y e
    refine ⟨h1, ?_⟩
    have hi : i ≠ g := fun z => by
      rw [z, hn] at e
      cases e
    show (s.gens.setIfInBounds g x)[i]? = _
    rw [Array.getElem?_setIfInBounds_ne (Ne.symm hi)]
    exact h2
  · have e : (s.gens.setIfInBounds g x)[i]? = some (.suspended k l c p fs cl) := e
    by_cases hi : i = g
    · subst hi
      by_cases hl : i < s.gens.size
      · have e2 : (s.gens.setIfInBounds i x)[i]? = some x := by simp [hl]
        rw [e2] at e
        exact hx k l c p fs cl (Option.some.inj e)
      · have e2 : (s.gens.setIfInBounds i x)[i]? = none := by simp [hl]
        rw [e2] at e
        cases e
    · rw [Array.getElem?_setIfInBounds_ne (Ne.symm hi)] at e
      exact h.fr i k l c p fs cl e n
theorem Hid.heap (h : Hid σ s) {hp : Heap} {d : Drawn} {t : Nat} {o : OsState} : Hid σ { s with heap := hp, drawn := d, toks := t, os := o } := ⟨h.here, h.fr⟩
end
theorem split_app {a c : List Frame} (h : splitAtGen a = none) (k : splitAtGen c = none) : splitAtGen (a ++ c) = none := by
  induction a with
  | nil => exact k
  | cons F r ih =>
    cases F with
    | gen g k l c p => cases h
    | ret k2 hh g l c p kp =>
      have h' : splitAtGen r = none := by
        have h : (splitAtGen r).map _ = none := h
        cases q : splitAtGen r with
        | none => rfl
        | some x =>
          rw [q] at h
          cases h
      show (splitAtGen (r ++ _)).map _ = none
      rw [ih h']
      rfl
theorem split_tail {k : Result → Sem PySem.Fin} {hh : Option Value} {g : Bool} {l kp : List Value} {c : Code} {p : Pos} {r : List Frame} (h : splitAtGen (.ret k hh g l c p kp :: r) = none) : splitAtGen r = none := by
  have h : (splitAtGen r).map _ = none := h
  cases q : splitAtGen r with
  | none => rfl
  | some x =>
    rw [q] at h
    cases h
def Open (e : End) : Prop := ∀ v g l k c p fs, e = .susp v g l k c p fs → splitAtGen fs = none
theorem Open.ret (r : Result) : Open (.ret r) := fun _ _ _ _ _ _ _ e => nomatch e
theorem Open.state {e : End} (h : Open e) : ∀ k l c p fs cl, e.genState = .suspended k l c p fs cl → splitAtGen fs = none := by
  intro k l c p fs cl q
  cases e with
  | ret r => cases q
  | susp v g l' k' c' p' fs' =>
    cases q
    exact h v g l k c p fs rfl
theorem runs_real {M : Model} {Γ : Ctx} {p : Pos} {t : Sem PySem.Fin} {fs : List Frame} {s s' : Shared} {e : End} (h : Runs M Γ p t fs s e s') :
    ∀ σ, splitAtGen fs = none → Hid σ s → Runs M Γ p t fs (real σ s) e (real σ s') ∧ Hid σ s' ∧ Open e := by
  induction h with
  | done => exact fun σ _ h => ⟨.done, h, .ret _⟩
  | raise => exact fun σ _ h => ⟨.raise, h, .ret _⟩
  | again hq _ ih => exact fun σ n h => let ⟨a, b, c⟩ := ih σ n h; ⟨.again hq a, b, c⟩
  | rule _ ih => exact fun σ n h => let ⟨a, b, c⟩ := ih σ n h; ⟨.rule a, b, c⟩
  | «at» _ ih => exact fun σ n h => let ⟨a, b, c⟩ := ih σ n h; ⟨.at a, b, c⟩
  | load ho _ ih => exact fun σ n h => let ⟨a, b, c⟩ := ih σ n h; ⟨.load ho a, b, c⟩
  | update ho _ ih => exact fun σ n h => let ⟨a, b, c⟩ := ih σ n h.heap; ⟨.update ho a, b, c⟩
  | loadIfAlive _ ih => exact fun σ n h => let ⟨a, b, c⟩ := ih σ n h; ⟨.loadIfAlive a, b, c⟩
  | point _ ih => exact fun σ n h => let ⟨a, b, c⟩ := ih σ n h; ⟨.point a, b, c⟩
  | alloc _ ih => exact fun σ n h => let ⟨a, b, c⟩ := ih σ n h.heap; ⟨.alloc a, b, c⟩
  | fresh _ ih => exact fun σ n h => let ⟨a, b, c⟩ := ih σ n h.heap; ⟨.fresh a, b, c⟩
  | ask _ ih => exact fun σ n h => let ⟨a, b, c⟩ := ih σ n h; ⟨.ask a, b, c⟩
  | choose hn _ ih => exact fun σ n h => let ⟨a, b, c⟩ := ih σ n h.heap; ⟨.choose hn a, b, c⟩
  | os _ ih => exact fun σ n h => let ⟨a, b, c⟩ := ih σ n h.heap; ⟨.os a, b, c⟩
  | handled _ ih => exact fun σ n h => let ⟨a, b, c⟩ := ih σ n h; ⟨.handled a, b, c⟩
  | @genState g st _ _ _ s _ _ hg _ ih =>
    intro σ n h
    obtain ⟨a, b, c⟩ := ih σ n h
    cases q : σ g with
    | none => exact ⟨.genState (by rw [real_at q]; exact hg) a, b, c⟩
    | some x =>
      obtain ⟨_, h2⟩ := h.here g x q
      rw [hg] at h2
      cases h2
      rw [stub_seen] at a
      exact ⟨.genState (st := x) (by rw [real_get, hg, q]; rfl) a, b, c⟩
  | stack _ ih => exact fun σ n h => let ⟨a, b, c⟩ := ih σ n h; ⟨.stack a, b, c⟩
  | thread _ ih => exact fun σ n h => let ⟨a, b, c⟩ := ih σ n h; ⟨.thread a, b, c⟩
  | newGen _ ih =>
    intro σ n h
    obtain ⟨a, b, c⟩ := ih σ n (h.push rfl)
    rw [real_push h] at a
    refine ⟨.newGen ?_, b, c⟩
    rw [real_size]
    exact a
  | call _ _ ih1 ih2 =>
    intro σ n h
    obtain ⟨a1, b1, _⟩ := ih1 σ rfl h
    obtain ⟨a2, b2, c2⟩ := ih2 σ n b1
    exact ⟨.call a1 a2, b2, c2⟩
  | callSusp _ ih =>
    intro σ n h
    obtain ⟨a, b, c⟩ := ih σ rfl h
    refine ⟨.callSusp a, b, fun v g l k c' p fs e => ?_⟩
    cases e
    exact split_app (c _ _ _ _ _ _ _ rfl) rfl
  | yield =>
    intro σ n h
    refine ⟨.yield, h, fun v g l k c p fs e => ?_⟩
    cases e
    rfl
  | resumeFresh hg _ hq _ ih1 ih2 =>
    intro σ n h
    have hn := h.none_of hg rfl
    obtain ⟨a1, b1, c1⟩ := ih1 σ rfl (h.setGen hn (fun _ _ _ _ _ _ e => nomatch e))
    obtain ⟨a2, b2, c2⟩ := ih2 σ n (b1.setGen hn c1.state)
    rw [real_setGen hn] at a1 a2
    exact ⟨.resumeFresh (by rw [real_at hn]; exact hg) a1 hq a2, b2, c2⟩
  | @resumeSuspended Γ p g r l k s k₀ l₀ c₀ p₀ fs cl e₁ s₁ e s' hg hr hq _ ih1 ih2 =>
    intro σ n h
    cases q : σ g with
    | some x =>
      obtain ⟨hx, h2⟩ := h.here g x q
      rw [hg] at h2
      cases x with
      | suspended k1 l1 c1 p1 fs1 cl1 =>
        cases h2
        exact absurd rfl (no_stuck hr "hidden")
      | _ => cases hx
    | none =>
      obtain ⟨a1, b1, c1⟩ := ih1 σ (h.fr _ _ _ _ _ _ _ hg q) (h.setGen q (fun _ _ _ _ _ _ e => nomatch e))
      obtain ⟨a2, b2, c2⟩ := ih2 σ n (b1.setGen q c1.state)
      rw [real_setGen q] at a1 a2
      exact ⟨.resumeSuspended (by rw [real_at q]; exact hg) a1 hq a2, b2, c2⟩
  | resumeJustStarted hg hv _ ih =>
    intro σ n h
    have hn := h.none_of hg rfl
    obtain ⟨a, b, c⟩ := ih σ n h
    exact ⟨.resumeJustStarted (by rw [real_at hn]; exact hg) hv a, b, c⟩
  | resumeThrowFresh hg _ ih =>
    intro σ n h
    have hn := h.none_of hg rfl
    obtain ⟨a, b, c⟩ := ih σ n (h.setGen hn (fun _ _ _ _ _ _ e => nomatch e))
    rw [real_setGen hn] at a
    exact ⟨.resumeThrowFresh (by rw [real_at hn]; exact hg) a, b, c⟩
  | resumeRunning hg _ ih =>
    intro σ n h
    have hn := h.none_of hg rfl
    obtain ⟨a, b, c⟩ := ih σ n h
    exact ⟨.resumeRunning (by rw [real_at hn]; exact hg) a, b, c⟩
  | resumeFinished hg _ ih =>
    intro σ n h
    have hn := h.none_of hg rfl
    obtain ⟨a, b, c⟩ := ih σ n h
    exact ⟨.resumeFinished (by rw [real_at hn]; exact hg) a, b, c⟩
  | segRet _ _ ih1 ih2 =>
    intro σ n h
    obtain ⟨a1, b1, _⟩ := ih1 σ rfl h
    obtain ⟨a2, b2, c2⟩ := ih2 σ (split_tail n) b1
    exact ⟨.segRet a1 a2, b2, c2⟩
  | segGen _ _ _ _ =>
    intro σ n h
    cases n
  | segSuspOut hs _ ih =>
    intro σ n h
    obtain ⟨a, b, c⟩ := ih σ rfl h
    refine ⟨.segSuspOut hs a, b, fun v g l k c' p fs e => ?_⟩
    cases e
    exact split_app (c _ _ _ _ _ _ _ rfl) n
  | segSuspGen hs _ _ _ _ _ =>
    intro σ n h
    rw [hs] at n
    cases n
theorem wakes_real {M : Model} {Γ : Ctx} {p : Pos} {g : Nat} {r : Resume} {s s' : Shared} {res : GenResult} {σ : Nat → Option GenState} (h : Hid σ s) (w : Wakes M Γ p g r s res s') : Wakes M Γ p g r (real σ s) res (real σ s') ∧ Hid σ s' := by
  unfold Wakes at w
  cases hg : s.gens[g]? with
  | none =>
    rw [hg] at w
    exact w.elim
  | some x =>
    rw [hg] at w
    cases x with
    | fresh c =>
      have hn := h.none_of hg rfl
      unfold Wakes
      rw [real_at hn, hg]
      cases r with
      | send v =>
        cases v with
        | none =>
          obtain ⟨e1, s1, hr, hq, h1, h2⟩ := w
          obtain ⟨a, b, c'⟩ := runs_real hr σ rfl (h.setGen hn (fun _ _ _ _ _ _ e => nomatch e))
          rw [real_setGen hn] at a
          subst h2
          exact ⟨⟨e1, real σ s1, a, hq, h1, real_setGen hn⟩, b.setGen hn c'.state⟩
        | _ =>
          obtain ⟨h1, h2⟩ := w
          subst h2
          exact ⟨⟨h1, rfl⟩, h⟩
      | throw v =>
        obtain ⟨h1, h2⟩ := w
        subst h2
        exact ⟨⟨h1, real_setGen hn⟩, h.setGen hn (fun _ _ _ _ _ _ e => nomatch e)⟩
    | suspended k l c p0 fs cl =>
      obtain ⟨e1, s1, hr, hq, h1, h2⟩ := w
      cases q : σ g with
      | some x =>
        obtain ⟨hx, h2⟩ := h.here g x q
        rw [hg] at h2
        cases x with
        | suspended k1 l1 c1 p1 fs1 cl1 =>
          cases h2
          exact absurd rfl (no_stuck hr "hidden")
        | _ => cases hx
      | none =>
        obtain ⟨a, b, c'⟩ := runs_real hr σ (h.fr _ _ _ _ _ _ _ hg q) (h.setGen q (fun _ _ _ _ _ _ e => nomatch e))
        rw [real_setGen q] at a
        subst h2
        unfold Wakes
        rw [real_at q, hg]
        exact ⟨⟨e1, real σ s1, a, hq, h1, real_setGen q⟩, b.setGen q c'.state⟩
    | running =>
      have hn := h.none_of hg rfl
      obtain ⟨h1, h2⟩ := w
      subst h2
      unfold Wakes
      rw [real_at hn, hg]
      exact ⟨⟨h1, rfl⟩, h⟩
    | finished =>
      have hn := h.none_of hg rfl
      obtain ⟨h1, h2⟩ := w
      subst h2
      unfold Wakes
      rw [real_at hn, hg]
      exact ⟨⟨h1, rfl⟩, h⟩
theorem wp_real {α : Type} (M : Model) (Γ : Ctx) (σ : Nat → Option GenState) (t : Sem α) : ∀ (Q : α → Pos → Shared → Prop) (E : Value → Pos → Shared → Prop) (p : Pos) (s : Shared), Hid σ s → wp M Γ t Q E p s →
    wp M Γ t (fun a p' s' => ∃ h, s' = real σ h ∧ Hid σ h ∧ Q a p' h) (fun e p' s' => ∃ h, s' = real σ h ∧ Hid σ h ∧ E e p' h) p (real σ s) := by
  induction t with
  | pure a => intro Q E p s hn h; exact ⟨s, rfl, hn, h⟩
  | raise e => intro Q E p s hn h; exact ⟨s, rfl, hn, h⟩
  | unsupported _ => intro Q E p s _ h; exact h.elim
  | finish _ => intro Q E p s _ h; exact h.elim
  | rule _ k ih => intro Q E p s hn h; exact ih () Q E p s hn h
  | «at» p' k ih => intro Q E p s hn h; exact ih () Q E p' s hn h
  | load a _ k ih => intro Q E p s hn h; obtain ⟨o, ho, h⟩ := h; exact ⟨o, ho, ih o Q E p s hn h⟩
  | update a _ f k ih => intro Q E p s hn h; exact ⟨h.1, ih () Q E p _ hn.heap h.2⟩
  | loadIfAlive a k ih => intro Q E p s hn h; exact ih _ Q E p s hn h
  | point _ k ih => intro Q E p s hn h; exact ih () Q E p s hn h
  | register _ _ => intro Q E p s _ h; exact h.elim
  | alloc o k ih => intro Q E p s hn h; exact ih _ Q E p _ hn.heap h
  | fresh k ih => intro Q E p s hn h; exact ih _ Q E p _ hn.heap h
  | ask k ih => intro Q E p s hn h; exact ih _ Q E p s hn h
  | choose src m k ih => intro Q E p s hn h; exact ⟨h.1, ih _ Q E p _ hn.heap h.2⟩
  | os q _ k ih => intro Q E p s hn h; exact ih _ Q E p _ hn.heap h
  | call c hd _ _ k ih =>
    intro Q E p s hn h
    obtain ⟨r, s', hr, h⟩ := h
    obtain ⟨a, b, _⟩ := runs_real hr σ rfl hn
    exact ⟨r, _, a, ih r Q E p s' b h⟩
  | handled own k ih => intro Q E p s hn h; exact ih _ Q E p s hn h
  | genState g k ih =>
    intro Q E p s hn h
    obtain ⟨st, hs, h⟩ := h
    have h' := ih _ Q E p s hn h
    cases q : σ g with
    | none => exact ⟨st, by rw [real_at q]; exact hs, h'⟩
    | some x =>
      obtain ⟨_, h2⟩ := hn.here g x q
      rw [hs] at h2
      cases h2
      rw [stub_seen] at h'
      exact ⟨x, by rw [real_get, hs, q]; rfl, h'⟩
  | newGen c k ih =>
    intro Q E p s hn h
    have h' := ih _ Q E p _ (hn.push rfl) h
    rw [real_push hn] at h'
    show wp M Γ (k (real σ s).gens.size) _ _ p _
    rw [real_size]
    exact h'
  | resume g r _ k ih =>
    intro Q E p s hn h
    obtain ⟨res, s', hw, h⟩ := h
    obtain ⟨a, b⟩ := wakes_real hn hw
    exact ⟨res, _, a, ih res Q E p s' b h⟩
  | yield _ _ _ _ => intro Q E p s _ h; exact h.elim
  | stack k ih => intro Q E p s hn h; exact ih _ Q E p s hn h
  | fork _ _ => intro Q E p s _ h; exact h.elim
  | thread k ih => intro Q E p s hn h; exact ih _ Q E p s hn h
  | await _ _ _ _ _ => intro Q E p s _ h; exact h.elim

/-- all that is suspended is hidden -/
def hide (s : Shared) : Shared := { s with gens := s.gens.map stub }
def sus (s : Shared) (i : Nat) : Option GenState := (s.gens[i]?).bind fun x => if x.isSuspended then some x else none
theorem sus_iff {s : Shared} {i : Nat} {x : GenState} : sus s i = some x ↔ s.gens[i]? = some x ∧ x.isSuspended = true := by
  unfold sus
  cases s.gens[i]? with
  | none => simp
  | some y =>
    show (if y.isSuspended then some y else none) = some x ↔ _
    by_cases hy : y.isSuspended = true
    · rw [if_pos hy]
      exact ⟨fun e => by cases e; exact ⟨rfl, hy⟩, fun e => e.1⟩
    · rw [if_neg hy]
      exact ⟨fun e => (nomatch e), fun e => by obtain ⟨e, z⟩ := e; cases e; exact absurd z hy⟩
theorem hide_hid (s : Shared) : Hid (sus s) (hide s) := by
  refine ⟨fun i x e => ?_, fun i k l c p fs cl e n => ?_⟩
  · obtain ⟨h1, h2⟩ := sus_iff.mp e
    refine ⟨h2, ?_⟩
    show (s.gens.map stub)[i]? = _
    rw [Array.getElem?_map, h1]
    rfl
  · have e : (s.gens.map stub)[i]? = some _ := e
    rw [Array.getElem?_map] at e
    cases q : s.gens[i]? with
    | none =>
      rw [q] at e
      cases e
    | some y =>
      rw [q] at e
      cases y with
      | suspended k1 l1 c1 p1 fs1 cl1 =>
        have z : sus s i = some (.suspended k1 l1 c1 p1 fs1 cl1) := sus_iff.mpr ⟨q, rfl⟩
        rw [n] at z
        cases z
      | _ => cases e
theorem real_hide (s : Shared) : real (sus s) (hide s) = s := by
  have q : (real (sus s) (hide s)).gens = s.gens := by
    apply Array.ext_getElem?
    intro i
    rw [real_get]
    show ((s.gens.map stub)[i]?).map _ = _
    rw [Array.getElem?_map]
    cases q : s.gens[i]? with
    | none => rfl
    | some y =>
      cases hy : y.isSuspended with
      | true =>
        rw [sus_iff.mpr ⟨q, hy⟩]
        rfl
      | false =>
        have z : sus s i = none := by
          cases z : sus s i with
          | none => rfl
          | some x =>
            obtain ⟨h1, h2⟩ := sus_iff.mp z
            rw [q] at h1
            cases h1
            rw [hy] at h2
            cases h2
        rw [z]
        cases y with
        | suspended _ _ _ _ _ _ => cases hy
        | _ => rfl
  show (⟨_, _, _, _, _⟩ : Shared) = _
  exact congrArg (fun G => (⟨s.heap, G, s.drawn, s.toks, s.os⟩ : Shared)) q
theorem hide_bare {s : Shared} (h : ∀ x ∈ s.gens, x.bare = true) : ∀ x ∈ (hide s).gens, x.bare = true := fun x hx => by
  obtain ⟨y, hy, e⟩ := Array.mem_map.mp (show x ∈ s.gens.map stub from hx)
  rw [← e, stub_bare]
  exact h y hy
theorem real_bare {σ : Nat → Option GenState} {s : Shared} (hh : Hid σ s) (h : ∀ x ∈ s.gens, x.bare = true) : ∀ x ∈ (real σ s).gens, x.bare = true := fun x hx => by
  obtain ⟨i, hi, e⟩ := Array.mem_iff_getElem.mp hx
  have e2 : (real σ s).gens[i]? = some x := by rw [Array.getElem?_eq_getElem hi, e]
  rw [real_get] at e2
  cases q : s.gens[i]? with
  | none =>
    rw [q] at e2
    cases e2
  | some y =>
    rw [q] at e2
    have hy := h y (Array.mem_of_getElem? q)
    cases z : σ i with
    | none =>
      rw [z] at e2
      cases e2
      exact hy
    | some u =>
      rw [z] at e2
      cases e2
      obtain ⟨_, h2⟩ := hh.here i u z
      rw [q] at h2
      cases h2
      rw [stub_bare] at hy
      exact hy
/-- THE RULE: a run that goes through while the suspended generators are hidden leaves them as they are -/
theorem wpAny_hidden {α : Type} {M : Model} {A : Around} {s : Shared} {t : Sem α} {Q : α → Shared → Prop} {E : Value → Shared → Prop} (h : wpAny M A t Q E (hide s)) :
    wpAny M A t (fun a s' => ∃ h, s' = real (sus s) h ∧ Hid (sus s) h ∧ Q a h) (fun e s' => ∃ h, s' = real (sus s) h ∧ Hid (sus s) h ∧ E e h) s := by
  intro Γ p hΓ
  have q := wp_real M Γ (sus s) t _ _ p (hide s) (hide_hid s) (h Γ p hΓ)
  rw [real_hide] at q
  exact q
theorem real_sus {s h : Shared} (hh : Hid (sus s) h) {i : Nat} {x : GenState} (e : s.gens[i]? = some x) (hx : x.isSuspended = true) : (real (sus s) h).gens[i]? = some x := by
  have z := sus_iff.mpr ⟨e, hx⟩
  rw [real_get, (hh.here i x z).2, z]
  rfl
end GSw
/-! LcPu: a generator walked by a for: segments, contexts laid anew at each waking -/
namespace GPu
open PySem PySem.Spec PyProof.Rows L2 GenW GSw

/-! ### a stretch of a generator's run: up to its next yield or its end -/
def Sg (M : Model) (A : Around) (Φ : End → Shared → Prop) (c : Code) (t : Sem PySem.Fin) (fs : List Frame) (s : Shared) : Prop :=
  ∀ Γ p, Γ.code = c → Γ.Woken A → ∃ e s', Runs M Γ p t fs s e s' ∧ Φ e s'
section
variable {M : Model} {A : Around} {Φ : End → Shared → Prop} {c : Code} {fs : List Frame} {s : Shared} {α β : Type} {K : α → Sem PySem.Fin} {J : Value → Sem PySem.Fin} {gd : Bool → Bool} {lv : List Value → List Value}
theorem sg_wrap {m : Sem α} (h : wpAny M (A.over c fs) m (fun a s' => Sg M A Φ c (K a) fs s') (fun x s' => Sg M A Φ c (J x) fs s') s) : Sg M A Φ c (m.wrap K J gd lv) fs s := by
  intro Γ p e hΓ
  subst e
  exact runs_wrap_of_wp K J gd lv m (h _ p (hΓ.over fs)) (fun _ p' _ z => z Γ p' rfl hΓ) fun _ p' _ z => z Γ p' rfl hΓ
theorem sg_bw {m : Sem α} {f : α → Sem β} {K : β → Sem PySem.Fin} (h : wpAny M (A.over c fs) m (fun a s' => Sg M A Φ c ((f a).wrap K J gd lv) fs s') (fun x s' => Sg M A Φ c (J x) fs s') s) : Sg M A Φ c ((m >>= f).wrap K J gd lv) fs s := by
  have e : (m >>= f).wrap K J gd lv = m.wrap (fun a => (f a).wrap K J gd lv) J gd lv := by
    rw [Sem.bind_eq_wrap', Sem.wrap_wrap]
    rfl
  rw [e]
  exact sg_wrap h
theorem sg_at {q : Pos} {k : Unit → Sem PySem.Fin} (h : Sg M A Φ c (k ()) fs s) : Sg M A Φ c (.at q k) fs s := by
  have z : wpAny M (A.over c fs) (standAt q) (fun a s' => Sg M A Φ c (k a) fs s') (fun x s' => Sg M A Φ c (.raise x) fs s') s := wpAny_standAt h
  exact sg_wrap (gd := id) (lv := id) (K := k) (J := Sem.raise) z
theorem sg_point {l : List Value} {k : Unit → Sem PySem.Fin} (h : Sg M A Φ c (k ()) fs s) : Sg M A Φ c (.point l k) fs s := by
  have z : wpAny M (A.over c fs) point (fun a s' => Sg M A Φ c (k a) fs s') (fun x s' => Sg M A Φ c (.raise x) fs s') s := wpAny_point h
  exact sg_wrap (gd := id) (lv := fun _ => l) (K := k) (J := Sem.raise) z
theorem sg_call {c' : Code} {hd : Option Value} {g : Bool} {l : List Value} {k : Result → Sem PySem.Fin} (h : ∀ p, Sg M A Φ c' (M.den c') (.ret k hd g l c p [] :: fs) s) : Sg M A Φ c (.call c' hd g l k) fs s := by
  intro Γ p e hΓ
  subst e
  obtain ⟨e, s', r, z⟩ := h p (Γ.goto c') p rfl (hΓ.goto c')
  exact ⟨e, s', runs_call_seg r, z⟩
theorem sg_leaf {k : Result → Sem PySem.Fin} {hd : Option Value} {g : Bool} {l kp : List Value} {c1 : Code} {p1 : Pos} (r : Result) (h : Sg M A Φ c1 (k r) fs s) : Sg M A Φ c (leafOf r) (.ret k hd g l c1 p1 kp :: fs) s := by
  intro Γ p e hΓ
  subst e
  obtain ⟨e, s', q, z⟩ := h (Γ.goto c1) p1 rfl (hΓ.goto c1)
  exact ⟨e, s', Runs.pop r q, z⟩
theorem sg_again {c' : Code} (hq : c'.quiet = true) (h : Sg M A Φ c' (M.den c') fs s) : Sg M A Φ c (.pure (.again c')) fs s := by
  intro Γ p e hΓ
  subst e
  obtain ⟨e, s', r, z⟩ := h (Γ.goto c') p rfl (hΓ.goto c')
  exact ⟨e, s', Runs.head (c₁ := c') (fun _ _ x => .again hq x) r, z⟩
theorem sg_end (r : Result) (h : Φ (.ret r) s) : Sg M A Φ c (leafOf r) [] s := fun Γ p _ _ => ⟨_, s, Runs.leaf r, h⟩
theorem sg_yield {v : Value} {g : Bool} {l : List Value} {k : Resume → Sem PySem.Fin} (hf : splitAtGen fs = none) (h : ∀ p, Φ (.susp v g l k c p fs) s) : Sg M A Φ c (.yield v g l k) fs s := fun Γ p e _ => by
  subst e
  exact ⟨_, s, Runs.yield' fs hf, h p⟩
variable {env : Env} {Kf : Flow → Sem PySem.Fin}
theorem sg_nil (h : Sg M A Φ c (Kf .next) fs s) : Sg M A Φ c ((execs [] env).wrap Kf J gd lv) fs s := h
theorem sg_cons {st : Stmt} {rest : List Stmt} (h : Sg M A Φ c ((exec st env).wrap (fun f => match f with | .next => (execs rest env).wrap Kf J gd lv | f => Kf f) J gd lv) fs s) : Sg M A Φ c ((execs (st :: rest) env).wrap Kf J gd lv) fs s :=
  Eq.mp (congrArg (fun t => Sg M A Φ c t fs s) (execs_cons_wrap st rest).symm) h
/-- the statement yield e -/
theorem sg_yieldSt {e : Expr} {yp pos : Pos} (hf : splitAtGen fs = none) (h : wpAny M (A.over c fs) (eval e env) (fun v s' => ∀ (g : Bool) (l : List Value) (k : Resume → Sem PySem.Fin) (p : Pos), g = gd false → (k (.send .none) = Kf .next) → Φ (.susp v g l k c p fs) s') (fun x s' => Sg M A Φ c (J x) fs s') s)
    (hco : env.scope.isCoroutine = false := by rfl) (hi : interactive env = false := by rfl) : Sg M A Φ c ((exec (.Expr (.Yield (some e) yp) pos) env).wrap Kf J gd lv) fs s := by
  rw [exec_Expr env _ pos hi rfl]
  have hy : ∀ v, yieldOut env v = yieldValue v := fun v => by
    unfold yieldOut
    rw [hco]
    rfl
  show Sg M A Φ c (.at pos fun _ => ((eval e env >>= fun v => (standAt yp >>= fun _ => yieldOut env v)) >>= fun x => dropValue (.Yield (some e) yp) pos x).wrap Kf J gd lv) fs s
  refine sg_at ?_
  rw [Sem.bind_eq_wrap', Sem.bind_eq_wrap', Sem.wrap_wrap, Sem.wrap_wrap]
  refine sg_wrap (wpAny_mono h (fun v s' z => ?_) fun _ _ z => z)
  refine sg_at ?_
  rw [hy]
  refine sg_yield hf fun p => ?_
  exact z _ _ _ p rfl rfl
theorem sg_while {test : Expr} {body : List Stmt} {pos : Pos} (h : ∀ p, Sg M A Φ (.whileLoop test body [] env) (M.den (.whileLoop test body [] env))
      (.ret (fun r => ((match r with | .ok f => (.pure f : Sem Flow) | .error e => .raise e).onRaise (cameBack env)).wrap Kf J gd lv) none (gd false) (lv []) c p [] :: fs) s) : Sg M A Φ c ((exec (.While test body [] pos) env).wrap Kf J gd lv) fs s :=
  sg_at (sg_call h)
end
section
variable {prog : Program} {w : World} {A : Around} {Φ : End → Shared → Prop} {c : Code} {fs : List Frame} {s : Shared} {env : Env}
def loopK (c : Code) (f : Flow) : Sem PySem.Fin := match f with
  | .next | .cont => .pure (.again c)
  | .brk => .pure (.done .next)
  | .ret v => .pure (.done (.ret v))
def noted (env : Env) (e : Value) : Sem PySem.Fin := (do noteFrame e env; theTreesLotGoes e : Sem Unit).wrap (fun _ => .raise e) .raise id id
theorem noted_eq (env : Env) : (fun e => ((do noteFrame e env; theTreesLotGoes e : Sem Unit)).bind fun _ => (.raise e : Sem PySem.Fin)) = noted env := by
  funext e
  exact Sem.bind_eq_wrap _ _
theorem sg_whileLoop {test : Expr} {body : List Stmt}
    (h : wpAny (model prog w) (A.over (.whileLoop test body [] env) fs) (isTrue test env (eval test env)) (fun b s' => match b with
        | true => Sg (model prog w) A Φ (.whileLoop test body [] env) ((execs body env).wrap (loopK (.whileLoop test body [] env)) (noted env) id id) fs s'
        | false => Sg (model prog w) A Φ (.whileLoop test body [] env) (.pure (.done .next)) fs s')
      (fun x s' => Sg (model prog w) A Φ (.whileLoop test body [] env) (noted env x) fs s') s) :
    Sg (model prog w) A Φ (.whileLoop test body [] env) ((model prog w).den (.whileLoop test body [] env)) fs s := by
  show Sg _ A Φ _ ((whileTurn test body [] env).onRaise (fun x => do noteFrame x env; theTreesLotGoes x)) fs s
  rw [Sem.onRaise_eq_wrap, noted_eq]
  unfold whileTurn
  refine sg_bw (wpAny_mono h (fun b s' hb => ?_) fun x s' hx => hx)
  cases b with
  | true =>
    show Sg _ A Φ _ (Sem.wrap _ _ _ _ (execs body env >>= _)) fs s'
    rw [Sem.bind_eq_wrap', Sem.wrap_wrap]
    refine Eq.mp (congrArg (fun t => Sg (model prog w) A Φ _ t fs s') (Sem.wrap_congr (execs body env) id id (fun f => ?_) (fun e => rfl))) hb
    cases f <;> rfl
  | false => exact hb
theorem sg_forLoop {target : Expr} {it : Value} {body : List Stmt}
    (h : wpAny (model prog w) (A.over (.forLoop target it body [] env) fs) (pyNext it) (fun r s1 => match r with
      | none => Sg (model prog w) A Φ (.forLoop target it body [] env) (.pure (.again (.block [] env))) fs s1
      | some v => wpAny (model prog w) (A.over (.forLoop target it body [] env) fs) (letOwnedTupleGo target it v) (fun _ s1' => wpAny (model prog w) (A.over (.forLoop target it body [] env) fs) (assign target env v) (fun _ s2 =>
          Sg (model prog w) A Φ (.forLoop target it body [] env) ((execs body env).wrap (loopK (.forLoop target it body [] env)) (noted env) id id) fs s2)
          (fun x s' => Sg (model prog w) A Φ (.forLoop target it body [] env) (noted env x) fs s') s1')
          (fun x s' => Sg (model prog w) A Φ (.forLoop target it body [] env) (noted env x) fs s') s1)
      (fun x s' => Sg (model prog w) A Φ (.forLoop target it body [] env) (noted env x) fs s') s) :
    Sg (model prog w) A Φ (.forLoop target it body [] env) ((model prog w).den (.forLoop target it body [] env)) fs s := by
  show Sg _ A Φ _ ((forTurn target it body [] env).onRaise (fun x => do noteFrame x env; theTreesLotGoes x)) fs s
  rw [Sem.onRaise_eq_wrap, noted_eq]
  unfold forTurn
  refine sg_at ?_
  refine sg_bw (wpAny_pure ?_)
  refine sg_bw (wpAny_onRaise (wpAny_mono h (fun r s1 h1 => ?_) fun x s' hx => wpAny_standAt hx))
  cases r with
  | none => exact h1
  | some v =>
    refine sg_bw (wpAny_mono h1 (fun _ s1' h2 => ?_) fun x s' hx => hx)
    refine sg_bw (wpAny_mono h2 (fun _ s2 h3 => ?_) fun x s' hx => hx)
    rw [Sem.bind_eq_wrap', Sem.wrap_wrap]
    refine Eq.mp (congrArg (fun t => Sg (model prog w) A Φ (.forLoop target it body [] env) t fs s2) (Sem.wrap_congr (execs body env) id id (fun f => ?_) (fun e => rfl))) h3
    cases f <;> rfl
theorem sg_func {body : List Stmt} (h : Sg (model prog w) A Φ (.func body env) ((execs body env).wrap (fun f => .pure (.done (.ret (match f with | .ret v => v | _ => .none)))) (fun e => (leaving env e).wrap (fun _ => .raise e) .raise id id) id id) fs s) :
    Sg (model prog w) A Φ (.func body env) ((model prog w).den (.func body env)) fs s := by
  show Sg _ A Φ _ (.point [] fun _ => ((execs body env).onRaise (leaving env)) >>= _) fs s
  refine sg_point ?_
  rw [Sem.onRaise_eq_wrap, Sem.bind_eq_wrap', Sem.wrap_wrap]
  refine Eq.mp (congrArg (fun t => Sg (model prog w) A Φ (.func body env) t fs s) (Sem.wrap_congr (execs body env) id id (fun f => ?_) (fun e => ?_))) h
  · cases f <;> rfl
  · rw [Sem.bind_eq_wrap, Sem.wrap_wrap]
    rfl
end

/-! ### a run made of stretches, each begun in a state of the consumer's (z) -/
section
variable {Z : Type}
def EndZ (R : Z → Result → Shared → Prop) (Y : Z → Value → Shared → (Z → Shared → Prop) → Prop) (P : Z → Code → Sem PySem.Fin → List Frame → Shared → Prop) (z : Z) (e : End) (s' : Shared) : Prop := match e with
  | .ret r => R z r s'
  | .susp v g l k c p fs => (End.susp v g l k c p fs).quiet = true ∧ ∃ kap : Z → Shared → Prop, Y z v s' kap ∧ ∀ z' s'', kap z' s'' → P z' c (k (.send .none)) fs s''
def SgZ (M : Model) (A : Around) (R : Z → Result → Shared → Prop) (Y : Z → Value → Shared → (Z → Shared → Prop) → Prop) (z : Z) (c : Code) (t : Sem PySem.Fin) (fs : List Frame) (s : Shared) : Prop :=
  ∀ P : Z → Code → Sem PySem.Fin → List Frame → Shared → Prop, (∀ z c t fs s, Sg M A (EndZ R Y P z) c t fs s → P z c t fs s) → P z c t fs s
variable {M : Model} {A : Around} {R : Z → Result → Shared → Prop} {Y : Z → Value → Shared → (Z → Shared → Prop) → Prop} {z : Z} {c : Code} {t : Sem PySem.Fin} {fs : List Frame} {s : Shared}
theorem Sg.mono {Φ Φ' : End → Shared → Prop} (h : Sg M A Φ c t fs s) (k : ∀ e s', Φ e s' → Φ' e s') : Sg M A Φ' c t fs s := fun Γ p e hΓ => by
  obtain ⟨e, s', r, q⟩ := h Γ p e hΓ
  exact ⟨e, s', r, k e s' q⟩
theorem EndZ.mono {P P' : Z → Code → Sem PySem.Fin → List Frame → Shared → Prop} (k : ∀ z c t fs s, P z c t fs s → P' z c t fs s) {e : End} {s' : Shared} (h : EndZ R Y P z e s') : EndZ R Y P' z e s' := by
  cases e with
  | ret r => exact h
  | susp v g l kk c p fs =>
    obtain ⟨hq, kap, hy, q⟩ := h
    exact ⟨hq, kap, hy, fun z' s'' x => k _ _ _ _ _ (q z' s'' x)⟩
theorem SgZ.fold (h : Sg M A (EndZ R Y (SgZ M A R Y) z) c t fs s) : SgZ M A R Y z c t fs s := fun P hP =>
  hP z c t fs s (h.mono fun e s' q => q.mono fun z c t fs s x => x P hP)
end
end GPu
/-! LcPv: the context of a generator's stretch, laid anew at each waking -/
namespace GPu
open PySem PySem.Spec PyProof.Rows L2 GenW GSw

/-- the first n objects -/
def cut (n : Nat) (s : Shared) : Shared := { s with heap := ⟨s.heap.objs.extract 0 n, s.heap.life⟩ }
theorem ext_get {α : Type} (xs : Array α) {n b : Nat} (h : b < n) : (xs.extract 0 n)[b]? = xs[b]? := by
  rw [Array.getElem?_extract]
  by_cases hb : b < xs.size
  · rw [if_pos (by omega)]
    simp
  · rw [if_neg (by omega), Array.getElem?_eq_none (by omega)]
theorem ext_size {α : Type} (xs : Array α) (n : Nat) : (xs.extract 0 n).size = min n xs.size := by simp
theorem cut_get {n : Nat} {s : Shared} {b : Addr} (h : b < n) : (cut n s).heap.get? b = s.heap.get? b := by
  show (match (s.heap.objs.extract 0 n)[b]? with | some ⟨_, _, .freed, _⟩ => none | o => o) = _
  rw [ext_get _ h]
  rfl
theorem cut_lt {n : Nat} {s : Shared} {b : Addr} {o : Obj} (h : (cut n s).heap.get? b = some o) : b < n ∧ s.heap.get? b = some o := by
  have l2 : b < (s.heap.objs.extract 0 n).size := Heap.lt_size h
  rw [ext_size] at l2
  have : b < n := Nat.lt_of_lt_of_le l2 (Nat.min_le_left _ _)
  exact ⟨this, by rw [← cut_get this]; exact h⟩
theorem cut_le (n : Nat) (s : Shared) : (cut n s).heap.objs.size ≤ n := by
  show (s.heap.objs.extract 0 n).size ≤ n
  rw [ext_size]
  exact Nat.min_le_left _ _
theorem cut_size {n : Nat} {s : Shared} (h : n ≤ s.heap.objs.size) : (cut n s).heap.objs.size = n := by
  show (s.heap.objs.extract 0 n).size = n
  rw [ext_size]
  exact Nat.min_eq_left h
/-- a generator that runs -/
structure Gc where
  P : Program
  w : World
  K : PySem.W.Frag
  mg : Str → Option Value
  base : Heap
  N : List Str
  qual : Str
  scope : Scope
  n0 : Addr
  f : Addr
  cd : Value
  A : Around
  outer : List Env
  E : XK
  pn : List Addr
/-- no object of the walker's -/
def Gc.Yng (G : Gc) (b : Addr) : Prop := G.n0 ≤ b ∧ b ∉ G.pn
def Gc.env (G : Gc) : Env := envOfC G.qual G.scope G.n0 G.f G.cd
def Gc.X (G : Gc) (px : List (Addr × Obj)) (s0 : Shared) (H0 : Hp) : Cx where
  prog := G.P
  w := G.w
  K := G.K
  mg := G.mg
  base := G.base
  A := G.A.deeper G.env
  N := G.N
  s_0 := s0
  H_0 := H0
  env := G.env
  outer := G.outer
  stack := G.env :: G.outer
  ex := []
  calm := true
  fn := fun _ => true
  pn := px
  xe := fun e s' => wpAny (model G.P G.w) (G.A.deeper G.env) (leaving G.env e) (fun _ s'' => CX G.P G.w G.outer H0 s0 G.E e s'' ∧ ∀ p ∈ px, s''.heap.get? p.1 = some p.2) (fun _ _ => False) s'
/-- the consumer at a waking: its slots, the heap's ledger, the state -/
structure Zs where
  zc : L2.St
  Hw : Hp
  sw : Shared
  po : Addr → Obj
def Gc.px (G : Gc) (z : Zs) : List (Addr × Obj) := G.pn.map fun b => (b, z.po b)
abbrev Gc.Xz (G : Gc) (z : Zs) : Cx := G.X (G.px z) (cut G.n0 z.sw) z.Hw
theorem takesX {G : Gc} {px : List (Addr × Obj)} {s0 : Shared} {H0 : Hp} : Takes (G.X px s0 H0) (fun cls d _ H' => G.E cls d H') := fun u s' x =>
  XE.leaveG (X := G.X px s0 H0) (W := fun cls d _ H' => G.E cls d H') (E := G.E) rfl rfl rfl (fun _ _ _ _ h => h) x
theorem ownsX {G : Gc} {px : List (Addr × Obj)} {s0 : Shared} {H0 : Hp} : PassesOwn (model G.P G.w) (G.X px s0 H0).A (G.X px s0 H0).env (G.X px s0 H0).xe :=
  passes_of (X := G.X px s0 H0) (K := fun e s'' => CX G.P G.w G.outer H0 s0 G.E e s'' ∧ ∀ p ∈ px, s''.heap.get? p.1 = some p.2) (E₁ := fun _ _ => False) rfl
theorem inv_gens {X : Cx} {pins : List (Addr × Obj)} {σ : L2.St} {H : Hp} {s : Shared} {gs : Array GenState} (I : Inv X pins σ H s) (h : AllBare gs) : Inv X pins σ H { s with gens := gs } :=
  ⟨I.ok, I.os, h, I.base, I.loc, I.cell, I.free, I.freeC, I.pin, I.hok, I.len⟩
/-- the consumer's context and the generator's belong together -/
structure Fits (G : Gc) (X : Cx) : Prop where
  prog : X.prog = G.P
  w : X.w = G.w
  base : X.base = G.base
  stack : X.stack = G.outer
  fr : ∀ b ∈ frs G.outer, b < G.n0
  nocell : ∀ x c, G.env.cells.lookup x = some c → False
/-- what the consumer keeps stood ahead of the generator's frame -/
structure Older (G : Gc) (X : Cx) (pins : List (Addr × Obj)) : Prop where
  loc : X.env.locals < G.n0
  cell : ∀ x c, X.env.cells.lookup x = some c → c < G.n0
  pin : ∀ p ∈ X.pn ++ pins, p.1 < G.n0
  s0 : X.s_0.heap.objs.size ≤ G.n0
def Gc.fp (G : Gc) (px ip : List (Addr × Obj)) : List Addr := G.n0 :: (px ++ ip).map (·.1)
theorem funs_cut {h base : Heap} {n : Nat} {s : Shared} : ∀ {l : List Env}, s.heap.FunFrames base l → (∀ b ∈ frs l, b < n) → (cut n s).heap.FunFrames base l
  | [], _, _ => trivial
  | env :: l, h, hb => by
    obtain ⟨hk, ⟨L, o, hf, hn, ho, hd⟩, hr⟩ := h
    have m : ∀ {e : Env} {a : Addr}, e ∈ env :: l → e.frame = some a → a ∈ frs (env :: l) := fun he e => List.mem_filterMap.mpr ⟨_, he, e⟩
    refine ⟨hk, ⟨L, o, hf, hn, (cut_get (hb L (m List.mem_cons_self hf))).trans ho, hd⟩, funs_cut (h := s.heap) hr fun b hb' => ?_⟩
    obtain ⟨e, he, q⟩ := List.mem_filterMap.mp hb'
    exact hb b (m (List.mem_cons_of_mem _ he) q)
section
variable {G : Gc} {X : Cx} {z : Zs} {ip pins : List (Addr × Obj)} {σ zc : L2.St} {H H1 H2 : Hp} {s s1 s2 : Shared}
/-- waking: the generator's objects stand as they stood at its yield -/
theorem relay {pins' : List (Addr × Obj)} {px : List (Addr × Obj)} {s0 : Shared} {H0 : Hp} (F : Fits G X) (I1 : Inv (G.X px s0 H0) ip σ H1 s1) (I2 : Inv X pins' zc H2 s2) (hz : z.Hw = H2) (hs : z.sw = s2)
    (pinned : ∀ b ∈ G.n0 :: ip.map (·.1), ∀ o, s1.heap.get? b = some o → s2.heap.get? b = some o ∧ H2 b = none)
    (hpx : ∀ p ∈ G.px z, s2.heap.get? p.1 = some p.2 ∧ H2 p.1 = none ∧ p.1 ≠ G.n0 ∧ p.1 ∉ frs G.outer ∧ ∀ v, p.2.data ≠ .cell v) : Inv (G.Xz z) ip σ H2 s2 := by
  subst hz hs
  have hL : (G.X px s0 H0).env.locals = G.n0 := rfl
  obtain ⟨m, hm, hl⟩ := I1.loc
  obtain ⟨oL, es, ep, hoL, hr⟩ := id hm
  have pL := pinned G.n0 List.mem_cons_self oL (hL ▸ hoL)
  have n0lt : G.n0 < z.sw.heap.objs.size := Heap.lt_size pL.1
  have csz := cut_size (s := z.sw) (Nat.le_of_lt n0lt)
  have bb : ∀ b o, G.base.get? b = some o → z.sw.heap.get? b = some o ∧ z.Hw b = none := fun b o e => I2.bs b o (by rw [F.base]; exact e)
  have bl : G.base.objs.size ≤ G.n0 := Nat.le_trans I1.ok.bsz I1.ok.above
  have stk : z.sw.heap.FunFrames G.base G.outer := by
    have q := I2.stack
    rw [F.stack, F.base] at q
    exact q
  have free : ∀ b ∈ frs G.outer, z.Hw b = none := fun b hb => I2.stkFree b (by rw [F.stack]; exact hb)
  refine ⟨⟨I1.ok.mod, I1.ok.kind, I1.ok.glob, I1.ok.blt, Nat.le_of_eq csz, I1.ok.inj, I1.ok.has, fun x c _ e => (F.nocell x c e).elim, I1.ok.hd, I1.ok.frames, I1.ok.stk, I1.ok.exf, fun b o e => ?_, ?_, I1.ok.noex, I1.ok.exfs, ?_, ?_⟩,
    rfl, I2.bare, ⟨fun b o e n _ _ => (cut_lt e).2, fun b o e _ _ _ => ⟨o.slots, (cut_lt e).2⟩, fun _ _ _ n _ => n, fun b o e _ => ⟨o, (cut_lt e).2⟩, fun _ _ e => e, fun _ _ _ e => e, fun b ps e => ⟨#[], by rw [show z.Hw b = _ from e]; simp⟩⟩,
    ⟨m, ⟨oL, es, ep, pL.1, hr⟩, fun i x v e1 e2 e3 => ?_⟩, fun x c e => (F.nocell x c e).elim, pL.2, fun x c e => (F.nocell x c e).elim, fun p hp => ?_, ?_, I1.len⟩
  · obtain ⟨h1, h2⟩ := bb b o e
    exact ⟨(cut_get (Nat.lt_of_lt_of_le (Heap.lt_size e) bl)).trans h1, h2⟩
  · show G.base.objs.size ≤ (cut G.n0 z.sw).heap.objs.size
    rw [csz]
    exact bl
  · exact funs_cut (h := z.sw.heap) stk F.fr
  · exact free
  · obtain ⟨u, r, l⟩ := hl i x v e1 e2 e3
    refine ⟨u, r, ?_⟩
    rcases l with l | ⟨_, c, e, _⟩
    · exact .inl l
    · exact (F.nocell x c e).elim
  · rcases List.mem_append.mp hp with hp | hp
    · exact hpx p hp
    · obtain ⟨h1, h2, h3, h4, h5⟩ := I1.pin p (List.mem_append_right _ hp)
      have hb : p.1 ∈ G.n0 :: ip.map (·.1) := List.mem_cons_of_mem _ (List.mem_map.mpr ⟨p, hp, rfl⟩)
      obtain ⟨q1, q2⟩ := pinned p.1 hb p.2 h1
      exact ⟨q1, q2, h3, h4, h5⟩
  · have q := I2.hok
    rw [F.prog, F.w] at q
    exact q
/-- after a stretch: the consumer's state again -/
theorem back (F : Fits G X) (O : Older G X pins) (I0 : Inv X pins zc H s) (hz : z.Hw = H) (hh : z.sw.heap = s.heap) (ho : z.sw.os = s.os) (I1 : Inv (G.Xz z) ip σ H1 s1) : Inv X pins zc H1 s1 := by
  subst hz
  have lt : ∀ b o, s.heap.get? b = some o → b ∉ (List.range s.heap.objs.size).filter (fun b => decide (G.n0 ≤ b)) → b < G.n0 := fun b o e nb => by
    have l := Heap.lt_size e
    refine Nat.lt_of_not_le fun q => nb (List.mem_filter.mpr ⟨List.mem_range.mpr l, by simpa using q⟩)
  have cg : ∀ b o, s.heap.get? b = some o → b < G.n0 → (cut G.n0 z.sw).heap.get? b = some o := fun b o e l => by
    rw [cut_get l, hh]
    exact e
  refine I0.call' (ch := (List.range s.heap.objs.size).filter (fun b => decide (G.n0 ≤ b))) (I1.os.trans ho) ⟨fun b o e n hb hc => ?_, fun b o e n hb hc => ?_, fun b o e n hc => ?_, fun b o e hc => ?_, I1.base.tups, I1.base.frzs, I1.base.tbls⟩ ?_ I1.bare fun b hb => ?_
  · exact I1.base.keep b o (cg b o e (lt b o e hc)) n (by rw [F.stack] at hb; exact hb) (fun z => nomatch z)
  · exact I1.base.slot b o (cg b o e (lt b o e hc)) n (by rw [F.stack] at hb; exact hb) (fun z => nomatch z)
  · exact I1.base.free b o (cg b o e (lt b o e hc)) n (fun z => nomatch z)
  · exact I1.base.there b o (cg b o e (lt b o e hc)) (fun z => nomatch z)
  · have q := I1.hok
    rw [F.prog, F.w]
    exact q
  · have l : G.n0 ≤ b := by simpa using (List.mem_filter.mp hb).2
    refine ⟨.inr (Nat.le_trans O.s0 l), Nat.ne_of_gt (Nat.lt_of_lt_of_le O.loc l), fun x c e q => ?_, fun p hp q => ?_⟩
    · have := O.cell x c e
      rw [q] at this
      exact absurd (Nat.lt_of_lt_of_le this l) (Nat.lt_irrefl _)
    · have := O.pin p hp
      rw [q] at this
      exact absurd (Nat.lt_of_lt_of_le this l) (Nat.lt_irrefl _)
end
end GPu
/-! LcPw: a generator def's body, walked while a for takes what it hands out -/
namespace GPu
open PySem PySem.Spec PyProof.Rows L2 GenW GSw

/-- the consumer: its slots, what is handed to it, the ledger, what is wanted when it comes back -/
abbrev YL := L2.St → V → Hp → (L2.St → Hp → Prop) → Prop
structure GE where
  nx : L2.St → L2.St → Hp → Prop
  rt : L2.St → V → Hp → Prop
  bk : L2.St → L2.St → Hp → Prop := fun _ _ _ => False
  ct : L2.St → L2.St → Hp → Prop := fun _ _ _ => False
abbrev TP := GE → L2.St → L2.St → Hp → Prop
def GE.at (D : GE) (zc : L2.St) : Ends := { nx := D.nx zc, rt := D.rt zc, bk := D.bk zc, ct := D.ct zc }
def RZ (G : Gc) (De : L2.St → Hp → Prop) : Zs → Result → Shared → Prop := fun z r s => match r with
  | .ok (.ret u) => ∃ ip σ H, Inv (G.Xz z) ip σ H s ∧ u = Value.none ∧ De z.zc H
  | .ok _ => False
  | .error e => CX G.P G.w G.outer z.Hw (cut G.n0 z.sw) G.E e s ∧ ∀ p ∈ G.px z, s.heap.get? p.1 = some p.2
def YZ (G : Gc) (yl : YL) : Zs → Value → Shared → (Zs → Shared → Prop) → Prop := fun z v s kap =>
  ∃ x ip σ H, ∃ k : L2.St → Hp → Prop, RelV x v ∧ (∀ p ∈ ip, G.Yng p.1) ∧ Inv (G.Xz z) ip σ H s ∧ yl z.zc x H k ∧ ∀ z' s', z'.sw = s' → k z'.zc z'.Hw → Inv (G.Xz z') ip σ z'.Hw s' → kap z' s'
abbrev Pz (G : Gc) (yl : YL) (De : L2.St → Hp → Prop) : Zs → Code → Sem PySem.Fin → List Frame → Shared → Prop := SgZ (model G.P G.w) G.A (RZ G De) (YZ G yl)
abbrev Fz (G : Gc) (yl : YL) (De : L2.St → Hp → Prop) (z : Zs) : End → Shared → Prop := EndZ (RZ G De) (YZ G yl) (Pz G yl De) z
def GSP2 (G : Gc) (ip : List (Addr × Obj)) (D : GE) (z : Zs) (f : Flow) (s : Shared) : Prop := match f with
  | .next => ∃ σ H, Inv (G.Xz z) ip σ H s ∧ D.nx z.zc σ H
  | .brk => ∃ σ H, Inv (G.Xz z) ip σ H s ∧ D.bk z.zc σ H
  | .cont => ∃ σ H, Inv (G.Xz z) ip σ H s ∧ D.ct z.zc σ H
  | .ret u => ∃ v σ H, Inv (G.Xz z) ip σ H s ∧ RelV v u ∧ D.rt z.zc v H
structure GC2 (G : Gc) (c : Code) (fs : List Frame) (gd : Bool → Bool) : Prop where
  over : G.A.over c fs = G.A.deeper G.env
  split : splitAtGen fs = none
  guard : fs.any Frame.guarded = false
  gd : gd false = false
structure GK2 (G : Gc) (yl : YL) (De : L2.St → Hp → Prop) (ip : List (Addr × Obj)) (c : Code) (fs : List Frame) (K : Flow → Sem PySem.Fin) (J : Value → Sem PySem.Fin) (D : GE) : Prop where
  ok : ∀ (z : Zs) (s : Shared) (f : Flow), G.n0 ≤ z.sw.heap.objs.size → GSP2 G ip D z f s → Sg (model G.P G.w) G.A (Fz G yl De z) c (K f) fs s
  exc : ∀ (z : Zs) (e : Value) (s : Shared), (G.Xz z).xe e s → Sg (model G.P G.w) G.A (Fz G yl De z) c (J e) fs s
structure GS2 (G : Gc) (yl : YL) (De : L2.St → Hp → Prop) (st : Stmt) (t : TP) : Prop where
  run : ∀ (ip : List (Addr × Obj)) (c : Code) (fs : List Frame) (K : Flow → Sem PySem.Fin) (J : Value → Sem PySem.Fin) (gd : Bool → Bool) (lv : List Value → List Value) (z : Zs) (s : Shared) (σ : L2.St) (H : Hp) (D : GE),
    GC2 G c fs gd → GK2 G yl De ip c fs K J D → (∀ p ∈ ip, G.Yng p.1) → G.n0 ≤ z.sw.heap.objs.size → Inv (G.Xz z) ip σ H s → t D z.zc σ H → Sg (model G.P G.w) G.A (Fz G yl De z) c ((exec st G.env).wrap K J gd lv) fs s
structure GSs2 (G : Gc) (yl : YL) (De : L2.St → Hp → Prop) (st : List Stmt) (t : TP) : Prop where
  run : ∀ (ip : List (Addr × Obj)) (c : Code) (fs : List Frame) (K : Flow → Sem PySem.Fin) (J : Value → Sem PySem.Fin) (gd : Bool → Bool) (lv : List Value → List Value) (z : Zs) (s : Shared) (σ : L2.St) (H : Hp) (D : GE),
    GC2 G c fs gd → GK2 G yl De ip c fs K J D → (∀ p ∈ ip, G.Yng p.1) → G.n0 ≤ z.sw.heap.objs.size → Inv (G.Xz z) ip σ H s → t D z.zc σ H → Sg (model G.P G.w) G.A (Fz G yl De z) c ((execs st G.env).wrap K J gd lv) fs s
section
variable {G : Gc} {yl : YL} {De : L2.St → Hp → Prop} {st : Stmt} {rest : List Stmt}
def p2Ps (t : TS) : TP := fun D zc σ H => t (D.at zc) σ H
theorem g2_ps {t : TS} (h : ∀ z, PS (G.Xz z) st t) : GS2 G yl De st (p2Ps t) := by
  refine ⟨fun ip c fs K J gd lv z s σ H D g k hy hz I ht => sg_wrap ?_⟩
  rw [g.over]
  refine wpAny_mono ((h z).run ip s σ H (D.at z.zc) I ht) (fun f s' q => k.ok z s' f hz ?_) fun x s' q => k.exc z x s' q
  cases f <;> exact q
def p2Nil : TP := fun D zc σ H => D.nx zc σ H
theorem g2_nil : GSs2 G yl De [] p2Nil := ⟨fun ip c fs K J gd lv z s σ H D g k hy hz I ht => sg_nil (k.ok z s .next hz ⟨σ, H, I, ht⟩)⟩
def p2Then (t u : TP) : TP := fun D zc σ H => t { D with nx := u D } zc σ H
theorem g2_cons {t u : TP} (a : GS2 G yl De st t) (b : GSs2 G yl De rest u) : GSs2 G yl De (st :: rest) (p2Then t u) := by
  refine ⟨fun ip c fs K J gd lv z s σ H D g k hy hz I ht => sg_cons (a.run ip c fs _ J gd lv z s σ H { D with nx := u D } g ⟨fun z' s' f hz' q => ?_, k.exc⟩ hy hz I ht)⟩
  cases f with
  | next =>
    obtain ⟨σ', H', I', q⟩ := q
    exact b.run ip c fs K J gd lv z' s' σ' H' D g k hy hz' I' q
  | brk => exact k.ok z' s' .brk hz' q
  | cont => exact k.ok z' s' .cont hz' q
  | ret u => exact k.ok z' s' (.ret u) hz' q
/-- yield e: the consumer takes it, and comes back or not -/
def p2Yield (yl : YL) (te : TE) : TP := fun D zc σ H => te σ H fun x H1 => yl zc x H1 fun zc' H2 => D.nx zc' σ H2
theorem g2_yield {e : Expr} {yp pos : Pos} {te : TE} (he : ∀ z, PE (G.Xz z) e te) (hco : G.env.scope.isCoroutine = false) (hi : interactive G.env = false) : GS2 G yl De (.Expr (.Yield (some e) yp) pos) (p2Yield yl te) := by
  refine ⟨fun ip c fs K J gd lv z s σ H D g k hy hz I ht => sg_yieldSt g.split ?_ hco hi⟩
  rw [g.over]
  refine wpAny_mono ((he z).run ip s σ H _ I ht) (fun v s' hv => ?_) fun x s' hx => k.exc z x s' hx
  obtain ⟨x, H1, I1, rv, q⟩ := hv
  intro gg l kk p hg hk
  refine ⟨?_, fun z' s'' => z'.sw = s'' ∧ D.nx z'.zc σ z'.Hw ∧ Inv (G.Xz z') ip σ z'.Hw s'', ⟨x, ip, σ, H1, _, rv, hy, I1, q, fun z' s'' h1 h2 h3 => ⟨h1, h2, h3⟩⟩, fun z' s'' ⟨h1, h2, h3⟩ => ?_⟩
  · show (!(gg || fs.any Frame.guarded)) = true
    rw [hg, g.gd, g.guard]
    rfl
  · subst h1
    rw [hk]
    exact SgZ.fold (k.ok z' z'.sw .next (Nat.le_of_lt h3.lt) ⟨σ, z'.Hw, h3, h2⟩)
theorem gc2_loop {c c' : Code} {fs : List Frame} {gd : Bool → Bool} {k : Result → Sem PySem.Fin} {l kp : List Value} {p : Pos} (g : GC2 G c fs gd) (hw : c'.weight = 0) (hu : c'.cUnits = 0) : GC2 G c' (.ret k none (gd false) l c p kp :: fs) id := by
  refine ⟨(over_loop hw hu).trans g.over, ?_, ?_, rfl⟩
  · show Option.map _ (splitAtGen fs) = none
    rw [g.split]
    rfl
  · show (gd false || fs.any Frame.guarded) = false
    rw [g.gd, g.guard]
    rfl
/-- an exception is on its way out of a loop -/
theorem sg_back {ip : List (Addr × Obj)} {c : Code} {fs : List Frame} {K : Flow → Sem PySem.Fin} {J : Value → Sem PySem.Fin} {gd : Bool → Bool} {lv : List Value → List Value} {D : GE} {z : Zs} {s : Shared} {e : Value} (g : GC2 G c fs gd) (k : GK2 G yl De ip c fs K J D)
    (h : cameBackBy (model G.P G.w) (G.Xz z).A G.env (G.Xz z).xe e s) : Sg (model G.P G.w) G.A (Fz G yl De z) c (((Sem.raise e : Sem Flow).onRaise (cameBack G.env)).wrap K J gd lv) fs s := by
  show Sg _ _ _ _ (((cameBack G.env e).bind fun _ => (Sem.raise e : Sem Flow)).wrap K J gd lv) _ _
  rw [Sem.bind_eq_wrap, Sem.wrap_wrap]
  refine sg_wrap ?_
  rw [g.over]
  exact wpAny_mono h (fun _ s' hx => k.exc z e s' hx) fun x s' hx => k.exc z x s' hx
abbrev backK (env : Env) (K : Flow → Sem PySem.Fin) (J : Value → Sem PySem.Fin) (gd : Bool → Bool) (lv : List Value → List Value) (r : Result) : Sem PySem.Fin := ((match r with | .ok f => (.pure f : Sem Flow) | .error e => .raise e).onRaise (cameBack env)).wrap K J gd lv
theorem sg_noted {ip : List (Addr × Obj)} {c c' : Code} {fs : List Frame} {K : Flow → Sem PySem.Fin} {J : Value → Sem PySem.Fin} {gd : Bool → Bool} {lv : List Value → List Value} {D : GE} {z : Zs} {s : Shared} {e : Value} {p : Pos} (g : GC2 G c fs gd) (k : GK2 G yl De ip c fs K J D)
    (hw : c'.weight = 0) (hu : c'.cUnits = 0) (h : (G.Xz z).xe e s) : Sg (model G.P G.w) G.A (Fz G yl De z) c' (noted G.env e) (.ret (backK G.env K J gd lv) none (gd false) (lv []) c p [] :: fs) s := by
  refine sg_wrap ?_
  rw [(gc2_loop g hw hu).over]
  refine wpAny_bind (wpAny_mono (ownsX e s h) (fun _ s'' hcb => wpAny_theTreesLotGoes ?_) fun y s'' hcb => ?_)
  · exact sg_leaf (.error e) (sg_back g k hcb)
  · exact sg_leaf (.error y) (sg_back g k hcb)
def p2While (c : TT) (tb : TP) : TP := fun D zc σ H => ∃ W : Nat → L2.St → L2.St → Hp → Prop, (∃ m, W m zc σ H) ∧ ∀ m zc σ H, W m zc σ H →
  c σ H fun b H1 => match b with
    | true => ∃ N : L2.St → L2.St → Hp → Prop, (∀ zc' σ' H', N zc' σ' H' → ∃ m', m' < m ∧ W m' zc' σ' H') ∧ tb { D with nx := N, ct := N, bk := D.nx } zc σ H1
    | false => D.nx zc σ H1
theorem g2_while {test : Expr} {body : List Stmt} {pos : Pos} {tc : TT} {tb : TP} (hc : ∀ z, PT (G.Xz z) test tc) (hb : GSs2 G yl De body tb) : GS2 G yl De (.While test body [] pos) (p2While tc tb) := by
  refine ⟨fun ip c fs K J gd lv z s σ H D g k hy hz I ht => ?_⟩
  obtain ⟨W, ⟨m0, w0⟩, turn⟩ := ht
  refine sg_while fun p => ?_
  have gl := gc2_loop (k := backK G.env K J gd lv) (c' := .whileLoop test body [] G.env) (l := lv []) (kp := []) (p := p) g rfl rfl
  have loop : ∀ (m : Nat) (z : Zs) (s : Shared) (σ : L2.St) (H : Hp), G.n0 ≤ z.sw.heap.objs.size → W m z.zc σ H → Inv (G.Xz z) ip σ H s →
      Sg (model G.P G.w) G.A (Fz G yl De z) (.whileLoop test body [] G.env) ((model G.P G.w).den (.whileLoop test body [] G.env)) (.ret (backK G.env K J gd lv) none (gd false) (lv []) c p [] :: fs) s := by
    intro m
    induction m using Nat.strongRecOn with
    | ind m ih =>
      intro z s σ H hz w I
      refine sg_whileLoop ?_
      rw [gl.over]
      refine wpAny_mono ((hc z).run ip s σ H _ I (turn m z.zc σ H w)) (fun b s' q => ?_) fun x s' hx => sg_noted g k rfl rfl hx
      obtain ⟨H2, I2, q2⟩ := q
      cases b with
      | true =>
        obtain ⟨N, hN, q2⟩ := q2
        refine hb.run ip _ _ _ _ id id z s' σ H2 { D with nx := N, ct := N, bk := D.nx } gl ⟨fun z' s3 f hz' hs => ?_, fun z' x s3 hx => sg_noted g k rfl rfl hx⟩ hy hz I2 q2
        cases f with
        | next =>
          obtain ⟨σ3, H3, I3, n3⟩ := hs
          obtain ⟨m', hm, w3⟩ := hN _ _ _ n3
          exact sg_again rfl (ih m' hm z' s3 σ3 H3 hz' w3 I3)
        | cont =>
          obtain ⟨σ3, H3, I3, n3⟩ := hs
          obtain ⟨m', hm, w3⟩ := hN _ _ _ n3
          exact sg_again rfl (ih m' hm z' s3 σ3 H3 hz' w3 I3)
        | brk => exact sg_leaf (.ok .next) (k.ok z' s3 .next hz' hs)
        | ret v => exact sg_leaf (.ok (.ret v)) (k.ok z' s3 (.ret v) hz' hs)
      | false => exact sg_leaf (.ok .next) (k.ok z s' .next hz ⟨σ, H2, I2, q2⟩)
  exact loop m0 z s σ H hz w0 I
def p2For (wi : TI) (g : TG) (tb : TP) : TP := fun D zc σ H => wi σ H fun J H1 => ∃ W : Nat → Nat → L2.St → L2.St → Hp → Prop, (∃ m, W 0 m zc σ H1) ∧ ∀ i m zc σ H, W i m zc σ H →
  (J.stop i H ∧ D.nx zc σ H) ∨ (J.go i H ∧ ∃ N : L2.St → L2.St → Hp → Prop, (∀ zc' σ' H', N zc' σ' H' → ∃ m', m' < m ∧ W (i + 1) m' zc' σ' H') ∧ ∀ x H', J.yld i H x H' → g x σ H' fun σ2 H2 => tb { D with nx := N, ct := N, bk := D.nx } zc σ2 H2)
theorem g2_for {target iter : Expr} {body : List Stmt} {pos : Pos} {wi : TI} {g : TG} {tb : TP} (hi : ∀ z, PI (G.Xz z) target iter wi) (hg : ∀ z, PG (G.Xz z) target g) (hb : GSs2 G yl De body tb)
    (hs : ∀ x, foldedSetIterable iter G.env x = pure x) : GS2 G yl De (.For target iter body [] pos) (p2For wi g tb) := by
  refine ⟨fun ip c fs K J gd lv z s σ H D gc k hy hz I ht => ?_⟩
  rw [exec_For]
  refine sg_at ?_
  refine sg_bw (wpAny_pure ?_)
  refine sg_bw ?_
  rw [gc.over]
  refine wpAny_mono ((hi z).run _ s σ H _ I ht) (fun v s1 h1 => ?_) fun x s' hx => k.exc z x s' hx
  refine sg_bw (wpAny_of_eq (hs v) ?_)
  refine sg_at ?_
  refine sg_bw (wpAny_pure ?_)
  refine sg_bw (wpAny_holding ?_)
  rw [gc.over]
  refine wpAny_mono h1 (fun itv s2 h2 => ?_) fun x s' hx => k.exc z x s' hx
  obtain ⟨it, fp, tn, Jt, H2, e, I2, T, st2, f2, W, ⟨m0, w0⟩, turn⟩ := h2
  subst e
  have young : ∀ (z' : Zs) (H' : Hp), G.n0 ≤ z'.sw.heap.objs.size → (∀ b ∈ fp, H' b = none) → ∀ b ∈ fp, FpOk (G.Xz z') ip H' b := fun z' H' hz' hn b hb => by
    obtain ⟨_, a1, a2, a3, a4, a5⟩ := f2 b hb
    refine ⟨hn b hb, a1, a2, .inr ?_, a4, fun p hp => ?_⟩
    rcases a3 with q | q
    · exact nomatch q
    rotate_left
    · rcases List.mem_append.mp hp with hp | hp
      · obtain ⟨c, hc, e⟩ := List.mem_map.mp hp
        rw [← e]
        exact a5 (c, z.po c) (List.mem_append_left _ (List.mem_map.mpr ⟨c, hc, rfl⟩))
      · exact a5 p (List.mem_append_right _ hp)
    · have q : (cut G.n0 z.sw).heap.objs.size ≤ b := q
      rw [cut_size hz] at q
      show (cut G.n0 z'.sw).heap.objs.size ≤ b
      rw [cut_size hz']
      exact q
  refine sg_call fun p => ?_
  have gl := gc2_loop (k := backK G.env K J gd lv) (c' := .forLoop target (.ref it) body [] G.env) (l := lv []) (kp := []) (p := p) gc rfl rfl
  have loop : ∀ (m i : Nat) (z : Zs) (s : Shared) (σ : L2.St) (H : Hp), G.n0 ≤ z.sw.heap.objs.size → W i m z.zc σ H → Inv (G.Xz z) ip σ H s → tn i s.heap → (∀ b ∈ fp, H b = none) →
      Sg (model G.P G.w) G.A (Fz G yl De z) (.forLoop target (.ref it) body [] G.env) ((model G.P G.w).den (.forLoop target (.ref it) body [] G.env)) (.ret (backK G.env K J gd lv) none (gd false) (lv []) c p [] :: fs) s := by
    intro m
    induction m using Nat.strongRecOn with
    | ind m ih =>
      intro i z s σ H hz w I st fr
      have ee : ∀ (z : Zs) (x : Value) (s' : Shared), (G.Xz z).xe x s' → Sg (model G.P G.w) G.A (Fz G yl De z) (.forLoop target (.ref it) body [] G.env) (noted G.env x) (.ret (backK G.env K J gd lv) none (gd false) (lv []) c p [] :: fs) s' := fun z x s' hx => sg_noted gc k rfl rfl hx
      refine sg_forLoop ?_
      rw [gl.over]
      rcases turn i m z.zc σ H w with ⟨stop, qn⟩ | ⟨go, N, hN, step⟩
      · refine wpAny_mono (T.done (G.Xz z) rfl rfl rfl rfl i _ s σ H (G.Xz z).xe I (young z H hz fr) st stop) (fun q s4 hq => ?_) fun x s' hx => ee z x s' hx
        obtain ⟨hr, I4⟩ := hq
        subst hr
        refine sg_again rfl ?_
        exact sg_leaf (.ok .next) (k.ok z s4 .next hz ⟨σ, H, I4, qn⟩)
      · refine wpAny_mono (T.item (G.Xz z) rfl rfl rfl rfl i _ s σ H (G.Xz z).xe I (young z H hz fr) st go) (fun q s4 hq => ?_) fun x s' hx => ee z x s' hx
        obtain ⟨u, hr, h4⟩ := hq
        subst hr
        refine wpAny_mono h4 (fun _ s5 h5 => ?_) fun x s' hx => ee z x s' hx
        obtain ⟨x, H5, I5, r5, y5, st5, fr5⟩ := h5
        have I5' := I5.pinned (young z H5 hz fr5) (T.obj _ _ st5)
        refine wpAny_mono ((hg z).run _ s5 σ H5 x u _ I5' r5 (step x H5 y5)) (fun _ s6 h6 => ?_) fun x s' hx => ee z x s' hx
        obtain ⟨σ6, H6, I6, q6⟩ := h6
        have back : ∀ {z' : Zs} {σ' : L2.St} {H' : Hp} {s' : Shared}, Inv (G.Xz z') (ip ++ pinsAt fp s5.heap) σ' H' s' → Inv (G.Xz z') ip σ' H' s' ∧ tn (i + 1) s'.heap ∧ ∀ b ∈ fp, H' b = none := fun {z' σ' H' s'} I' => by
          refine ⟨I'.unpinned, T.keep _ _ _ st5 fun b hb o e => (I'.pin (b, o) (List.mem_append_right _ (List.mem_append_right _ (mem_pinsAt hb e)))).1, fun b hb => ?_⟩
          obtain ⟨o, e, d⟩ := T.obj _ _ st5 b hb
          exact (I'.pin (b, o) (List.mem_append_right _ (List.mem_append_right _ (mem_pinsAt hb e)))).2.1
        have hy5 : ∀ p ∈ ip ++ pinsAt fp s5.heap, G.Yng p.1 := fun p hp => by
          rcases List.mem_append.mp hp with q | q
          · exact hy p q
          · have q0 := young z H5 hz fr5 p.1 (of_pinsAt q).1
            refine ⟨?_, fun hm => q0.2.2.2.2.2 (p.1, z.po p.1) (List.mem_append_left _ (List.mem_map.mpr ⟨p.1, hm, rfl⟩)) rfl⟩
            have q2 := q0.2.2.2.1
            rcases q2 with q2 | q2
            · exact nomatch q2
            · have q2 : (cut G.n0 z.sw).heap.objs.size ≤ p.1 := q2
              rw [cut_size hz] at q2
              exact q2
        refine hb.run (ip ++ pinsAt fp s5.heap) _ _ _ _ id id z s6 σ6 H6 { D with nx := N, ct := N, bk := D.nx } gl ⟨fun z' s7 f hz' hs => ?_, fun z' x s7 hx => ee z' x s7 hx⟩ hy5 hz I6 q6
        cases f with
        | next =>
          obtain ⟨σ7, H7, I7, n7⟩ := hs
          obtain ⟨m', hm, w7⟩ := hN _ _ _ n7
          obtain ⟨b1, b2, b3⟩ := back I7
          exact sg_again rfl (ih m' hm (i + 1) z' s7 σ7 H7 hz' w7 b1 b2 b3)
        | cont =>
          obtain ⟨σ7, H7, I7, n7⟩ := hs
          obtain ⟨m', hm, w7⟩ := hN _ _ _ n7
          obtain ⟨b1, b2, b3⟩ := back I7
          exact sg_again rfl (ih m' hm (i + 1) z' s7 σ7 H7 hz' w7 b1 b2 b3)
        | brk =>
          obtain ⟨σ7, H7, I7, q7⟩ := hs
          exact sg_leaf (.ok .next) (k.ok z' s7 .next hz' ⟨σ7, H7, (back I7).1, q7⟩)
        | ret v =>
          obtain ⟨x7, σ7, H7, I7, r7, q7⟩ := hs
          exact sg_leaf (.ok (.ret v)) (k.ok z' s7 (.ret v) hz' ⟨x7, σ7, H7, (back I7).1, r7, q7⟩)
  exact loop m0 0 z s2 σ H2 hz w0 I2 st2 fun b hb => (f2 b hb).1
end
end GPu
/-! LcPx: for x in g(..), g a generator def -/
namespace GPu
open PySem PySem.Spec PyProof.Rows L2 GenW GSw

/-- a generator, to be woken -/
def WkS (M : Model) (A : Around) (Φ : End → Shared → Prop) (gs : GenState) (s : Shared) : Prop := match gs with
  | .fresh c => Sg M A Φ c (M.den c) [] s
  | .suspended k _ c _ fs _ => Sg M A Φ c (k (.send .none)) fs s
  | _ => False
theorem wake_run {M : Model} {A : Around} {Φ : End → Shared → Prop} {g : Nat} {gs : GenState} {s : Shared} {l : List Value} {α : Type} {k : GenResult → Sem α} {Q : α → Shared → Prop} {E : Value → Shared → Prop} (hg : s.gens[g]? = some gs) (hw : WkS M A Φ gs (s.setGen g .running))
    (hq : ∀ e s', Φ e s' → e.quiet = true) (hk : ∀ e s1, Φ e s1 → wpAny M A (k e.result) Q E (s1.setGen g e.genState)) : wpAny M A (.resume g (.send .none) l k) Q E s := by
  intro Γ p hΓ
  rw [Sem.wp_resume]
  cases gs with
  | fresh c =>
    obtain ⟨e, s1, hr, hφ⟩ := hw (Γ.wake c p) p rfl (hΓ.wake c p)
    refine ⟨_, _, ?_, hk e s1 hφ Γ p hΓ⟩
    unfold Wakes
    rw [hg]
    exact ⟨e, s1, hr, hq e s1 hφ, rfl, rfl⟩
  | suspended k0 l0 c0 p0 fs0 cl0 =>
    obtain ⟨e, s1, hr, hφ⟩ := hw (Γ.wake c0 p) p0 rfl (hΓ.wake c0 p)
    refine ⟨_, _, ?_, hk e s1 hφ Γ p hΓ⟩
    unfold Wakes
    rw [hg]
    exact ⟨e, s1, hr, hq e s1 hφ, rfl, rfl⟩
  | running => exact hw.elim
  | finished => exact hw.elim
section
variable {P : Program} {w : World} {A : Around} {E : Value → Shared → Prop} {s : Shared}
/-- the next of a generator that is asked by a for -/
theorem next_Z {a : Addr} {g : Nat} {gs : GenState} {Φ : End → Shared → Prop} {Q : Option Value → Shared → Prop} (hh : A.handled = none) (hl : s.heap.NoLimit) (hroom : A.depth < recursionLimit) (hg : s.heap.IsGen a g) (hgs : s.gens[g]? = some gs)
    (hw : WkS (model P w) A.in1 Φ gs (s.setGen g .running)) (hq : ∀ e s', Φ e s' → e.quiet = true)
    (hY : ∀ v gg l k c p fs s1, Φ (.susp v gg l k c p fs) s1 → Q (some v) (s1.setGen g (End.susp v gg l k c p fs).genState))
    (hR : ∀ f s1, Φ (.ret (.ok f)) s1 → (f = .ret .none ∨ f = .next) ∧ ∀ h', (∀ b o, s1.heap.get? b = some o → h'.get? b = some o) → Q none { s1.setGen g .finished with heap := h' })
    (hE : ∀ e s1, Φ (.ret (.error e)) s1 → s1.heap.IsGen a g ∧ NotStop (model P w) e s1.heap ∧ E e (s1.setGen g .finished)) : wpAny (model P w) A (pyNext (.ref a)) Q E s := by
  unfold pyNext
  refine wpAny_bind (wpAny_attempt (wpAny_callSpecial?_slot (name := Str.ofString "__next__") hg.typeIs slot_gen_next (wpAny_call_entry slot_gen_next hg.typeIs entry_gen_next ?_ (args_gen_next _))))
  show wpAny _ A.in1 (Builtin.Generator.genWake (.ref a) (.send .none)) _ _ s
  unfold Builtin.Generator.genWake
  refine wpAny_bind (wpAny_holding (wpAny_genNumber hg (wpAny_bind (wpAny_genState hgs ?_))))
  cases gs with
  | running => exact hw.elim
  | finished => exact hw.elim
  | _ =>
    refine wpAny_bind (wpAny_roomToWake hl hroom ?_)
    show wpAny _ A.in1 (.resume g (.send .none) [] _) _ _ s
    refine wake_run hgs hw hq fun e s1 hφ => ?_
    cases e with
    | susp v gg l k c p fs => exact wpAny_pure ⟨v, rfl, wpAny_pure (hY v gg l k c p fs s1 hφ)⟩
    | ret r =>
      cases r with
      | ok f =>
        obtain ⟨hf, hq2⟩ := hR f s1 hφ
        have hres : (End.ret (.ok f)).result = .returned .none := by
          rcases hf with e | e <;> rw [e] <;> rfl
        rw [hres]
        show wpAny _ A.in1 (newExc (.type "StopIteration") [] >>= _) _ _ _
        refine wpAny_bind ?_
        simp only [newExc, newTuple]
        refine wpAny_bind (wpAny_newObj_type ?_ (by size_fits))
        refine wpAny_bind (m := firstArgMember _ _) (wpAny_of_eq (a := Value.none) (by first | rfl | (simp only [firstArgMember]; rfl)) ?_)
        refine wpAny_newObj_type ?_ (by size_fits)
        simp only [raiseNew]
        refine wpAny_bind (wpAny_bind (wpAny_handled ?_))
        have hh1 : A.in1.handled = none := hh
        rw [hh1]
        refine wpAny_throw (wpAny_bind (wpAny_isInstance (T := "StopIteration") (b := true) ⟨_, Heap.get?_push_size _ rfl, rfl⟩ isSubtype_stop ?_))
        exact wpAny_pure (hq2 _ fun b o hb => Heap.get?_push_of_some _ (Heap.get?_push_of_some _ hb))
      | error e =>
        obtain ⟨hg1, hns, hq2⟩ := hE e s1 hφ
        obtain ⟨o, nm, qn, ho, hc, hd, hsl⟩ := hg1
        show wpAny _ A.in1 (Builtin.Generator.genLeft (.ref a) e) _ _ _
        unfold Builtin.Generator.genLeft Builtin.Generator.madeByALambda
        refine wpAny_bind (wpAny_bind (wpAny_load (o := o) ho (wpAny_pure (wpAny_bind (hns _ _ _ _ rfl ?_)))))
        rw [Bool.and_false, if_neg Bool.false_ne_true]
        unfold Builtin.Generator.genEscaped
        first
          | refine wpAny_bind (hns _ _ _ _ rfl ?_)
          | refine wpAny_bind (wpAny_pure (wpAny_bind (hns _ _ _ _ rfl ?_)))
        rw [if_pos (show (!false) = true from rfl)]
        have left : wpAny (model P w) A (isInstance e (.type "StopIteration") >>= fun b => if b = true then pure none else throw e) Q E (s1.setGen g .finished) := by
          refine wpAny_bind (hns _ _ _ _ rfl ?_)
          rw [if_neg Bool.false_ne_true]
          exact wpAny_throw hq2
        first
          | exact wpAny_throw left
          | exact wpAny_bind (wpAny_throw left)
end
end GPu
/-! LcPy: for x in g(..): the statement -/
namespace GPu
open PySem PySem.Spec PyProof.Rows L2 GenW GSw

theorem start_Z {G : Gc} {yl : YL} {De : L2.St → Hp → Prop} {body : List Stmt} {t : TP} {z : Zs} {s : Shared} {σ : L2.St} {H : Hp} (hb : GSs2 G yl De body t) (hz : G.n0 ≤ z.sw.heap.objs.size) (I : Inv (G.Xz z) [] σ H s)
    (ht : t { nx := fun zc _ H => De zc H, rt := fun zc v H => v = .non ∧ De zc H } z.zc σ H) : Sg (model G.P G.w) G.A (Fz G yl De z) (.func body G.env) ((model G.P G.w).den (.func body G.env)) [] s := by
  refine sg_func (hb.run [] _ [] _ _ id id z s σ H _ ⟨over_func, rfl, rfl, rfl⟩ ⟨fun z' s' f hz' q => ?_, fun z' e s' hx => ?_⟩ (fun p hp => nomatch hp) hz I ht)
  · cases f with
    | next =>
      obtain ⟨σ', H', I', q⟩ := q
      exact sg_end (.ok (.ret .none)) ⟨[], σ', H', I', rfl, q⟩
    | brk =>
      obtain ⟨_, _, _, q⟩ := q
      exact q.elim
    | cont =>
      obtain ⟨_, _, _, q⟩ := q
      exact q.elim
    | ret u =>
      obtain ⟨v, σ', H', I', rv, ev, q⟩ := q
      subst ev
      exact sg_end (.ok (.ret u)) ⟨[], σ', H', I', rv, q⟩
  · refine sg_wrap ?_
    rw [over_func]
    exact wpAny_mono hx (fun _ s'' q => sg_end (.error e) q) fun _ _ q => q.elim
/-- objects of the generator are pinned -/
theorem pinX {G : Gc} {X : Cx} {pins : List (Addr × Obj)} {zc : L2.St} {H : Hp} {s : Shared} {fp : List Addr} (O : Older G X pins) (IX : Inv X pins zc H s) (at_ : ∀ b ∈ fp, G.n0 ≤ b ∧ H b = none ∧ ∃ o, s.heap.get? b = some o ∧ ∀ v, o.data ≠ .cell v) : Inv X (pins ++ pinsAt fp s.heap) zc H s := by
  refine IX.pinned (fun b hb => ?_) fun b hb => (at_ b hb).2.2
  obtain ⟨l, n, _⟩ := at_ b hb
  refine ⟨n, Nat.ne_of_gt (Nat.lt_of_lt_of_le O.loc l), fun hm => ?_, .inr (Nat.le_trans O.s0 l), fun x c e q => ?_, fun p hp q => ?_⟩
  · obtain ⟨_, o, ho, _⟩ := IX.ok.funs.mem hm
    exact absurd (Nat.lt_of_lt_of_le (Heap.lt_size ho) (Nat.le_trans O.s0 l)) (Nat.lt_irrefl _)
  · have := O.cell x c e
    rw [q] at this
    exact absurd (Nat.lt_of_lt_of_le this l) (Nat.lt_irrefl _)
  · have := O.pin p hp
    rw [q] at this
    exact absurd (Nat.lt_of_lt_of_le this l) (Nat.lt_irrefl _)
/-- the generator's frame, what it is walked by, what it holds -/
theorem atG {G : Gc} {ip px : List (Addr × Obj)} {σ : L2.St} {H H0 : Hp} {s s0 : Shared} (hp : ∀ p ∈ px ++ ip, G.n0 ≤ p.1) (IG : Inv (G.X px s0 H0) ip σ H s) : ∀ b ∈ G.fp px ip, G.n0 ≤ b ∧ H b = none ∧ ∃ o, s.heap.get? b = some o ∧ ∀ v, o.data ≠ .cell v := fun b hb => by
  rcases List.mem_cons.mp hb with e | hb
  · rw [e]
    obtain ⟨m, ⟨o, es, ep, ho, hd, _⟩, _⟩ := IG.loc
    exact ⟨Nat.le_refl _, IG.free, o, ho, fun v q => by rw [hd] at q; cases q⟩
  · obtain ⟨p, hp', e⟩ := List.mem_map.mp hb
    rw [← e]
    obtain ⟨h1, h2, _, _, h5⟩ := IG.pin p hp'
    exact ⟨hp p hp', h2, p.2, h1, h5⟩
theorem pin_at {X : Cx} {pins : List (Addr × Obj)} {fp : List Addr} {zc : L2.St} {H H1 : Hp} {s s1 : Shared} {h : Heap} {b : Addr} {o : Obj} (I : Inv X (pins ++ pinsAt fp h) zc H s) (hb : b ∈ fp) (e : h.get? b = some o) : s.heap.get? b = some o ∧ H b = none := by
  obtain ⟨h1, h2, _⟩ := I.pin (b, o) (List.mem_append_right _ (List.mem_append_right _ (mem_pinsAt hb e)))
  exact ⟨h1, h2⟩
/-- a turn of a for -/
theorem for_turn {P : Program} {w : World} {A : Around} {R : Result → Shared → Prop} {target : Expr} {it : Value} {body : List Stmt} {env : Env} {s : Shared}
    (h : wpAny (model P w) A (pyNext it) (fun r s1 => match r with
      | none => R (.ok .next) s1
      | some v => wpAny (model P w) A (letOwnedTupleGo target it v) (fun _ s2 => wpAny (model P w) A (assign target env v) (fun _ s3 => wpAny (model P w) A (execs body env) (fun f s4 => match f with
          | .next | .cont => codeAny (model P w) A (.forLoop target it body [] env) R s4
          | .brk => R (.ok .next) s4
          | .ret u => R (.ok (.ret u)) s4) (notedBy (model P w) A env fun e s' => R (.error e) s') s3) (notedBy (model P w) A env fun e s' => R (.error e) s') s2) (notedBy (model P w) A env fun e s' => R (.error e) s') s1) (notedBy (model P w) A env fun e s' => R (.error e) s') s) :
    codeAny (model P w) A (.forLoop target it body [] env) R s := by
  refine codeAny_of_tree ?_
  show wpAny _ A ((forTurn target it body [] env).onRaise (fun x => do noteFrame x env; theTreesLotGoes x)) _ _ s
  refine wpAny_noted ?_
  unfold forTurn
  refine wpAny_bind (wpAny_standAt (wpAny_bind (wpAny_onRaise (wpAny_mono h (fun r s1 h1 => ?_) fun _ _ x => wpAny_standAt x))))
  cases r with
  | none => exact wpAny_pure ⟨rfl, codeAny_block (wpAny_execs_nil h1)⟩
  | some v =>
    refine wpAny_bind (wpAny_mono h1 (fun _ s2 h2 => wpAny_bind (wpAny_mono h2 (fun _ s3 h3 => wpAny_bind (wpAny_mono h3 (fun f s4 h4 => ?_) fun _ _ x => x)) fun _ _ x => x)) fun _ _ x => x)
    cases f with
    | next => exact wpAny_pure ⟨rfl, h4⟩
    | cont => exact wpAny_pure ⟨rfl, h4⟩
    | brk => exact wpAny_pure h4
    | ret u => exact wpAny_pure h4
/-- what leaves the frame is the same where the suspended generators are hidden -/
def XeOk (X : Cx) : Prop := ∀ (σ : Nat → Option GenState) (e : Value) (h : Shared), Hid σ h → X.xe e h → X.xe e (real σ h)
theorem cx_real {P : Program} {w : World} {outer : List Env} {H : Hp} {s h : Shared} {E : XK} {e : Value} {σ : Nat → Option GenState} (hh : Hid σ h) (c : CX P w outer H s E e h) : CX P w outer H s E e (real σ h) := by
  obtain ⟨a, B, H', cls, d, z1, fl, z2, ub, z3, z4, z5, z6⟩ := c
  exact ⟨a, B, H', cls, d, z1, fl, z2, ub, z3, z4, real_bare hh z5, z6⟩
theorem xeOk_cx {P : Program} {w : World} {K : PySem.W.Frag} {mg : Str → Option Value} {base : Heap} {N : List Str} {qual : Str} {scope : Scope} {f : Addr} {cd : Value} {A : Around} {outer : List Env} {s : Shared} {H : Hp} {E : XK} :
    XeOk (cxOf (CX P w) P w K mg base N qual scope f cd A outer s H E) := by
  intro σ e h hh hx Γ p hΓ
  have q := GSw.wp_real (model P w) Γ σ _ _ _ p h hh (hx Γ p hΓ)
  refine Sem.wp_mono _ _ _ (fun a p' s' z => ?_) (fun a p' s' z => ?_) _ _ q
  · obtain ⟨h', rfl, hh', c⟩ := z
    exact cx_real hh' c
  · obtain ⟨h', rfl, hh', c⟩ := z
    exact cx_real hh' c
/-- a run between two wakings -/
theorem hid_run {X : Cx} {α : Type} {m : Sem α} {Q Q' : α → Shared → Prop} {s : Shared} (hx : XeOk X) (h : wpAny (model X.prog X.w) X.A m Q X.xe (hide s)) (hQ : ∀ a h', Hid (sus s) h' → Q a h' → Q' a (real (sus s) h')) : wpAny (model X.prog X.w) X.A m Q' X.xe s := by
  refine wpAny_mono (wpAny_hidden h) (fun a s' z => ?_) fun e s' z => ?_
  · obtain ⟨h', rfl, hh, q⟩ := z
    exact hQ a h' hh q
  · obtain ⟨h', rfl, hh, q⟩ := z
    exact hx _ e h' hh q
theorem inv_hide {X : Cx} {pins : List (Addr × Obj)} {σ : L2.St} {H : Hp} {s : Shared} (I : Inv X pins σ H s) : Inv X pins σ H (hide s) := inv_gens I (hide_bare I.bare)
theorem inv_real {X : Cx} {pins : List (Addr × Obj)} {σ : L2.St} {H : Hp} {s : Shared} {τ : Nat → Option GenState} (hh : Hid τ s) (I : Inv X pins σ H s) : Inv X pins σ H (real τ s) := inv_gens I (real_bare hh I.bare)
def mkG (X : Cx) (B : Around) (N : List Str) (qual : Str) (scope : Scope) (n0 f : Addr) (cd : Value) (pn : List Addr) : Gc := ⟨X.prog, X.w, X.K, X.mg, X.base, N, qual, scope, n0, f, cd, B, X.stack, fun _ _ _ => False, pn⟩
def WkE (M : Model) (gs : GenState) (c : Code) (t : Sem PySem.Fin) (fs : List Frame) : Prop := match gs with
  | .fresh c' => c' = c ∧ t = M.den c ∧ fs = []
  | .suspended k _ c' _ fs' _ => c' = c ∧ t = k (.send .none) ∧ fs' = fs
  | _ => False
theorem WkE.wkS {M : Model} {A : Around} {Φ : End → Shared → Prop} {gs : GenState} {c : Code} {t : Sem PySem.Fin} {fs : List Frame} {s : Shared} (h : WkE M gs c t fs) (q : Sg M A Φ c t fs s) : WkS M A Φ gs s := by
  cases gs with
  | fresh c' =>
    obtain ⟨rfl, rfl, rfl⟩ := h
    exact q
  | suspended k l c' p fs' cl =>
    obtain ⟨rfl, rfl, rfl⟩ := h
    exact q
  | running => exact h.elim
  | finished => exact h.elim
theorem setGen_bare {s : Shared} {g : Nat} {x : GenState} (h : AllBare s.gens) (hx : x.bare = true) : AllBare (s.setGen g x).gens := allBare_setGen h hx
theorem setGen_get {s : Shared} {g : Nat} {x : GenState} (h : g < s.gens.size) : (s.setGen g x).gens[g]? = some x := setGen_at h
def yForGen (g : TG) (tb : TS) (D : Ends) : YL := fun zc x H k => g x zc H fun z2 H2 => tb { D with nx := k, ct := k, bk := D.nx } z2 H2
def RFor (X : Cx) (pins : List (Addr × Obj)) (D : Ends) : Result → Shared → Prop := fun r s' => match r with
  | .ok f => SP X pins D f s'
  | .error e => cameBackBy (model X.prog X.w) X.A X.env X.xe e s'
section
variable {X : Cx} {pins : List (Addr × Obj)} {N : List Str} {qual : Str} {scope : Scope} {n0 f a : Addr} {cd : Value} {go : Obj} {g : Nat} {target : Expr} {body : List Stmt} {gr : TG} {tb : TS} {D : Ends}
theorem loop_Z (F : Fits (mkG X X.A.in1 N qual scope n0 f cd [a]) X) (O : Older (mkG X X.A.in1 N qual scope n0 f cd [a]) X pins) (ha : n0 ≤ a) (hgo : ∀ h : Heap, h.get? a = some go → h.IsGen a g) (hc : X.calm = true) (room : X.A.depth < recursionLimit)
    (hg : PG X target gr) (hb : PSs X body tb) (hp : PassesOwn (model X.prog X.w) X.A X.env X.xe) (hx : XeOk X) : ∀ z c t fs s, Pz (mkG X X.A.in1 N qual scope n0 f cd [a]) (yForGen gr tb D) D.nx z c t fs s →
      ∀ (sc : Shared) (gs : GenState), s = sc.setGen g .running → z.sw = s → z.po = (fun _ => go) → sc.gens[g]? = some gs → WkE (model X.prog X.w) gs c t fs → Inv X pins z.zc z.Hw sc → sc.heap.get? a = some go →
      codeAny (model X.prog X.w) X.A (.forLoop target (.ref a) body [] X.env) (RFor X pins D) sc := by
  intro z c t fs s h
  refine h (fun z c t fs s => ∀ (sc : Shared) (gs : GenState), s = sc.setGen g .running → z.sw = s → z.po = (fun _ => go) → sc.gens[g]? = some gs → WkE (model X.prog X.w) gs c t fs → Inv X pins z.zc z.Hw sc → sc.heap.get? a = some go →
      codeAny (model X.prog X.w) X.A (.forLoop target (.ref a) body [] X.env) (RFor X pins D) sc) ?_
  clear h z c t fs s
  intro z c t fs s step sc gs hs hz hpo hgs hwk I hga
  subst hs
  have glt : g < sc.gens.size := (Array.getElem?_eq_some_iff.mp hgs).1
  have hisg := hgo _ hga
  refine for_turn (wpAny_passesOwn hp (wpAny_gsz (n := g + 1) glt (next_Z (A := X.A) (I.ok.hd hc) I.nolimit room hisg hgs (hwk.wkS step) (fun e s' q => ?_) (fun v gg l k c1 p fs1 s1 q => ?_) (fun fl s1 q => ?_) fun e s1 q => ?_)))
  · cases e with
    | ret r => rfl
    | susp v gg l k c1 p fs1 => exact q.1
  · intro hsz
    obtain ⟨hq, kap, hy, nxt⟩ := q
    obtain ⟨x, ip, σ, H1, kk, rv, hip, IG, yl, hk⟩ := hy
    have bare1 : (End.susp v gg l k c1 p fs1).genState.bare = true := End.bare_of_quiet hq
    have glt1 : g < s1.gens.size := by
      have e := setGen_size s1 g (End.susp v gg l k c1 p fs1).genState
      have hsz' : g + 1 ≤ (s1.setGen g (End.susp v gg l k c1 p fs1).genState).gens.size := hsz
      omega
    have IX1 : Inv X pins z.zc H1 s1 := back F O I rfl (by rw [hz]; rfl) (by rw [hz]; rfl) IG
    have epx : (mkG X X.A.in1 N qual scope n0 f cd [a]).px z = [(a, go)] := by
      show [(a, z.po a)] = _
      rw [hpo]
    have mem0 : (a, go) ∈ (mkG X X.A.in1 N qual scope n0 f cd [a]).px z := by
      rw [epx]
      exact List.mem_singleton.mpr rfl
    have ypn : ∀ q ∈ (mkG X X.A.in1 N qual scope n0 f cd [a]).px z ++ ip, n0 ≤ q.1 := fun q hq => by
      rcases List.mem_append.mp hq with e | e
      · rw [epx] at e
        rw [List.mem_singleton.mp e]
        exact ha
      · exact (hip q e).1
    have atg := atG ypn IG
    have ga1 : s1.heap.get? a = some go := (IG.pin (a, go) (List.mem_append_left _ mem0)).1
    have IP := pinX O IX1 atg
    have IP2 := inv_gens (gs := (s1.setGen g (End.susp v gg l k c1 p fs1).genState).gens) IP (setGen_bare IP.bare bare1)
    obtain ⟨o, nm, qn, ho, hcl, hda, _⟩ := hgo _ ga1
    refine go_of (s := s1.setGen g (End.susp v gg l k c1 p fs1).genState) (n := "generator") ho hcl hda (by decide) ?_
    refine wpAny_passesOwn hp (hid_run (X := X) hx (hg.run _ _ z.zc H1 x v _ (inv_hide IP2) rv yl) fun _ h2 hh2 q2 => ?_)
    obtain ⟨σ2, H2, I2, q2⟩ := q2
    have I2' := inv_real hh2 I2
    have at2 : (real (sus (s1.setGen g (End.susp v gg l k c1 p fs1).genState)) h2).gens[g]? = some (End.susp v gg l k c1 p fs1).genState := real_sus hh2 (setGen_get glt1) rfl
    refine wpAny_passesOwn hp (hid_run (X := X) hx (hb.run _ _ σ2 H2 _ (inv_hide I2') q2) fun fl h3 hh3 q3 => ?_)
    have at3 := real_sus hh3 at2 rfl
    have again : ∀ {σ3 : L2.St} {H3 : Hp}, Inv X (pins ++ pinsAt ((mkG X X.A.in1 N qual scope n0 f cd [a]).fp ((mkG X X.A.in1 N qual scope n0 f cd [a]).px z) ip) s1.heap) σ3 H3 h3 → kk σ3 H3 → codeAny (model X.prog X.w) X.A (.forLoop target (.ref a) body [] X.env) (RFor X pins D) (real (sus (real (sus (s1.setGen g (End.susp v gg l k c1 p fs1).genState)) h2)) h3) := fun {σ3 H3} I3 q => by
      have I3' := inv_real hh3 I3
      have bR : AllBare ((real (sus (real (sus (s1.setGen g (End.susp v gg l k c1 p fs1).genState)) h2)) h3).setGen g .running).gens := setGen_bare I3'.bare rfl
      have IR := inv_gens (gs := ((real (sus (real (sus (s1.setGen g (End.susp v gg l k c1 p fs1).genState)) h2)) h3).setGen g .running).gens) I3' bR
      have mem_a : a ∈ (mkG X X.A.in1 N qual scope n0 f cd [a]).fp ((mkG X X.A.in1 N qual scope n0 f cd [a]).px z) ip := List.mem_cons_of_mem _ (List.mem_map.mpr ⟨(a, go), List.mem_append_left _ mem0, rfl⟩)
      have pa := pin_at (H1 := H3) (s1 := h3) IR mem_a ga1
      have rl := relay (z := ⟨σ3, H3, (real (sus (real (sus (s1.setGen g (End.susp v gg l k c1 p fs1).genState)) h2)) h3).setGen g .running, fun _ => go⟩) (s2 := (real (sus (real (sus (s1.setGen g (End.susp v gg l k c1 p fs1).genState)) h2)) h3).setGen g .running) F IG IR rfl rfl
        (fun b hb o e => pin_at (H1 := H3) (s1 := h3) IR (by
          rcases List.mem_cons.mp hb with hb | hb
          · rw [hb]
            exact List.mem_cons_self
          · obtain ⟨p, hp', ep⟩ := List.mem_map.mp hb
            exact List.mem_cons_of_mem _ (List.mem_map.mpr ⟨p, List.mem_append_right _ hp', ep⟩)) e) fun p hp' => by
        have e : p = (a, go) := by simpa [Gc.px, mkG] using hp'
        rw [e]
        obtain ⟨g1, g2, g3, g4, g5⟩ := IG.pin (a, go) (List.mem_append_left _ mem0)
        exact ⟨pa.1, pa.2, g3, g4, g5⟩
      have kp := hk ⟨σ3, H3, (real (sus (real (sus (s1.setGen g (End.susp v gg l k c1 p fs1).genState)) h2)) h3).setGen g .running, fun _ => go⟩ _ rfl q rl
      exact nxt _ _ kp _ _ rfl rfl rfl at3 ⟨rfl, rfl, rfl⟩ I3'.unpinned pa.1
    cases fl with
    | next =>
      obtain ⟨σ3, H3, I3, q3⟩ := q3
      exact again I3 q3
    | cont =>
      obtain ⟨σ3, H3, I3, q3⟩ := q3
      exact again I3 q3
    | brk =>
      obtain ⟨σ3, H3, I3, q3⟩ := q3
      exact ⟨σ3, H3, (inv_real hh3 I3).unpinned, q3⟩
    | ret u =>
      obtain ⟨x3, σ3, H3, I3, r3, q3⟩ := q3
      exact ⟨x3, σ3, H3, (inv_real hh3 I3).unpinned, r3, q3⟩
  · cases fl with
    | ret u =>
      obtain ⟨ip, σ, H1, IG, hu, q⟩ := q
      refine ⟨.inl (by rw [hu]), fun h' hk _ => ?_⟩
      have IX1 : Inv X pins z.zc H1 s1 := back F O I rfl (by rw [hz]; rfl) (by rw [hz]; rfl) IG
      exact ⟨z.zc, H1, inv_gens (IX1.kept (t' := s1.toks) hk) (setGen_bare (s := s1) IX1.bare rfl), q⟩
    | next => exact q.elim
    | brk => exact q.elim
    | cont => exact q.elim
  · obtain ⟨⟨_, _, _, _, _, _, _, _, _, _, _, _, z6⟩, _⟩ := q
    exact z6.elim
end
end GPu
/-! LcPz: a generator is made; for x in g(..) -/
namespace GPu
open PySem PySem.Spec PyProof.Rows L2 GenW GSw Lc

/-- what a generator def promises to one that walks it: the arguments, the ledger, the consumer's slots, the consumer, what is wanted behind the loop -/
abbrev SPG := List V → Hp → L2.St → YL → (L2.St → Hp → Prop) → Prop
structure GFnP (P : Program) (w : World) (K : PySem.W.Frag) (mg : Str → Option Value) (base : Heap) (k : Nat) (f : Addr) (fd : FuncData) (ps : List Str) (sp : SPG) : Prop where
  len : ∀ vs H zc yl De, sp vs H zc yl De → vs.length = ps.length
  ex : ∃ (x qual : Str) (st : Stmt) (dV kV doc pm cdv ct oc : Value) (an od : Option Addr) (osl : Array (Option Value)) (N : List Str), fd = PySem.W.fnOf x qual (defArgs st) (defBody st) (defScope st) dV kV doc pm an cdv ct ∧
    K.lookup f = some ⟨oc, od, .func fd, osl⟩ ∧ PySem.W.codeIn K cdv qual = true ∧ GScope N ps (defScope st) ∧ (∀ n y c, (cellsFrom n (defScope st).names []).lookup y = some c → False) ∧
    ∀ (A : Around) (outer : List Env) (n0 : Addr) (pn : List Addr) (yl : YL) (De : L2.St → Hp → Prop) (vs : List V) (H : Hp) (zc : L2.St), RoomG False k (A.deeper (envOfC qual (defScope st) n0 f cdv)) → sp vs H zc yl De →
      ∃ t, GSs2 ⟨P, w, K, mg, base, N, qual, defScope st, n0, f, cdv, A, outer, fun _ _ _ => False, pn⟩ yl De (defBody st) t ∧ t { nx := fun zc _ H => De zc H, rt := fun zc v H => v = .non ∧ De zc H } zc (start N vs) H
section
variable {X : Cx} {pins : List (Addr × Obj)} {σ : L2.St} {H : Hp} {s : Shared}
/-- a generator def is called: the generator, its frame -/
theorem make {B : Around} {f : Addr} {x qual : Str} {params : Arguments} {body : List Stmt} {scope : Scope} {dV kV doc pm cdv ct oc : Value} {an od : Option Addr} {osl : Array (Option Value)} {N ps : List Str} {us : List Value} {vs : List V} {Q : Value → Shared → Prop} {E : Value → Shared → Prop}
    (I : Inv X pins σ H s) (e1 : Env0 X.prog X.w X.K X.mg X.base B X.stack s H) (hh : B.handled = none) (room : X.A.depth < recursionLimit) (lk : X.K.lookup f = some ⟨oc, od, .func (PySem.W.fnOf x qual params body scope dV kV doc pm an cdv ct), osl⟩) (hcd : PySem.W.codeIn X.K cdv qual = true) (S : GScope N ps scope)
    (hb : Binds X.K (PySem.W.fnOf x qual params body scope dV kV doc pm an cdv ct) ps []) (hl : vs.length = ps.length) (r : Vals vs us) (nc : ∀ n y c, (cellsFrom n scope.names []).lookup y = some c → False)
    (hQ : ∀ (a : Addr) (g : Nat) (go : Obj) (s' : Shared), s.heap.objs.size ≤ a → (∀ h : Heap, h.get? a = some go → h.IsGen a g) → s'.gens[g]? = some (.fresh (.func body (envOfC qual scope s.heap.objs.size f cdv))) → s'.heap.get? a = some go → Inv X pins σ H s' →
      Inv ((mkG X B N qual scope s.heap.objs.size f cdv [a]).X [(a, go)] s H) [] (start N vs) H s' → Q (.ref a) s') : wpAny (model X.prog X.w) X.A (call (.ref f) us) Q E s := by
  have hl2 : us.length = ps.length := by rw [← r.length]; exact hl
  have b := hb s us I.kIn (by rw [List.append_nil]; exact hl2)
  rw [List.append_nil] at b
  refine wpAny_call ?_
  refine codeAny_call_generator room (I.kIn _ _ lk) rfl S.co S.gen rfl (PySem.W.codeRec_of I.kIn hcd) (b _ _ _ _ ?_)
  refine wpAny_newFunctionEnv_cells S.kind (fun y hy => ?_) fun env he s1 xx => ?_
  · obtain ⟨n, v⟩ := y
    rcases S.par n (List.of_mem_zip hy).1 with q | q
    · exact .inl q
    · exact .inr ⟨q, PySem.W.cellsFrom_some _ _ _ (.inl q)⟩
  subst he
  have lim1 : s1.heap.NoLimit := I.nolimit.keeps xx.toInCall.keep
  refine ⟨lim1, ?_⟩
  obtain ⟨h1, tk, es1, hk1⟩ := xx.done
  have kp1 : ∀ b o, s.heap.get? b = some o → s1.heap.get? b = some o := xx.toInCall.keep
  have lt1 : s.heap.objs.size < s1.heap.objs.size := xx.toInCall.ns.lt
  have gen1 : s1.gens = s.gens := by rw [es1]
  have os1 : s1.os = s.os := by rw [es1]
  have main : ∀ (go : Obj) (nm qn : Value) (tk2 : Nat), go.cls = .type "generator" → go.data = .fields #[.int s1.gens.size 0, nm, qn] → go.slots = #[] → (∀ h : Heap, (h.push go).get? h.objs.size = some go) →
      Q (.ref s1.heap.objs.size) { s1 with gens := s1.gens.push (.fresh (.func body (envOfC qual scope s.heap.objs.size f cdv))), toks := tk2, heap := s1.heap.push go } := by
    intro go nm qn tk2 c1 c2 c3 c4
    have kp2 : ∀ b o, s1.heap.get? b = some o → (s1.heap.push go).get? b = some o := fun b o e => Heap.get?_push_of_some _ e
    have bare2 : AllBare (s1.gens.push (.fresh (.func body (envOfC qual scope s.heap.objs.size f cdv)))) := AllBare.push (by rw [gen1]; exact I.bare) rfl
    have isg : ∀ h : Heap, h.get? s1.heap.objs.size = some go → h.IsGen s1.heap.objs.size s1.gens.size := fun h e => ⟨go, nm, qn, e, c1, c2, c3⟩
    have kp3 : ∀ b o, s.heap.get? b = some o → (s1.heap.push go).get? b = some o := fun b o e => kp2 b o (kp1 b o e)
    refine hQ s1.heap.objs.size s1.gens.size go _ (Nat.le_of_lt lt1) isg (Array.getElem?_push_size ..) (c4 _) ?_ ?_
    · exact I.call' (ch := []) os1 (Un.kept kp3) (I.hok.kept kp3) bare2 fun b z => nomatch z
    · have I1 : Inv (gcxOf X.prog X.w X.K X.mg X.base N qual scope f cdv B X.stack s H (fun _ _ _ => False) []) [] (start N vs) H s1 := inv_startG S hh e1 hl r xx
      have I2 : Inv (gcxOf X.prog X.w X.K X.mg X.base N qual scope f cdv B X.stack s H (fun _ _ _ => False) []) [] (start N vs) H { s1 with gens := s1.gens.push (.fresh (.func body (envOfC qual scope s.heap.objs.size f cdv))), toks := tk2, heap := s1.heap.push go } :=
        I1.call' (ch := []) rfl (Un.kept kp2) (I1.hok.kept kp2) bare2 fun b z => nomatch z
      have I3 := Inv.pinnedG (pn := [(s1.heap.objs.size, go)]) (pins := []) I2 fun p hp => by
        rw [List.append_nil] at hp
        rw [List.mem_singleton.mp hp]
        refine ⟨c4 _, I1.hok.fresh (Nat.le_refl _), Nat.ne_of_gt lt1, I1.nofs (Nat.le_refl _), fun v q => ?_⟩
        have q : go.data = .cell v := q
        rw [c2] at q
        cases q
      exact ⟨⟨I3.ok.mod, I3.ok.kind, I3.ok.glob, I3.ok.blt, I3.ok.above, I3.ok.inj, I3.ok.has, I3.ok.cab, I3.ok.hd, I3.ok.frames, I3.ok.stk, I3.ok.exf, I3.ok.bs, I3.ok.bsz, I3.ok.noex, I3.ok.exfs, I3.ok.funs, I3.ok.frf⟩,
        I3.os, I3.bare, I3.base, I3.loc, I3.cell, I3.free, I3.freeC, I3.pin, I3.hok, I3.len⟩
  exact main _ _ _ _ rfl rfl rfl fun h => Heap.get?_push_size _ rfl
def tForGen (sp : SPG) (ta : TA) (g : TG) (tb : TS) : TS := fun D zc H => ta zc H fun vs H1 => sp vs H1 zc (yForGen g tb D) D.nx
/-- THE RULE -/
theorem ps_forGen {k : Nat} {f : Addr} {fd : FuncData} {ps : List Str} {sp : SPG} {x : Str} {p p' pos : Pos} {e : Expr} {es : List Expr} {ta : TA} {target : Expr} {body : List Stmt} {g : TG} {tb : TS} (F : GFnP X.prog X.w X.K X.mg X.base k f fd ps sp) (hr : Room (k + 2) X.A) (hx : XeOk X) (hp : PassesOwn (model X.prog X.w) X.A X.env X.xe) (hc : X.calm = true)
    (hgl : Gl X x) (hm : X.mg x = some (.ref f)) (hk : PySem.W.keepIn X.K (.ref f) = true) (hb : Binds X.K fd ps []) (ha : PA X (e :: es) ta) (hg : PG X target g) (hbd : PSs X body tb)
    (hdb : (x == ("__debug__" : Str)) = false := by decide) (he : starEach (e :: es) X.env = (false, eval e X.env) :: starEach es X.env := by rfl) (hpl : (backTo p' (starEach es X.env)).any (·.1) = false := by rfl)
    (hs : ∀ u, foldedSetIterable (.Call (.Name x p) (e :: es) [] p') X.env u = pure u := by intro _; rfl) : PS X (.For target (.Call (.Name x p) (e :: es) [] p') body [] pos) (tForGen sp ta g tb) := by
  refine ⟨fun pins s σ H D I h => ?_⟩
  obtain ⟨nm, qual, st, dV, kV, doc, pm, cdv, ct, oc, an, od, osl, N, efd, lk, hcd, S, nc, bodyT⟩ := F.ex
  refine wpAny_For ?_ hs
  refine wpAny_Call_Name_kw (ld_glob I hgl hm ?_ hdb)
  refine PySem.W.callWith_K (h₀ := X.base) I.ok.mod.kin hk (thn (ha.run p' pins s σ H _ I h) fun us s1 ⟨vs, H1, I1, r, q⟩ => ⟨I1.kIn, ?_⟩) he hpl
  subst efd
  have room : X.A.depth < recursionLimit := by
    have := hr.dp
    omega
  have e0 := I1.env0
  refine make I1 (B := X.A.in1) ⟨e0.frames, e0.mod, e0.bs, e0.bsz, e0.funs, e0.frf, e0.hok, e0.bare⟩ hr.hd room lk hcd S hb (F.len _ _ _ _ _ q) r nc fun a gi go s2 ha2 isg hgs hga I2 IG => ?_
  have hin : ∀ (b : Addr) (o : Obj), s1.heap.get? b = some o → b < s1.heap.objs.size := fun b o e => Heap.lt_size e
  have Fit : Fits (mkG X X.A.in1 N qual (defScope st) s1.heap.objs.size f cdv [a]) X := ⟨rfl, rfl, rfl, rfl, fun b hb => by
    obtain ⟨_, o, ho, _⟩ := I1.stack.mem hb
    exact Heap.lt_size ho, fun y c e => nc _ y c e⟩
  have Old : Older (mkG X X.A.in1 N qual (defScope st) s1.heap.objs.size f cdv [a]) X pins := ⟨I1.lt, fun y c e => by
    obtain ⟨v, o, ho, _⟩ := I1.cell y c e
    exact Heap.lt_size ho, fun q hq => Heap.lt_size (I1.pin q hq).1, I1.sz⟩
  refine wpAny_pyIter_gen (isg _ hga) ?_
  have ypn : ∀ q ∈ [(a, go)] ++ ([] : List (Addr × Obj)), s1.heap.objs.size ≤ q.1 := fun q hq => by
    rw [List.append_nil] at hq
    rw [List.mem_singleton.mp hq]
    exact ha2
  have glt : gi < s2.gens.size := (Array.getElem?_eq_some_iff.mp hgs).1
  have bR : AllBare (s2.setGen gi .running).gens := setGen_bare I2.bare rfl
  have atg := atG ypn IG
  have IP := inv_gens (gs := (s2.setGen gi .running).gens) (pinX Old I2 atg) bR
  have rl := relay (z := ⟨σ, H1, s2.setGen gi .running, fun _ => go⟩) (s2 := s2.setGen gi .running) Fit IG IP rfl rfl (fun b hb o e => pin_at (H1 := H1) (s1 := s2) IP (by
      have hb : b = s1.heap.objs.size := by simpa [mkG] using hb
      rw [hb]
      exact List.mem_cons_self) e) fun p hp' => by
    have e : p = (a, go) := by simpa [Gc.px, mkG] using hp'
    rw [e]
    exact IG.pin (a, go) (List.mem_append_left _ (List.mem_singleton.mpr rfl))
  obtain ⟨t, ht, hq⟩ := bodyT X.A.in1 X.stack s1.heap.objs.size [a] (yForGen g tb D) D.nx vs H1 σ ⟨(Room.deeper (hr.in1) _).mono (by omega), fun z => z.elim⟩ q
  have st := start_Z (G := mkG X X.A.in1 N qual (defScope st) s1.heap.objs.size f cdv [a]) (z := ⟨σ, H1, s2.setGen gi .running, fun _ => go⟩) ht (Nat.le_of_lt rl.lt) rl hq
  exact loop_Z Fit Old ha2 isg hc room hg hbd hp hx _ _ _ _ _ (SgZ.fold st) s2 _ rfl rfl rfl hgs ⟨rfl, rfl, rfl⟩ I2 hga
end
end GPu
/-! LcPg: generator defs that are walked by a for: mirrors take the walker's body -/
namespace Lc
open PySem L2 GPu Res PyProof.Rows
def JP {γ ω : Type} (g : γ → Prop) (o : ω → Prop) : Jn γ ω → Prop
  | .go b => g b
  | .out w => o w
/-- what the walker's body says -/
def yk {γ ρ τ : Type} (l : Lp τ ρ) (k : τ → Res (Jn γ (Jn τ ρ))) : Res (Jn γ (Jn τ ρ)) := match l with
  | .next s => k s
  | .brk s => .ok (.out (.go s))
  | .ret r => .ok (.out (.out r))
def forP {α γ ω : Type} : List α → γ → (γ → α → Res (Jn γ ω)) → Res (Jn γ ω)
  | [], s, _ => .ok (.go s)
  | a :: l, s, f => Jn.sq (f s a) (fun s' => Jn.sq (forP l s' f) (fun x => .ok (.go x)) .out) .out
def whileP {γ ω : Type} : Nat → γ → (γ → Res Bool) → (γ → Res (Jn γ ω)) → Res (Jn γ ω)
  | 0, _, _, _ => .bad
  | n + 1, s, t, f => (t s).bind fun b => match b with
    | true => Jn.sq (f s) (fun s' => Jn.sq (whileP n s' t f) (fun x => .ok (.go x)) .out) .out
    | false => .ok (.go s)
theorem wp_sq {τ ρ β : Type} {m : Res (Jn τ ρ)} {k : τ → Res β} {g : ρ → β} {Q : β → Prop} {X : Nat → Prop} (h : (Jn.sq m k g).wp Q X) : m.wp (JP (fun a => (k a).wp Q X) (fun b => Q (g b))) X := by
  refine wp_mono (wp_bind.mp h) (fun j _ q => ?_) fun _ x => x
  cases j <;> exact q
theorem wp_back {γ ω : Type} {m : Res (Jn γ ω)} {Q : Jn γ ω → Prop} {X : Nat → Prop} (h : (Jn.sq m (fun x => .ok (Jn.go x)) Jn.out).wp Q X) : m.wp Q X := by
  refine wp_mono (wp_sq h) (fun j _ q => ?_) fun _ x => x
  cases j <;> exact q
theorem Fin.ok_drop {E : Ec} {R B : Asr} {D : Ends} : ∀ {f : Fin}, f.ok E R D → f.ok E (sep B R) D
  | .nx _, h => fun σ H t => h σ H (t.ent (Ent.sepR Ent.right))
  | .lp _, h => fun σ H t => h σ H (t.ent (Ent.sepR Ent.right))
  | .bk _, h => fun σ H t => h σ H (t.ent (Ent.sepR Ent.right))
  | .ct _, h => fun σ H t => h σ H (t.ent (Ent.sepR Ent.right))
  | .rt _ _, h => fun σ v H t => h σ v H (t.ent (Ent.sepR (Ent.sepR Ent.right)))
  | .no, h => h
/-- the walker: what it keeps at s (Cc s), its body f, what its end wants -/
structure Wa {τ ρ α : Type} [Dat α] (yl : YL) (Cc : τ → L2.St → Asr) (C : Asr) (f : τ → α → Res (Lp τ ρ)) (Out : Jn τ ρ → Asr → Prop) : Prop where
  run : ∀ (s : τ) (x : α) (zc : L2.St) (xv : V) (H : Hp) (R : Asr) (k : L2.St → Hp → Prop), Top (sep (sep (Cc s zc) C) (sep (vA (dat x) xv) R)) H →
    (f s x).wp (fun l => match l with | .next s' => ∀ z' H', Top (sep (sep (Cc s' z') C) R) H' → k z' H' | .brk s' => Out (.go s') R | .ret r => Out (.out r) R) (fun _ => False) → yl zc xv H k
  out : ∀ w R B, Out w R → Out w (sep B R)
section
variable {E : Ec} {te : TE} {ts : TS} {t u : TP} {Γ : List Cell} {α β γ δ ι τ ρ : Type} {wi : TI} {gr : TG} {tb : TP} {Cc : τ → L2.St → Asr} {Out : Jn τ ρ → Asr → Prop} {Γ' : γ → List Cell} {s' : γ → τ} {yl : YL} {s : τ}
def EvW (E : Ec) (Cc : τ → L2.St → Asr) (Out : Jn τ ρ → Asr → Prop) (t : TP) (Γ : List Cell) (s : τ) (m : Res (Jn γ (Jn τ ρ))) (Γ' : γ → List Cell) (s' : γ → τ) : Prop :=
  ∀ (zc σ : L2.St) (H : Hp) (R : Asr) (D : GE), Top (sep (base E σ Γ) (sep (Cc s zc) R)) H →
    m.wp (JP (fun b => ∀ zc' σ' H', Top (sep (base E σ' (Γ' b)) (sep (Cc (s' b) zc') R)) H' → D.nx zc' σ' H') (fun w => Out w R)) (fun _ => False) → t D zc σ H
theorem EvW.is {m : Res (Jn γ (Jn τ ρ))} {Δ : List Cell} (e : Γ = Δ) (h : EvW E Cc Out t Δ s m Γ' s') : EvW E Cc Out t Γ s m Γ' s' := e ▸ h
theorem ew_nil {b : γ} (l : Le Γ (Γ' b)) (e : s' b = s) : EvW E Cc Out p2Nil Γ s (.ok (.go b)) Γ' s' := fun zc σ H R D t q => q zc σ H (by rw [e]; exact t.ent (Ent.sepL (Ent.sepL l.ent)))
theorem ew_plain {m1 : Res α} {Γ1 : α → List Cell} {m2 : α → Res (Jn γ (Jn τ ρ))} (h : EvS1 E ts Γ m1 Γ1) (k : ∀ a, EvW E Cc Out u (Γ1 a) s (m2 a) Γ' s') : EvW E Cc Out (p2Then (p2Ps ts) u) Γ s (m1.bind m2) Γ' s' := fun zc σ H R D t q =>
  h σ H (sep (Cc s zc) R) _ t (wp_mono (wp_bind.mp q) (fun a _ q σ1 H1 t1 => k a zc σ1 H1 R D t1 q) fun _ x => x.elim)
theorem ew_plainP {Γ1 : List Cell} {m2 : Res (Jn γ (Jn τ ρ))} (h : EvS1 E ts Γ (.ok ()) fun _ => Γ1) (k : EvW E Cc Out u Γ1 s m2 Γ' s') : EvW E Cc Out (p2Then (p2Ps ts) u) Γ s m2 Γ' s' := ew_plain (m2 := fun _ => m2) h fun _ => k
theorem turnE {A B C D R : Asr} : Ent (sep (sep A C) (sep D (sep B R))) (sep (sep B C) (sep D (sep A R))) :=
  ((((((Ent.assoc.trans (Ent.sepR (Ent.sepR frontE))).trans (Ent.sepR frontE)).trans frontE).trans (Ent.sepR frontE)).trans (Ent.sepR (Ent.sepR frontE))).trans Ent.assoc')
theorem turnE0 {A B C R : Asr} : Ent (sep (sep A C) (sep B R)) (sep (sep B C) (sep A R)) := (((Ent.assoc.trans (Ent.sepR frontE)).trans frontE).trans (Ent.sepR frontE)).trans Ent.assoc'
theorem ew_yield [Dat β] {f : τ → β → Res (Lp τ ρ)} {m1 : Res α} {Γ1 : α → List Cell} {c : α → RC} {x : α → β} {m2 : α → τ → Res (Jn γ (Jn τ ρ))} (W : Wa yl Cc E.C f Out) (h : EvJ E te Γ m1 Γ1 c) (hf : ∀ a, Fz (c a) (dat (x a))) (k : ∀ a s2, EvW E Cc Out u (Γ1 a) s2 (m2 a s2) Γ' s') :
    EvW E Cc Out (p2Then (p2Yield yl te) u) Γ s (m1.bind fun a => (f s (x a)).bind fun l => yk l (m2 a)) Γ' s' := fun zc σ H R D t q => by
  refine h σ H (sep (Cc s zc) R) _ t (wp_mono (wp_bind.mp q) (fun a _ q v H1 t1 => ?_) fun _ z => z.elim)
  have t2 : Top (sep (base E σ (Γ1 a)) (sep (vA (dat (x a)) v) (sep (Cc s zc) R))) H1 := (hf a σ v _ H1 (t1.ent frontE)).ent frontE
  have t3 : Top (sep (sep (Cc s zc) E.C) (sep (vA (dat (x a)) v) (sep (sl σ (Γ1 a)) R))) H1 := t2.ent turnE
  refine W.run s (x a) zc v H1 (sep (sl σ (Γ1 a)) R) _ t3 (wp_mono (wp_bind.mp q) (fun l _ q2 => ?_) fun _ z => z)
  cases l with
  | next s2 => exact fun z' H' t4 => k a s2 z' σ H' R D (t4.ent turnE0) q2
  | brk s2 => exact W.out _ _ _ q2
  | ret r => exact W.out _ _ _ q2
theorem ew_for [Dat α] {mi : Res ι} {Γ0 : ι → List Cell} {xs : ι → List α} {Kp : ι → List Cell → Prop} {Γs : δ → List Cell} {sc : δ → τ} {Γt : δ → α → List Cell} {g0 : ι → δ} {F : δ → α → Res (Jn δ (Jn τ ρ))} {m2 : δ → Res (Jn γ (Jn τ ρ))} (ho : ∀ w R B, Out w R → Out w (sep B R))
    (hi : EvI E wi Γ mi Γ0 (fun a => (xs a).map dat) Kp) (hk : ∀ a s, Kp a (Γs s)) (h0 : ∀ a, Le (Γ0 a) (Γs (g0 a))) (h1 : ∀ a, sc (g0 a) = s) {ix : List Nat} (hg : ∀ g x, EvG E gr (dat x) (Γs g) (Γt g x) ix) (hb : ∀ g x, EvW E Cc Out tb (Γt g x) (sc g) (F g x) Γs sc)
    (k : ∀ g, EvW E Cc Out u (Γs g) (sc g) (m2 g) Γ' s') : EvW E Cc Out (p2Then (p2For wi gr tb) u) Γ s (Jn.sq (mi.bind fun a => forP (xs a) (g0 a) F) m2 .out) Γ' s' := fun zc σ H R D t q => by
  refine hi σ H (sep (Cc s zc) R) _ t (wp_mono (wp_bind.mp (wp_sq q)) (fun a _ q J H1 B hJ t1 => ?_) fun _ x => x.elim)
  have t1' : Top (sep (base E σ (Γs (g0 a))) (sep (Cc (sc (g0 a)) zc) (sep B R))) H1 := by
    rw [h1 a]
    exact (t1.ent (Ent.sepL (Ent.sepL (h0 a).ent))).ent (Ent.sepR (Ent.assoc'.trans ((Ent.sepL Ent.comm).trans Ent.assoc)))
  have ho2 : ∀ w, Out w R → Out w (sep B R) := fun w h => ho w R B h
  refine ⟨fun i mm zc' σ' H' => mm = (xs a).length - i ∧ i ≤ (xs a).length ∧ ∃ g, Top (sep (base E σ' (Γs g)) (sep (Cc (sc g) zc') (sep B R))) H' ∧ (forP ((xs a).drop i) g F).wp (JP (fun b => (m2 b).wp (JP (fun b => ∀ zc' σ' H', Top (sep (base E σ' (Γ' b)) (sep (Cc (s' b) zc') R)) H' → D.nx zc' σ' H') (fun w => Out w R)) (fun _ => False)) (fun w => Out w R)) (fun _ => False),
    ⟨_, rfl, Nat.zero_le _, g0 a, t1', q⟩, ?_⟩
  rintro i mm zc' σ' H' ⟨rfl, hle, g, t2, q2⟩
  have ok := hJ σ' (Γs g) (hk a g)
  have t2' : Top (sep (sep (base E σ' (Γs g)) B) (sep (Cc (sc g) zc') R)) H' := t2.ent ((Ent.sepR (Ent.assoc'.trans ((Ent.sepL Ent.comm).trans Ent.assoc))).trans Ent.assoc')
  by_cases hlt : i < (xs a).length
  · refine .inr ⟨ok.goes i H' _ (by rw [List.length_map]; exact hlt) t2', ?_⟩
    have ed : (xs a).drop i = (xs a)[i] :: (xs a).drop (i + 1) := List.drop_eq_getElem_cons hlt
    rw [ed] at q2
    refine ⟨fun zc2 σ2 H2 => ∃ g', Top (sep (base E σ2 (Γs g')) (sep (Cc (sc g') zc2) (sep B R))) H2 ∧ (forP ((xs a).drop (i + 1)) g' F).wp (JP (fun b => (m2 b).wp (JP (fun b => ∀ zc' σ' H', Top (sep (base E σ' (Γ' b)) (sep (Cc (s' b) zc') R)) H' → D.nx zc' σ' H') (fun w => Out w R)) (fun _ => False)) (fun w => Out w R)) (fun _ => False),
      fun zc2 σ2 H2 ⟨g', t3, q3⟩ => ⟨_, by omega, rfl, hlt, g', t3, q3⟩, fun x H2 hy => ?_⟩
    have t3 := ok.yields i (dat (xs a)[i]) H' x H2 _ (by simp [hlt]) t2' hy
    have t4 : Top (sep (base E σ' (Γs g)) (sep (vA (dat (xs a)[i]) x) (sep (Cc (sc g) zc') (sep B R)))) H2 := ((t3.ent (Ent.sepR Ent.assoc)).ent frontE).ent (Ent.sepR (Ent.sepR (Ent.assoc'.trans ((Ent.sepL Ent.comm).trans Ent.assoc))))
    refine hg g (xs a)[i] σ' H2 _ _ x t4 fun σ3 H3 _ t5 => ?_
    refine hb g (xs a)[i] zc' σ3 H3 (sep B R) _ t5 (wp_mono (wp_sq q2) (fun j _ q3 => ?_) fun _ x => x)
    cases j with
    | go g' => exact fun zc4 σ4 H4 t6 => ⟨g', t6, wp_back q3⟩
    | out w => exact ho2 w q3
  · have e : i = (xs a).length := by omega
    subst e
    rw [List.drop_length] at q2
    have z := ok.stops H' _ t2'
    rw [List.length_map] at z
    refine .inl ⟨z, ?_⟩
    exact k g zc' σ' H' R D (t2.ent (Ent.sepR (Ent.sepR Ent.right))) q2
theorem ew_while {tt : TT} {Γs : δ → List Cell} {sc : δ → τ} {g0 : δ} {n : Nat} {mt : δ → Res Bool} {F : δ → Res (Jn δ (Jn τ ρ))} {m2 : δ → Res (Jn γ (Jn τ ρ))} (h0 : Le Γ (Γs g0)) (h1 : sc g0 = s) (ht : ∀ g, EvT E tt (Γs g) (mt g) (fun _ => Γs g) id) (hb : ∀ g, EvW E Cc Out tb (Γs g) (sc g) (F g) Γs sc)
    (k : ∀ g, EvW E Cc Out u (Γs g) (sc g) (m2 g) Γ' s') : EvW E Cc Out (p2Then (p2While tt tb) u) Γ s (Jn.sq (whileP n g0 mt F) m2 .out) Γ' s' := fun zc σ H R D t q => by
  refine ⟨fun mm zc' σ' H' => ∃ g, Top (sep (base E σ' (Γs g)) (sep (Cc (sc g) zc') R)) H' ∧ (whileP mm g mt F).wp (JP (fun b => (m2 b).wp (JP (fun b => ∀ zc' σ' H', Top (sep (base E σ' (Γ' b)) (sep (Cc (s' b) zc') R)) H' → D.nx zc' σ' H') (fun w => Out w R)) (fun _ => False)) (fun w => Out w R)) (fun _ => False),
    ⟨n, g0, by rw [h1]; exact t.ent (Ent.sepL (Ent.sepL h0.ent)), wp_sq q⟩, ?_⟩
  rintro mm zc' σ' H' ⟨g, t2, q2⟩
  cases mm with
  | zero => exact (show False from q2).elim
  | succ n =>
    refine ht g σ' H' (sep (Cc (sc g) zc') R) _ t2 (wp_mono (wp_bind.mp q2) (fun b _ q3 H3 t3 => ?_) fun _ x => x.elim)
    cases b with
    | false => exact k g zc' σ' H3 R D t3 q3
    | true =>
      refine ⟨fun zc2 σ2 H2 => ∃ g', Top (sep (base E σ2 (Γs g')) (sep (Cc (sc g') zc2) R)) H2 ∧ (whileP n g' mt F).wp (JP (fun b => (m2 b).wp (JP (fun b => ∀ zc' σ' H', Top (sep (base E σ' (Γ' b)) (sep (Cc (s' b) zc') R)) H' → D.nx zc' σ' H') (fun w => Out w R)) (fun _ => False)) (fun w => Out w R)) (fun _ => False),
        fun zc2 σ2 H2 ⟨g', t4, q4⟩ => ⟨n, Nat.lt_succ_self _, g', t4, q4⟩, ?_⟩
      refine hb g zc' σ' H3 R _ t3 (wp_mono (wp_sq q3) (fun j _ q4 => ?_) fun _ x => x)
      cases j with
      | go g' => exact fun zc4 σ4 H4 t6 => ⟨g', t6, wp_back q4⟩
      | out w => exact q4
/-! the def's promise -/
def SpW {ι α : Type} [Dat α] (ps : ι → List PP) (m : ∀ {τ ρ : Type}, ι → τ → (τ → α → Res (Lp τ ρ)) → Res (Jn τ ρ)) : SPG := fun vs H zc yl De => ∃ (τ ρ : Type) (x : ι) (C : Asr) (Cc : τ → L2.St → Asr) (s0 : τ) (f : τ → α → Res (Lp τ ρ)) (Out : Jn τ ρ → Asr → Prop) (R : Asr),
  Wa yl Cc C f Out ∧ Top (sep (sep (Cc s0 zc) C) R) H ∧ (∀ F H o, Same F H → C.P F H o → parOk (ps x) vs F H) ∧ (m x s0 f).wp (fun j => Out j R) (fun _ => False) ∧ ∀ s' R, Out (.go s') R → ∀ z' H', Top (sep (sep (Cc s' z') C) R) H' → De z' H'
theorem spw_go [Dat α] {ps : ι → List PP} {m : ∀ {τ ρ : Type}, ι → τ → (τ → α → Res (Lp τ ρ)) → Res (Jn τ ρ)} {vs : List V} {H : Hp} {zc : L2.St} {yl : YL} {De : L2.St → Hp → Prop} {G : Prop} (h : SpW ps (fun {τ ρ} => m (τ := τ) (ρ := ρ)) vs H zc yl De)
    (k : ∀ (τ ρ : Type) (x : ι) (C : Asr) (Cc : τ → L2.St → Asr) (s0 : τ) (f : τ → α → Res (Lp τ ρ)) (Out : Jn τ ρ → Asr → Prop) (R : Asr), Wa yl Cc C f Out → Top (sep (sep (Cc s0 zc) C) R) H → (∀ F H o, Same F H → C.P F H o → parOk (ps x) vs F H) →
      WP (m x s0 f) (fun j => Out j R) (fun _ => False) → (∀ s' R, Out (.go s') R → ∀ z' H', Top (sep (sep (Cc s' z') C) R) H' → De z' H') → G) : G := by
  obtain ⟨τ, ρ, x, C, Cc, s0, f, Out, R, h1, h2, h3, h4, h5⟩ := h
  exact k τ ρ x C Cc s0 f Out R h1 h2 h3 ⟨h4⟩ h5
/-- the body's end -/
theorem finW {K : PySem.W.Frag} {Ex : XK} {ec : Nat → Value} {C R : Asr} {De : L2.St → Hp → Prop} {H : Hp} {zc σ : L2.St} {t : TP} {m : Res (Jn γ (Jn τ ρ))} {Γ0 : List Cell} {Γr : γ → List Cell} {s0 : τ} {sc : γ → τ} (hT : Top (sep (sep (Cc s0 zc) C) R) H) (hin : ∀ F o, Same F H → C.P F H o → allP F H σ Γ0)
    (hw : WP (Jn.sq m (fun g => Res.ok (Jn.go (sc g))) id) (fun j => Out j R) (fun _ => False)) (hd : ∀ s' R, Out (.go s') R → ∀ z' H', Top (sep (sep (Cc s' z') C) R) H' → De z' H') (ho : ∀ w R B, Out w R → Out w (sep B R)) (hb : EvW (Ecf K Ex ec C) Cc Out t Γ0 s0 m Γr sc) :
    t { nx := fun zc _ H => De zc H, rt := fun zc v H => v = .non ∧ De zc H } zc σ H := by
  obtain ⟨F, oo, s, k, o1, o2, h1, h2, d, ⟨o3, o4, h3, h4, d2, pcc, pc⟩, pr⟩ := hT
  have hall := hin F o4 s pc
  have top : Top (sep (base (Ecf K Ex ec C) σ Γ0) (sep (Cc s0 zc) R)) H := by
    have t0 : Top (sep (sl σ Γ0) (sep (sep (Cc s0 zc) C) R)) H := ⟨F, oo, s, k, sep_pers (fun w => sl_all w hall) ⟨o1, o2, h1, h2, d, ⟨o3, o4, h3, h4, d2, pcc, pc⟩, pr⟩⟩
    exact t0.ent ((Ent.sepR ((Ent.sepL Ent.comm).trans Ent.assoc)).trans Ent.assoc')
  refine hb zc σ H R _ top (wp_mono (wp_sq hw.wp) (fun j _ q => ?_) fun _ x => x)
  cases j with
  | go b => exact fun zc' σ' H' t => hd (sc b) R q zc' H' (t.ent ((Ent.assoc.trans Ent.right).trans (Ent.assoc'.trans (Ent.sepL Ent.comm))))
  | out w => exact q
theorem FunG.okW {P : Program} {w : World} {K : PySem.W.Frag} {mg : Str → Option Value} {base : Heap} {x qual : Str} {st : Stmt} {f : Addr} {fd : FuncData} {N ps : List Str} {k : Nat} {sp : SPG} (F : FunG K x qual st f fd) (S : GScope N ps (defScope st)) (nc : ∀ y ∈ (defScope st).names, y.2 ≠ .cell) (len : ∀ vs H zc yl De, sp vs H zc yl De → vs.length = ps.length)
    (hbody : ∀ (cdv : Value) (A : Around) (outer : List Env) (n0 : Addr) (pn : List Addr) (yl : YL) (De : L2.St → Hp → Prop) (vs : List V) (H : Hp) (zc : L2.St), RoomG False k (A.deeper (envOfC qual (defScope st) n0 f cdv)) → sp vs H zc yl De →
      ∃ t, GSs2 ⟨P, w, K, mg, base, N, qual, defScope st, n0, f, cdv, A, outer, fun _ _ _ => False, pn⟩ yl De (defBody st) t ∧ t { nx := fun zc _ H => De zc H, rt := fun zc v H => v = .non ∧ De zc H } zc (start N vs) H) : GFnP P w K mg base k f fd ps sp := by
  obtain ⟨oc, od, dV, kV, doc, pm, an, cdv, ct, osl, rfl, lk, hcd⟩ := F.ex
  refine ⟨len, x, qual, st, dV, kV, doc, pm, cdv, ct, oc, an, od, osl, N, rfl, lk, hcd, S, fun n y c e => ?_, fun A outer n0 pn yl De vs H zc hr hs => hbody cdv A outer n0 pn yl De vs H zc hr hs⟩
  have none : ∀ (l : List (Str × NameKind)) (n : Nat) (acc : List (Str × Addr)), (∀ y ∈ l, y.2 ≠ .cell) → cellsFrom n l acc = acc := by
    intro l
    induction l with
    | nil => intro n acc _; rfl
    | cons y l ih =>
      intro n acc h
      obtain ⟨nm, kd⟩ := y
      have hk : kd ≠ .cell := h (nm, kd) List.mem_cons_self
      have e2 : cellsFrom n ((nm, kd) :: l) acc = cellsFrom n l acc := by
        cases kd <;> first | rfl | exact absurd rfl hk
      rw [e2]
      exact ih n acc fun y hy => h y (List.mem_cons_of_mem _ hy)
  rw [none _ n [] nc] at e
  cases e
/-! ### the for of the walker -/
theorem par_is : ∀ {ws vs : List V} {F H : Hp}, parOk (ws.map fun w v _ _ => v = w) vs F H → vs = ws
  | [], [], _, _, _ => rfl
  | [], _ :: _, _, _, h => (show False from h).elim
  | _ :: _, [], _, _, h => (show False from h).elim
  | w :: ws, v :: vs, F, H, h => by
    obtain ⟨h1, h2⟩ := h
    rw [show v = w from h1, par_is h2]
theorem pa_is {Kn : L2.St → Prop} {i : Nat} {v : V} (hi : Γ[i]? = some (cIs v)) : PArg E Γ Kn (rS i) (fun w _ _ => w = v) := fun σ w F H o _ s ⟨_, _, _, _, _, ⟨_, _, _, _, _, a, c⟩, x⟩ => by
  obtain ⟨y, ey, hy⟩ := sl_get hi a
  have e1 : y = some v := hy
  have e2 : σ[i]? = some (some w) := x
  rw [ey, e1] at e2
  cases e2
  rfl
theorem es_forGen [Dat α] {ps : ι → List PP} {m : ∀ {τ ρ : Type}, ι → τ → (τ → α → Res (Lp τ ρ)) → Res (Jn τ ρ)} {ta : TA} {cs : List RC} {ws : List V} (x : ι) {Γs : τ → List Cell} {Γt : τ → α → List Cell} {s0 : τ} {f : τ → α → Res (Lp τ ρ)} {post : ρ → Fin} {tb : TS}
    (ha : EvAP E ta Γ cs) (hw : Pars E Γ K0 cs (ws.map fun w v _ _ => v = w)) (hpar : ∀ F H o, Same F H → E.C.P F H o → parOk (ps x) ws F H) (h0 : Le Γ (Γs s0)) {ix : List Nat} (hg : ∀ s x, EvG E gr (dat x) (Γs s) (Γt s x) ix) (hb : ∀ s x, EvS E tb (Γt s x) (f s x) (Lp.post Γs post))
    (hp : ∀ r, (∀ Γ, post r ≠ .bk Γ) ∧ (∀ Γ, post r ≠ .ct Γ) ∧ ∀ Γ, post r ≠ .lp Γ) :
    EvS E (tForGen (SpW ps (fun {τ ρ} => m (τ := τ) (ρ := ρ))) ta gr tb) Γ (noErr (m x s0 f)) (Jn.post Γs post) := fun σ H R D t q => by
  refine ha σ H R _ t fun vs H1 t1 => ?_
  have ev : vs = ws := t1.fact fun F o s h => par_is (hw σ vs F H1 o trivial s ((Ent.assoc'.trans Ent.left) F H1 o s h))
  subst ev
  refine ⟨τ, ρ, x, E.C, fun s zc => sl zc (Γs s), s0, f, fun j R => (Jn.post Γs post j).ok E R D, R, ⟨fun s x zc xv H2 R2 k t2 q2 => ?_, fun w R B h => Fin.ok_drop h⟩, ?_, hpar, wp_noErr q, fun s' R h => h⟩
  · refine hg s x zc H2 R2 _ xv t2 fun σ3 H3 _ t3 => ?_
    refine hb s x σ3 H3 R2 _ t3 (wp_mono q2 (fun l _ q3 => ?_) fun _ z => z.elim)
    cases l with
    | next s' => exact fun σ4 H4 t4 => ⟨q3 σ4 H4 t4, q3 σ4 H4 t4⟩
    | brk s' => exact fun σ4 H4 t4 => q3 σ4 H4 t4
    | ret r =>
      obtain ⟨p1, p2, p3⟩ := hp r
      have q4 : (post r).out.ok E R2 D := q3
      exact Fin.out_loop p1 p2 p3 q4
  · exact (t1.ent (Ent.sepR Ent.right)).ent (Ent.sepL (Ent.sepL h0.ent))
end
end Lc
/-! LcPh: for k, x in enumerate(g(..)), g a generator def -/
namespace GPu
open PySem PySem.Spec PyProof.Rows L2 GenW GSw Lc

section
variable {P : Program} {w : World} {A : Around} {E : Value → Shared → Prop} {s : Shared}
/-- the next of a generator, asked by a builtin -/
theorem nextOf_Z {a : Addr} {g : Nat} {gs : GenState} {Φ : End → Shared → Prop} {Q : Value → Shared → Prop} (hh : A.handled = none) (hl : s.heap.NoLimit) (hroom : A.depth < recursionLimit) (hg : s.heap.IsGen a g) (hgs : s.gens[g]? = some gs)
    (hw : WkS (model P w) A.in1 Φ gs (s.setGen g .running)) (hq : ∀ e s', Φ e s' → e.quiet = true)
    (hY : ∀ v gg l k c p fs s1, Φ (.susp v gg l k c p fs) s1 → Q v (s1.setGen g (End.susp v gg l k c p fs).genState))
    (hR : ∀ f s1, Φ (.ret (.ok f)) s1 → (f = .ret .none ∨ f = .next) ∧ ∀ h' b, (∀ b o, s1.heap.get? b = some o → h'.get? b = some o) → (∃ o, h'.get? b = some o ∧ o.cls = .type "StopIteration") → E (.ref b) { s1.setGen g .finished with heap := h' })
    (hE : ∀ e s1, ¬ Φ (.ret (.error e)) s1) : wpAny (model P w) A (Builtin.SmallTypes.nextOf (.ref a)) Q E s := by
  unfold Builtin.SmallTypes.nextOf
  refine wpAny_bind (wpAny_callSpecial?_slot (name := Str.ofString "__next__") hg.typeIs slot_gen_next (wpAny_call_entry slot_gen_next hg.typeIs entry_gen_next ?_ (args_gen_next _)))
  show wpAny _ A.in1 (Builtin.Generator.genWake (.ref a) (.send .none)) _ _ s
  unfold Builtin.Generator.genWake
  refine wpAny_bind (wpAny_holding (wpAny_genNumber hg (wpAny_bind (wpAny_genState hgs ?_))))
  cases gs with
  | running => exact hw.elim
  | finished => exact hw.elim
  | _ =>
    refine wpAny_bind (wpAny_roomToWake hl hroom ?_)
    show wpAny _ A.in1 (.resume g (.send .none) [] _) _ _ s
    refine wake_run hgs hw hq fun e s1 hφ => ?_
    cases e with
    | susp v gg l k c p fs => exact wpAny_pure ⟨v, rfl, wpAny_pure (hY v gg l k c p fs s1 hφ)⟩
    | ret r =>
      cases r with
      | ok f =>
        obtain ⟨hf, hq2⟩ := hR f s1 hφ
        have hres : (End.ret (.ok f)).result = .returned .none := by
          rcases hf with e | e <;> rw [e] <;> rfl
        rw [hres]
        show wpAny _ A.in1 (newExc (.type "StopIteration") [] >>= _) _ _ _
        refine wpAny_bind ?_
        simp only [newExc, newTuple]
        refine wpAny_bind (wpAny_newObj_type ?_ (by size_fits))
        refine wpAny_bind (m := firstArgMember _ _) (wpAny_of_eq (a := Value.none) (by first | rfl | (simp only [firstArgMember]; rfl)) ?_)
        refine wpAny_newObj_type ?_ (by size_fits)
        simp only [raiseNew]
        refine wpAny_bind (wpAny_bind (wpAny_handled ?_))
        have hh1 : A.in1.handled = none := hh
        rw [hh1]
        exact wpAny_throw (hq2 _ _ (fun b o hb => Heap.get?_push_of_some _ (Heap.get?_push_of_some _ hb)) ⟨_, Heap.get?_push_size _ rfl, rfl⟩)
      | error e => exact (hE e s1 hφ).elim
/-- the next of an enumerate -/
theorem enum_next {e it : Addr} {i : Nat} {old : Value} {Q : Option Value → Shared → Prop} (he : IsEnum s.heap e it i old)
    (hn : wpAny (model P w) A.in1 (Builtin.SmallTypes.nextOf (.ref it)) (fun x s1 => IsEnum s1.heap e it i old ∧ ∀ h' tk tk', IsEnumOut h' e it ((i : Int) + 1) x s1.heap.objs.size →
        h'.get? s1.heap.objs.size = some { cls := .type "tuple", data := .seq #[.int i tk', x] } → h'.objs.size = s1.heap.objs.size + 1 → (∀ b o, b ≠ e → s1.heap.get? b = some o → h'.get? b = some o) → Q (some (.ref s1.heap.objs.size)) { s1 with heap := h', toks := tk })
      (fun x s1 => ∃ b, x = .ref b ∧ (∃ o, s1.heap.get? b = some o ∧ o.cls = .type "StopIteration") ∧ Q none s1) s) : wpAny (model P w) A (pyNext (.ref e)) Q E s := by
  have hT : s.TypeIs (.ref e) "enumerate" := ⟨_, he, rfl⟩
  unfold pyNext
  refine wpAny_bind (wpAny_attempt (wpAny_callSpecial?_slot (name := Str.ofString "__next__") hT F.slot_enumerate_next
    (wpAny_call_entry F.slot_enumerate_next hT F.entry_enumerate_next ?_ (F.args_enumerate_next_1 _))))
  show wpAny _ _ (field (.ref e) 2 >>= _) _ _ _
  refine wpAny_bind (wpAny_field he rfl (x := .ref it) rfl ?_)
  refine wpAny_bind (wpAny_mono hn (fun x s1 hx => ?_) fun x s1 hx => ?_)
  · obtain ⟨he₁, hQ⟩ := hx
    obtain ⟨h₁, g, d, tk, os⟩ := s1
    replace he₁ : IsEnum h₁ e it i old := he₁
    show wpAny _ _ (field (.ref e) 3 >>= _) _ _ ⟨h₁, g, d, tk, os⟩
    refine wpAny_bind (wpAny_field he₁ rfl (x := rawInt i) rfl ?_)
    show wpAny _ _ (field (.ref e) 4 >>= _) _ _ ⟨h₁, g, d, tk, os⟩
    refine wpAny_bind (wpAny_field he₁ rfl (x := .none) rfl ?_)
    show wpAny _ _ (mkInt i >>= _) _ _ ⟨h₁, g, d, tk, os⟩
    refine wpAny_bind (wpAny_mkInt ?_)
    show wpAny _ _ (setField (.ref e) 3 (rawInt ((i : Int) + 1)) >>= _) _ _ ⟨h₁, g, d, tk + 1, os⟩
    refine wpAny_bind (wpAny_setField_rec he₁ (by simp) fun h₂ he₂ hs₂ => ?_)
    replace hs₂ : Heap.SameBut e h₁ h₂ := hs₂
    replace he₂ : IsEnum h₂ e it ((i : Int) + 1) old := he₂
    show wpAny _ _ (setField (.ref e) 4 .none >>= _) _ _ ⟨h₂, g, d, tk + 1, os⟩
    refine wpAny_bind (wpAny_setField_rec he₂ (by simp) fun h₃ he₃ hs₃ => ?_)
    replace hs₃ : Heap.SameBut e h₂ h₃ := hs₃
    replace he₃ : IsEnum h₃ e it ((i : Int) + 1) old := he₃
    show wpAny _ _ (newTuple [.int i tk, x] >>= _) _ _ ⟨h₃, g, d, tk + 1, os⟩
    refine wpAny_bind (wpAny_newTuple ?_)
    have he₄ : IsEnum (h₃.push { cls := .type "tuple", data := .seq #[.int i tk, x] }) e it ((i : Int) + 1) old := Heap.get?_push_of_some _ he₃
    generalize hh₄ : h₃.push { cls := .type "tuple", data := .seq #[.int i tk, x] } = h₄ at he₄
    have hsz : h₃.objs.size = h₁.objs.size := by rw [hs₃.1, hs₂.1]
    have hel : e < h₁.objs.size := Heap.lt_size he₁
    have ht₄ : h₄.get? h₁.objs.size = some { cls := .type "tuple", data := .seq #[.int i tk, x] } := by rw [← hh₄, ← hsz]; exact Heap.get?_push_size _ rfl
    have hz₄ : h₄.objs.size = h₁.objs.size + 1 := by rw [← hh₄, Heap.size_push, hsz]
    have hk₄ : ∀ b o, b ≠ e → h₁.get? b = some o → h₄.get? b = some o := fun b o hbe hb => by
      rw [← hh₄]; exact Heap.get?_push_of_some _ (hs₃.extBut b o hbe (hs₂.extBut b o hbe hb))
    show wpAny _ _ (Builtin.SmallTypes.ownedTupleIsFree (.ref e) >>= _) _ _ ⟨h₄, g, d, tk + 1, os⟩
    rw [hsz]
    clear hh₄ he₃ hs₃ he₂ hs₂ he₁ hsz h₃ h₂
    refine wpAny_bind ?_
    unfold Builtin.SmallTypes.ownedTupleIsFree
    refine wpAny_bind (wpAny_field he₄ rfl (x := .none) rfl (wpAny_pure ?_))
    simp only [if_true]
    refine wpAny_bind (wpAny_rule ?_)
    refine wpAny_bind (wpAny_field he₄ rfl (x := old) rfl ?_)
    refine wpAny_bind (wpAny_setField_rec he₄ (by simp) fun h₅ he₅ hs₅ => ?_)
    replace hs₅ : Heap.SameBut e h₄ h₅ := hs₅
    replace he₅ : IsEnum h₅ e it ((i : Int) + 1) x := he₅
    show wpAny _ _ (Builtin.SmallTypes.ownedTupleHandOut (.ref e) (.ref h₁.objs.size) >>= _) _ _ ⟨h₅, g, d, tk + 1, os⟩
    refine wpAny_bind ?_
    unfold Builtin.SmallTypes.ownedTupleHandOut
    refine wpAny_bind (wpAny_setField_rec he₅ (by simp) fun h₆ he₆ hs₆ => ?_)
    replace hs₆ : Heap.SameBut e h₅ h₆ := hs₆
    replace he₆ : IsEnumOut h₆ e it ((i : Int) + 1) x h₁.objs.size := he₆
    refine wpAny_setField_rec he₆ (by simp) fun h₇ he₇ hs₇ => ?_
    replace hs₇ : Heap.SameBut e h₆ h₇ := hs₇
    replace he₇ : IsEnumOut h₇ e it ((i : Int) + 1) x h₁.objs.size := he₇
    refine wpAny_bind (wpAny_letGo (wpAny_pure ⟨_, rfl, wpAny_pure (hQ h₇ _ tk he₇ ?_ ?_ ?_)⟩))
    · exact hs₇.extBut _ _ (Nat.ne_of_gt hel) (hs₆.extBut _ _ (Nat.ne_of_gt hel) (hs₅.extBut _ _ (Nat.ne_of_gt hel) ht₄))
    · rw [hs₇.1, hs₆.1, hs₅.1, hz₄]
    · exact fun b o hbe hb => hs₇.extBut b o hbe (hs₆.extBut b o hbe (hs₅.extBut b o hbe (hk₄ b o hbe hb)))
  · obtain ⟨b, rfl, ho, q⟩ := hx
    obtain ⟨o, ho, hc⟩ := ho
    refine wpAny_bind (wpAny_isInstance (T := "StopIteration") (b := true) ⟨o, ho, hc⟩ isSubtype_stop ?_)
    exact wpAny_pure q
end
open AutoSeq1 (wpAny_loadPart') in
set_option maxHeartbeats 1000000 in
theorem meets_enumerate_newG (a : Addr) (g : Nat) :
    Meets (Builtin.«enumerate.__new__» ⟨[.type "enumerate", .ref a], []⟩) (fun _ R s => s.heap.IsGen a g ∧
      R (.ok (.ret (.ref s.heap.objs.size))) { s with heap := s.heap.push { cls := .type "enumerate", data := .fields #[.none, .bool false, .ref a, rawInt 0, .none, .none] } }) :=
  .of_wp fun prog w A R s h => by
    obtain ⟨hp, g, d, tk, os⟩ := s; obtain ⟨hl, h⟩ := h
    have hsub := sub_enumerate
    have hL : Heap.IsGen (Shared.heap ⟨hp, g, d, tk, os⟩) a _ := hl
    wp_walk
    refine wpAny_stack_any fun st => wpAny_pure ?_
    split
    · rename_i c _ _ _ _ _
      cases (c == Value.type "enumerate")
      · wp_walk using wpAny_pyIter_gen hL
        exact ⟨_, rfl, h⟩
      · wp_walk using wpAny_pyIter_gen hL
        exact ⟨_, rfl, h⟩
    · wp_walk using wpAny_pyIter_gen hL
      exact ⟨_, rfl, h⟩
theorem call_enumerate_gen {P : Program} {w : World} {A : Around} {E : Value → Shared → Prop} {s : Shared} {a : Addr} {g : Nat} {Q : Value → Shared → Prop} (hL : s.heap.IsGen a g)
    (h : ∀ h', IsEnum h' s.heap.objs.size a 0 .none → (∀ b o, s.heap.get? b = some o → h'.get? b = some o) → Q (.ref s.heap.objs.size) { s with heap := h' }) :
    wpAny (model P w) A (call (.type "enumerate") [.ref a]) Q E s := by
  refine callType_new F.called_enumerate (by decide) (F.typeCall_enumerate_1 _) (F.newCall_enumerate_1 _) (fun obj => F.args_object_init_2 obj _) F.entry_enumerate_new
    (meets_enumerate_newG a g) ⟨hL, ?_⟩
  have he : IsEnum (s.heap.push { cls := .type "enumerate", data := .fields #[.none, .bool false, .ref a, rawInt 0, .none, .none] }) s.heap.objs.size a 0 .none := Heap.get?_push_size _ rfl
  exact ⟨⟨_, he, rfl⟩, h _ he fun b o x => Heap.get?_push_of_some _ x⟩
end GPu
/-! LcPi: for k, x in enumerate(g(..)): the statement -/
namespace GPu
open PySem PySem.Spec PyProof.Rows L2 GenW GSw Lc

abbrev enumObj (a : Addr) (i : Int) (old : Value) : Obj := { cls := .type "enumerate", dict := none, data := .fields #[.none, .bool false, .ref a, rawInt i, .none, old], slots := #[] }
def yForEnum (g : TG) (tb : TS) (D : Ends) : YL := fun zg x H k => match zg with
  | some (.int i) :: zc => ∀ T, H T = none → g (.ref T) zc (upd H T (.tup [.int i, x])) fun z2 H2 => tb { D with nx := fun z H => k (some (.int (i + 1)) :: z) H, ct := fun z H => k (some (.int (i + 1)) :: z) H, bk := D.nx } z2 H2
  | _ => False
section
variable {X : Cx} {pins : List (Addr × Obj)} {N : List Str} {qual : Str} {scope : Scope} {n0 f a e : Addr} {cd : Value} {go : Obj} {g : Nat} {elts : List Expr} {kk : Nat} {tpos : Pos} {body : List Stmt} {gr : TG} {tb : TS} {D : Ends}
abbrev mkE (X : Cx) (N : List Str) (qual : Str) (scope : Scope) (n0 f : Addr) (cd : Value) (a e : Addr) : Gc := mkG X X.A.in1.in1 N qual scope n0 f cd [a, e]
theorem loop_E (F : Fits (mkE X N qual scope n0 f cd a e) X) (O : Older (mkE X N qual scope n0 f cd a e) X pins) (ha : n0 ≤ a) (he : n0 ≤ e) (hae : a ≠ e) (hgo : ∀ h : Heap, h.get? a = some go → h.IsGen a g) (hc : X.calm = true) (room : X.A.depth < recursionLimit)
    (hg : PG X (.Tuple elts kk tpos) gr) (hb : PSs X body tb) (hp : PassesOwn (model X.prog X.w) X.A X.env X.xe) (hx : XeOk X) : ∀ z c t fs s, Pz (mkE X N qual scope n0 f cd a e) (yForEnum gr tb D) (fun zg H => D.nx zg.tail H) z c t fs s →
      ∀ (sc : Shared) (gs : GenState) (i : Nat) (old : Value) (zr : L2.St), s = sc.setGen g .running → z.sw = s → z.po = (fun b => if b = e then enumObj a i old else go) → z.zc = some (.int i) :: zr → sc.gens[g]? = some gs → WkE (model X.prog X.w) gs c t fs → Inv X pins zr z.Hw sc →
      sc.heap.get? a = some go → IsEnum sc.heap e a i old → codeAny (model X.prog X.w) X.A (.forLoop (.Tuple elts kk tpos) (.ref e) body [] X.env) (RFor X pins D) sc := by
  intro z c t fs s h
  refine h (fun z c t fs s => ∀ (sc : Shared) (gs : GenState) (i : Nat) (old : Value) (zr : L2.St), s = sc.setGen g .running → z.sw = s → z.po = (fun b => if b = e then enumObj a i old else go) → z.zc = some (.int i) :: zr → sc.gens[g]? = some gs → WkE (model X.prog X.w) gs c t fs → Inv X pins zr z.Hw sc →
      sc.heap.get? a = some go → IsEnum sc.heap e a i old → codeAny (model X.prog X.w) X.A (.forLoop (.Tuple elts kk tpos) (.ref e) body [] X.env) (RFor X pins D) sc) ?_
  clear h z c t fs s
  intro z c t fs s step sc gs i old zr hs hz hpo hzc hgs hwk I hga hen
  subst hs
  have glt : g < sc.gens.size := (Array.getElem?_eq_some_iff.mp hgs).1
  have hisg := hgo _ hga
  have epx : (mkE X N qual scope n0 f cd a e).px z = [(a, go), (e, enumObj a i old)] := by
    show [(a, z.po a), (e, z.po e)] = _
    rw [hpo]
    simp [hae]
  have mem_a : (a, go) ∈ (mkE X N qual scope n0 f cd a e).px z := by
    rw [epx]
    exact List.mem_cons_self
  have mem_e : (e, enumObj a i old) ∈ (mkE X N qual scope n0 f cd a e).px z := by
    rw [epx]
    exact List.mem_cons_of_mem _ List.mem_cons_self
  refine for_turn (wpAny_passesOwn hp (wpAny_gsz (n := g + 1) glt (enum_next hen (nextOf_Z (A := X.A.in1) (I.ok.hd hc) I.nolimit room hisg hgs (hwk.wkS step) (fun e s' q => ?_) (fun v gg l k c1 p fs1 s1 q => ?_) (fun fl s1 q => ?_) fun x s1 q => ?_))))
  · cases e with
    | ret r => rfl
    | susp v gg l k c1 p fs1 => exact q.1
  · obtain ⟨hq, kap, hy, nxt⟩ := q
    obtain ⟨x, ip, σ, H1, kq, rv, hip, IG, yl, hk⟩ := hy
    have pe := IG.pin (e, enumObj a i old) (List.mem_append_left _ mem_e)
    have pa0 := IG.pin (a, go) (List.mem_append_left _ mem_a)
    refine ⟨pe.1, fun h1 tk tk' ho hT hsz1 hk1 hsz => ?_⟩
    have bare1 : (End.susp v gg l k c1 p fs1).genState.bare = true := End.bare_of_quiet hq
    have glt1 : g < s1.gens.size := by
      have e := setGen_size s1 g (End.susp v gg l k c1 p fs1).genState
      have hsz' : g + 1 ≤ (s1.setGen g (End.susp v gg l k c1 p fs1).genState).gens.size := hsz
      omega
    have IX1 : Inv X pins zr H1 s1 := back F O I rfl (by rw [hz]; rfl) (by rw [hz]; rfl) IG
    have ypn : ∀ q ∈ (mkE X N qual scope n0 f cd a e).px z ++ ip, n0 ≤ q.1 := fun q hq => by
      rcases List.mem_append.mp hq with w | w
      · rw [epx] at w
        have w : q = (a, go) ∨ q = (e, enumObj a i old) := by simpa using w
        rcases w with w | w
        · rw [w]; exact ha
        · rw [w]; exact he
      · exact (hip q w).1
    have atg := atG ypn IG
    have hel : e < s1.heap.objs.size := Heap.lt_size pe.1
    refine wpAny_letOwnedTupleGo_enum ho fun h2 he2 sb => ?_
    have keep2 : ∀ b o, b ≠ e → s1.heap.get? b = some o → h2.get? b = some o := fun b o hb q => (sb.2 b hb).trans (hk1 b o hb q)
    have hT2 : h2.get? s1.heap.objs.size = some { cls := .type "tuple", data := .seq #[.int i tk', v] } := (sb.2 _ (Nat.ne_of_gt hel)).trans hT
    have new : ObjOk X.prog X.w (upd H1 s1.heap.objs.size (.tup [.int (i : Nat), x])) h2 s1.heap.objs.size (.tup [.int (i : Nat), x]) :=
      ⟨by show 2 ≤ sizeLine; decide, [.int i tk', v], .cons ⟨_, rfl⟩ (.cons rv .nil), ⟨_, hT2, rfl, _, rfl⟩⟩
    have hfe : ∀ b ∈ [e], FpOk X pins H1 b := fun b hb => by
      rw [List.mem_singleton.mp hb]
      refine ⟨pe.2.1, Nat.ne_of_gt (Nat.lt_of_lt_of_le O.loc he), fun hm => ?_, .inr (Nat.le_trans O.s0 he), fun x c e1 q => ?_, fun p hp q => ?_⟩
      · obtain ⟨_, o, ho, _⟩ := IX1.ok.funs.mem hm
        exact absurd (Nat.lt_of_lt_of_le (Heap.lt_size ho) (Nat.le_trans O.s0 he)) (Nat.lt_irrefl _)
      · have := O.cell x c e1
        rw [q] at this
        exact absurd (Nat.lt_of_lt_of_le this he) (Nat.lt_irrefl _)
      · have := O.pin p hp
        rw [q] at this
        exact absurd (Nat.lt_of_lt_of_le this he) (Nat.lt_irrefl _)
    have I1 : Inv X pins zr (upd H1 s1.heap.objs.size (.tup [.int (i : Nat), x])) { s1 with heap := h2, toks := tk } :=
      IX1.turnedNew (ch := [e]) (fun b ob hb q => keep2 b ob (fun z => hb (by simp [z])) q) hfe (Nat.le_refl _) new
    have I2 := inv_gens (gs := (s1.setGen g (End.susp v gg l k c1 p fs1).genState).gens) I1 (setGen_bare IX1.bare bare1)
    have at2 : ∀ b ∈ (mkE X N qual scope n0 f cd a e).fp ((mkE X N qual scope n0 f cd a e).px z) ip, n0 ≤ b ∧ upd H1 s1.heap.objs.size (.tup [.int (i : Nat), x]) b = none ∧ ∃ o, h2.get? b = some o ∧ ∀ v, o.data ≠ .cell v := fun b hb => by
      obtain ⟨l1, l2, o, l3, l4⟩ := atg b hb
      refine ⟨l1, by rw [upd_ne (Nat.ne_of_lt (Heap.lt_size l3))]; exact l2, ?_⟩
      by_cases eb : b = e
      · rw [eb]
        exact ⟨_, he2, fun v q => nomatch q⟩
      · exact ⟨o, keep2 b o eb l3, l4⟩
    have IP := pinX (s := { s1 with heap := h2, toks := tk, gens := (s1.setGen g (End.susp v gg l k c1 p fs1).genState).gens }) O I2 at2
    have H1T : H1 s1.heap.objs.size = none := IX1.hok.fresh (Nat.le_refl _)
    rw [hzc] at yl
    have yl := yl _ H1T
    refine wpAny_passesOwn hp (hid_run (X := X) hx (hg.run _ _ zr _ (.ref s1.heap.objs.size) (.ref s1.heap.objs.size) _ (inv_hide IP) rfl yl) fun _ h2' hh2 q2 => ?_)
    obtain ⟨σ2, H2, I2, q2⟩ := q2
    have I2' := inv_real hh2 I2
    have at1g : (s1.setGen g (End.susp v gg l k c1 p fs1).genState).gens[g]? = some (End.susp v gg l k c1 p fs1).genState := setGen_get glt1
    have at2g := real_sus hh2 at1g rfl
    refine wpAny_passesOwn hp (hid_run (X := X) hx (hb.run _ _ σ2 H2 _ (inv_hide I2') q2) fun fl h3 hh3 q3 => ?_)
    have at3 := real_sus hh3 at2g rfl
    have again : ∀ {σ3 : L2.St} {H3 : Hp}, Inv X (pins ++ pinsAt ((mkE X N qual scope n0 f cd a e).fp ((mkE X N qual scope n0 f cd a e).px z) ip) h2) σ3 H3 h3 → kq (some (.int ((i : Int) + 1)) :: σ3) H3 → codeAny (model X.prog X.w) X.A (.forLoop (.Tuple elts kk tpos) (.ref e) body [] X.env) (RFor X pins D) (real (sus (real (sus ({ s1 with heap := h2, toks := tk, gens := (s1.setGen g (End.susp v gg l k c1 p fs1).genState).gens } : Shared)) h2')) h3) := fun {σ3 H3} I3 q => by
      have I3' := inv_real hh3 I3
      have bR : AllBare ((real (sus (real (sus ({ s1 with heap := h2, toks := tk, gens := (s1.setGen g (End.susp v gg l k c1 p fs1).genState).gens } : Shared)) h2')) h3).setGen g .running).gens := setGen_bare I3'.bare rfl
      have IR := inv_gens (gs := ((real (sus (real (sus ({ s1 with heap := h2, toks := tk, gens := (s1.setGen g (End.susp v gg l k c1 p fs1).genState).gens } : Shared)) h2')) h3).setGen g .running).gens) I3' bR
      have fpm : ∀ p, p ∈ (mkE X N qual scope n0 f cd a e).px z ++ ip → p.1 ∈ (mkE X N qual scope n0 f cd a e).fp ((mkE X N qual scope n0 f cd a e).px z) ip := fun p hp' => List.mem_cons_of_mem _ (List.mem_map.mpr ⟨p, hp', rfl⟩)
      have pin_a := pin_at (H1 := H3) (s1 := h3) IR (fpm _ (List.mem_append_left _ mem_a)) (keep2 a go hae pa0.1)
      have pin_e := pin_at (H1 := H3) (s1 := h3) IR (fpm _ (List.mem_append_left _ mem_e)) he2
      have ei : ((i + 1 : Nat) : Int) = (i : Int) + 1 := by omega
      have rl := relay (z := ⟨some (.int ((i : Int) + 1)) :: σ3, H3, (real (sus (real (sus ({ s1 with heap := h2, toks := tk, gens := (s1.setGen g (End.susp v gg l k c1 p fs1).genState).gens } : Shared)) h2')) h3).setGen g .running, fun b => if b = e then enumObj a ((i + 1 : Nat) : Int) v else go⟩) (s2 := (real (sus (real (sus ({ s1 with heap := h2, toks := tk, gens := (s1.setGen g (End.susp v gg l k c1 p fs1).genState).gens } : Shared)) h2')) h3).setGen g .running) F IG IR rfl rfl
        (fun b hb o q => by
          have hbe : b ≠ e ∧ b ∈ (mkE X N qual scope n0 f cd a e).fp ((mkE X N qual scope n0 f cd a e).px z) ip := by
            rcases List.mem_cons.mp hb with hb | hb
            · rw [hb]
              exact ⟨fun z => pe.2.2.1 z.symm, List.mem_cons_self⟩
            · obtain ⟨p, hp', ep⟩ := List.mem_map.mp hb
              rw [← ep]
              exact ⟨fun z => (hip p hp').2 (by rw [z]; exact List.mem_cons_of_mem _ List.mem_cons_self), fpm _ (List.mem_append_right _ hp')⟩
          exact pin_at (H1 := H3) (s1 := h3) IR hbe.2 (keep2 b o hbe.1 q)) fun p hp' => by
        have w : p = (a, go) ∨ p = (e, enumObj a ((i + 1 : Nat) : Int) v) := by
          have w : p ∈ [(a, if a = e then enumObj a ((i + 1 : Nat) : Int) v else go), (e, if e = e then enumObj a ((i + 1 : Nat) : Int) v else go)] := hp'
          rw [if_neg hae, if_pos rfl] at w
          simpa using w
        rcases w with w | w
        · rw [w]
          exact ⟨pin_a.1, pin_a.2, pa0.2.2.1, pa0.2.2.2.1, pa0.2.2.2.2⟩
        · rw [w, ei]
          exact ⟨pin_e.1, pin_e.2, pe.2.2.1, pe.2.2.2.1, fun v q => nomatch q⟩
      have kp := hk ⟨some (.int ((i : Int) + 1)) :: σ3, H3, (real (sus (real (sus ({ s1 with heap := h2, toks := tk, gens := (s1.setGen g (End.susp v gg l k c1 p fs1).genState).gens } : Shared)) h2')) h3).setGen g .running, fun b => if b = e then enumObj a ((i + 1 : Nat) : Int) v else go⟩ _ rfl q rl
      refine nxt _ _ kp _ _ (i + 1) v σ3 rfl rfl rfl (by rw [ei]) at3 ⟨rfl, rfl, rfl⟩ I3'.unpinned pin_a.1 ?_
      rw [ei]
      exact pin_e.1
    cases fl with
    | next =>
      obtain ⟨σ3, H3, I3, q3⟩ := q3
      exact again I3 q3
    | cont =>
      obtain ⟨σ3, H3, I3, q3⟩ := q3
      exact again I3 q3
    | brk =>
      obtain ⟨σ3, H3, I3, q3⟩ := q3
      exact ⟨σ3, H3, (inv_real hh3 I3).unpinned, q3⟩
    | ret u =>
      obtain ⟨x3, σ3, H3, I3, r3, q3⟩ := q3
      exact ⟨x3, σ3, H3, (inv_real hh3 I3).unpinned, r3, q3⟩
  · cases fl with
    | ret u =>
      obtain ⟨ip, σ, H1, IG, hu, q⟩ := q
      refine ⟨.inl (by rw [hu]), fun h' b hk ho => ⟨b, rfl, ho, fun _ => ?_⟩⟩
      have IX1 : Inv X pins zr H1 s1 := back F O I rfl (by rw [hz]; rfl) (by rw [hz]; rfl) IG
      have q : D.nx zr H1 := by
        rw [hzc] at q
        exact q
      exact ⟨zr, H1, inv_gens (IX1.kept (t' := s1.toks) hk) (setGen_bare (s := s1) IX1.bare rfl), q⟩
    | next => exact q.elim
    | brk => exact q.elim
    | cont => exact q.elim
  · obtain ⟨⟨_, _, _, _, _, _, _, _, _, _, _, _, z6⟩, _⟩ := q
    exact z6.elim
def tForEnum (sp : SPG) (ta : TA) (g : TG) (tb : TS) : TS := fun D zc H => ta zc H fun vs H1 => sp vs H1 (some (.int 0) :: zc) (yForEnum g tb D) fun zg H => D.nx zg.tail H
/-- THE RULE -/
theorem ps_forEnum {k : Nat} {fd : FuncData} {ps : List Str} {sp : SPG} {x : Str} {p p' p1 p2 pos : Pos} {ex : Expr} {es : List Expr} {ta : TA} (F : GFnP X.prog X.w X.K X.mg X.base k f fd ps sp) (hr : Room (k + 3) X.A) (hx : XeOk X) (hp : PassesOwn (model X.prog X.w) X.A X.env X.xe) (hc : X.calm = true)
    (hgE : Gl X "enumerate") (hmE : X.mg "enumerate" = none) (hgl : Gl X x) (hm : X.mg x = some (.ref f)) (hk : PySem.W.keepIn X.K (.ref f) = true) (hb : Binds X.K fd ps []) (ha : PA X (ex :: es) ta) (hg : PG X (.Tuple elts kk tpos) gr) (hbd : PSs X body tb)
    (hdb : (x == ("__debug__" : Str)) = false := by decide) (he : starEach (ex :: es) X.env = (false, eval ex X.env) :: starEach es X.env := by rfl) (hpl : (backTo p' (starEach es X.env)).any (·.1) = false := by rfl)
    (hs : ∀ u, foldedSetIterable (.Call (.Name "enumerate" p1) [.Call (.Name x p) (ex :: es) [] p'] [] p2) X.env u = pure u := by intro _; rfl)
    (hsE : starEach [.Call (.Name x p) (ex :: es) [] p'] X.env = [(false, eval (.Call (.Name x p) (ex :: es) [] p') X.env)] := by rfl) : PS X (.For (.Tuple elts kk tpos) (.Call (.Name "enumerate" p1) [.Call (.Name x p) (ex :: es) [] p'] [] p2) body [] pos) (tForEnum sp ta gr tb) := by
  refine ⟨fun pins s σ H D I h => ?_⟩
  obtain ⟨nm, qual, st, dV, kV, doc, pm, cdv, ct, oc, an, od, osl, N, efd, lk, hcd, S, nc, bodyT⟩ := F.ex
  refine wpAny_For ?_ hs
  refine Call_ (ld_blt I hgE hmE boot_enumerate (PyProof.Rows.callWith_type1 (args_cons ?_ hsE) hsE rfl))
  refine wpAny_Call_Name_kw (ld_glob I hgl hm ?_ hdb)
  refine PySem.W.callWith_K (h₀ := X.base) I.ok.mod.kin hk (thn (ha.run p' pins s σ H _ I h) fun us s1 ⟨vs, H1, I1, r, q⟩ => ⟨I1.kIn, ?_⟩) he hpl
  subst efd
  have room : X.A.depth < recursionLimit := by
    have := hr.dp
    omega
  have e0 := I1.env0
  refine make I1 (B := X.A.in1.in1) ⟨e0.frames, e0.mod, e0.bs, e0.bsz, e0.funs, e0.frf, e0.hok, e0.bare⟩ hr.hd room lk hcd S hb (F.len _ _ _ _ _ q) r nc fun a gi go s2 ha2 isg hgs hga I2 IG => args_nil ?_
  refine call_enumerate_gen (isg _ hga) fun h3 he3 hk3 => wpAny_pyIter_enum he3 ?_
  have hga3 : h3.get? a = some go := hk3 a go hga
  have I3 : Inv X pins σ H1 { s2 with heap := h3 } := I2.kept (t' := s2.toks) hk3
  have ael : a < s2.heap.objs.size := Heap.lt_size hga
  have hae : a ≠ s2.heap.objs.size := Nat.ne_of_lt ael
  have IG3 : Inv ((mkE X N qual (defScope st) s1.heap.objs.size f cdv a s2.heap.objs.size).X [(a, go)] s1 H1) [] (start N vs) H1 { s2 with heap := h3 } := IG.kept (t' := s2.toks) hk3
  have Fit : Fits (mkE X N qual (defScope st) s1.heap.objs.size f cdv a s2.heap.objs.size) X := ⟨rfl, rfl, rfl, rfl, fun b hb => by
    obtain ⟨_, o, ho, _⟩ := I1.stack.mem hb
    exact Heap.lt_size ho, fun y c e => nc _ y c e⟩
  have Old : Older (mkE X N qual (defScope st) s1.heap.objs.size f cdv a s2.heap.objs.size) X pins := ⟨I1.lt, fun y c e => by
    obtain ⟨v, o, ho, _⟩ := I1.cell y c e
    exact Heap.lt_size ho, fun q hq => Heap.lt_size (I1.pin q hq).1, I1.sz⟩
  have glt : gi < s2.gens.size := (Array.getElem?_eq_some_iff.mp hgs).1
  have bR : AllBare (s2.setGen gi .running).gens := setGen_bare I2.bare rfl
  have ypn : ∀ q ∈ [(a, go)] ++ ([] : List (Addr × Obj)), s1.heap.objs.size ≤ q.1 := fun q hq => by
    rw [List.append_nil] at hq
    rw [List.mem_singleton.mp hq]
    exact ha2
  have atg := atG ypn IG3
  have he2 : H1 s2.heap.objs.size = none := I2.hok.fresh (Nat.le_refl _)
  have el : s1.heap.objs.size ≤ s2.heap.objs.size := Nat.le_trans ha2 (Nat.le_of_lt ael)
  have at2 : ∀ b ∈ [s1.heap.objs.size, a, s2.heap.objs.size], s1.heap.objs.size ≤ b ∧ H1 b = none ∧ ∃ o, h3.get? b = some o ∧ ∀ v, o.data ≠ .cell v := fun b hb => by
    have hb : b = s1.heap.objs.size ∨ b = a ∨ b = s2.heap.objs.size := by simpa using hb
    rcases hb with w | w | w
    · rw [w]
      exact atg _ List.mem_cons_self
    · rw [w]
      exact atg a (List.mem_cons_of_mem _ List.mem_cons_self)
    · rw [w]
      exact ⟨el, he2, _, he3, fun v q => nomatch q⟩
  have IP := inv_gens (gs := (({ s2 with heap := h3 } : Shared).setGen gi .running).gens) (pinX Old I3 at2) bR
  have pa0 := IG3.pin (a, go) (List.mem_append_left _ (List.mem_singleton.mpr rfl))
  have n0lt : s1.heap.objs.size < s2.heap.objs.size := Nat.lt_of_le_of_lt ha2 ael
  have rl := relay (z := ⟨some (.int 0) :: σ, H1, ({ s2 with heap := h3 } : Shared).setGen gi .running, fun b => if b = s2.heap.objs.size then enumObj a ((0 : Nat) : Int) .none else go⟩) (s2 := ({ s2 with heap := h3 } : Shared).setGen gi .running) Fit IG3 IP rfl rfl (fun b hb o e => pin_at (H1 := H1) (s1 := s2) IP (by
      have hb : b = s1.heap.objs.size := by simpa [mkG] using hb
      rw [hb]
      exact List.mem_cons_self) e) fun p hp' => by
    have w : p = (a, go) ∨ p = (s2.heap.objs.size, enumObj a ((0 : Nat) : Int) .none) := by
      have w : p ∈ [(a, if a = s2.heap.objs.size then enumObj a ((0 : Nat) : Int) .none else go), (s2.heap.objs.size, if s2.heap.objs.size = s2.heap.objs.size then enumObj a ((0 : Nat) : Int) .none else go)] := hp'
      rw [if_neg hae, if_pos rfl] at w
      simpa using w
    rcases w with w | w
    · rw [w]
      exact pa0
    · rw [w]
      refine ⟨he3, he2, (Nat.ne_of_gt n0lt), fun hm => ?_, fun v q => nomatch q⟩
      exact absurd (Nat.lt_trans (Fit.fr _ hm) n0lt) (Nat.lt_irrefl _)
  obtain ⟨t, ht, hq⟩ := bodyT X.A.in1.in1 X.stack s1.heap.objs.size [a, s2.heap.objs.size] (yForEnum gr tb D) (fun zg H => D.nx zg.tail H) vs H1 (some (.int 0) :: σ) ⟨(Room.deeper (hr.in1.in1) _).mono (by omega), fun z => z.elim⟩ q
  have st := start_Z (G := mkE X N qual (defScope st) s1.heap.objs.size f cdv a s2.heap.objs.size) (z := ⟨some (.int 0) :: σ, H1, ({ s2 with heap := h3 } : Shared).setGen gi .running, fun b => if b = s2.heap.objs.size then enumObj a ((0 : Nat) : Int) .none else go⟩) ht (Nat.le_of_lt rl.lt) rl hq
  exact loop_E Fit Old ha2 el hae isg hc room hg hbd hp hx _ _ _ _ _ (SgZ.fold st) { s2 with heap := h3 } _ 0 .none σ rfl rfl rfl rfl hgs ⟨rfl, rfl, rfl⟩ I3 hga3 he3
end
end GPu
/-! LcPj: for k, x in enumerate(g(..)): the mirror counts -/
namespace Lc
open PySem L2 GPu Res PyProof.Rows
def lpE {τ ρ : Type} (i : Int) : Lp τ ρ → Lp (Int × τ) ρ
  | .next s => .next (i + 1, s)
  | .brk s => .brk (i, s)
  | .ret r => .ret r
def enumF {τ α ρ : Type} (f : τ → Int × α → Res (Lp τ ρ)) : Int × τ → α → Res (Lp (Int × τ) ρ) := fun p x => (f p.2 (p.1, x)).bind fun l => .ok (lpE p.1 l)
def Jn.drop {τ ρ : Type} : Jn (Int × τ) ρ → Jn τ ρ
  | .go p => .go p.2
  | .out r => .out r
/-- the count ahead of the slots -/
def slE {τ : Type} (Γs : τ → List Cell) (p : Int × τ) (zg : L2.St) : Asr where
  P := fun F H o => ∃ zc, zg = some (.int p.1) :: zc ∧ (sl zc (Γs p.2)).P F H o
  st := fun s k ⟨zc, e, h⟩ => ⟨zc, e, (sl zc (Γs p.2)).st s k h⟩
  up := fun u ⟨zc, e, h⟩ => ⟨zc, e, (sl zc (Γs p.2)).up u h⟩
theorem slE_out {τ : Type} {Γs : τ → List Cell} {p : Int × τ} {zg : L2.St} {A : Asr} {H : Hp} (t : Top (sep (sep (slE Γs p zg) A) B) H) : ∃ zc, zg = some (.int p.1) :: zc ∧ Top (sep (sep (sl zc (Γs p.2)) A) B) H := by
  obtain ⟨F, o, s, k, o1, o2, h1, h2, d, ⟨o3, o4, h3, h4, d2, ⟨zc, e, a⟩, b⟩, c⟩ := t
  exact ⟨zc, e, F, o, s, k, o1, o2, h1, h2, d, ⟨o3, o4, h3, h4, d2, a, b⟩, c⟩
theorem slE_in {τ : Type} {Γs : τ → List Cell} {i : Int} {s : τ} {zc : L2.St} : Ent (sl zc (Γs s)) (slE Γs (i, s) (some (.int i) :: zc)) := fun F H o _ a => ⟨zc, rfl, a⟩
section
variable {E : Ec} {Γ : List Cell} {α ι τ ρ : Type} {gr : TG} {tb : TS}
theorem es_forEnum [Dat α] {ps : ι → List PP} {m : ∀ {τ ρ : Type}, ι → τ → (τ → α → Res (Lp τ ρ)) → Res (Jn τ ρ)} {ta : TA} {cs : List RC} {ws : List V} (x : ι) {Γs : τ → List Cell} {Γt : τ → Int × α → List Cell} {s0 : τ} {f : τ → Int × α → Res (Lp τ ρ)} {post : ρ → Fin}
    (ha : EvAP E ta Γ cs) (hw : Pars E Γ K0 cs (ws.map fun w v _ _ => v = w)) (hpar : ∀ F H o, Same F H → E.C.P F H o → parOk (ps x) ws F H) (h0 : Le Γ (Γs s0)) {ix : List Nat} (hg : ∀ s x, EvG E gr (dat x) (Γs s) (Γt s x) ix) (hb : ∀ s x, EvS E tb (Γt s x) (f s x) (Lp.post Γs post))
    (hp : ∀ r, (∀ Γ, post r ≠ .bk Γ) ∧ (∀ Γ, post r ≠ .ct Γ) ∧ ∀ Γ, post r ≠ .lp Γ) :
    EvS E (tForEnum (SpW ps (fun {τ ρ} => m (τ := τ) (ρ := ρ))) ta gr tb) Γ ((noErr (m x ((0 : Int), s0) (enumF f))).bind fun j => .ok j.drop) (Jn.post Γs post) := fun σ H R D t q => by
  refine ha σ H R _ t fun vs H1 t1 => ?_
  have ev : vs = ws := t1.fact fun F o s h => par_is (hw σ vs F H1 o trivial s ((Ent.assoc'.trans Ent.left) F H1 o s h))
  subst ev
  refine ⟨Int × τ, ρ, x, E.C, slE Γs, ((0 : Int), s0), enumF f, fun j R => (Jn.post Γs post j.drop).ok E R D, R, ⟨fun p y zg xv H2 R2 k t2 q2 => ?_, fun w R B h => Fin.ok_drop h⟩, ?_, hpar, wp_mono (wp_noErr (wp_bind.mp q)) (fun _ _ z => z) fun _ z => z, fun s' R h zg H' t => ?_⟩
  · obtain ⟨zc, e, t3⟩ := slE_out t2
    subst e
    obtain ⟨i, s⟩ := p
    intro T hT
    have t4 : Top (sep (vA (.tuple [dat i, dat y]) (.ref T)) (sep (sep (sl zc (Γs s)) E.C) (sep (vA (dat y) xv) R2))) (upd H2 T (.tup [.int i, xv])) :=
      t3.allocT hT fun F o s h => .cons (.int _) (.one ((Ent.right.trans Ent.left) F H2 o s h))
    refine hg s (i, y) zc _ R2 _ (.ref T) (t4.ent (frontE.trans (Ent.sepR (Ent.sepR Ent.right)))) fun σ3 H3 _ t5 => ?_
    refine hb s (i, y) σ3 H3 R2 _ t5 (wp_mono (wp_bind.mp q2) (fun l _ q3 => ?_) fun _ z => z.elim)
    have q3 := q3
    cases l with
    | next s' => exact fun σ4 H4 t6 => ⟨q3 _ H4 (t6.ent (Ent.sepL (Ent.sepL slE_in))), q3 _ H4 (t6.ent (Ent.sepL (Ent.sepL slE_in)))⟩
    | brk s' => exact fun σ4 H4 t6 => q3 σ4 H4 t6
    | ret r =>
      obtain ⟨p1, p2, p3⟩ := hp r
      have q4 : (post r).out.ok E R2 D := q3
      exact Fin.out_loop p1 p2 p3 q4
  · exact ((t1.ent (Ent.sepR Ent.right)).ent (Ent.sepL (Ent.sepL h0.ent))).ent (Ent.sepL (Ent.sepL slE_in))
  · obtain ⟨zc, e, t3⟩ := slE_out t
    subst e
    exact h zc H' t3
end
end Lc
/-! LcPk: for x in g(k = v, ..) -/
namespace GPu
open PySem PySem.Spec PyProof.Rows L2 GenW GSw Lc

section
variable {X : Cx} {pins : List (Addr × Obj)} {σ : L2.St} {H : Hp} {s : Shared}
/-- .. by keywords too -/
theorem makeK {B : Around} {f : Addr} {x qual : Str} {params : Arguments} {body : List Stmt} {scope : Scope} {dV kV doc pm cdv ct oc : Value} {an od : Option Addr} {osl : Array (Option Value)} {N ps : List Str} {u0 us : List Value} {kw : List (Str × Value)} {vs : List V} {Q : Value → Shared → Prop} {E : Value → Shared → Prop}
    (I : Inv X pins σ H s) (e1 : Env0 X.prog X.w X.K X.mg X.base B X.stack s H) (hh : B.handled = none) (room : X.A.depth < recursionLimit) (lk : X.K.lookup f = some ⟨oc, od, .func (PySem.W.fnOf x qual params body scope dV kV doc pm an cdv ct), osl⟩) (hcd : PySem.W.codeIn X.K cdv qual = true) (S : GScope N ps scope)
    (b : BindsTo s (PySem.W.fnOf x qual params body scope dV kV doc pm an cdv ct) ⟨u0, kw⟩ (ps.zip us)) (hl : vs.length = ps.length) (r : Vals vs us) (nc : ∀ n y c, (cellsFrom n scope.names []).lookup y = some c → False)
    (hQ : ∀ (a : Addr) (g : Nat) (go : Obj) (s' : Shared), s.heap.objs.size ≤ a → (∀ h : Heap, h.get? a = some go → h.IsGen a g) → s'.gens[g]? = some (.fresh (.func body (envOfC qual scope s.heap.objs.size f cdv))) → s'.heap.get? a = some go → Inv X pins σ H s' →
      Inv ((mkG X B N qual scope s.heap.objs.size f cdv [a]).X [(a, go)] s H) [] (start N vs) H s' → Q (.ref a) s') : wpAny (model X.prog X.w) X.A (call (.ref f) u0 kw) Q E s := by
  have hl2 : us.length = ps.length := by rw [← r.length]; exact hl
  refine wpAny_call ?_
  refine codeAny_call_generator room (I.kIn _ _ lk) rfl S.co S.gen rfl (PySem.W.codeRec_of I.kIn hcd) (b _ _ _ _ ?_)
  refine wpAny_newFunctionEnv_cells S.kind (fun y hy => ?_) fun env he s1 xx => ?_
  · obtain ⟨n, v⟩ := y
    rcases S.par n (List.of_mem_zip hy).1 with q | q
    · exact .inl q
    · exact .inr ⟨q, PySem.W.cellsFrom_some _ _ _ (.inl q)⟩
  subst he
  have lim1 : s1.heap.NoLimit := I.nolimit.keeps xx.toInCall.keep
  refine ⟨lim1, ?_⟩
  obtain ⟨h1, tk, es1, hk1⟩ := xx.done
  have kp1 : ∀ b o, s.heap.get? b = some o → s1.heap.get? b = some o := xx.toInCall.keep
  have lt1 : s.heap.objs.size < s1.heap.objs.size := xx.toInCall.ns.lt
  have gen1 : s1.gens = s.gens := by rw [es1]
  have os1 : s1.os = s.os := by rw [es1]
  have main : ∀ (go : Obj) (nm qn : Value) (tk2 : Nat), go.cls = .type "generator" → go.data = .fields #[.int s1.gens.size 0, nm, qn] → go.slots = #[] → (∀ h : Heap, (h.push go).get? h.objs.size = some go) →
      Q (.ref s1.heap.objs.size) { s1 with gens := s1.gens.push (.fresh (.func body (envOfC qual scope s.heap.objs.size f cdv))), toks := tk2, heap := s1.heap.push go } := by
    intro go nm qn tk2 c1 c2 c3 c4
    have kp2 : ∀ b o, s1.heap.get? b = some o → (s1.heap.push go).get? b = some o := fun b o e => Heap.get?_push_of_some _ e
    have bare2 : AllBare (s1.gens.push (.fresh (.func body (envOfC qual scope s.heap.objs.size f cdv)))) := AllBare.push (by rw [gen1]; exact I.bare) rfl
    have isg : ∀ h : Heap, h.get? s1.heap.objs.size = some go → h.IsGen s1.heap.objs.size s1.gens.size := fun h e => ⟨go, nm, qn, e, c1, c2, c3⟩
    have kp3 : ∀ b o, s.heap.get? b = some o → (s1.heap.push go).get? b = some o := fun b o e => kp2 b o (kp1 b o e)
    refine hQ s1.heap.objs.size s1.gens.size go _ (Nat.le_of_lt lt1) isg (Array.getElem?_push_size ..) (c4 _) ?_ ?_
    · exact I.call' (ch := []) os1 (Un.kept kp3) (I.hok.kept kp3) bare2 fun b z => nomatch z
    · have I1 : Inv (gcxOf X.prog X.w X.K X.mg X.base N qual scope f cdv B X.stack s H (fun _ _ _ => False) []) [] (start N vs) H s1 := inv_startG S hh e1 hl r xx
      have I2 : Inv (gcxOf X.prog X.w X.K X.mg X.base N qual scope f cdv B X.stack s H (fun _ _ _ => False) []) [] (start N vs) H { s1 with gens := s1.gens.push (.fresh (.func body (envOfC qual scope s.heap.objs.size f cdv))), toks := tk2, heap := s1.heap.push go } :=
        I1.call' (ch := []) rfl (Un.kept kp2) (I1.hok.kept kp2) bare2 fun b z => nomatch z
      have I3 := Inv.pinnedG (pn := [(s1.heap.objs.size, go)]) (pins := []) I2 fun p hp => by
        rw [List.append_nil] at hp
        rw [List.mem_singleton.mp hp]
        refine ⟨c4 _, I1.hok.fresh (Nat.le_refl _), Nat.ne_of_gt lt1, I1.nofs (Nat.le_refl _), fun v q => ?_⟩
        have q : go.data = .cell v := q
        rw [c2] at q
        cases q
      exact ⟨⟨I3.ok.mod, I3.ok.kind, I3.ok.glob, I3.ok.blt, I3.ok.above, I3.ok.inj, I3.ok.has, I3.ok.cab, I3.ok.hd, I3.ok.frames, I3.ok.stk, I3.ok.exf, I3.ok.bs, I3.ok.bsz, I3.ok.noex, I3.ok.exfs, I3.ok.funs, I3.ok.frf⟩,
        I3.os, I3.bare, I3.base, I3.loc, I3.cell, I3.free, I3.freeC, I3.pin, I3.hok, I3.len⟩
  exact main _ _ _ _ rfl rfl rfl fun h => Heap.get?_push_size _ rfl
def tForGenK (sp : SPG) (is : List Nat) (tk : TA) (g : TG) (tb : TS) : TS := fun D zc H => tk zc H fun vs H1 => sp (Pm .non is (vs ++ [])) H1 zc (yForGen g tb D) D.nx
/-- for x in g(k = v, ..) -/
theorem ps_forGenK {k : Nat} {f : Addr} {fd : FuncData} {ps : List Str} {sp : SPG} {x : Str} {p p' pos : Pos} {kws : List Keyword} {ks : List Str} {is : List Nat} {tk : TA} {target : Expr} {body : List Stmt} {g : TG} {tb : TS} (F : GFnP X.prog X.w X.K X.mg X.base k f fd ps sp) (hr : Room (k + 2) X.A) (hx : XeOk X) (hp : PassesOwn (model X.prog X.w) X.A X.env X.xe) (hc : X.calm = true)
    (hgl : Gl X x) (hm : X.mg x = some (.ref f)) (hk : PySem.W.keepIn X.K (.ref f) = true) (hb : KB X.K fd ps 0 ks fun l => Pm .none is (l ++ [])) (his : ∀ i ∈ is, i < ks.length) (ha : PKN X kws ks.length tk) (hg : PG X target g) (hbd : PSs X body tb)
    (hall : (backToKw p' (keywordEach kws X.env)).all (·.1.isSome) = true := by rfl) (hks : (backToKw p' (keywordEach kws X.env)).filterMap (·.1) = ks := by rfl) (hdb : (x == ("__debug__" : Str)) = false := by decide)
    (hpl : ((backTo p' (starEach [] X.env)).any (·.1) || (backToKw p' (keywordEach kws X.env)).any (·.1.isNone)) = false := by rfl)
    (hs : ∀ u, foldedSetIterable (.Call (.Name x p) [] kws p') X.env u = pure u := by intro _; rfl) : PS X (.For target (.Call (.Name x p) [] kws p') body [] pos) (tForGenK sp is tk g tb) := by
  refine ⟨fun pins s σ H D I h => ?_⟩
  obtain ⟨nm, qual, st, dV, kV, doc, pm, cdv, ct, oc, an, od, osl, N, efd, lk, hcd, S, nc, bodyT⟩ := F.ex
  refine wpAny_For ?_ hs
  refine wpAny_Call_Name_kw (ld_glob I hgl hm ?_ hdb)
  have h : tk σ H _ := (ha.eq σ H _).mp h
  refine PySem.W.callWith_KW0 (h₀ := X.base) I.ok.mod.kin hk hall ?_ hpl
  refine thn (ha.pk.run p' pins s σ H _ I h) fun ws s1 ⟨vs, H1, I1, r0, q⟩ => ⟨I1.kIn, ?_⟩
  rw [hks]
  obtain ⟨l2, q⟩ := chk_len q
  have b := hb s1 [] ws I1.kIn rfl (r0.length.symm.trans l2)
  have r := vals_pm is (fun i hi => by rw [List.append_nil, l2]; exact his i hi) (r0.append (.nil : Vals [] []))
  subst efd
  have room : X.A.depth < recursionLimit := by
    have := hr.dp
    omega
  have e0 := I1.env0
  refine makeK I1 (B := X.A.in1) ⟨e0.frames, e0.mod, e0.bs, e0.bsz, e0.funs, e0.frf, e0.hok, e0.bare⟩ hr.hd room lk hcd S b (F.len _ _ _ _ _ q) r nc fun a gi go s2 ha2 isg hgs hga I2 IG => ?_
  have hin : ∀ (b : Addr) (o : Obj), s1.heap.get? b = some o → b < s1.heap.objs.size := fun b o e => Heap.lt_size e
  have Fit : Fits (mkG X X.A.in1 N qual (defScope st) s1.heap.objs.size f cdv [a]) X := ⟨rfl, rfl, rfl, rfl, fun b hb => by
    obtain ⟨_, o, ho, _⟩ := I1.stack.mem hb
    exact Heap.lt_size ho, fun y c e => nc _ y c e⟩
  have Old : Older (mkG X X.A.in1 N qual (defScope st) s1.heap.objs.size f cdv [a]) X pins := ⟨I1.lt, fun y c e => by
    obtain ⟨v, o, ho, _⟩ := I1.cell y c e
    exact Heap.lt_size ho, fun q hq => Heap.lt_size (I1.pin q hq).1, I1.sz⟩
  refine wpAny_pyIter_gen (isg _ hga) ?_
  have ypn : ∀ q ∈ [(a, go)] ++ ([] : List (Addr × Obj)), s1.heap.objs.size ≤ q.1 := fun q hq => by
    rw [List.append_nil] at hq
    rw [List.mem_singleton.mp hq]
    exact ha2
  have glt : gi < s2.gens.size := (Array.getElem?_eq_some_iff.mp hgs).1
  have bR : AllBare (s2.setGen gi .running).gens := setGen_bare I2.bare rfl
  have atg := atG ypn IG
  have IP := inv_gens (gs := (s2.setGen gi .running).gens) (pinX Old I2 atg) bR
  have rl := relay (z := ⟨σ, H1, s2.setGen gi .running, fun _ => go⟩) (s2 := s2.setGen gi .running) Fit IG IP rfl rfl (fun b hb o e => pin_at (H1 := H1) (s1 := s2) IP (by
      have hb : b = s1.heap.objs.size := by simpa [mkG] using hb
      rw [hb]
      exact List.mem_cons_self) e) fun p hp' => by
    have e : p = (a, go) := by simpa [Gc.px, mkG] using hp'
    rw [e]
    exact IG.pin (a, go) (List.mem_append_left _ (List.mem_singleton.mpr rfl))
  obtain ⟨t, ht, hq⟩ := bodyT X.A.in1 X.stack s1.heap.objs.size [a] (yForGen g tb D) D.nx (Pm .non is (vs ++ [])) H1 σ ⟨(Room.deeper (hr.in1) _).mono (by omega), fun z => z.elim⟩ q
  have st := start_Z (G := mkG X X.A.in1 N qual (defScope st) s1.heap.objs.size f cdv [a]) (z := ⟨σ, H1, s2.setGen gi .running, fun _ => go⟩) ht (Nat.le_of_lt rl.lt) rl hq
  exact loop_Z Fit Old ha2 isg hc room hg hbd hp hx _ _ _ _ _ (SgZ.fold st) s2 _ rfl rfl rfl hgs ⟨rfl, rfl, rfl⟩ I2 hga
end
end GPu
/-! LcPl: a generator whose walker gets lists of its own -/
namespace Lc
open PySem L2 GPu Res PyProof.Rows
/-- the walker: what it is handed is told by yc -/
structure WaX {τ ρ α : Type} (yc : α → V → Asr) (yl : YL) (Cc : τ → L2.St → Asr) (C : Asr) (f : τ → α → Res (Lp τ ρ)) (Out : Jn τ ρ → Asr → Prop) : Prop where
  run : ∀ (s : τ) (x : α) (zc : L2.St) (xv : V) (H : Hp) (R : Asr) (k : L2.St → Hp → Prop), Top (sep (sep (Cc s zc) C) (sep (yc x xv) R)) H →
    (f s x).wp (fun l => match l with | .next s' => ∀ z' H', Top (sep (sep (Cc s' z') C) R) H' → k z' H' | .brk s' => Out (.go s') R | .ret r => Out (.out r) R) (fun _ => False) → yl zc xv H k
  out : ∀ w R B, Out w R → Out w (sep B R)
section
variable {E : Ec} {te : TE} {ts : TS} {t u : TP} {Γ : List Cell} {α β γ δ ι τ ρ : Type} {wi : TI} {gr : TG} {tb : TP} {Cc : τ → L2.St → Asr} {Out : Jn τ ρ → Asr → Prop} {Γ' : γ → List Cell} {s' : γ → τ} {yl : YL} {s : τ}
theorem ew_yieldX {yc : β → V → Asr} {f : τ → β → Res (Lp τ ρ)} {m1 : Res α} {Γ1 : α → List Cell} {c : α → RC} {x : α → β} {m2 : α → τ → Res (Jn γ (Jn τ ρ))} (W : WaX yc yl Cc E.C f Out) (h : EvJ E te Γ m1 Γ1 c) (hf : ∀ a σ v A H, Top (sep (c a σ v) A) H → Top (sep (yc (x a) v) A) H) (k : ∀ a s2, EvW E Cc Out u (Γ1 a) s2 (m2 a s2) Γ' s') :
    EvW E Cc Out (p2Then (p2Yield yl te) u) Γ s (m1.bind fun a => (f s (x a)).bind fun l => yk l (m2 a)) Γ' s' := fun zc σ H R D t q => by
  refine h σ H (sep (Cc s zc) R) _ t (wp_mono (wp_bind.mp q) (fun a _ q v H1 t1 => ?_) fun _ z => z.elim)
  have t2 : Top (sep (base E σ (Γ1 a)) (sep (yc (x a) v) (sep (Cc s zc) R))) H1 := (hf a σ v _ H1 (t1.ent frontE)).ent frontE
  have t3 : Top (sep (sep (Cc s zc) E.C) (sep (yc (x a) v) (sep (sl σ (Γ1 a)) R))) H1 := t2.ent turnE
  refine W.run s (x a) zc v H1 (sep (sl σ (Γ1 a)) R) _ t3 (wp_mono (wp_bind.mp q) (fun l _ q2 => ?_) fun _ z => z)
  cases l with
  | next s2 => exact fun z' H' t4 => k a s2 z' σ H' R D (t4.ent turnE0) q2
  | brk s2 => exact W.out _ _ _ q2
  | ret r => exact W.out _ _ _ q2
def SpWX {ι α : Type} (yc : α → V → Asr) (ps : ι → List PP) (m : ∀ {τ ρ : Type}, ι → τ → (τ → α → Res (Lp τ ρ)) → Res (Jn τ ρ)) : SPG := fun vs H zc yl De => ∃ (τ ρ : Type) (x : ι) (C : Asr) (Cc : τ → L2.St → Asr) (s0 : τ) (f : τ → α → Res (Lp τ ρ)) (Out : Jn τ ρ → Asr → Prop) (R : Asr),
  WaX yc yl Cc C f Out ∧ Top (sep (sep (Cc s0 zc) C) R) H ∧ (∀ F H o, Same F H → C.P F H o → parOk (ps x) vs F H) ∧ (m x s0 f).wp (fun j => Out j R) (fun _ => False) ∧ ∀ s' R, Out (.go s') R → ∀ z' H', Top (sep (sep (Cc s' z') C) R) H' → De z' H'
theorem spwx_go {yc : α → V → Asr} {ps : ι → List PP} {m : ∀ {τ ρ : Type}, ι → τ → (τ → α → Res (Lp τ ρ)) → Res (Jn τ ρ)} {vs : List V} {H : Hp} {zc : L2.St} {yl : YL} {De : L2.St → Hp → Prop} {G : Prop} (h : SpWX yc ps (fun {τ ρ} => m (τ := τ) (ρ := ρ)) vs H zc yl De)
    (k : ∀ (τ ρ : Type) (x : ι) (C : Asr) (Cc : τ → L2.St → Asr) (s0 : τ) (f : τ → α → Res (Lp τ ρ)) (Out : Jn τ ρ → Asr → Prop) (R : Asr), WaX yc yl Cc C f Out → Top (sep (sep (Cc s0 zc) C) R) H → (∀ F H o, Same F H → C.P F H o → parOk (ps x) vs F H) →
      WP (m x s0 f) (fun j => Out j R) (fun _ => False) → (∀ s' R, Out (.go s') R → ∀ z' H', Top (sep (sep (Cc s' z') C) R) H' → De z' H') → G) : G := by
  obtain ⟨τ, ρ, x, C, Cc, s0, f, Out, R, h1, h2, h3, h4, h5⟩ := h
  exact k τ ρ x C Cc s0 f Out R h1 h2 h3 ⟨h4⟩ h5
end
/-- lists of one's own are handed out -/
def ycO {α : Type} [Dat α] (x : List α) (v : V) : Asr := oV (x.map dat) v
section
variable {E : Ec} {Γ : List Cell} {α ι τ ρ : Type} {gr : TG} {tb : TS} {x : Str}
def EvGX (E : Ec) (g : TG) (yc : V → Asr) (Γ Γ' : List Cell) : Prop := ∀ (σ : L2.St) (H : Hp) (R : Asr) (Q : L2.St → Hp → Prop) (v : V), Top (sep (base E σ Γ) (sep (yc v) R)) H → (∀ σ' H', Top (sep (base E σ' Γ') R) H' → Q σ' H') → g v σ H Q
theorem egx_name [Dat α] {i : Nat} {xs : List α} (hi : i < Γ.length) : EvGX E (gName i) (ycO xs) Γ (Γ.set i (cO (xs.map dat))) := fun σ H R Q v t q => q _ H (put_slot (c := rO (xs.map dat)) sto_o hi t)
theorem es_forGenKX {yc : α → V → Asr} {ps : ι → List PP} {m : ∀ {τ ρ : Type}, ι → τ → (τ → α → Res (Lp τ ρ)) → Res (Jn τ ρ)} {ta : TA} {cs : List RC} {is : List Nat} {ws ws2 : List V} (x : ι) {Γs : τ → List Cell} {Γt : τ → α → List Cell} {s0 : τ} {f : τ → α → Res (Lp τ ρ)} {post : ρ → Fin}
    (ha : EvAP E ta Γ cs) (hw : Pars E Γ K0 cs (ws.map fun w v _ _ => v = w)) (hpm : Pm V.non is (ws ++ []) = ws2) (hpar : ∀ F H o, Same F H → E.C.P F H o → parOk (ps x) ws2 F H) (h0 : Le Γ (Γs s0)) (hg : ∀ s x, EvGX E gr (yc x) (Γs s) (Γt s x)) (hb : ∀ s x, EvS E tb (Γt s x) (f s x) (Lp.post Γs post))
    (hp : ∀ r, (∀ Γ, post r ≠ .bk Γ) ∧ (∀ Γ, post r ≠ .ct Γ) ∧ ∀ Γ, post r ≠ .lp Γ) :
    EvS E (tForGenK (SpWX yc ps (fun {τ ρ} => m (τ := τ) (ρ := ρ))) is ta gr tb) Γ (noErr (m x s0 f)) (Jn.post Γs post) := fun σ H R D t q => by
  refine ha σ H R _ t fun vs H1 t1 => ?_
  have ev : vs = ws := t1.fact fun F o s h => par_is (hw σ vs F H1 o trivial s ((Ent.assoc'.trans Ent.left) F H1 o s h))
  subst ev
  rw [hpm]
  refine ⟨τ, ρ, x, E.C, fun s zc => sl zc (Γs s), s0, f, fun j R => (Jn.post Γs post j).ok E R D, R, ⟨fun s x zc xv H2 R2 k t2 q2 => ?_, fun w R B h => Fin.ok_drop h⟩, ?_, hpar, wp_noErr q, fun s' R h => h⟩
  · refine hg s x zc H2 R2 _ xv t2 fun σ3 H3 t3 => ?_
    refine hb s x σ3 H3 R2 _ t3 (wp_mono q2 (fun l _ q3 => ?_) fun _ z => z.elim)
    cases l with
    | next s' => exact fun σ4 H4 t4 => ⟨q3 σ4 H4 t4, q3 σ4 H4 t4⟩
    | brk s' => exact fun σ4 H4 t4 => q3 σ4 H4 t4
    | ret r =>
      obtain ⟨p1, p2, p3⟩ := hp r
      have q4 : (post r).out.ok E R2 D := q3
      exact Fin.out_loop p1 p2 p3 q4
  · exact (t1.ent (Ent.sepR Ent.right)).ent (Ent.sepL (Ent.sepL h0.ent))
end
end Lc
/-! LcWs: xs[::k] -/
namespace GPu
open PySem PySem.Spec PyProof.Rows L2
theorem pi_listZ {X : Cx} {K : PySem.W.Frag} {tg l : Expr} {tl : TE} (hk : X.K = K) (hl : PE X l tl) : PI X tg l (iList K tl) := hk ▸ pi_list hl
theorem pget_listZ {X : Cx} (K : PySem.W.Frag) (hk : X.K = K) : PGet X (rIxL K) := hk ▸ Lc.pget_list
end GPu
namespace Lc
open PySem L2 Res PySem.Spec PyProof.Rows
/-- xs[::k] -/
def stepL {α : Type} (xs : List α) (k : Int) : List α := (sliceRange 0 xs.length k).filterMap (xs[·]?)
theorem RpAll.pick {F : Hp} {vs : List V} {ds : List PyData} (r : RpAll F vs ds) : ∀ ix : List Nat, RpAll F (ix.filterMap (vs[·]?)) (ix.filterMap (ds[·]?))
  | [] => .nil
  | i :: ix => by
    rw [List.filterMap_cons, List.filterMap_cons]
    cases e : ds[i]? with
    | none =>
      have e2 : vs[i]? = none := by
        rw [List.getElem?_eq_none_iff] at e ⊢
        rw [r.len]
        exact e
      rw [e2]
      exact RpAll.pick r ix
    | some d =>
      obtain ⟨v, h1, h2⟩ := r.get e
      rw [h1]
      exact .cons h2 (RpAll.pick r ix)
theorem vals_pick {vs : List V} {us : List Value} (r : Vals vs us) : ∀ ix : List Nat, Vals (ix.filterMap (vs[·]?)) (ix.filterMap (us[·]?))
  | [] => .nil
  | i :: ix => by
    rw [List.filterMap_cons, List.filterMap_cons]
    cases e : vs[i]? with
    | none =>
      have e2 : us[i]? = none := Vals.none_of r e
      rw [e2]
      exact vals_pick r ix
    | some d =>
      obtain ⟨v, h1, h2⟩ := Vals.get r e
      rw [h1]
      exact .cons h2 (vals_pick r ix)
theorem stepL_map {α β : Type} (f : α → β) (xs : List α) (k : Int) : stepL (xs.map f) k = (stepL xs k).map f := by
  unfold stepL
  rw [List.length_map]
  generalize sliceRange 0 (xs.length : Int).toNat k = ix
  generalize hx : sliceRange 0 (xs.length : Int) k = ix
  clear hx
  induction ix with
  | nil => rfl
  | cons i ix ih =>
    rw [List.filterMap_cons, List.filterMap_cons, List.getElem?_map]
    cases xs[i]? with
    | none => exact ih
    | some a =>
      show f a :: _ = f a :: _
      rw [ih]
theorem pick_step (items : Array Value) (k : Int) (hk : 0 < k) : (slicePick items none none (some k)).toList = (sliceRange 0 items.size k).filterMap (items.toList[·]?) := by
  unfold slicePick
  have e : sliceBounds none none (some k) items.size = (0, (items.size : Int), k) := by
    unfold sliceBounds
    simp [hk]
  rw [e]
  simp
def tStepL (K : PySem.W.Frag) (te tk : TE) : TE := fun σ H Q => te σ H fun x H1 => tk σ H1 fun y H2 => ∃ a xs k, x = .ref a ∧ y = .int k ∧ 0 < k ∧ SqL K H2 a xs ∧ ∀ p, H2 p = none → Q (.ref p) (upd H2 p (.lst (stepL xs k)))
theorem pe_stepL {X : Cx} {e ek : Expr} {te tk : TE} {p3 pos : Pos} (he : PE X e te) (hk : PE X ek tk) : PE X (.Subscript e (.Slice none none (some ek) p3) pos) (tStepL X.K te tk) := by
  refine ⟨fun pins s σ H Q I h => ?_⟩
  refine Subscript_ (thn (he.run pins s σ H _ I h) fun v s1 ⟨x, H1, I1, r1, q1⟩ => ?_)
  refine wpAny_Slice (thn (po_none.run pins s1 σ H1 (fun o H2 => o = none ∧ H2 = H1) I1 ⟨rfl, rfl⟩) fun vl s2 ⟨l, H2, I2, pl, el, e2⟩ => ?_)
  subst el e2
  refine thn (po_none.run pins s2 σ H2 (fun o H3 => o = none ∧ H3 = H2) I2 ⟨rfl, rfl⟩) fun vu s3 ⟨u, H3, I3, pu, eu, e3⟩ => ?_
  subst eu e3
  rw [evalPart_some]
  refine thn (hk.run pins s3 σ H3 _ I3 q1) fun vs s4 ⟨y, H4, I4, r4, q4⟩ => ?_
  obtain ⟨a, xs, k, ex, ey, hpos, hx, q⟩ := q4
  subst ex ey
  cases r1
  obtain ⟨tkn, rfl⟩ := r4
  have I5 : Inv X pins σ H4 { s4 with heap := s4.heap.push { cls := .type "slice", data := .fields #[vl, vu, .int k tkn] } } := I4.kept (t' := s4.toks) fun b ob q => Heap.get?_push_of_some _ q
  obtain ⟨its, r, ht, hz⟩ := I5.list hx
  have hlen := r.length
  show wpAny (model X.prog X.w) X.A (subscriptTail e (.Slice none none (some ek) p3) (.ref a) (.ref s4.heap.objs.size)) (EP X pins σ Q) X.xe { s4 with heap := s4.heap.push { cls := .type "slice", data := .fields #[vl, vu, .int k tkn] } }
  refine tail_any (ops := [.ref a, .ref s4.heap.objs.size]) ht.isList.typeIs (PySem.slot_list_getitem.lookup) ?_ (by with_unfolding_all rfl)
  refine wpAny_getItem_list_slice ht.isList (Heap.IsSliceOf.new _ vl vu (.int k tkn)) pl pu (.int k tkn) (fun z => by cases z; exact absurd hpos (by decide)) ?_ (by rw [List.size_toArray]; omega)
  have sz : (slicePick its.toArray none none (some k)).toList.length ≤ sizeLine := by
    have := slicePick_size_le its.toArray none none (some k)
    have e0 : (slicePick its.toArray none none (some k)).toList.length = (slicePick its.toArray none none (some k)).size := Array.length_toList
    have e1 : its.toArray.size = its.length := List.size_toArray
    omega
  have ep := pick_step its.toArray k hpos
  rw [List.size_toArray] at ep
  have ep2 : (slicePick its.toArray none none (some k)).toList = (sliceRange 0 xs.length k).filterMap (its[·]?) := by
    rw [ep, hlen]
  have rv : Vals (stepL xs k) (slicePick its.toArray none none (some k)).toList := by
    rw [ep2]
    exact vals_pick r _
  refine ⟨.ref _, _, I5.laid (t' := s4.toks) (o := .lst (stepL xs k)) (fun b ob q => Heap.get?_push_of_some _ q) (Nat.le_refl _) ?_, rfl, q _ (I5.hok.fresh (Nat.le_refl _))⟩
  refine ⟨by rw [rv.length]; exact sz, _, 0, rv, ?_⟩
  rw [Array.toArray_toList]
  exact Heap.get?_push_size _ rfl
/-- a op1 b op2 c op3 d -/
def tChain3 (r r' r'' : R2) (ta tb tc td : TE) : TE := fun σ H Q => ta σ H fun x H1 => tb σ H1 fun y H2 => r x y H2 fun z H3 => ∃ k, z = .bl k ∧
  (if k = true then tc σ H3 fun w' H4 => r' y w' H4 fun z H5 => ∃ k, z = .bl k ∧ (if k = true then td σ H5 fun v' H6 => r'' w' v' H6 Q else Q (.bl false) H5) else Q (.bl false) H3)
theorem pe_chain3 {X : Cx} {a b c d : Expr} {pos : Pos} {ta tb tc td : TE} {op op' op'' : CmpOp} {r r' r'' : R2} (ho : OpR X (compareOp op) r) (ho' : OpR X (compareOp op') r') (ho'' : OpR X (compareOp op'') r'') (ha : PE X a ta) (hb : PE X b tb) (hc : PE X c tc) (hd : PE X d td)
    (hm : lastMarks [op, op', op''] [b, c, d] = false := by with_unfolding_all rfl) : PE X (.Compare a [op, op', op''] [b, c, d] pos) (tChain3 r r' r'' ta tb tc td) := by
  refine ⟨fun pins s σ H Q I h => ?_⟩
  refine Compare_chain (thn (ha.run pins s σ H _ I h) fun v s1 ⟨x, H1, I1, r1, q1⟩ => chain_link (thn (hb.run pins s1 σ H1 _ I1 q1) fun u s2 ⟨y, H2, I2, r2, q2⟩ =>
    thn (ho pins s2 σ H2 x y v u _ I2 r1 r2 q2) fun d s3 ⟨z, H3, I3, r3, k, e, q3⟩ => ?_)) hm
  subst e
  cases r3
  refine wpAny_truthy_bool ?_
  cases k with
  | false => exact ite_ff ⟨.bl false, H3, I3, rfl, q3⟩
  | true =>
    refine ite_tt (chain_link (thn (hc.run pins s3 σ H3 _ I3 q3) fun w' s4 ⟨z', H4, I4, r4, q4⟩ => thn (ho' pins s4 σ H4 y z' u w' _ I4 r2 r4 q4) fun d s5 ⟨z, H5, I5, r5, k, e, q5⟩ => ?_))
    subst e
    cases r5
    refine wpAny_truthy_bool ?_
    cases k with
    | false => exact ite_ff ⟨.bl false, H5, I5, rfl, q5⟩
    | true => exact ite_tt (chain_last (thn (hd.run pins s5 σ H5 _ I5 q5) fun w2 s6 ⟨z2, H6, I6, r6, q6⟩ => ho'' pins s6 σ H6 z' z2 w' w2 Q I6 r4 r6 q6))
section
variable {E : Ec} {ta tb tc td : TE} {Γ : List Cell} {α β : Type}
theorem evp_chain3 {r r' r'' : R2} {a b c d : Int} {p p' p'' : Int → Int → Bool} (ha : EvP E ta Γ (rV (.int a))) (hb : EvP E tb Γ (rV (.int b))) (hc : EvP E tc Γ (rV (.int c))) (hd : EvP E td Γ (rV (.int d)))
    (h1 : ∀ H (Q : VK), Q (.bl (p a b)) H → r (.int a) (.int b) H Q) (h2 : ∀ H (Q : VK), Q (.bl (p' b c)) H → r' (.int b) (.int c) H Q) (h3 : ∀ H (Q : VK), Q (.bl (p'' c d)) H → r'' (.int c) (.int d) H Q) :
    EvP E (tChain3 r r' r'' ta tb tc td) Γ (rV (.bool (p a b && (p' b c && p'' c d)))) := fun σ H R Q t q =>
  ha σ H R _ t fun x H1 t1 => by
    have ex := int1 t1
    subst ex
    refine hb σ H1 R _ (t1.ent (Ent.sepR Ent.right)) fun y H2 t2 => ?_
    have ey := int1 t2
    subst ey
    refine h1 H2 _ ⟨p a b, rfl, ?_⟩
    cases e : p a b with
    | false => exact q (.bl false) H2 (res1 t2 fun F => by rw [e]; exact .bl _)
    | true =>
      refine hc σ H2 R _ (t2.ent (Ent.sepR Ent.right)) fun z H3 t3 => ?_
      have ez := int1 t3
      subst ez
      refine h2 H3 _ ⟨p' b c, rfl, ?_⟩
      cases e2 : p' b c with
      | false => exact q (.bl false) H3 (res1 t3 fun F => by rw [e, e2]; exact .bl _)
      | true =>
        refine hd σ H3 R _ (t3.ent (Ent.sepR Ent.right)) fun z H4 t4 => ?_
        have ez := int1 t4
        subst ez
        exact h3 H4 _ (q _ _ (res1 t4 fun F => by rw [e, e2]; exact .bl _))
theorem etp_andF {tt tu : TT} (h : EvTP E tt Γ false) : EvTP E (tAnd tt tu) Γ false := fun σ H R Q t q => h σ H R _ t fun H1 t1 => q H1 t1
theorem pa_some [Dat α] {Kn : L2.St → Prop} {xs : List α} {c : RC} (h : PArg E Γ Kn c (ppL (xs.map dat))) : PArg E Γ Kn c (ppL ((xs.map some).map dat)) := by
  rw [List.map_map]
  exact h
theorem ev_vals {te : TE} {v : α → β} {m : Res α} {c : β → RC} (h : EvJ E te Γ m (fun _ => Γ) (fun a => c (v a))) : EvJ E te Γ (m.bind fun a => .ok (v a)) (fun _ => Γ) c := fun σ H R Q t hm =>
  h σ H R Q t (wp_mono (wp_bind.mp hm) (fun _ _ q => q) fun _ x => x)
end
section
variable {E : Ec} {te tk : TE} {Γ : List Cell} {α β γ : Type}
theorem ev_stepL [Dat α] {m : Res γ} {Γ1 : γ → List Cell} {c : γ → RC} {xs : γ → List α} {k : γ → Int} (h : EvJ E te Γ m Γ1 c) (hr : ∀ a, PArg E (Γ1 a) K0 (c a) (ppS E.K ((xs a).map dat))) (hk : ∀ a, EvP E tk (Γ1 a) (rV (.int (k a)))) :
    EvJ E (tStepL E.K te tk) Γ (m.bind fun a => need (0 < k a) (.ok a)) Γ1 fun a => rO ((stepL (xs a) (k a)).map dat) := fun σ H R Q t q =>
  h σ H R _ t (wp_mono (wp_bind.mp q) (fun g _ q x H1 t1 => by
    obtain ⟨hp, q⟩ := wp_need q
    refine hk g σ H1 (sep (c g σ x) R) _ t1 fun y H2 t2 => ?_
    have ey := int1 t2
    subst ey
    obtain ⟨a, vs, rfl, hs, ln, t3⟩ := readS (hr g) (t2.ent (Ent.sepR Ent.right))
    refine ⟨a, vs, k g, rfl, rfl, hp, hs, fun p hp => q _ _ ((newL t3 hp fun F' o s' z => ?_).ent (Ent.sepR (Ent.sepR (Ent.right.trans Ent.right))))⟩
    have ra := as_of F' o s' z
    have e : (stepL (xs g) (k g)).map dat = (sliceRange 0 ((xs g).map dat).length (k g)).filterMap (((xs g).map dat)[·]?) := (stepL_map dat (xs g) (k g)).symm
    rw [e]
    unfold stepL
    rw [ra.len]
    exact ra.pick _) fun _ x => x)
end
end Lc
/-! LcWt: x in xs, xs.index(x), items of any shape -/
namespace Lc
open PySem L2 Res PySem.Spec PyProof.Rows
def inL {α β : Type} [Dat α] [Dat β] (a : β) (xs : List α) : Bool := (xs.map dat).any fun z => PyData.eqv z (dat a)
def indexD {α : Type} [Dat α] (xs : List α) (y : α) : Res Int := match xs.findIdx? (fun x => eqD x y) with
  | some j => .ok (j : Int)
  | none => .bad
theorem inDK {X : Cx} (K : PySem.W.Frag) (h : X.K = K) (hu : X.A.units + 65 < cLine) : OpR X (compareOp .In) (rInD K) := h ▸ op_inD hu
theorem ninDK {X : Cx} (K : PySem.W.Frag) (h : X.K = K) (hu : X.A.units + 65 < cLine) : OpR X (compareOp .NotIn) (rNotInD K) := h ▸ op_notInD hu
theorem indexDK {X : Cx} (K : PySem.W.Frag) (h : X.K = K) (hu : X.A.units + 65 < cLine) : MtR X "list.index" (rIndexD K) := h ▸ mt_indexD hu
def absI (i : Int) : Int := if i < 0 then -i else i
theorem rn_abs {E : Ec} {Γ : List Cell} {i : Int} : RnP E (fun xs H Q => ∃ i, xs = [.int i] ∧ Q (.int (if i < 0 then -i else i)) H) [rV (.int i)] Γ (rV (.int (absI i))) := fun σ H R Q vs t q => by
  obtain ⟨x, rfl, t1⟩ := one_arg t
  have e1 := int1 t1
  subst e1
  exact ⟨i, rfl, q _ H (res1 t1 fun F => .int _)⟩
section
variable {E : Ec} {Γ : List Cell} {cx cy : RC} {α β γ : Type} {tx te : TE}
theorem r2_inD [Dat α] [Dat β] {a : β} {xs : List α} (h1 : PArg E Γ K0 cx (ppD E.K (dat a))) (h2 : PArg E Γ K0 cy (ppD E.K (dat xs))) (s1 : SeqAt.shaped (dat a) = true) (s2 : SeqAt.shaped (dat xs) = true) : R2P E (rInD E.K) cx cy Γ (rV (.bool (inL a xs))) := fun σ H R Q x y t q => by
  obtain ⟨_, _, z1⟩ := par1 h1 t
  obtain ⟨_, _, z2⟩ := par2 h2 t
  exact ⟨dat a, xs.map dat, z1.shaped s1, z2.shaped s2, s1, s2, q _ H (res2 t fun F => .bl _)⟩
theorem r2_ninD [Dat α] [Dat β] {a : β} {xs : List α} (h1 : PArg E Γ K0 cx (ppD E.K (dat a))) (h2 : PArg E Γ K0 cy (ppD E.K (dat xs))) (s1 : SeqAt.shaped (dat a) = true) (s2 : SeqAt.shaped (dat xs) = true) : R2P E (rNotInD E.K) cx cy Γ (rV (.bool (!inL a xs))) := fun σ H R Q x y t q => by
  obtain ⟨_, _, z1⟩ := par1 h1 t
  obtain ⟨_, _, z2⟩ := par2 h2 t
  exact ⟨dat a, xs.map dat, z1.shaped s1, z2.shaped s2, s1, s2, q _ H (res2 t fun F => .bl _)⟩
theorem evp_orS {ta tb : TE} {a : Bool} {m : Res γ} {Γ' : γ → List Cell} {b : γ → Bool} {g : γ} (h : EvP E ta Γ (rV (.bool a))) (h2 : EvJ E tb Γ m Γ' fun r => rV (.bool (b r))) (e1 : Γ' g = Γ) (e2 : b g = true) : EvJ E (tOrV ta tb) Γ (if a then .ok g else m) Γ' fun r => rV (.bool (b r)) := fun σ H R Q t q => h σ H R _ t fun v H1 t1 => ⟨a, bl_of t1, by
  cases a with
  | true =>
    have q : ∀ v H', Top (sep (base E σ (Γ' g)) (sep (rV (.bool (b g)) σ v) R)) H' → Q v H' := q
    rw [e1, e2] at q
    exact q (.bl true) H1 (bl_of t1 ▸ t1)
  | false => exact h2 σ H1 R Q (t1.ent (Ent.sepR Ent.right)) q⟩
theorem evp_andS {ta tb : TE} {a : Bool} {m : Res γ} {Γ' : γ → List Cell} {b : γ → Bool} {g : γ} (h : EvP E ta Γ (rV (.bool a))) (h2 : EvJ E tb Γ m Γ' fun r => rV (.bool (b r))) (e1 : Γ' g = Γ) (e2 : b g = false) : EvJ E (tAndV ta tb) Γ (if a then m else .ok g) Γ' fun r => rV (.bool (b r)) := fun σ H R Q t q => h σ H R _ t fun v H1 t1 => ⟨a, bl_of t1, by
  cases a with
  | false =>
    have q : ∀ v H', Top (sep (base E σ (Γ' g)) (sep (rV (.bool (b g)) σ v) R)) H' → Q v H' := q
    rw [e1, e2] at q
    exact q (.bl false) H1 (bl_of t1 ▸ t1)
  | true => exact h2 σ H1 R Q (t1.ent (Ent.sepR Ent.right)) q⟩
theorem ev_indexD [Dat α] {xs : List α} {m : Res γ} {Γ1 : γ → List Cell} {c : γ → RC} {y : γ → α} (hx : EvP E tx Γ cx) (hp : PArg E Γ K0 cx (ppS E.K (xs.map dat))) (h : EvJ E te Γ m Γ1 c) (hd : ∀ a, PArg E (Γ1 a) K0 (c a) (ppD E.K (dat (y a)))) (s1 : ∀ a, SeqAt.shaped (dat (y a)) = true) (s2 : SeqAt.shaped (dat xs) = true) (e : Γ1 = fun _ => Γ) :
    EvJ E (tBM E.K "list" (rIndexD E.K) tx (tCons te tNil)) Γ (m.bind fun a => indexD xs (y a)) (fun _ => Γ) fun r => rV (.int r) := fun σ H R Q t q => by
  subst e
  refine hx σ H R _ t fun x H1 t1 => ?_
  obtain ⟨a, vs, e1, hs, _, _⟩ := readS hp t1
  subst e1
  refine ⟨.inl ⟨rfl, _, hs⟩, ?_⟩
  refine h σ H1 _ _ t1 (wp_mono (wp_bind.mp q) (fun g _ q w H2 t2 => ?_) fun _ x => x.drop)
  obtain ⟨_, _, z1⟩ := par2 (pa_D hp) t2
  obtain ⟨_, _, z2⟩ := par1 (hd g) t2
  unfold indexD at q
  cases ej : xs.findIdx? (fun x => eqD x (y g)) with
  | none =>
    rw [ej] at q
    exact (show False from q).elim
  | some j =>
    rw [ej] at q
    obtain ⟨hj, hj1, hj2⟩ := List.findIdx?_eq_some_iff_getElem.mp ej
    refine ⟨a, w, dat (y g), xs.map dat, j, dat xs[j], rfl, rfl, z1.shaped s2, z2.shaped (s1 g), s2, s1 g, by rw [List.getElem?_map, List.getElem?_eq_getElem hj]; rfl, hj1, fun m z' hm hz => ?_, q _ _ (res1 (t2.ent (Ent.sepR (Ent.sepR Ent.right))) fun F => .int _)⟩
    rw [List.getElem?_map, List.getElem?_eq_getElem (by omega)] at hz
    cases hz
    have := hj2 m hm
    exact Bool.eq_false_iff.mpr this
end
end Lc
/-! LcZl: list(zip(xs, ys)) over two lists -/
namespace Lc
open PySem
theorem zip_no_len : typeLookup (.type "zip") "__len__" = pure none := am_miss_of_fast (by decide +kernel)
theorem zip_no_hint : typeLookup (.type "zip") "__length_hint__" = pure none := am_miss_of_fast (by decide +kernel)
/-- a zip that has given i tuples -/
structure ZS (z TI TO i1 i2 l1 l2 : Addr) (xs ys : Array Value) (i : Nat) (h : Heap) : Prop where
  pTI : IsPair h TI (.ref i1) (.ref i2)
  p1 : h.IsListIter i1 l1 i
  p2 : h.IsListIter i2 l2 i
  q1 : h.IsList l1 xs
  q2 : h.IsList l2 ys
  pz : (IsZip h z TI TO .none ∧ ∃ a b, IsPair h TO a b) ∨ ∃ T f oT, IsZipHeld h z TI TO T f ∧ h.get? T = some oT ∧ T ≠ z ∧ T ≠ i1 ∧ T ≠ i2 ∧ oT.cls = .type "tuple"
/-- what the list holds: references to the tuples Ts -/
structure ZT (xs ys : Array Value) (B : Nat) (Ts : List Addr) (h : Heap) : Prop where
  at_ : ∀ (j : Nat) (T : Addr), Ts[j]? = some T → ∃ x y, xs[j]? = some x ∧ ys[j]? = some y ∧ IsPair h T x y
  lo : ∀ T ∈ Ts, B ≤ T
  hi : ∀ T ∈ Ts, T < h.objs.size
  nd : Ts.Nodup
abbrev lstO (acc : Array Value) (c : Nat) : Obj := { cls := .type "list", dict := none, data := .seq acc c, slots := #[] }
section
variable {prog : Program} {w : World} {A : Around} {E : Value → Shared → Prop} {s : Shared} {R : Result → Shared → Prop} {z TI TO i1 i2 l1 l2 S : Addr} {xs ys : Array Value} {B' : Nat}
theorem ZS.over {i : Nat} {h h' : Heap} (Z : ZS z TI TO i1 i2 l1 l2 xs ys i h) (hk : ∀ b o, b ≠ S → h.get? b = some o → h'.get? b = some o) (hS : ∃ a c, h.get? S = some (lstO a c)) (s1 : S ≠ z) (s2 : S ≠ TI) (s3 : S ≠ TO) (s4 : S ≠ i1) (s5 : S ≠ i2) (s6 : S ≠ l1) (s7 : S ≠ l2) :
    ZS z TI TO i1 i2 l1 l2 xs ys i h' := by
  obtain ⟨a1, a2, a3, a4, a5, a6⟩ := Z
  refine ⟨hk _ _ (Ne.symm s2) a1, a2.at fun o e => hk _ o (Ne.symm s4) e, a3.at fun o e => hk _ o (Ne.symm s5) e, a4.at fun o e => hk _ o (Ne.symm s6) e, a5.at fun o e => hk _ o (Ne.symm s7) e, ?_⟩
  rcases a6 with ⟨q, a, b, q2⟩ | ⟨T, f, oT, q, q2, r1, r2, r3, r4⟩
  · exact .inl ⟨hk _ _ (Ne.symm s1) q, a, b, hk _ _ (Ne.symm s3) q2⟩
  · refine .inr ⟨T, f, oT, hk _ _ (Ne.symm s1) q, hk _ _ (fun e => ?_) q2, r1, r2, r3, r4⟩
    obtain ⟨a, c, e2⟩ := hS
    rw [e, e2] at q2
    cases q2
    exact absurd (Value.type.inj (show Value.type "list" = Value.type "tuple" from r4)) (by decide)
theorem ZS.keep {i : Nat} {h h' : Heap} (Z : ZS z TI TO i1 i2 l1 l2 xs ys i h) (hk : ∀ b o, h.get? b = some o → h'.get? b = some o) : ZS z TI TO i1 i2 l1 l2 xs ys i h' := by
  obtain ⟨a1, a2, a3, a4, a5, a6⟩ := Z
  refine ⟨hk _ _ a1, a2.at fun o e => hk _ o e, a3.at fun o e => hk _ o e, a4.at fun o e => hk _ o e, a5.at fun o e => hk _ o e, ?_⟩
  rcases a6 with ⟨q, a, b, q2⟩ | ⟨T, f, oT, q, q2, r1, r2, r3, r4⟩
  · exact .inl ⟨hk _ _ q, a, b, hk _ _ q2⟩
  · exact .inr ⟨T, f, oT, hk _ _ q, hk _ _ q2, r1, r2, r3, r4⟩
theorem zl_self {i : Nat} {Q : Value → Shared → Prop} (Z : ZS z TI TO i1 i2 l1 l2 xs ys i s.heap) (h : Q (.ref z) s) : wpAny (model prog w) A (pyIter (.ref z)) Q E s := by
  have hT : s.TypeIs (.ref z) "zip" := by
    rcases Z.pz with ⟨q, _⟩ | ⟨T, f, oT, q, _⟩
    · exact ⟨_, q, rfl⟩
    · exact ⟨_, q, rfl⟩
  refine wpAny_pyIter_slot hT F.slot_zip_iter (wpAny_call_entry F.slot_zip_iter hT F.entry_zip_iter ?_ (F.args_zip_iter_1 _))
  show wpAny _ _ (ret (.ref z)) _ _ s
  exact wpAny_pure ⟨_, rfl, "zip", _, hT, F.slot_zip_next.lookup, h⟩
theorem zl_item {i : Nat} {Q : Option Value → Shared → Prop} (D : ZipApart z TI TO i1 i2 l1 l2) (Z : ZS z TI TO i1 i2 l1 l2 xs ys i s.heap) (hi : i < min xs.size ys.size)
    (hQ : ∀ h' x y, xs[i]? = some x → ys[i]? = some y → IsPair h' s.heap.objs.size x y → h'.objs.size = s.heap.objs.size + 1 → ZS z TI TO i1 i2 l1 l2 xs ys (i + 1) h' →
      (∀ c o, c ∉ [z, TO, i1, i2] → s.heap.get? c = some o → h'.get? c = some o) → Q (some (.ref s.heap.objs.size)) { s with heap := h' }) :
    wpAny (model prog w) A (pyNext (.ref z)) Q E s := by
  obtain ⟨hTI, h1, h2, hl1, hl2, hz⟩ := Z
  have hix : i < xs.size := Nat.lt_of_lt_of_le hi (Nat.min_le_left ..)
  have hiy : i < ys.size := Nat.lt_of_lt_of_le hi (Nat.min_le_right ..)
  have ex := Array.getElem?_eq_getElem hix
  have ey := Array.getElem?_eq_getElem hiy
  have lt : ∀ {c o}, s.heap.get? c = some o → s.heap.objs.size ≠ c := fun e => Nat.ne_of_gt (Heap.lt_size e)
  have n1 : s.heap.objs.size ≠ i1 := let ⟨_, e, _⟩ := h1; lt e
  have n2 : s.heap.objs.size ≠ i2 := let ⟨_, e, _⟩ := h2; lt e
  rcases hz with ⟨hz, a, b, hTO⟩ | ⟨T, f, oT, hz, hT, r1, r2, r3, r4⟩
  · refine wpAny_pyNext_zip_item D hz hTI hTO h1 h2 hl1 hl2 ex ey fun h' a1 a2 a3 a4 a5 a6 hk => ?_
    exact hQ h' _ _ ex ey a5 a6 ⟨hk _ _ D.TIz D.TITO D.TIi1 D.TIi2 hTI, a3, a4, hl1.at fun o e => hk _ o D.l1z D.l1TO D.l1i1 D.l1i2 e, hl2.at fun o e => hk _ o D.l2z D.l2TO D.l2i1 D.l2i2 e,
      .inr ⟨s.heap.objs.size, false, _, a1, a5, lt hz, n1, n2, rfl⟩⟩ fun c o hc e => by
        simp only [List.mem_cons, List.not_mem_nil, or_false, not_or] at hc
        exact hk c o hc.1 hc.2.1 hc.2.2.1 hc.2.2.2 e
  · refine wpAny_pyNext_zip_item_held D hz hT hTI h1 h2 hl1 hl2 ex ey fun h' a1 a3 a4 a5 a6 hk => ?_
    exact hQ h' _ _ ex ey a5 a6 ⟨hk _ _ D.TIz D.TIi1 D.TIi2 hTI, a3, a4, hl1.at fun o e => hk _ o D.l1z D.l1i1 D.l1i2 e, hl2.at fun o e => hk _ o D.l2z D.l2i1 D.l2i2 e,
      .inr ⟨T, true, oT, a1, hk _ _ r1 r2 r3 hT, r1, r2, r3, r4⟩⟩ fun c o hc e => by
        simp only [List.mem_cons, List.not_mem_nil, or_false, not_or] at hc
        exact hk c o hc.1 hc.2.2.1 hc.2.2.2 e
theorem zl_done {Q : Option Value → Shared → Prop} (hA : A.handled = none) (D : ZipApart z TI TO i1 i2 l1 l2) (Z : ZS z TI TO i1 i2 l1 l2 xs ys (min xs.size ys.size) s.heap)
    (hQ : ∀ h', (∀ c o, c ∉ [z, TO, i1, i2] → s.heap.get? c = some o → h'.get? c = some o) → Q none { s with heap := h' }) : wpAny (model prog w) A (pyNext (.ref z)) Q E s := by
  obtain ⟨hTI, h1, h2, hl1, hl2, hz⟩ := Z
  have hend : xs[min xs.size ys.size]? = none ∨ ys[min xs.size ys.size]? = none := by
    rcases Nat.le_total xs.size ys.size with h | h
    · exact .inl (Array.getElem?_eq_none (by rw [Nat.min_eq_left h]; exact Nat.le_refl _))
    · exact .inr (Array.getElem?_eq_none (by rw [Nat.min_eq_right h]; exact Nat.le_refl _))
  rcases hz with ⟨hz, a, b, hTO⟩ | ⟨T, f, oT, hz, hT, r1, r2, r3, r4⟩
  · exact wpAny_pyNext_zip_end hA D hz hTI hTO h1 h2 hl1 hl2 hend fun h' hk => hQ h' fun c o hc e => by
      simp only [List.mem_cons, List.not_mem_nil, or_false, not_or] at hc
      exact hk c o hc.1 hc.2.1 hc.2.2.1 hc.2.2.2 e
  · exact wpAny_pyNext_zip_end_held hA D hz hT hTI h1 h2 hl1 hl2 hend fun h' hk => hQ h' fun c o hc e => by
      simp only [List.mem_cons, List.not_mem_nil, or_false, not_or] at hc
      exact hk c o hc.1 hc.2.2.1 hc.2.2.2 e
theorem zl_loop (hA : A.in1.handled = none) (D : ZipApart z TI TO i1 i2 l1 l2) (hn : min xs.size ys.size ≤ sizeLine) (res : Value)
    (s1 : S ≠ z) (s2 : S ≠ TI) (s3 : S ≠ TO) (s4 : S ≠ i1) (s5 : S ≠ i2) (s6 : S ≠ l1) (s7 : S ≠ l2)
    (hB : ∀ b ∈ [S, z, TO, i1, i2], b < B') :
    ∀ (k i : Nat) (s : Shared) (acc : Array Value) (Ts : List Addr) (c : Nat), min xs.size ys.size - i = k → i ≤ min xs.size ys.size → ZS z TI TO i1 i2 l1 l2 xs ys i s.heap → s.heap.get? S = some (lstO acc c) → acc = (Ts.map Value.ref).toArray → Ts.length = i → ZT xs ys B' Ts s.heap → B' ≤ s.heap.objs.size →
    (∀ h' Ts' c', (∀ b o, b ∉ [S, z, TO, i1, i2] → s.heap.get? b = some o → h'.get? b = some o) → h'.get? S = some (lstO (Ts'.map Value.ref).toArray c') → Ts'.length = min xs.size ys.size → ZT xs ys B' Ts' h' → R (.ok (.ret res)) { s with heap := h' }) →
    codeAny (model prog w) A (.builtin "list.extend.loop" ⟨[.ref S, .ref z, res], []⟩) R s := by
  have hSw : S ∉ [z, TO, i1, i2] := by simp [s1, s3, s4, s5]
  have ztk : ∀ {Ts : List Addr} {h h' : Heap}, ZT xs ys B' Ts h → (∀ b o, b ∉ [S, z, TO, i1, i2] → h.get? b = some o → h'.get? b = some o) → ZT xs ys B' Ts h' := fun {Ts h h'} Z hk => by
    have q : ∀ (j : Nat) (T : Addr), Ts[j]? = some T → ∃ x y, xs[j]? = some x ∧ ys[j]? = some y ∧ IsPair h' T x y := fun j T e => by
      obtain ⟨x, y, e1, e2, e3⟩ := Z.at_ j T e
      have hT := List.mem_of_getElem? e
      exact ⟨x, y, e1, e2, hk _ _ (fun hm => Nat.lt_irrefl _ (Nat.lt_of_lt_of_le (hB T hm) (Z.lo T hT))) e3⟩
    refine ⟨q, Z.lo, fun T hT => ?_, Z.nd⟩
    obtain ⟨j, e⟩ := List.getElem?_of_mem hT
    obtain ⟨x, y, _, _, e3⟩ := q j T e
    exact Heap.lt_size e3
  intro k
  induction k with
  | zero =>
    intro i s acc Ts c hk hi hst hS hacc hlen hT hsz hR
    have hin : i = min xs.size ys.size := by omega
    subst hin
    subst hacc
    refine codeAny_builtin F.entry_extend_loop ?_
    rw [Around.under_plainId F.plain_extend_loop _]
    show wpAny _ A.in1 (pyNext (.ref z) >>= _) _ _ s
    refine wpAny_bind (zl_done hA D hst fun h' hk => ?_)
    refine wpAny_pure (hR h' Ts c (fun b o hb e => hk b o (fun hm => hb (List.mem_cons_of_mem _ hm)) e) (hk _ _ hSw hS) hlen (ztk hT fun b o hb e => hk b o (fun hm => hb (List.mem_cons_of_mem _ hm)) e))
  | succ k ih =>
    intro i s acc Ts c hk hi hst hS hacc hlen hT hsz hR
    have hlt : i < min xs.size ys.size := by omega
    have hal : acc.size = i := by rw [hacc]; simp [hlen]
    refine codeAny_builtin F.entry_extend_loop ?_
    rw [Around.under_plainId F.plain_extend_loop _]
    show wpAny _ A.in1 (pyNext (.ref z) >>= _) _ _ s
    refine wpAny_bind (zl_item D hst hlt fun h' x y ex ey hP hsz' Z' hk' => ?_)
    have hS' : h'.get? S = some (lstO acc c) := hk' _ _ hSw hS
    show wpAny _ A.in1 (updateSeq S (·.push (.ref s.heap.objs.size)) >>= _) _ _ _
    refine wpAny_bind ?_
    have up : ∀ b o, b ≠ S → h'.get? b = some o → (h'.update S (Obj.mapSeq (·.push (.ref s.heap.objs.size)))).get? b = some o := fun b o hb e => (Heap.get?_update_other _ _ (Ne.symm hb)).trans e
    have nS : s.heap.objs.size ≠ S := Nat.ne_of_gt (Heap.lt_size hS)
    have all : ∀ b o, b ∉ [S, z, TO, i1, i2] → s.heap.get? b = some o → (h'.update S (Obj.mapSeq (·.push (.ref s.heap.objs.size)))).get? b = some o := fun b o hb e =>
      up b o (fun q => hb (q ▸ List.mem_cons_self)) (hk' b o (fun hm => hb (List.mem_cons_of_mem _ hm)) e)
    have zsz : (h'.update S (Obj.mapSeq (·.push (.ref s.heap.objs.size)))).objs.size = s.heap.objs.size + 1 := by rw [(Heap.SameBut.update ..).1, hsz']
    have hT' := ztk hT all
    refine wpAny_updateSeq (s := { s with heap := h' }) hS' rfl (wpAny_pure ⟨plainId_quiet F.plain_extend_loop _, ih (i + 1) { s with heap := h'.update S (Obj.mapSeq (·.push (.ref s.heap.objs.size))) } (acc.push (.ref s.heap.objs.size)) (Ts ++ [s.heap.objs.size]) _ (by omega) hlt (Z'.over up ⟨_, _, hS'⟩ s1 s2 s3 s4 s5 s6 s7) (Heap.get?_update_self _ hS' rfl) (by rw [hacc]; simp) (by simp [hlen]) ⟨fun j T e => ?_, fun T hm => ?_, fun T hm => ?_, ?_⟩ (by rw [zsz]; omega) fun h'' Ts'' c'' q1 q2 q3 q4 => ?_⟩)
      (by rw [hal]; omega) (by show (acc.push _).size ≤ sizeLine + 1; rw [Array.size_push, hal]; omega)
    · by_cases hj : j < Ts.length
      · rw [List.getElem?_append_left hj] at e
        exact hT'.at_ j T e
      · rw [List.getElem?_append_right (by omega)] at e
        have ej : j = Ts.length := by
          have := (List.getElem?_eq_some_iff.mp e).1
          simp at this
          omega
        subst ej
        simp at e
        subst e
        exact ⟨x, y, by rw [hlen]; exact ex, by rw [hlen]; exact ey, up _ _ nS hP⟩
    · rcases List.mem_append.mp hm with h | h
      · exact hT.lo T h
      · rw [List.mem_singleton.mp h]; exact hsz
    · rcases List.mem_append.mp hm with h | h
      · exact hT'.hi T h
      · rw [List.mem_singleton.mp h, zsz]; exact Nat.lt_succ_self _
    · refine List.nodup_append.mpr ⟨hT.nd, by simp, fun a ha b hb q => ?_⟩
      rw [List.mem_singleton.mp hb] at q
      exact absurd (hT.hi a ha) (by rw [q]; exact Nat.lt_irrefl _)
    · exact hR h'' Ts'' c'' (fun b o hb e => q1 b o hb (all b o hb e)) q2 q3 q4
/-- list(z), z a new zip over two lists -/
theorem call_list_zip {Q : Value → Shared → Prop} (hA : A.handled = none) (D : ZipApart z TI TO i1 i2 l1 l2) (hn : min xs.size ys.size ≤ sizeLine) (Z : ZS z TI TO i1 i2 l1 l2 xs ys 0 s.heap)
    (hlt : ∀ b ∈ [z, TI, TO, i1, i2, l1, l2], b < s.heap.objs.size)
    (hQ : ∀ h' Ts c, (∀ b o, b ∉ [z, TO, i1, i2] → s.heap.get? b = some o → h'.get? b = some o) → h'.get? s.heap.objs.size = some (lstO (Ts.map Value.ref).toArray c) → Ts.length = min xs.size ys.size → ZT xs ys (s.heap.objs.size + 1) Ts h' → Q (.ref s.heap.objs.size) { s with heap := h' }) :
    wpAny (model prog w) A (call (.type "list") [.ref z]) Q E s := by
  have nS : ∀ b ∈ [z, TI, TO, i1, i2, l1, l2], s.heap.objs.size ≠ b := fun b hb => Nat.ne_of_gt (hlt b hb)
  have s1 := nS z (by simp)
  have s2 := nS TI (by simp)
  have s3 := nS TO (by simp)
  have s4 := nS i1 (by simp)
  have s5 := nS i2 (by simp)
  have s6 := nS l1 (by simp)
  have s7 := nS l2 (by simp)
  have hSw : s.heap.objs.size ∉ [z, TO, i1, i2] := by simp [s1, s3, s4, s5]
  refine callType_codes (Q₁ := fun obj s₁ => obj = .ref s.heap.objs.size ∧ s₁ = { s with heap := s.heap.push { cls := .type "list", data := .seq #[] } }) F.called_list (F.typeCall_list_1 _) F.entry_list_init
    (code_list_new _ ⟨rfl, rfl⟩) fun obj s₁ h₁ => ?_
  obtain ⟨rfl, rfl⟩ := h₁
  have hS : (s.heap.push { cls := .type "list", data := .seq #[] }).get? s.heap.objs.size = some (lstO #[] 0) := Heap.get?_push_size _ rfl
  refine ⟨⟨_, hS, rfl⟩, F.args_list_init_2 _ _, ?_⟩
  have Z1 : ZS z TI TO i1 i2 l1 l2 xs ys 0 (s.heap.push { cls := .type "list", data := .seq #[] }) := Z.keep fun b o e => Heap.get?_push_of_some _ e
  have hSz : (s.heap.push { cls := .type "list", data := .seq #[] }).objs.size = s.heap.objs.size + 1 := Heap.size_push ..
  generalize hh1 : s.heap.push { cls := .type "list", data := .seq #[] } = h1 at hS Z1 hSz
  have kp1 : ∀ b o, s.heap.get? b = some o → h1.get? b = some o := fun b o e => by rw [← hh1]; exact Heap.get?_push_of_some _ e
  generalize hSS : s.heap.objs.size = S at *
  show wpAny _ A.in1.in1 (do let old ← Builtin.List.listItems (.ref S); Builtin.List.listUpdate (.ref S) (fun _ => #[]); letGo old.toList.reverse; Builtin.List.listExtendWith (.ref S) (.ref z) .none) _ _ ({ s with heap := h1 } : Shared)
  refine wpAny_bind ?_
  unfold Builtin.List.listItems
  refine wpAny_bind (wpAny_seqItems (s := { s with heap := h1 }) hS rfl (wpAny_pure ?_))
  show wpAny _ A.in1.in1 (updateSeq S (fun _ => #[]) >>= fun _ => letGo (#[] : Array Value).toList.reverse >>= fun _ => Builtin.List.listExtendWith (.ref S) (.ref z) .none) _ _ ({ s with heap := h1 } : Shared)
  refine wpAny_bind (wpAny_updateSeq (s := { s with heap := h1 }) hS rfl ?_)
  have hS2 := Heap.get?_update_self (Obj.mapSeq (fun _ => (#[] : Array Value))) hS rfl
  have k2 : ∀ b o, b ≠ S → h1.get? b = some o → (h1.update S (Obj.mapSeq (fun _ => (#[] : Array Value)))).get? b = some o := fun b o hb e => (Heap.get?_update_other _ _ (Ne.symm hb)).trans e
  have Z2 := Z1.over k2 ⟨_, _, hS⟩ s1 s2 s3 s4 s5 s6 s7
  have z2 : (h1.update S (Obj.mapSeq (fun _ => (#[] : Array Value)))).objs.size = S + 1 := by rw [(Heap.SameBut.update ..).1, hSz]
  generalize h1.update S (Obj.mapSeq (fun _ => (#[] : Array Value))) = h2 at hS2 k2 Z2 z2
  refine wpAny_bind (wpAny_letGo ?_)
  unfold Builtin.List.listExtendWith
  have hT2 : ({ s with heap := h2 } : Shared).TypeIs (.ref z) "zip" := by
    rcases Z2.pz with ⟨q, _⟩ | ⟨T, f, oT, q, _⟩
    · exact ⟨_, q, rfl⟩
    · exact ⟨_, q, rfl⟩
  refine wpAny_bind (wpAny_typeOf hT2 ?_)
  have e1 : Builtin.List.listSameRef (.ref S) (.ref z) = false := by simp [Builtin.List.listSameRef, s1]
  have e2 : (Value.type "zip" == Value.type "list") = false := by decide
  have e3 : (Value.type "zip" == Value.type "tuple") = false := by decide
  simp only [e1, e2, e3, Bool.or_false, Bool.false_eq_true, if_false]
  refine wpAny_bind (zl_self Z2 ?_)
  refine wpAny_bind (wpAny_holding ?_)
  unfold Builtin.List.listLengthHint
  refine wpAny_bind (wpAny_specialOf hT2 zip_no_len ?_)
  show wpAny _ A.in1.in1 (specialOf (Value.ref z) (Str.ofString "__length_hint__") >>= _) _ _ _
  refine wpAny_bind (wpAny_specialOf hT2 zip_no_hint ?_)
  refine wpAny_pure ?_
  show wpAny _ A.in1.in1 (rule "list.extend.makes-room" >>= fun _ => Builtin.List.listTouch (.ref S) >>= fun _ =>
    again (.builtin "list.extend.loop" ⟨[.ref S, .ref z, .none], []⟩)) _ _ _
  refine wpAny_bind (wpAny_rule ?_)
  refine wpAny_bind ?_
  show wpAny _ A.in1.in1 (updateSeq S (·.push .none) >>= fun _ => updateSeq S (·.pop)) _ _ _
  refine wpAny_bind (wpAny_updateSeq (s := { s with heap := h2 }) hS2 rfl ?_)
  have hS3 := Heap.get?_update_self (Obj.mapSeq (·.push Value.none)) hS2 rfl
  refine wpAny_updateSeq (hz := by seq_fits) hS3 rfl ?_
  have hS4 := Heap.get?_update_self (Obj.mapSeq (·.pop)) hS3 rfl
  have k4 : ∀ b o, b ≠ S → h2.get? b = some o → ((h2.update S (Obj.mapSeq (·.push Value.none))).update S (Obj.mapSeq (·.pop))).get? b = some o :=
    fun b o hb e => (Heap.get?_update_other _ _ (Ne.symm hb)).trans ((Heap.get?_update_other _ _ (Ne.symm hb)).trans e)
  have Z4 := Z2.over k4 ⟨_, _, hS2⟩ s1 s2 s3 s4 s5 s6 s7
  have z4 : ((h2.update S (Obj.mapSeq (·.push Value.none))).update S (Obj.mapSeq (·.pop))).objs.size = S + 1 := by rw [(Heap.SameBut.update ..).1, (Heap.SameBut.update ..).1, z2]
  refine wpAny_pure ⟨plainId_quiet F.plain_extend_loop _, zl_loop (B' := S + 1) (A := A.in1) hA D hn .none s1 s2 s3 s4 s5 s6 s7 (fun b hb => ?_) _ 0 _ #[] [] _ rfl (Nat.zero_le _) Z4 hS4 rfl rfl ⟨fun j T e => by simp at e, fun T hm => by simp at hm, fun T hm => by simp at hm, List.nodup_nil⟩ (Nat.le_of_eq z4.symm) fun h' Ts c q1 q2 q3 q4 => ?_⟩
  · rcases List.mem_cons.mp hb with e | hb
    · rw [e]; exact Nat.lt_succ_self _
    · refine Nat.lt_succ_of_lt (hlt b ?_)
      simp only [List.mem_cons, List.not_mem_nil, or_false] at hb ⊢
      rcases hb with e | e | e | e <;> simp [e]
  · refine ⟨rfl, hQ h' Ts c (fun b o hb e => ?_) q2 q3 q4⟩
    have nb : b ≠ S := by
      intro q
      have := Heap.lt_size e
      rw [hSS, q] at this
      exact Nat.lt_irrefl _ this
    exact q1 b o (fun hm => by
      rcases List.mem_cons.mp hm with q | q
      · exact nb q
      · exact hb q) (k4 b o nb (k2 b o nb (kp1 b o e)))
end
end Lc
namespace Lc
open PySem L2 Res PySem.Spec PyProof.Rows
theorem nlt7 {N a b c : Nat} (ha : a < N) (hb : b < N) (h : c = N + 4 ∨ c = N + 2 ∨ c = N + 3 ∨ c = N ∨ c = N + 1 ∨ c = a ∨ c = b) : c < N + 5 := by omega
theorem nno4 {N c : Nat} (q : c < N) (h : c = N + 4 ∨ c = N + 3 ∨ c = N ∨ c = N + 1) : False := by omega
theorem nge {N c : Nat} (q : N + 6 ≤ c) : N ≤ c := by omega
theorem nne {N : Nat} (q : N + 6 ≤ N + 5) : False := by omega
def updM (H : Hp) (ps : List (Addr × HO)) : Hp := ps.foldl (fun H p => upd H p.1 p.2) H
theorem updM_ne {ps : List (Addr × HO)} : ∀ {H : Hp} {b : Addr}, b ∉ ps.map (·.1) → updM H ps b = H b := by
  induction ps with
  | nil => intro H b _; rfl
  | cons p ps ih =>
    intro H b hb
    simp only [List.map_cons, List.mem_cons, not_or] at hb
    exact (ih (H := upd H p.1 p.2) hb.2).trans (upd_ne hb.1)
theorem unM {fs ex : List Addr} {H : Hp} {h h' : Heap} {ps : List (Addr × HO)} (k : ∀ b u, h.get? b = some u → h'.get? b = some u) (hp : ∀ p ∈ ps, h.get? p.1 = none ∧ H p.1 = none) : Un fs ex H (updM H ps) h h' := by
  have n1 : ∀ b u, h.get? b = some u → b ∉ ps.map (·.1) := fun b u e hm => by
    obtain ⟨p, hp', rfl⟩ := List.mem_map.mp hm
    rw [(hp p hp').1] at e
    cases e
  have n2 : ∀ b u, H b = some u → b ∉ ps.map (·.1) := fun b u e hm => by
    obtain ⟨p, hp', rfl⟩ := List.mem_map.mp hm
    rw [(hp p hp').2] at e
    cases e
  exact ⟨fun b u q _ _ _ => k b u q, fun b u q _ _ _ => ⟨u.slots, k b u q⟩, fun b u q n _ => by rw [updM_ne (n1 b u q)]; exact n, fun b u q _ => ⟨u, k b u q⟩, fun b xs q => by rw [updM_ne (n2 b _ q)]; exact q,
    fun b u xs q => by rw [updM_ne (n2 b _ q)]; exact q, fun b ps' q => ⟨#[], by rw [updM_ne (n2 b _ q), q]; simp⟩⟩
theorem hokM {P : Program} {w : World} {h : Heap} {ps : List (Addr × HO)} : ∀ {H : Hp}, HOk P w H h → (∀ p ∈ ps, H p.1 = none) → (ps.map (·.1)).Nodup → (∀ p ∈ ps, ∀ H', ObjOk P w H' h p.1 p.2) → HOk P w (updM H ps) h := by
  induction ps with
  | nil => intro H x _ _ _; exact x
  | cons p ps ih =>
    intro H x hn nd ok
    simp only [List.map_cons, List.nodup_cons] at nd
    refine ih (H := upd H p.1 p.2) (x.laidN (fun _ _ q => q) (hn p List.mem_cons_self) (ok p List.mem_cons_self _)) (fun q hq => ?_) nd.2 fun q hq => ok q (List.mem_cons_of_mem _ hq)
    rw [upd_ne (fun e => nd.1 (by rw [← e]; exact List.mem_map_of_mem hq))]
    exact hn q (List.mem_cons_of_mem _ hq)
theorem vals_at {ys : List V} {us : List Value} (r : Vals ys us) : ∀ {j : Nat} {u : Value}, us[j]? = some u → ∃ y, ys[j]? = some y ∧ RelV y u := by
  induction r with
  | nil => intro j u e; simp at e
  | cons a r ih =>
    intro j u e
    cases j with
    | zero =>
      simp at e
      subst e
      exact ⟨_, rfl, a⟩
    | succ j => exact ih (by simpa using e)
theorem vals_refs : ∀ Ts : List Addr, Vals (Ts.map V.ref) (Ts.map Value.ref)
  | [] => .nil
  | _ :: Ts => .cons rfl (vals_refs Ts)
def mkT (Ts : List Addr) (ys zs : List V) : List (Addr × HO) := (Ts.zip (ys.zip zs)).map fun p => (p.1, .tup [p.2.1, p.2.2])
theorem mkT_fst {Ts : List Addr} {ys zs : List V} (h : Ts.length = min ys.length zs.length) : (mkT Ts ys zs).map (·.1) = Ts := by
  unfold mkT
  rw [List.map_map]
  show (Ts.zip (ys.zip zs)).map Prod.fst = Ts
  exact List.map_fst_zip (by rw [List.length_zip]; omega)
/-- list(zip(xs, ys)) -/
def rLZ (K : PySem.W.Frag) : List V → Hp → VK → Prop := fun xs H Q => ∃ (p q : Addr) (ys zs : List V), xs = [.ref p, .ref q] ∧ SqL K H p ys ∧ SqL K H q zs ∧
  ∀ (Ts : List Addr) (l : Addr), Ts.length = min ys.length zs.length → (∀ T ∈ Ts, H T = none) → Ts.Nodup → H l = none → l ∉ Ts → Q (.ref l) (upd (updM H (mkT Ts ys zs)) l (.lst (Ts.map V.ref)))
theorem pe_listZip {X : Cx} {x y : Str} {p p2 pos pos2 : Pos} {e1 e2 : Expr} {t : TA} (K : PySem.W.Frag) (hK : X.K = K) (hc : X.calm = true) (hg : Gl X x) (hm : X.mg x = none) (hv : bootBuiltins x = some (.type "list")) (hg2 : Gl X y) (hm2 : X.mg y = none) (hv2 : bootBuiltins y = some (.type "zip")) (ha : PA X [e1, e2] t)
    (hn : x ≠ "__name__" := by decide) (hdb : (x == ("__debug__" : Str)) = false := by decide) (hn2 : y ≠ "__name__" := by decide) (hdb2 : (y == ("__debug__" : Str)) = false := by decide)
    (he : starEach [e1, e2] X.env = (false, eval e1 X.env) :: starEach [e2] X.env := by rfl) (hpl : (backTo pos2 (starEach [e2] X.env)).any (·.1) = false := by rfl) :
    PE X (.Call (.Name x p) [.Call (.Name y p2) [e1, e2] [] pos2] [] pos) (tCB (rLZ K) t) := by
  subst hK
  refine ⟨fun pins s σ H Q I h => ?_⟩
  refine wpAny_Call_Name_kw (ld_blt I hg hm hv ?_ hn hdb)
  refine PyProof.Rows.callWith_type1 ?_ rfl rfl
  show wpAny _ _ (spliced [(false, _)]) _ _ s
  refine Calls.spliced_cons ?_
  show wpAny _ _ (eval (.Call (.Name y p2) [e1, e2] [] pos2) X.env) _ _ s
  refine wpAny_Call_Name_kw (ld_blt I hg2 hm2 hv2 ?_ hn2 hdb2)
  refine PyProof.Rows.callWith_type1 (thn (ha.run pos2 pins s σ H _ I h) fun us s1 ⟨vs, H1, I1, r1, q1⟩ => ?_) he hpl
  obtain ⟨a, b, ys, zs, rfl, ha1, hb1, q⟩ := q1
  cases r1 with
  | cons rx r1 =>
  cases r1 with
  | cons ry r1 =>
  cases r1
  cases rx
  cases ry
  obtain ⟨its1, v1, pl1, z1⟩ := I1.list ha1
  obtain ⟨its2, v2, pl2, z2⟩ := I1.list hb1
  have L1 := pl1.isList
  have L2 := pl2.isList
  have n1 := v1.length
  have n2 := v2.length
  have t1 : a < s1.heap.objs.size := let ⟨_, e, _⟩ := L1; Heap.lt_size e
  have t2 : b < s1.heap.objs.size := let ⟨_, e, _⟩ := L2; Heap.lt_size e
  refine call_zip_2 L1 L2 fun h' b1 b2 b3 b4 b5 b6 kp => ?_
  show wpAny _ _ (spliced []) _ _ _
  refine Calls.spliced_nil ?_
  show wpAny _ _ (call (.type "list") [.ref (s1.heap.objs.size + 4)]) _ _ ({ s1 with heap := h' } : Shared)
  have e6 : h'.objs.size = s1.heap.objs.size + 5 := b6
  refine call_list_zip (s := { s1 with heap := h' }) (I1.ok.hd hc) (zipApart_new t1 t2) (xs := its1.toArray) (ys := its2.toArray) (by simp only [List.size_toArray]; omega) ⟨b2, b4, b5, L1.at fun o e => kp _ o e, L2.at fun o e => kp _ o e, .inl ⟨b1, _, _, b3⟩⟩ (fun c hc' => ?_) fun h2 Ts c k2 eL hlen zt => ?_
  · show c < h'.objs.size
    rw [e6]
    simp only [List.mem_cons, List.not_mem_nil, or_false] at hc'
    exact nlt7 t1 t2 hc'
  · have eL : h2.get? h'.objs.size = some (lstO (Ts.map Value.ref).toArray c) := eL
    have zt : ZT its1.toArray its2.toArray (h'.objs.size + 1) Ts h2 := zt
    rw [e6] at eL zt
    have hl : Ts.length = min ys.length zs.length := hlen.trans (show min its1.length its2.length = _ by rw [n1, n2])
    have k3 : ∀ c o, s1.heap.get? c = some o → h2.get? c = some o := fun c o e => k2 c o (fun hm => by
      have q := Heap.lt_size e
      simp only [List.mem_cons, List.not_mem_nil, or_false] at hm
      exact nno4 q hm) (kp c o e)
    have lo : ∀ T ∈ Ts, s1.heap.objs.size + 6 ≤ T := fun T hT => zt.lo T hT
    have frh : ∀ T, s1.heap.objs.size ≤ T → s1.heap.get? T = none := fun T hT => by
      cases e : s1.heap.get? T with
      | none => rfl
      | some o => exact absurd (Heap.lt_size e) (Nat.not_lt.mpr hT)
    have fr : ∀ T, s1.heap.objs.size ≤ T → H1 T = none := fun T hT => I1.hok.fresh hT
    have lT : s1.heap.objs.size + 5 ∉ Ts := fun hm => nne (lo _ hm)
    have fst : (mkT Ts ys zs ++ [((s1.heap.objs.size + 5 : Addr), HO.lst (Ts.map V.ref))]).map (·.1) = Ts ++ [s1.heap.objs.size + 5] := by rw [List.map_append, mkT_fst hl]; rfl
    have up : updM H1 (mkT Ts ys zs ++ [(s1.heap.objs.size + 5, HO.lst (Ts.map V.ref))]) = upd (updM H1 (mkT Ts ys zs)) (s1.heap.objs.size + 5) (HO.lst (Ts.map V.ref)) := by
      unfold updM
      rw [List.foldl_append]
      rfl
    have ge : ∀ p ∈ mkT Ts ys zs ++ [(s1.heap.objs.size + 5, HO.lst (Ts.map V.ref))], s1.heap.objs.size ≤ p.1 := fun p hp => by
      have : p.1 ∈ Ts ++ [s1.heap.objs.size + 5] := by rw [← fst]; exact List.mem_map_of_mem hp
      rcases List.mem_append.mp this with h | h
      · exact nge (lo _ h)
      · rw [List.mem_singleton.mp h]
        exact Nat.le_add_right ..
    have J : Inv X pins σ (updM H1 (mkT Ts ys zs ++ [(s1.heap.objs.size + 5, HO.lst (Ts.map V.ref))])) { s1 with heap := h2 } := I1.un (t' := s1.toks) (unM k3 fun p hp => ⟨frh _ (ge p hp), fr _ (ge p hp)⟩) (hokM (I1.hok.kept k3) (fun p hp => fr _ (ge p hp)) (by
        rw [fst]
        refine List.nodup_append.mpr ⟨zt.nd, by simp, fun c hc' d hd q => ?_⟩
        rw [List.mem_singleton.mp hd] at q
        exact lT (q ▸ hc')) fun p hp H' => ?_)
    · refine ⟨.ref (s1.heap.objs.size + 5), _, J, ?_, up ▸ q Ts _ hl (fun T hT => fr T (nge (lo T hT))) zt.nd (fr _ (Nat.le_add_right ..)) lT⟩
      show Value.ref h'.objs.size = _
      rw [e6]
    · rcases List.mem_append.mp hp with hp | hp
      · obtain ⟨⟨T, y1, y2⟩, hm, rfl⟩ := List.mem_map.mp hp
        obtain ⟨j, ej⟩ := List.getElem?_of_mem hm
        obtain ⟨g1, g2⟩ := List.getElem?_zip_eq_some.mp ej
        obtain ⟨g2, g3⟩ := List.getElem?_zip_eq_some.mp g2
        obtain ⟨u1, u2, w1, w2, w3⟩ := zt.at_ j T g1
        obtain ⟨y1', m1, m2⟩ := vals_at v1 (by simpa using w1)
        obtain ⟨y2', m3, m4⟩ := vals_at v2 (by simpa using w2)
        rw [g2] at m1
        rw [g3] at m3
        cases m1
        cases m3
        exact ⟨by show (2 : Nat) ≤ sizeLine; decide, [u1, u2], .cons m2 (.cons m4 .nil), ⟨_, w3, rfl, _, rfl⟩⟩
      · rw [List.mem_singleton.mp hp]
        refine ⟨by rw [List.length_map, hl]; omega, Ts.map Value.ref, c, ?_, eL⟩
        exact vals_refs Ts
def tupD (ds es : List PyData) : List PyData := (ds.zip es).map fun p => .tuple [p.1, p.2]
theorem tupD_dat {α β : Type} [Dat α] [Dat β] : ∀ (xs : List α) (ys : List β), tupD (xs.map dat) (ys.map dat) = (xs.zip ys).map dat
  | [], _ => by simp [tupD]
  | _ :: _, [] => by simp [tupD]
  | x :: xs, y :: ys => by
    have := tupD_dat xs ys
    unfold tupD at this ⊢
    simp only [List.map_cons, List.zip_cons_cons]
    rw [this]
    rfl
section
variable {E : Ec} {Γ : List Cell} {cx cy : RC} {H : Hp} {R : Asr}
theorem allocZ {σ : L2.St} : ∀ (Ts : List Addr) (ys zs : List V) (ds es : List PyData) (H : Hp) (R : Asr), Top (sep (base E σ Γ) R) H → (∀ F H o, Same F H → (sep (base E σ Γ) R).P F H o → RpAll F ys ds ∧ RpAll F zs es) → Ts.length = min ys.length zs.length → (∀ T ∈ Ts, H T = none) → Ts.Nodup →
    Top (sep (base E σ Γ) (sep (vAs (tupD ds es) (Ts.map V.ref)) R)) (updM H (mkT Ts ys zs))
  | [], ys, zs, ds, es, H, R, t, r, hl, _, _ => by
    obtain ⟨F, o, s, k, p⟩ := t
    obtain ⟨r1, r2⟩ := r F H o s p
    have n1 := r1.len
    have n2 := r2.len
    have e0 : tupD ds es = [] := by
      apply List.eq_nil_of_length_eq_zero
      simp only [List.length_nil] at hl
      unfold tupD
      rw [List.length_map, List.length_zip]
      omega
    have hm : updM H (mkT [] ys zs) = H := rfl
    rw [hm, e0]
    exact addAs s k p .nil
  | T :: Ts, ys, zs, ds, es, H, R, t, r, hl, hT, nd => by
    have hr := t
    obtain ⟨F, o, s, k, p⟩ := hr
    obtain ⟨r1, r2⟩ := r F H o s p
    cases r1 with
    | nil => simp at hl
    | cons a1 r1 =>
    cases r2 with
    | nil => simp at hl
    | cons a2 r2 =>
    rename_i y ys d ds z zs e es
    have t1 := newT (vs := [y, z]) (ds := [d, e]) t (hT T List.mem_cons_self) fun F' o' s' p' => by
      obtain ⟨b1, b2⟩ := r F' H o' s' p'
      cases b1 with
      | cons b1 _ =>
      cases b2 with
      | cons b2 _ => exact .cons b1 (.cons b2 .nil)
    have t2 := allocZ Ts ys zs ds es _ _ t1 (fun F' H' o' s' p' => by
      obtain ⟨b1, b2⟩ := r F' H' o' s' ((Ent.sepR Ent.right) F' H' o' s' p')
      cases b1 with
      | cons _ b1 =>
      cases b2 with
      | cons _ b2 => exact ⟨b1, b2⟩) (by simp only [List.length_cons] at hl; omega) (fun T' h' => by
        have nd' := (List.nodup_cons.mp nd).1
        rw [upd_ne (fun q => nd' (by rw [← q]; exact h'))]
        exact hT T' (List.mem_cons_of_mem _ h')) (List.nodup_cons.mp nd).2
    obtain ⟨F', o', s', k', p'⟩ := t2
    have z1 := as_of F' o' s' p'
    have z2 : Rp F' (.ref T) (.tuple [d, e]) := by
      obtain ⟨_, _, _, _, _, _, ⟨_, _, _, _, _, _, ⟨_, _, _, _, _, z, _⟩⟩⟩ := p'
      exact z
    exact addAs s' k' ((Ent.sepR (Ent.right.trans Ent.right)) F' _ o' s' p') (.cons z2 z1)
theorem rn_lz {α β : Type} [Dat α] [Dat β] {xs : List α} {ys : List β} (h1 : PArg E Γ K0 cx (ppS E.K (xs.map dat))) (h2 : PArg E Γ K0 cy (ppS E.K (ys.map dat))) : RnP E (rLZ E.K) [cx, cy] Γ (rO ((xs.zip ys).map dat)) := fun σ H R Q vs t q => by
  obtain ⟨x, y, rfl, t1⟩ := two_args t
  obtain ⟨a, ws, rfl, hs, ln, t2⟩ := readS h1 t1
  obtain ⟨F, o, s, k, p⟩ := t2
  obtain ⟨b, ws2, rfl, hs2, r2⟩ := h2 σ y F H o trivial s (Ent.left F H o s (Ent.assoc' F H o s ((Ent.sepR (Ent.right.trans Ent.right)) F H o s p)))
  have t3 := addAs s k p r2
  refine ⟨a, b, ws, ws2, rfl, hs, hs2, fun Ts l hl hT nd hl0 hn => q _ _ ?_⟩
  have t4 := allocZ Ts ws ws2 (xs.map dat) (ys.map dat) H _ t3 (fun F' H' o' s' p' => ⟨as_of F' o' s' ((Ent.sepR Ent.right) F' H' o' s' p'), as_of F' o' s' p'⟩) hl hT nd
  rw [tupD_dat] at t4
  exact (newL t4 (by rw [updM_ne (by rw [mkT_fst hl]; exact hn)]; exact hl0) as_of).ent (Ent.sepR (Ent.sepR (Ent.right.trans (Ent.right.trans (Ent.right.trans (Ent.right.trans Ent.right))))))
end
end Lc
/-! LcZm: for a, b, c in zip(xs, ys, zs) over three lists -/
namespace Lc
open PySem L2 Res PySem.Spec PyProof.Rows
def Itz3 (K : PySem.W.Frag) (a b c : Addr) : It :=
  ⟨fun i H => ∃ (xs ys zs : List V) (x y z : V), SqL K H a xs ∧ SqL K H b ys ∧ SqL K H c zs ∧ xs[i]? = some x ∧ ys[i]? = some y ∧ zs[i]? = some z,
    fun i H v H' => ∃ T x y z, v = .ref T ∧ H T = none ∧ H' = upd H T (.tup [x, y, z]) ∧ (∀ xs, SqL K H a xs → xs[i]? = some x) ∧ (∀ ys, SqL K H b ys → ys[i]? = some y) ∧ ∀ zs, SqL K H c zs → zs[i]? = some z,
    fun i H => ∃ xs ys zs : List V, SqL K H a xs ∧ SqL K H b ys ∧ SqL K H c zs ∧ i ≤ xs.length ∧ i ≤ ys.length ∧ i ≤ zs.length ∧ (i = xs.length ∨ i = ys.length ∨ i = zs.length)⟩
theorem turn_zip3 {P : Program} {w : World} {K : PySem.W.Frag} {elts : List Expr} {kk : Nat} {tpos : Pos} {a b c z TI TO i1 i2 i3 : Addr} (D : ZipSep3 z TI TO i1 i2 i3 [i1, a] [i2, b] [i3, c]) (na : a ≠ i1) (nb : b ≠ i2) (nc : c ≠ i3) :
    Turn P w K (.Tuple elts kk tpos) (Itz3 K a b c) [z, TI, TO, i1, i2, i3] z (fun i h => IsZip h z TI TO .none ∧ IsTupOf3 h TI (.ref i1) (.ref i2) (.ref i3) ∧ (∃ x y u, IsTupOf3 h TO x y u) ∧ h.IsListIter i1 a i ∧ h.IsListIter i2 b i ∧ h.IsListIter i3 c i) where
  mem := by simp
  obj := fun i h st c hc => by
    obtain ⟨hz, hTI, ⟨x, y, u, hTO⟩, ⟨o1, e1, _, d1⟩, ⟨o2, e2, _, d2⟩, ⟨o3, e3, _, d3⟩⟩ := st
    have e' : c = z ∨ c = TI ∨ c = TO ∨ c = i1 ∨ c = i2 ∨ c = i3 := by simpa using hc
    rcases e' with q | q | q | q | q | q
    · rw [q]; exact ⟨_, hz, fun v q => nomatch q⟩
    · rw [q]; exact ⟨_, hTI, fun v q => nomatch q⟩
    · rw [q]; exact ⟨_, hTO, fun v q => nomatch q⟩
    · rw [q]; exact ⟨o1, e1, fun v q => by rw [d1] at q; cases q⟩
    · rw [q]; exact ⟨o2, e2, fun v q => by rw [d2] at q; cases q⟩
    · rw [q]; exact ⟨o3, e3, fun v q => by rw [d3] at q; cases q⟩
  keep := fun i h h' st k => by
    obtain ⟨hz, hTI, ⟨x, y, u, hTO⟩, h1, h2, h3⟩ := st
    exact ⟨k z (by simp) _ hz, k TI (by simp) _ hTI, ⟨x, y, u, k TO (by simp) _ hTO⟩, h1.at fun o q => k i1 (by simp) o q, h2.at fun o q => k i2 (by simp) o q, h3.at fun o q => k i3 (by simp) o q⟩
  item := by
    intro X hP hw hK hc i pins s σ H E I hf st hg
    subst hP hw hK
    obtain ⟨hz, hTI, ⟨x0, y0, u0, hTO⟩, h1, h2, h3⟩ := st
    obtain ⟨xs, ys, zs, x, y, u, hqx, hqy, hqz, hx, hy, hu⟩ := hg
    obtain ⟨t1, r1, p1, _⟩ := I.list hqx
    obtain ⟨t2, r2, p2, _⟩ := I.list hqy
    obtain ⟨t3, r3, p3, _⟩ := I.list hqz
    obtain ⟨v1, hv1, w1⟩ := r1.get hx
    obtain ⟨v2, hv2, w2⟩ := r2.get hy
    obtain ⟨v3, hv3, w3⟩ := r3.get hu
    have hh : X.A.in1.handled = none := I.ok.hd hc
    have hzl : z < s.heap.objs.size := Heap.lt_size hz
    have b1 : i < t1.toArray.size := (List.getElem?_eq_some_iff.mp hv1).1
    have b2 : i < t2.toArray.size := (List.getElem?_eq_some_iff.mp hv2).1
    have b3 : i < t3.toArray.size := (List.getElem?_eq_some_iff.mp hv3).1
    refine wpAny_pyNext_zipD3_item D (Draws.list (prog := X.prog) (w := X.w) (A := X.A.in1) hh i1 a na t1.toArray) (Draws.list (prog := X.prog) (w := X.w) (A := X.A.in1) hh i2 b nb t2.toArray) (Draws.list (prog := X.prog) (w := X.w) (A := X.A.in1) hh i3 c nc t3.toArray) hz hTI hTO ⟨h1, p1.isList⟩ ⟨h2, p2.isList⟩ ⟨h3, p3.isList⟩ b1 b2 b3 fun x1 x2 x3 h' tk e1 e2 e3 z' TO' h1' h2' h3' hT hsz hk => ?_
    have e1 : v1 = x1 := Option.some.inj ((by simpa using hv1 : t1.toArray[i]? = some v1).symm.trans e1)
    have e2 : v2 = x2 := Option.some.inj ((by simpa using hv2 : t2.toArray[i]? = some v2).symm.trans e2)
    have e3 : v3 = x3 := Option.some.inj ((by simpa using hv3 : t3.toArray[i]? = some v3).symm.trans e3)
    subst e1 e2 e3
    refine ⟨_, rfl, wpAny_letOwnedTupleGo_zip (s := { s with heap := h', toks := tk }) z' fun h'' z'' sb => ?_⟩
    have hT2 : h''.get? s.heap.objs.size = some { cls := .type "tuple", data := .seq #[v1, v2, v3] } := (sb.2 _ (Nat.ne_of_gt hzl)).trans hT
    have new : ObjOk X.prog X.w (upd H s.heap.objs.size (.tup [x, y, u])) h'' s.heap.objs.size (.tup [x, y, u]) :=
      ⟨by show 3 ≤ sizeLine; decide, [v1, v2, v3], .cons w1 (.cons w2 (.cons w3 .nil)), ⟨_, hT2, rfl, _, rfl⟩⟩
    have I1 : Inv X pins σ (upd H s.heap.objs.size (.tup [x, y, u])) { s with heap := h'', toks := tk } :=
      I.turnedNew (t' := tk) (ch := [z, TI, TO, i1, i2, i3]) (fun c o hb q => (sb.2 c (fun q' => hb (by simp [q']))).trans (hk c o (fun q' => hb (by simp [q'])) (fun q' => hb (by simp [q'])) (fun q' => hb (by simp [q'])) (fun q' => hb (by simp [q'])) (fun q' => hb (by simp [q'])) q)) hf (Nat.le_refl _) new
    refine ⟨.ref s.heap.objs.size, _, I1, rfl, ⟨_, x, y, u, rfl, I.hok.fresh (Nat.le_refl _), rfl, fun l hl => by rw [I.list_inj hl hqx]; exact hx, fun l hl => by rw [I.list_inj hl hqy]; exact hy, fun l hl => by rw [I.list_inj hl hqz]; exact hu⟩, ⟨z'', ?_, ⟨v1, v2, v3, ?_⟩, ?_, ?_, ?_⟩, fun c hcm => ?_⟩
    · exact (sb.2 _ D.TIz).trans (hk _ _ D.TIz D.TITO D.TIi1 D.TIi2 D.TIi3 hTI)
    · exact (sb.2 _ D.TOz).trans TO'
    · exact h1'.1.at fun o q => (sb.2 _ D.zi1.symm).trans q
    · exact h2'.1.at fun o q => (sb.2 _ D.zi2.symm).trans q
    · exact h3'.1.at fun o q => (sb.2 _ D.zi3.symm).trans q
    · have hlt : c < s.heap.objs.size := by
        have e' : c = z ∨ c = TI ∨ c = TO ∨ c = i1 ∨ c = i2 ∨ c = i3 := by simpa using hcm
        rcases e' with q | q | q | q | q | q
        · rw [q]; exact hzl
        · rw [q]; exact Heap.lt_size hTI
        · rw [q]; exact Heap.lt_size hTO
        · rw [q]; obtain ⟨_, e1, _⟩ := h1; exact Heap.lt_size e1
        · rw [q]; obtain ⟨_, e2, _⟩ := h2; exact Heap.lt_size e2
        · rw [q]; obtain ⟨_, e3, _⟩ := h3; exact Heap.lt_size e3
      rw [upd_ne (Nat.ne_of_lt hlt)]
      exact (hf c hcm).1
  done := by
    intro X hP hw hK hc i pins s σ H E I hf st hg
    subst hP hw hK
    obtain ⟨hz, hTI, ⟨x0, y0, u0, hTO⟩, h1, h2, h3⟩ := st
    obtain ⟨xs, ys, zs, hqx, hqy, hqz, g1, g2, g3, hend⟩ := hg
    obtain ⟨t1, r1, p1, _⟩ := I.list hqx
    obtain ⟨t2, r2, p2, _⟩ := I.list hqy
    obtain ⟨t3, r3, p3, _⟩ := I.list hqz
    have l1 := r1.length
    have l2 := r2.length
    have l3 := r3.length
    have hh : X.A.in1.handled = none := I.ok.hd hc
    exact wpAny_pyNext_zipD3_end D (Draws.list (prog := X.prog) (w := X.w) (A := X.A.in1) hh i1 a na t1.toArray) (Draws.list (prog := X.prog) (w := X.w) (A := X.A.in1) hh i2 b nb t2.toArray) (Draws.list (prog := X.prog) (w := X.w) (A := X.A.in1) hh i3 c nc t3.toArray) hz hTI hTO ⟨h1, p1.isList⟩ ⟨h2, p2.isList⟩ ⟨h3, p3.isList⟩ (by simp; omega) (by simp; omega) (by simp; omega) (by simp; omega)
      fun h' tk hk => ⟨rfl, I.turnedL (t' := tk) (ch := [z, TI, TO, i1, i2, i3]) (fun c o hb q =>
      hk c o (fun q' => hb (by simp [q'])) (fun q' => hb (by simp [q'])) (fun q' => hb (by simp [q'])) (fun q' => hb (by simp [q'])) (fun q' => hb (by simp [q'])) q) hf⟩
  self := fun A i s Q E st h => wpAny_pyIter_zip st.1 h
def iZip3 (K : PySem.W.Frag) (ta : TA) : L2.TI := fun σ H R => ta σ H fun vs H1 => ∃ a b c xs ys zs, vs = [.ref a, .ref b, .ref c] ∧ SqL K H1 a xs ∧ SqL K H1 b ys ∧ SqL K H1 c zs ∧ R (Itz3 K a b c) H1
theorem nge5 {N c : Nat} (h : c = N + 5 ∨ c = N + 3 ∨ c = N + 4 ∨ c = N ∨ c = N + 1 ∨ c = N + 2) : N ≤ c := by omega
theorem nlt3 {N a : Nat} (h : a < N) : a ≠ N ∧ a ≠ N + 1 ∧ a ≠ N + 2 := by omega
theorem pi_zip3 {X : Cx} {e e2 e3 : Expr} {ta : TA} {p pos tpos : Pos} {elts : List Expr} {kk : Nat} (hg : Gl X "zip") (hm : X.mg "zip" = none) (ha : PA X [e, e2, e3] ta)
    (hs : starEach [e, e2, e3] X.env = (false, eval e X.env) :: starEach [e2, e3] X.env := by rfl) (hpl : (backTo pos (starEach [e2, e3] X.env)).any (·.1) = false := by rfl) :
    PI X (.Tuple elts kk tpos) (.Call (.Name "zip" p) [e, e2, e3] [] pos) (iZip3 X.K ta) := by
  refine ⟨fun pins s σ H R I h => ?_⟩
  refine Call_ (ld_blt I hg hm PyProof.Rows.boot_zip (PyProof.Rows.callWith_type1 (thn (ha.run pos pins s σ H _ I h) fun us s1 ⟨vs, H1, I1, r1, q1⟩ => ?_) hs hpl))
  obtain ⟨a, b, c, xs, ys, zs, ex, hqx, hqy, hqz, q⟩ := q1
  subst ex
  cases r1 with
  | cons r rr =>
  cases rr with
  | cons r' rr =>
  cases rr with
  | cons r'' rr =>
  cases rr
  cases r
  cases r'
  cases r''
  obtain ⟨t1, rv1, p1, _⟩ := I1.list hqx
  obtain ⟨t2, rv2, p2, _⟩ := I1.list hqy
  obtain ⟨t3, rv3, p3, _⟩ := I1.list hqz
  have la : a < s1.heap.objs.size := p1.lt
  have lb : b < s1.heap.objs.size := p2.lt
  have lc : c < s1.heap.objs.size := p3.lt
  refine zip_begins3 (begins_list a t1.toArray) (begins_list b t2.toArray) (begins_list c t3.toArray) p1.isList p2.isList p3.isList fun h' hz hTI hTO h1 h2 h3 hsz hk => wpAny_pyIter_zip hz ?_
  have I2 : Inv X pins σ H1 { s1 with heap := h' } := I1.kept (t' := s1.toks) hk
  refine ⟨s1.heap.objs.size + 5, [s1.heap.objs.size + 5, s1.heap.objs.size + 3, s1.heap.objs.size + 4, s1.heap.objs.size, s1.heap.objs.size + 1, s1.heap.objs.size + 2], _, _, H1, rfl, I2,
    turn_zip3 (zip_sep3 (N := s1.heap.objs.size) (fp1 := [a]) (fp2 := [b]) (fp3 := [c]) (by simpa using la) (by simpa using lb) (by simpa using lc)) (nlt3 la).1 (nlt3 lb).2.1 (nlt3 lc).2.2, ⟨hz, hTI, ⟨_, _, _, hTO⟩, ⟨_, h1, rfl, rfl⟩, ⟨_, h2, rfl, rfl⟩, ⟨_, h3, rfl, rfl⟩⟩, fun c hcm => ?_, q⟩
  have e' : c = s1.heap.objs.size + 5 ∨ c = s1.heap.objs.size + 3 ∨ c = s1.heap.objs.size + 4 ∨ c = s1.heap.objs.size ∨ c = s1.heap.objs.size + 1 ∨ c = s1.heap.objs.size + 2 := by simpa using hcm
  exact I1.fpOk (nge5 e') (I1.hok.fresh (nge5 e'))
def zip3L {α β γ : Type} (xs : List α) (ys : List β) (zs : List γ) : List (T3 α β γ) := (xs.zip (ys.zip zs)).map fun p => ⟨p.1, p.2.1, p.2.2⟩
theorem zip3L_len {α β γ : Type} (xs : List α) (ys : List β) (zs : List γ) : (zip3L xs ys zs).length = min xs.length (min ys.length zs.length) := by
  unfold zip3L
  rw [List.length_map, List.length_zip, List.length_zip]
theorem zip3L_get {α β γ : Type} {xs : List α} {ys : List β} {zs : List γ} {i : Nat} {t : T3 α β γ} (h : (zip3L xs ys zs)[i]? = some t) : xs[i]? = some t.a ∧ ys[i]? = some t.b ∧ zs[i]? = some t.c := by
  unfold zip3L at h
  rw [List.getElem?_map] at h
  obtain ⟨⟨x, y, z⟩, e, rfl⟩ := Option.map_eq_some_iff.mp h
  obtain ⟨e1, e2⟩ := List.getElem?_zip_eq_some.mp e
  obtain ⟨e2, e3⟩ := List.getElem?_zip_eq_some.mp e2
  exact ⟨e1, e2, e3⟩
theorem itok_zip3 {α β γ : Type} [Dat α] [Dat β] [Dat γ] {K : PySem.W.Frag} {a b c : Addr} {xs : List α} {ys : List β} {zs : List γ} {G : Asr} (h : ∀ F H o, Same F H → G.P F H o → ∃ vs, SqL K H a vs ∧ RpAll F vs (xs.map dat)) (h' : ∀ F H o, Same F H → G.P F H o → ∃ vs, SqL K H b vs ∧ RpAll F vs (ys.map dat))
    (h'' : ∀ F H o, Same F H → G.P F H o → ∃ vs, SqL K H c vs ∧ RpAll F vs (zs.map dat)) : ItOk (Itz3 K a b c) ((zip3L xs ys zs).map dat) G where
  goes := fun i H R hi t => by
    obtain ⟨F, o, s, k, p⟩ := t
    obtain ⟨vs, hs, r⟩ := h F H o s (Ent.left F H o s p)
    obtain ⟨ws, hs', r'⟩ := h' F H o s (Ent.left F H o s p)
    obtain ⟨us, hs'', r''⟩ := h'' F H o s (Ent.left F H o s p)
    have ln := r.len
    have ln' := r'.len
    have ln'' := r''.len
    rw [List.length_map] at hi ln ln' ln''
    rw [zip3L_len] at hi
    exact ⟨vs, ws, us, vs[i]'(by omega), ws[i]'(by omega), us[i]'(by omega), hs, hs', hs'', by simp [show i < vs.length by omega], by simp [show i < ws.length by omega], by simp [show i < us.length by omega]⟩
  stops := fun H R t => by
    obtain ⟨F, o, s, k, p⟩ := t
    obtain ⟨vs, hs, r⟩ := h F H o s (Ent.left F H o s p)
    obtain ⟨ws, hs', r'⟩ := h' F H o s (Ent.left F H o s p)
    obtain ⟨us, hs'', r''⟩ := h'' F H o s (Ent.left F H o s p)
    have ln := r.len
    have ln' := r'.len
    have ln'' := r''.len
    rw [List.length_map] at ln ln' ln''
    rw [List.length_map, zip3L_len]
    exact ⟨vs, ws, us, hs, hs', hs'', by omega, by omega, by omega, by omega⟩
  yields := fun i d H x H' R hd t y => by
    obtain ⟨T, u, w, g, rfl, hT, rfl, hy, hy', hy''⟩ := y
    rw [List.getElem?_map] at hd
    cases e : (zip3L xs ys zs)[i]? with
    | none =>
      rw [e] at hd
      cases hd
    | some z =>
      rw [e] at hd
      cases hd
      obtain ⟨z1, z2, z3⟩ := z
      obtain ⟨e1, e2, e3⟩ := zip3L_get e
      refine (Top.allocT (vs := [u, w, g]) (ds := [dat z1, dat z2, dat z3]) t hT fun F o s p => ?_)
      obtain ⟨vs, hs, r⟩ := h F H o s (Ent.left F H o s p)
      obtain ⟨ws, hs', r'⟩ := h' F H o s (Ent.left F H o s p)
      obtain ⟨us, hs'', r''⟩ := h'' F H o s (Ent.left F H o s p)
      obtain ⟨v, ev, rv⟩ := r.get (i := i) (d := dat z1) (by rw [List.getElem?_map, e1]; rfl)
      obtain ⟨v', ev', rv'⟩ := r'.get (i := i) (d := dat z2) (by rw [List.getElem?_map, e2]; rfl)
      obtain ⟨v'', ev'', rv''⟩ := r''.get (i := i) (d := dat z3) (by rw [List.getElem?_map, e3]; rfl)
      have q1 := hy vs hs
      have q2 := hy' ws hs'
      have q3 := hy'' us hs''
      rw [ev] at q1
      rw [ev'] at q2
      rw [ev''] at q3
      cases q1
      cases q2
      cases q3
      exact .cons rv (.cons rv' (.one rv''))
theorem ei_zip3 {E : Ec} {Γ : List Cell} {cx cy cz : RC} {α β γ : Type} [Dat α] [Dat β] [Dat γ] {tr : TA} {xs : List α} {ys : List β} {zs : List γ} {K1 K2 K3 : List Cell → Prop} (h : EvAP E tr Γ [cx, cy, cz]) (hs : Src E Γ cx (xs.map dat) K1) (hs' : Src E Γ cy (ys.map dat) K2) (hs'' : Src E Γ cz (zs.map dat) K3) :
    EvI E (iZip3 E.K tr) Γ (.ok ()) (fun _ => Γ) (fun _ => (zip3L xs ys zs).map dat) fun _ Γ'' => K1 Γ'' ∧ K2 Γ'' ∧ K3 Γ'' := fun σ H R Qi t q =>
  h σ H R _ t fun vs H1 t1 => by
    obtain ⟨x, y, z, rfl, t2⟩ := three_args t1
    obtain ⟨p, B, rfl, ⟨w1, hv⟩, hr, t3⟩ := hs σ H1 _ x t2
    obtain ⟨p', B', rfl, ⟨w2, hv'⟩, hr', t4⟩ := hs' σ H1 _ y (t3.ent rotE)
    obtain ⟨p'', B'', rfl, ⟨w3, hv''⟩, hr'', t5⟩ := hs'' σ H1 _ z ((t4.ent (Ent.sepR Ent.assoc')).ent rotE)
    refine ⟨p, p', p'', w1, w2, w3, rfl, hv, hv', hv'', q _ H1 (sep B'' (sep B' B)) (fun σ' Γ'' hk => itok_zip3 (fun F H' o s z => ?_) (fun F H' o s z => ?_) fun F H' o s z => ?_) (t5.ent (Ent.sepR Ent.assoc'))⟩
    · exact hr σ' Γ'' hk.1 F H' o s (Ent.sepR (Ent.right.trans Ent.right) F H' o s z)
    · exact hr' σ' Γ'' hk.2.1 F H' o s (Ent.sepR (Ent.right.trans Ent.left) F H' o s z)
    · exact hr'' σ' Γ'' hk.2.2 F H' o s (Ent.sepR Ent.left F H' o s z)
end Lc
/-! LcZn: an own int -> int dict locked for one expression; its keys walked -/
namespace Lc
open PySem L2 Res
/-- an owned dict, locked -/
def zA (p : Addr) (od : Obj) (kvs : List (Int × Int)) : Asr where
  P := fun F H o => o p ∧ H p = some (.frz od (.dK (kvs.map kvI)))
  st := fun s k ⟨h, e⟩ => ⟨h, (k p h).trans e⟩
  up := fun u ⟨h, e⟩ => ⟨u p h, e⟩
def cZ (p : Addr) (od : Obj) (kvs : List (Int × Int)) : Cell := fun o => sep (pur (o = some (.ref p))) (zA p od kvs)
theorem no_Z {p : Addr} {od : Obj} {kvs : List (Int × Int)} : ∀ F H o, ¬ (cZ p od kvs none).P F H o := fun _ _ _ ⟨_, _, _, _, _, a, _⟩ => by cases (show (none : Option V) = some (.ref p) from a)
section
variable {E : Ec} {t tx ty : TE} {Γ : List Cell} {γ : Type} {A R : Asr} {H : Hp} {i : Nat} {kvs : List (Int × Int)} {p : Addr} {od : Obj}
theorem Top.lockD (t : Top (sep A (dA p kvs)) H) : Top (sep A (zA p od kvs)) (upd H p (.frz od (.dK (kvs.map kvI)))) := by
  obtain ⟨F, o, s, k, o1, o2, h1, h2, d, a, ⟨hp, e⟩⟩ := t
  have fp : F p = none := (k p (h2 p hp)).1
  refine ⟨F, o, fun b u e' => ?_, fun q hq => ?_, o1, o2, h1, h2, d, A.st (Same.refl F) (fun q hq => upd_ne fun z => d q hq (z ▸ hp)) a, ⟨hp, upd_same⟩⟩
  · rw [upd_ne (fun z => by rw [z, fp] at e'; cases e')]
    exact s b u e'
  · by_cases hb : q = p
    · rw [hb]
      exact ⟨fp, by rw [upd_same]; exact fun z => by cases z⟩
    · rw [upd_ne hb]
      exact k q hq
theorem Top.unlockD (t : Top (sep A (zA p od kvs)) H) : Top (sep A (dA p kvs)) (upd H p (.dK (kvs.map kvI))) := by
  obtain ⟨F, o, s, k, o1, o2, h1, h2, d, a, ⟨hp, e⟩⟩ := t
  have fp : F p = none := (k p (h2 p hp)).1
  refine ⟨F, o, fun b u e' => ?_, fun q hq => ?_, o1, o2, h1, h2, d, A.st (Same.refl F) (fun q hq => upd_ne fun z => d q hq (z ▸ hp)) a, ⟨hp, upd_same⟩⟩
  · rw [upd_ne (fun z => by rw [z, fp] at e'; cases e')]
    exact s b u e'
  · by_cases hb : q = p
    · rw [hb]
      exact ⟨fp, by rw [upd_same]; exact fun z => by cases z⟩
    · rw [upd_ne hb]
      exact k q hq
theorem z_at (t : Top (sep A (zA p od kvs)) H) : H p = some (.frz od (.dK (kvs.map kvI))) := t.fact fun F o s ⟨_, _, _, _, _, _, ⟨_, z⟩⟩ => z
theorem take_Z {σ : L2.St} (hi : Γ[i]? = some (cZ p od kvs)) (t : Top (sep (base E σ Γ) A) H) :
    σ[i]? = some (some (.ref p)) ∧ Top (sep (sep (base E σ (Γ.set i cAny)) A) (zA p od kvs)) H := by
  obtain ⟨F, o, s, kk, o1, o2, h1, h2, e, ⟨o3, o4, h3, h4, e', a, b⟩, r⟩ := t
  obtain ⟨x, ex, o5, o6, h5, h6, e2, cx, rest⟩ := sl_take hi a
  obtain ⟨o7, o8, h7, h8, d7, ev, z⟩ := cx
  have ev : x = some (.ref p) := ev
  subst ev
  refine ⟨ex, ⟨F, o, s, kk, fun q => o6 q ∨ o4 q ∨ o2 q, o8, fun q z => ?_, fun q z => h1 q (h3 q (h5 q (h8 q z))), fun q z w => ?_, ⟨fun q => o6 q ∨ o4 q, o2, fun q z => z.elim .inl fun z => .inr (.inl z), fun q z => .inr (.inr z), fun q z w => ?_, ⟨o6, o4, fun _ z => .inl z, fun _ z => .inr z, fun q z w => e' q (h6 q z) w, rest, b⟩, r⟩, z⟩⟩
  · rcases z with z | z | z
    · exact h1 q (h3 q (h6 q z))
    · exact h1 q (h4 q z)
    · exact h2 q z
  · rcases z with z | z | z
    · exact e2 q (h8 q w) z
    · exact e' q (h5 q (h8 q w)) z
    · exact e q (h3 q (h5 q (h8 q w))) z
  · rcases z with z | z
    · exact e q (h3 q (h6 q z)) w
    · exact e q (h4 q z) w
theorem set_was {α : Type} {l : List α} {i : Nat} {a : α} (h : l[i]? = some a) : l.set i a = l := by
  apply List.ext_getElem?
  intro j
  by_cases e : i = j
  · subst e
    rw [List.getElem?_set_self (List.getElem?_eq_some_iff.mp h).1, h]
  · rw [List.getElem?_set_ne e]
/-- slot i's dict is locked while the expression runs -/
theorem ev_lockD {m : Res γ} {c : γ → RC} (hi : Γ[i]? = some (cD kvs)) (h : ∀ p od, EvJ E t (Γ.set i (cZ p od kvs)) m (fun _ => Γ.set i (cZ p od kvs)) c) : EvJ E (tLockE t) Γ m (fun _ => Γ) c := fun σ H R Q tt q => by
  have hlt : i < Γ.length := (List.getElem?_eq_some_iff.mp hi).1
  obtain ⟨p, hs, t2, _⟩ := take_D (A := R) hi tt
  refine ⟨p, _, d_at (σ := σ) t2, trivial, fun od => ?_⟩
  have t3 : Top (sep (base E σ (Γ.set i (cZ p od kvs))) R) (upd H p (.frz od (.dK (kvs.map kvI)))) := (t2.lockD (od := od)).ent (put_cell (c := cZ p od kvs) hlt hs fun F H o s z => sep_pers (fun _ => rfl) z)
  refine h p od σ _ R _ t3 (wp_mono q (fun g _ q v H1 t4 => ?_) fun _ x => x)
  have hi2 : (Γ.set i (cZ p od kvs))[i]? = some (cZ p od kvs) := List.getElem?_set_self hlt
  obtain ⟨_, t5⟩ := take_Z hi2 t4
  refine ⟨z_at t5, q v _ ?_⟩
  rw [List.set_set] at t5
  have t6 := (t5.unlockD).ent (put_cell (c := cD kvs) hlt hs fun F H o s z => ⟨p, sep_pers (fun _ => rfl) z⟩)
  rw [set_was hi] at t6
  exact t6
/-- d[k], d locked -/
theorem ev_zget {m1 : Res Int} (hi : Γ[i]? = some (cZ p od kvs)) (h1 : EvJ E ty Γ m1 (fun _ => Γ) fun a => rV (.int a)) :
    EvJ E (tDGet (tVar i) ty) Γ (m1.bind fun k => optR (getD' kvs k)) (fun _ => Γ) fun r => rV (.int r) := fun σ H R Q t q => by
  obtain ⟨hs, _⟩ := take_Z (A := R) hi t
  refine ⟨.ref p, hs, ?_⟩
  refine h1 σ H R _ t (wp_mono (wp_bind.mp q) (fun k _ q y H1 t1 => ?_) fun _ x => x)
  have ey := int1 t1
  subst ey
  obtain ⟨_, t4⟩ := take_Z (A := R) hi (t1.ent (Ent.sepR Ent.right))
  cases e : getD' kvs k with
  | none =>
    rw [e] at q
    exact (show False from q).elim
  | some v =>
    rw [e] at q
    have q : ∀ w H', Top (sep (base E σ Γ) (sep (vA (.int v) w) R)) H' → Q w H' := q
    refine ⟨p, .int v, rfl, ?_, q _ H1 (res1 t1 fun F => .int _)⟩
    have := valV_kvI k kvs
    rw [e] at this
    exact .inl ⟨_, Sum.inl k, .inr ⟨od, z_at t4⟩, rfl, this.symm⟩
theorem itok_keysZ {σ : L2.St} {B : Asr} (hi : Γ[i]? = some (cZ p od kvs)) : ItOk (Itk p od (kvs.map kvI)) ((kvs.map (·.1)).map dat) (sep (base E σ Γ) B) where
  goes := fun j H R hj t => ⟨z_at (take_Z hi (t.ent Ent.assoc)).2, by simpa using hj⟩
  stops := fun H R t => ⟨z_at (take_Z hi (t.ent Ent.assoc)).2, by simp⟩
  yields := fun j d H x H' R hd t y => by
    obtain ⟨rfl, k, v, e, rfl⟩ := y
    rw [List.getElem?_map] at e
    rw [List.getElem?_map, List.getElem?_map] at hd
    cases ek : kvs[j]? with
    | none =>
      rw [ek] at e
      cases e
    | some kv =>
      rw [ek] at e hd
      cases e
      cases hd
      exact t.ent fun F H o s z => sep_pers (fun _ => Rp.int _) z
theorem ei_keysZ (hi : Γ[i]? = some (cZ p od kvs)) : EvI E (iKeys (tVar i)) Γ (.ok ()) (fun _ => Γ) (fun _ => (kvs.map (·.1)).map dat) (fun _ Γ'' => Γ''[i]? = some (cZ p od kvs)) := fun σ H R Qi t q => by
  obtain ⟨hs, t2⟩ := take_Z hi t
  exact ⟨.ref p, hs, p, od, rfl, .inl ⟨_, z_at t2, q _ H (pur True) (fun σ' Γ'' hk => itok_keysZ hk) (t.ent (Ent.sepR fun F H o s z => sep_pers (fun _ => trivial) z))⟩⟩
end
end Lc
/-! LcRz: raise X('m'), X an own class over ValueError, told as an error -/
namespace Lc
open PySem L2 Res PySem.Spec PyProof.Rows
/-- what the class C must say, that it can be made and raised -/
structure ExcR (K : PySem.W.Frag) (C : Addr) : Prop where
  new : PySem.W.excIn K C [.type "ValueError", .type "Exception", .type "BaseException", .type "object"] "ValueError.__new__" = true
  kp : PySem.W.keepIn K (.ref C) = true
  sb : PySem.W.subIn K (.ref C) (.type "BaseException") = some true
  ty : PySem.W.typeIn K (.ref C) = some (.type "type")
def tRaise (C : Addr) (W : WX) : TS := fun _ σ H => W (.ref C) none σ H
theorem ps_raiseE {X : Cx} {C : Addr} {W : WX} {x m : Str} {j : Nat} {p p2 pos pos2 : Pos} (hc : X.calm = true) (tk : Takes X W) (R : ExcR X.K C) (hg : Gl X x) (gC : X.mg x = some (.ref C)) (hdb : (x == ("__debug__" : Str)) = false := by decide) :
    PS X (.Raise (some (.Call (.Name x p) [.Constant (.str m) j p2] [] pos)) none pos2) (tRaise C W) := ps_raise hc tk (pmk_own PySem.F.excBase_ValueError R.new gC R.kp (raises_own R.sb R.ty) hg hdb)
section
variable {E : Ec} {Γ : List Cell} {γ : Type} {u : TS}
theorem es_raiseE {C : Addr} {k : Nat} {post : γ → Fin} (hx : XOk E Γ) (e : E.ec k = .ref C) : EvS E (tSeq (tRaise C E.W) u) Γ (.err k) post := fun σ H R D t q => by
  have q : ExnS E R k := q
  have z := q σ H (t.ent (Ent.sepL (Ent.sepL (hx σ))))
  rw [e] at z
  exact z
end
end Lc
/-! Lc: a caught exception as a value (begun) -/
namespace Lc
open PySem L2
/-- a caught exception's object, tracked -/
def ExT (cls : Value) (a : Addr) : HO := .ext fun h => ∃ (oe : Obj) (vs : Array Value), h.get? a = some oe ∧ Zc cls none oe ∧ oe.data = .fields vs
theorem exT_ok {P : Program} {w : World} {H : Hp} {h : Heap} {a : Addr} {cls : Value} {oe : Obj} {vs : Array Value} (e : h.get? a = some oe) (z : Zc cls none oe) (d : oe.data = .fields vs) : ObjOk P w H h a (ExT cls a) :=
  ⟨⟨oe, vs, e, z, d⟩, ⟨oe, e⟩, fun _ _ ⟨o, v, q, r⟩ k => ⟨o, v, k o q, r⟩⟩
/-- an object that is there, and was not at the entry, is tracked from here on -/
theorem track {X : Cx} {pins : List (Addr × Obj)} {σ : L2.St} {H : Hp} {s : Shared} {a : Addr} {cls : Value} {oe : Obj} {vs : Array Value} (I : Inv X pins σ H s) (n0 : X.s_0.heap.get? a = none) (hn : H a = none) (he : s.heap.get? a = some oe) (z : Zc cls none oe) (d : oe.data = .fields vs)
    (nL : a ≠ X.env.locals) (np : ∀ p ∈ X.pn ++ pins, p.1 ≠ a) (n0H : X.H_0 a = none) : Inv X pins σ (upd H a (ExT cls a)) s := by
  have ne0 : ∀ b o, X.s_0.heap.get? b = some o → b ≠ a := fun b o e q => by
    rw [q, n0] at e
    cases e
  have neH : ∀ b u, H b = some u → b ≠ a := fun b u e q => by
    rw [q, hn] at e
    cases e
  have nc : ∀ x c, X.env.cells.lookup x = some c → c ≠ a := fun x c e q => by
    obtain ⟨v, o, ho, hd⟩ := I.cell x c e
    rw [q, he] at ho
    cases ho
    rw [d] at hd
    cases hd
  refine ⟨I.ok, I.os, I.bare, ⟨I.base.keep, I.base.slot, fun b o e n hq => ?_, I.base.there, fun b xs e => ?_, fun b o u e => ?_, fun b ps e => ?_⟩, I.loc, I.cell, ?_, fun x c e => ?_, fun p hp => ?_, fun b u e => ?_, I.len⟩
  · rw [upd_ne (ne0 b o e)]
    exact I.base.free b o e n hq
  · have q := I.base.tups b xs e
    rw [upd_ne (neH b _ q)]
    exact q
  · have q := I.base.frzs b o u e
    rw [upd_ne (neH b _ q)]
    exact q
  · obtain ⟨m, q⟩ := I.base.tbls b ps e
    exact ⟨m, by rw [upd_ne (neH b _ q)]; exact q⟩
  · rw [upd_ne (Ne.symm nL)]
    exact I.free
  · rw [upd_ne (nc x c e)]
    exact I.freeC x c e
  · obtain ⟨e, n, ne, nf, q⟩ := I.pin p hp
    exact ⟨e, by rw [upd_ne (np p hp)]; exact n, ne, nf, q⟩
  · by_cases hb : b = a
    · subst hb
      rw [upd_same] at e
      cases e
      exact exT_ok he z d
    · rw [upd_ne hb] at e
      refine (I.hok b u e).stay (fun c v _ q => q) (fun c q => ?_) fun c xs q => ?_
      · rw [upd_ne (neH c _ q)]
        exact q
      · rw [upd_ne (neH c _ q)]
        exact q
/-- isinstance(e, c), e such a value -/
def rIsT (K : PySem.W.Frag) : List V → Hp → VK → Prop := fun xs H Q => ∃ (a D : Addr) (c : V) (cv : Value) (b : Bool), xs = [.ref a, c] ∧ H a = some (ExT (.ref D) a) ∧ ExcC K D ∧ (∀ u, RelV c u → u = cv) ∧ PySem.W.kitOne K (.ref D) cv = some b ∧ Q (.bl b) H
theorem isT {X : Cx} (K : PySem.W.Frag) (h : X.K = K) : CallR X (.builtin "isinstance") (rIsT K) := by
  subst h
  intro pins s σ H xs us Q I r h
  obtain ⟨a, D, c, cv, b, rfl, ha, C, hcv, e, q⟩ := h
  obtain ⟨⟨⟨oc, od, oda, osl⟩, vs, he, ⟨z1, z2⟩, hv⟩, _, _⟩ := I.hok a _ ha
  cases r with
  | cons rx rr =>
    cases rr with
    | cons rt rr =>
      cases rr
      cases rx
      have ec := hcv _ rt
      subst ec
      dsimp only at z1 z2 hv
      subst z1 z2 hv
      have J : PySem.W.InstAt s.heap a _ D none := ⟨he, rfl, rfl, trivial⟩
      exact PySem.W.kia_one (PySem.W.handS_kitx_exc C.hg C.hk C.hs C.hd C.ha C.hn C.ht C.hm) I.kIn J e (fun z => nomatch z) fun tk => ⟨.bl b, H, I.kept (t' := tk) fun _ _ z => z, rfl, q⟩
end Lc
/-! LcXa: a def called with the exception that is handled; try .. except X as e -/
namespace Lc
open PySem L2 Res PySem.Spec PyProof.Rows HotX L2H
/-- what a def promises of a call with the handled exception, of the class D -/
structure FnX (P : Program) (w : World) (K : PySem.W.Frag) (mg : Str → Option Value) (base : Heap) (CX : CXT) (k : Nat) (f : Addr) (fd : FuncData) (ps : List Str) (D : Addr) (sp : Addr → Sp) : Prop where
  len : ∀ a vs H Q E, sp a vs H Q E → vs.length = ps.length
  run : ∀ (A : Around) (outer : List Env) (s : Shared) (H : Hp) (args : Args) (us : List Value) (vs : List V) (Q : VK) (E : XK) (p : Addr × Obj), RoomH k A → Hot1 A p → L2N.Zn (.ref D) none p.2 → (∃ fs, p.2.data = .fields fs) → PinOk outer H s p → Env0 P w K mg base A outer s H → BindsTo s fd args (ps.zip us) → Vals vs us → sp p.1 vs H Q E →
    codeAny (model P w) A (.call (.ref f) args) (CR CX outer P w H s Q E) s
section
variable {P : Program} {w : World} {K : PySem.W.Frag} {mg : Str → Option Value} {base : Heap}
theorem fn_ofX {CX : CXT} {k : Nat} {f D : Addr} {name qual : Str} {params : Arguments} {body : List Stmt} {scope : Scope} {dV kV doc pm cdv ct oc : Value} {an od : Option Addr}
    {osl : Array (Option Value)} {N ps : List Str} {sp : Addr → Sp} (lk : K.lookup f = some ⟨oc, od, .func (PySem.W.fnOf name qual params body scope dV kV doc pm an cdv ct), osl⟩) (hcd : PySem.W.codeIn K cdv qual = true) (S : FnScope N ps scope)
    (len : ∀ a vs H Q E, sp a vs H Q E → vs.length = ps.length)
    (hbody : ∀ (A : Around) (outer : List Env) (s : Shared) (H : Hp) (vs : List V) (Q : VK) (E : XK) (p : Addr × Obj), Hot1 A p → L2N.Zn (.ref D) none p.2 → (∃ fs, p.2.data = .fields fs) → RoomH k (A.deeper (envOfC qual scope s.heap.objs.size f cdv)) → sp p.1 vs H Q E →
      ∃ t, PSs (cxH CX P w K mg base N qual scope f cdv A outer s H E p) body t ∧ t { nx := fun _ H' => Q .non H', rt := Q } (L2.start N vs) H) :
    FnX P w K mg base CX (k + 1) f (PySem.W.fnOf name qual params body scope dV kV doc pm an cdv ct) ps D sp := by
  refine ⟨len, fun A outer s H args us vs Q E p hr hot hz hf hpin e0 hb r hsp => ?_⟩
  have hl := len _ _ _ _ _ hsp
  have KX : K.In s.heap := e0.mod.kin.keeps fun b o e => (e0.bs b o e).1
  have lim : s.heap.NoLimit := e0.mod.nolimit.keeps fun b o e => (e0.bs b o e).1
  have hkind : ∀ y ∈ ps.zip us, scope.names.lookup y.1 = some .local ∨ (scope.names.lookup y.1 = some .cell ∧ ((cellsFrom (s.heap.objs.size + 1) scope.names []).lookup y.1).isSome = true) := fun ⟨n, v⟩ hy => by
    rcases S.par n (List.of_mem_zip hy).1 with q | q
    · exact .inl q
    · exact .inr ⟨q, PySem.W.cellsFrom_some _ _ _ (.inl q)⟩
  refine codeAny_call_function hr.depth (KX _ _ lk) rfl S.co S.gen rfl (PySem.W.codeRec_of KX hcd) (hb _ _ _ _ ?_)
  refine wpAny_newFunctionEnv_cells S.kind hkind fun env he s1 x => ?_
  subst he
  refine ⟨lim.keeps x.toInCall.keep, codeAny_func ?_⟩
  obtain ⟨t, ht, hq⟩ := hbody A outer s H vs Q E p hot hz hf (hr.deeper _) hsp
  have I : Inv (cxH CX P w K mg base N qual scope f cdv A outer s H E p) [] (L2.start N vs) H s1 := inv_startH S hpin e0 hl r x
  refine wpAny_mono (ht.run [] s1 (L2.start N vs) H _ I hq) (fun fl s' hs => ?_) fun e s' hs => hs
  have fin : ∀ {σ' : L2.St} {H' : Hp} {v : V} {u : Value}, Inv (cxH CX P w K mg base N qual scope f cdv A outer s H E p) [] σ' H' s' → RelV v u → Q v H' → CE outer P w H s Q u s' :=
    fun {σ' H' v u} J rv q => ⟨v, H', J.os, J.bare, J.base, J.hok, rv, q⟩
  cases fl with
  | ret u =>
    obtain ⟨v, σ', H', J, rv, q⟩ := hs
    exact fin J rv q
  | next =>
    obtain ⟨σ', H', J, q⟩ := hs
    exact fin (v := V.non) (u := Value.none) J rfl q
  | brk =>
    obtain ⟨_, _, _, q⟩ := hs
    exact False.elim q
  | cont =>
    obtain ⟨_, _, _, q⟩ := hs
    exact False.elim q
theorem FunG.okN {x qual : Str} {st : Stmt} {f : Addr} {fd : FuncData} {N ps : List Str} {k : Nat} {gp : Prop} {sp : Sp} (F : FunG K x qual st f fd) (S : FnScope N ps (defScope st)) (len : ∀ vs H Q E, sp vs H Q E → vs.length = ps.length)
    (hbody : ∀ (cdv : Value) (A : Around) (outer : List Env) (s : Shared) (H : Hp) (vs : List V) (Q : VK) (E : XK), RoomG gp k (A.deeper (envOfC qual (defScope st) s.heap.objs.size f cdv)) → sp vs H Q E →
      ∃ t, PSs (cxOf (L2N.CX P w) P w K mg base N qual (defScope st) f cdv A outer s H E) (defBody st) t ∧ t { nx := fun _ H' => Q .non H', rt := Q } (start N vs) H) : FnG gp P w K mg base (L2N.CX P w) (k + 1) f fd ps sp := by
  obtain ⟨oc, od, dV, kV, doc, pm, an, cdv, ct, osl, rfl, lk, hcd⟩ := F.ex
  exact fn_ofG lk hcd S len fun A outer s H vs Q E hr hsp => hbody cdv A outer s H vs Q E hr hsp
theorem passLN {X : Cx} : Passes (L2N.CX X.prog X.w) X E0 := fun _ _ _ _ _ _ _ h => by
  obtain ⟨_, _, _, _, _, _, _, _, _, _, _, _, z⟩ := h
  exact z.elim
theorem walkGN {l : PySem.W.OpenLaw} {q : Program} {loose : List Str} {XP : (Str → Option Value) → Heap → Prop} {YP : World → Heap → Prop} {d : DefRec} {K : Params → PySem.W.Frag} {k : Nat} (hn : l.most = some 63) (hdf : d.params.defaults = []) (hr : Room k callerA)
    (hY : ∀ (w : World) (h : Heap), YP w h → (K w.params).In h)
    (F : ∀ (w : World) (mg : Str → Option Value) (fa : Addr) (h : Heap), (K w.params).In h → h.Ns mainGlobals mg → mg d.name = some (.ref fa) →
      ∃ fd : FuncData, (∀ (s : Shared) (u : Value), BindsTo s fd ⟨[u], []⟩ [("script", u)]) ∧ ∀ base : Heap, (K w.params).In base → base.Ns mainGlobals mg → FnG True l.prog w (K w.params) mg base (L2N.CX l.prog w) k fa fd ["script"] (spLaw (K w.params))) :
    PySem.W.WalkO q loose XP YP l.row.toRowW d [] (fun f vs => PySem.call f vs) := by
  refine Att.attach_call hn hdf fun w s₀ s₁ mg mb fa o pm cd doc a vs ns G Y ho hd hcd hmg hobj hints hlen hg => ?_
  have KX := hY w _ Y
  obtain ⟨fd, hb, hF⟩ := F w mg fa _ KX G.T.g hmg
  exact law_callG KX G.T.g G.T.b G.T.builtins G.T.nolimit hg hobj hints (Nat.le_trans hlen (by decide)) ⟨hr, fun _ => rfl⟩ hF hb (fun H hO hS => ⟨a, ns, rfl, hS, hlen, fun _ => rfl⟩) fun H e s' ⟨_, _, _, _, _, _, _, _, _, _, _, _, z⟩ => z
theorem FunG.okH {x qual : Str} {st : Stmt} {f D : Addr} {fd : FuncData} {N ps : List Str} {k : Nat} {sp : Addr → Sp} (F : FunG K x qual st f fd) (S : FnScope N ps (defScope st)) (len : ∀ a vs H Q E, sp a vs H Q E → vs.length = ps.length)
    (hbody : ∀ (cdv : Value) (A : Around) (outer : List Env) (s : Shared) (H : Hp) (vs : List V) (Q : VK) (E : XK) (p : Addr × Obj), Hot1 A p → L2N.Zn (.ref D) none p.2 → (∃ fs, p.2.data = .fields fs) → RoomH k (A.deeper (envOfC qual (defScope st) s.heap.objs.size f cdv)) → sp p.1 vs H Q E →
      ∃ t, PSs (cxH (L2N.CX P w) P w K mg base N qual (defScope st) f cdv A outer s H E p) (defBody st) t ∧ t { nx := fun _ H' => Q .non H', rt := Q } (L2.start N vs) H) : FnX P w K mg base (L2N.CX P w) (k + 1) f fd ps D sp := by
  obtain ⟨oc, od, dV, kV, doc, pm, an, cdv, ct, osl, rfl, lk, hcd⟩ := F.ex
  exact fn_ofX lk hcd S len fun A outer s H vs Q E p h1 h2 h3 hr hsp => hbody cdv A outer s H vs Q E p h1 h2 h3 hr hsp
end
section
variable {X : Cx} {k : Nat} {f D a : Addr} {oe : Obj} {pn : List (Addr × Obj)} {fd : FuncData} {ps : List Str} {sp : Addr → Sp} {x : Str} {q pos : Pos} {e : Expr} {es : List Expr} {t : TA}
/-- F(e) in an except suite -/
theorem pe_callX (F : FnX X.prog X.w X.K X.mg X.base (L2N.CX X.prog X.w) k f fd ps D sp) (hz : L2N.Zn (.ref D) none oe) (hd : ∃ fs, oe.data = .fields fs) (hr : RoomH k X.A) (hg : Gl X x) (hm : X.mg x = some (.ref f)) (hk : PySem.W.keepIn X.K (.ref f) = true) (hb : Binds X.K fd ps [])
    (ha : PA (X.suite a ((a, oe) :: pn)) (e :: es) t) (hdb : (x == ("__debug__" : Str)) = false := by decide) (he : starEach (e :: es) X.env = (false, eval e X.env) :: starEach es X.env := by rfl) (hpl : (backTo pos (starEach es X.env)).any (·.1) = false := by rfl) :
    PE (X.suite a ((a, oe) :: pn)) (.Call (.Name x q) (e :: es) [] pos) (tCallS (sp a) (fun _ => E0) t) := by
  refine ⟨fun pins s σ H Q I h => ?_⟩
  refine wpAny_Call_Name_kw (ld_glob I hg hm ?_ hdb)
  refine PySem.W.callWith_K (h₀ := X.base) I.ok.mod.kin hk (thn (ha.run pos pins s σ H _ I h) fun us s1 ⟨vs, H1, I1, r, q⟩ => ⟨I1.kIn, ?_⟩) he hpl
  have hl : us.length = ps.length := by rw [← r.length]; exact F.len _ _ _ _ _ q
  have b := hb s1 us I1.kIn (by rw [List.append_nil]; exact hl)
  rw [List.append_nil] at b
  have P1 := I1.pin (a, oe) (List.mem_append_left _ List.mem_cons_self)
  have hpin : PinOk X.stack H1 s1 (a, oe) := ⟨P1.1, P1.2.1, fun hm => (List.mem_cons.mp (I1.stkSub a hm)).elim P1.2.2.1 P1.2.2.2.1, P1.2.2.2.2⟩
  obtain ⟨fs, hfs⟩ := hd
  have hot : Hot1 (X.A.mark (some (.ref a))) (a, oe) := ⟨rfl, fs, hfs, hz.2.2 fs hfs⟩
  have hr' : RoomH k (X.A.mark (some (.ref a))) := ⟨hr.dp, hr.un⟩
  refine wpAny_call (codeAny_mono (F.run (X.A.mark (some (.ref a))) X.stack s1 H1 ⟨us, []⟩ us vs Q E0 (a, oe) hr' hot hz ⟨fs, hfs⟩ hpin I1.env0 b r q) fun r s' hq => ?_)
  cases r with
  | error e =>
    obtain ⟨_, _, _, _, _, _, _, _, _, _, _, _, z⟩ := hq
    exact z.elim
  | ok fl =>
    cases fl with
    | ret u => exact I1.after hq
    | next => exact False.elim hq
    | brk => exact False.elim hq
    | cont => exact False.elim hq
end
/-- isinstance(e, c), e the exception that is handled -/
theorem call_isX {X : Cx} {a D : Addr} {oe : Obj} (C : ExcC X.K D) (hz : L2N.Zn (.ref D) none oe) (hf : ∃ fs, oe.data = .fields fs) (hp : (a, oe) ∈ X.pn) : CallR X (.builtin "isinstance") (rIsE X.K D a) := by
  intro pins s σ H xs us Q I r h
  obtain ⟨c, cv, b, rfl, hcv, e, q⟩ := h
  cases r with
  | cons rx rr =>
    cases rr with
    | cons rt rr =>
      cases rr
      cases rx
      have ec := hcv _ rt
      subst ec
      obtain ⟨hget, _⟩ := I.pin (a, oe) (List.mem_append.mpr (.inl hp))
      obtain ⟨vs, hv⟩ := hf
      have J : PySem.W.InstAt s.heap a oe D none := by
        obtain ⟨oc, od, oda, osl⟩ := oe
        obtain ⟨h1, h2, _⟩ := hz
        dsimp only at h1 h2 hv
        subst h1 h2 hv
        exact ⟨hget, rfl, rfl, trivial⟩
      exact PySem.W.kia_one (PySem.W.handS_kitx_exc C.hg C.hk C.hs C.hd C.ha C.hn C.ht C.hm) I.kIn J e (fun z => nomatch z) fun tk => ⟨.bl b, H, I.kept (t' := tk) fun _ _ z => z, rfl, q⟩
/-! ### try, its mirror -/
def catchR {α : Type} (n : Nat) (m : Res α) (h : Nat → Res α) : Res α := match m with
  | .ok a => .ok a
  | .err k => if k < n then h k else .bad
  | .bad => .bad
theorem pss_ex {X : Cx} {b : List Stmt} {φ : Nat → Prop} {t : Nat → TS} (h : ∀ k, φ k → PSs X b (t k)) : PSs X b (fun D σ H => ∃ k, φ k ∧ t k D σ H) := ⟨fun pins s σ H D I ⟨k, hk, z⟩ => (h k hk).run pins s σ H D I z⟩
/-- the wish of such a clause -/
def tTry (K : PySem.W.Frag) (ec : Nat → Value) (n : Nat) (c : Value) (i : Nat) (tb : WX → TS) (t : Addr → Nat → TS) (Wout : WX) : TS := fun D σ H =>
  tb (wAs K c i (fun a cls d D σ H => ∃ k, (k < n ∧ cls = ec k ∧ d = none) ∧ t a k D σ H) Wout D) D σ H
def NoSlot (i : Nat) : Fin → Prop
  | .nx Γ | .lp Γ | .bk Γ | .ct Γ => Γ[i]? = some cAny
  | _ => True
theorem sl_gone {F H : Hp} : ∀ {σ : L2.St} {Γ : List Cell} {i : Nat} {o : Addr → Prop}, Γ[i]? = some cAny → (sl σ Γ).P F H o → (sl (σ.set i none) Γ).P F H o
  | [], [], i, o, e, _ => by simp at e
  | [], _ :: _, _, _, _, h => (show False from h).elim
  | _ :: _, [], _, _, _, h => (show False from h).elim
  | x :: σ, c0 :: Γ, 0, o, e, ⟨o1, o2, h1, h2, d, a, b⟩ => by
    have e' : c0 = cAny := by simpa using e
    subst e'
    exact ⟨o1, o2, h1, h2, d, trivial, b⟩
  | x :: σ, c0 :: Γ, i + 1, o, e, ⟨o1, o2, h1, h2, d, a, b⟩ => ⟨o1, o2, h1, h2, d, a, sl_gone (σ := σ) (Γ := Γ) (i := i) (by simpa using e) b⟩
theorem top_gone {E : Ec} {σ : L2.St} {Γ : List Cell} {i : Nat} {R : Asr} {H : Hp} (e : Γ[i]? = some cAny) (t : Top (sep (base E σ Γ) R) H) : Top (sep (base E (σ.set i none) Γ) R) H := t.ent (Ent.sepL (Ent.sepL fun _ _ _ _ h => sl_gone e h))
theorem Fin.ok_gone {E : Ec} {R : Asr} {D : Ends} {i : Nat} : ∀ {f : Fin}, NoSlot i f → f.ok E R D → f.ok E R { nx := fun σ' H' => D.nx (σ'.set i none) H', rt := D.rt, bk := fun σ' H' => D.bk (σ'.set i none) H', ct := fun σ' H' => D.ct (σ'.set i none) H' }
  | .nx _, e, h => fun σ H t => h _ H (top_gone e t)
  | .lp _, e, h => fun σ H t => h _ H (top_gone e t)
  | .bk _, e, h => fun σ H t => h _ H (top_gone e t)
  | .ct _, e, h => fun σ H t => h _ H (top_gone e t)
  | .rt _ _, _, h => h
  | .no, _, _ => trivial
/-- the environment of a try's body: what its exceptions find is Γx -/
abbrev Ec.tr (E : Ec) (W : WX) (Γx : List Cell) : Ec := { E with W := W, X := fun σ => sl σ Γx }
theorem Fin.ok_tr {E : Ec} {W : WX} {Γx : List Cell} {R : Asr} {D : Ends} : ∀ {f : Fin}, f.ok E R D → f.ok (E.tr W Γx) R D
  | .nx _, h => h
  | .lp _, h => h
  | .bk _, h => h
  | .ct _, h => h
  | .rt _ _, h => h
  | .no, _ => trivial
theorem xok_le {E : Ec} {W : WX} {Γ Γx : List Cell} (l : Le Γ Γx) : XOk (E.tr W Γx) Γ := fun σ => l.ent
section
variable {E : Ec} {Γ Γx : List Cell} {α : Type} {m : Res α} {h : Nat → Res α} {post : α → Fin} {tb : WX → TS} {t : Addr → Nat → TS} {Wout : WX} {n i : Nat} {c : Value}
theorem es_try (hb : ∀ W, EvS (E.tr W Γx) (tb W) Γ m post) (hx : ∀ k, k < n → PySem.W.exmOne E.K (E.ec k) c = some true) (hi : i < Γx.length) (hs : ∀ a k, k < n → EvS E (t a k) (Γx.set i (cIs (.ref a))) (h k) post) (hp : ∀ b, NoSlot i (post b)) :
    EvS E (tTry E.K E.ec n c i tb t Wout) Γ (catchR n m h) post := fun σ H R D tt q => by
  refine hb _ σ H R D tt ?_
  cases m with
  | ok a => exact Fin.ok_tr q
  | bad => exact q
  | err k =>
    have q : (if k < n then h k else Res.bad : Res α).wp _ _ := q
    by_cases hk : k < n
    · rw [if_pos hk] at q
      intro σ' H' t'
      refine ⟨true, hx k hk, fun _ a ha => ⟨k, ⟨hk, rfl, rfl⟩, ?_⟩, fun z => by cases z⟩
      have t1 : Top (sep (base E σ' Γx) R) H' := t'
      have t2 : Top (sep (base E (σ'.set i (some (.ref a))) (Γx.set i (cIs (.ref a)))) R) H' := put_slot (c := fun _ v => pur (v = .ref a)) (cl := cIs (.ref a)) (v := .ref a) (fun σ v A H t => t.ent (Ent.sepL fun _ _ _ _ e => (by
        have e : v = .ref a := e
        show some v = some (V.ref a)
        rw [e]))) hi (t1.ent (Ent.sepR fun F H o s z => sep_pers (fun _ => rfl) z))
      exact hs a k hk _ H' R _ t2 (wp_mono q (fun b _ z => Fin.ok_gone (hp b) z) fun k z => z)
    · rw [if_neg hk] at q
      exact q.elim
end
end Lc
/-! LcXb: the handled exception asked for its class, raise, exceptions as values -/
namespace Lc
open PySem L2 Res PySem.Spec PyProof.Rows HotX L2H
/-! ### isinstance -/
/-- of the exception at a, of the class D: one class -/
def rIsX (K : PySem.W.Frag) (D a : Addr) : List V → Hp → VK → Prop := fun xs H Q => ∃ (c : V) (u : Value) (b : Bool), xs = [.ref a, c] ∧ ClsV c u ∧ PySem.W.kitOne K (.ref D) u = some b ∧ Q (.bl b) H
/-- .. several -/
def rIsXT (K : PySem.W.Frag) (D a : Addr) : List V → Hp → VK → Prop := fun xs H Q => ∃ (tp : Addr) (cs : List V) (us : List Value) (b : Bool), xs = [.ref a, .ref tp] ∧ H tp = some (.tup cs) ∧ Paired ClsV cs us ∧ PySem.W.kitAny K (.ref D) us = some b ∧ Q (.bl b) H
section
variable {X : Cx} {a D : Addr} {oe : Obj}
theorem inst_of {h : Heap} (hget : h.get? a = some oe) (h1 : oe.cls = .ref D) (h2 : oe.dict = none) (hf : ∃ fs, oe.data = .fields fs) : PySem.W.InstAt h a oe D none := by
  obtain ⟨vs, hv⟩ := hf
  obtain ⟨oc, od, oda, osl⟩ := oe
  dsimp only at h1 h2 hv
  subst h1 h2 hv
  exact ⟨hget, rfl, rfl, trivial⟩
theorem tup_at {pins : List (Addr × Obj)} {σ : L2.St} {H : Hp} {s : Shared} {tp : Addr} {cs : List V} {us : List Value} (I : Inv X pins σ H s) (hT : H tp = some (.tup cs)) (k : Paired ClsV cs us) : ∃ (dd : Option Addr) (n : Nat) (sl : Array (Option Value)), s.heap.get? tp = some ⟨.type "tuple", dd, .seq us.toArray n, sl⟩ := by
  obtain ⟨_, its, rv, o, h1, h2, n, h3⟩ := (show ObjOk X.prog X.w H s.heap tp (.tup cs) from I.hok tp _ hT)
  have e3 := ClsV.all k rv
  subst e3
  obtain ⟨oc, od, dt, sl⟩ := o
  simp only at h2 h3
  subst h2 h3
  exact ⟨_, _, _, h1⟩
theorem call_isX1 (K : PySem.W.Frag) (hK : X.K = K) (C : ExcC K D) (hz : L2N.Zn (.ref D) none oe) (hf : ∃ fs, oe.data = .fields fs) (hp : (a, oe) ∈ X.pn) : CallR X (.builtin "isinstance") (rIsX K D a) := by
  subst hK
  intro pins s σ H xs us Q I r h
  obtain ⟨c, u, b, rfl, k, e, q⟩ := h
  obtain ⟨u1, u2, rfl, r1, r2⟩ := vals2 r
  cases r1
  have e2 := k.eq r2
  subst e2
  have J := inst_of (I.pin (a, oe) (List.mem_append.mpr (.inl hp))).1 hz.1 hz.2.1 hf
  exact PySem.W.kia_one (PySem.W.handS_kitx_exc C.hg C.hk C.hs C.hd C.ha C.hn C.ht C.hm) I.kIn J e (fun z => nomatch z) fun tk => ⟨.bl b, H, I.kept (t' := tk) fun _ _ z => z, rfl, q⟩
theorem call_isXT (K : PySem.W.Frag) (hK : X.K = K) (C : ExcC K D) (hz : L2N.Zn (.ref D) none oe) (hf : ∃ fs, oe.data = .fields fs) (hp : (a, oe) ∈ X.pn) : CallR X (.builtin "isinstance") (rIsXT K D a) := by
  subst hK
  intro pins s σ H xs us Q I r h
  obtain ⟨tp, cs, ws, b, rfl, hT, k, e, q⟩ := h
  obtain ⟨u1, u2, rfl, r1, r2⟩ := vals2 r
  cases r1
  cases (show u2 = Value.ref tp from r2)
  obtain ⟨dd, n, sl, h1⟩ := tup_at I hT k
  have J := inst_of (I.pin (a, oe) (List.mem_append.mpr (.inl hp))).1 hz.1 hz.2.1 hf
  exact PySem.W.kia_tup (PySem.W.handS_kitx_exc C.hg C.hk C.hs C.hd C.ha C.hn C.ht C.hm) I.kIn J h1 e (fun z => nomatch z) fun tk => ⟨.bl b, H, I.tok tk, rfl, q⟩
/-! .. of a tracked one -/
def rIsV (K : PySem.W.Frag) : List V → Hp → VK → Prop := fun xs H Q => ∃ (a D : Addr) (c : V) (u : Value) (b : Bool), xs = [.ref a, c] ∧ H a = some (ExT (.ref D) a) ∧ ExcC K D ∧ ClsV c u ∧ PySem.W.kitOne K (.ref D) u = some b ∧ Q (.bl b) H
def rIsVT (K : PySem.W.Frag) : List V → Hp → VK → Prop := fun xs H Q => ∃ (a D tp : Addr) (cs : List V) (us : List Value) (b : Bool), xs = [.ref a, .ref tp] ∧ H a = some (ExT (.ref D) a) ∧ ExcC K D ∧ H tp = some (.tup cs) ∧ Paired ClsV cs us ∧ PySem.W.kitAny K (.ref D) us = some b ∧ Q (.bl b) H
theorem call_isV (K : PySem.W.Frag) (hK : X.K = K) : CallR X (.builtin "isinstance") (rIsV K) := by
  subst hK
  intro pins s σ H xs us Q I r h
  obtain ⟨a, D, c, u, b, rfl, ha, C, k, e, q⟩ := h
  obtain ⟨u1, u2, rfl, r1, r2⟩ := vals2 r
  cases r1
  have e2 := k.eq r2
  subst e2
  obtain ⟨⟨oe, vs, he, ⟨z1, z2⟩, hv⟩, _, _⟩ := I.hok a _ ha
  exact PySem.W.kia_one (PySem.W.handS_kitx_exc C.hg C.hk C.hs C.hd C.ha C.hn C.ht C.hm) I.kIn (inst_of he z1 z2 ⟨vs, hv⟩) e (fun z => nomatch z) fun tk => ⟨.bl b, H, I.kept (t' := tk) fun _ _ z => z, rfl, q⟩
theorem call_isVT (K : PySem.W.Frag) (hK : X.K = K) : CallR X (.builtin "isinstance") (rIsVT K) := by
  subst hK
  intro pins s σ H xs us Q I r h
  obtain ⟨a, D, tp, cs, ws, b, rfl, ha, C, hT, k, e, q⟩ := h
  obtain ⟨u1, u2, rfl, r1, r2⟩ := vals2 r
  cases r1
  cases (show u2 = Value.ref tp from r2)
  obtain ⟨dd, n, sl, h1⟩ := tup_at I hT k
  obtain ⟨⟨oe, vs, he, ⟨z1, z2⟩, hv⟩, _, _⟩ := I.hok a _ ha
  exact PySem.W.kia_tup (PySem.W.handS_kitx_exc C.hg C.hk C.hs C.hd C.ha C.hn C.ht C.hm) I.kIn (inst_of he z1 z2 ⟨vs, hv⟩) h1 e (fun z => nomatch z) fun tk => ⟨.bl b, H, I.tok tk, rfl, q⟩
end
/-- an exception as a value -/
def ppE (D : Addr) : PP := fun v F _ => ∃ a, v = .ref a ∧ F a = some (ExT (.ref D) a)
def tCs : List V → TA
  | [] => tNil
  | c :: cs => tCons (tC c) (tCs cs)
theorem tCs_go : ∀ {cs : List V} {σ : L2.St} {H : Hp} {Q : List V → Hp → Prop}, Q cs H → tCs cs σ H Q
  | [], _, _, _, q => q
  | c :: cs, σ, H, Q, q => tCs_go (cs := cs) (Q := fun xs H2 => Q (c :: xs) H2) q
section
variable {E : Ec} {Γ : List Cell} {i : Nat} {a D : Addr} {c : V} {u : Value} {b : Bool} {te : TE} {cx : RC} {cs : List V} {us : List Value}
theorem is_slot {v : V} {σ : L2.St} {H : Hp} {R : Asr} (h : Γ[i]? = some (cIs v)) (t : Top (sep (base E σ Γ) R) H) : σ[i]? = some (some v) := t.fact fun F o s ⟨_, _, _, _, _, ⟨_, _, _, _, _, x, _⟩, _⟩ => by
  obtain ⟨y, ey, hy⟩ := sl_get h x
  have e1 : y = some v := hy
  rw [ey, e1]
theorem top_bl {σ : L2.St} {H : Hp} {R : Asr} (b : Bool) (t : Top (sep (base E σ Γ) R) H) : Top (sep (base E σ Γ) (sep (vA (.bool b) (.bl b)) R)) H :=
  (t.addV (v := .bl b) (d := .bool b) fun _ _ _ _ => .bl b).ent ((Ent.assoc'.trans (Ent.sepL Ent.comm)).trans Ent.assoc)
theorem ev_isX (h : Γ[i]? = some (cIs (.ref a))) (k : ClsV c u) (hk : PySem.W.kitOne E.K (.ref D) u = some b) : EvP E (tCB (rIsX E.K D a) (tCons (tVar i) (tCons (tC c) tNil))) Γ (rV (.bool b)) := fun σ H R Q t q =>
  ⟨.ref a, is_slot h t, c, u, b, rfl, k, hk, q (.bl b) H (top_bl b t)⟩
theorem ev_isXT (h : Γ[i]? = some (cIs (.ref a))) (k : Paired ClsV cs us) (hk : PySem.W.kitAny E.K (.ref D) us = some b) (hl : cs.length ≤ 1000) : EvP E (tCB (rIsXT E.K D a) (tCons (tVar i) (tCons (tTup (tCs cs)) tNil))) Γ (rV (.bool b)) := fun σ H R Q t q =>
  ⟨.ref a, is_slot h t, tCs_go ⟨Nat.le_trans hl (by decide), fun p hp => ⟨p, cs, us, b, rfl, upd_same, k, hk, q (.bl b) _ (top_bl b (t.grow hp))⟩⟩⟩
theorem ev_isE (he : EvP E te Γ cx) (hp : PArg E Γ K0 cx (ppE D)) (C : ExcC E.K D) (k : ClsV c u) (hk : PySem.W.kitOne E.K (.ref D) u = some b) : EvP E (tCB (rIsV E.K) (tCons te (tCons (tC c) tNil))) Γ (rV (.bool b)) := fun σ H R Q t q =>
  he σ H R _ t fun v H1 t1 => by
    obtain ⟨a, rfl, ha⟩ : ∃ a, v = .ref a ∧ H1 a = some (ExT (.ref D) a) := t1.fact fun F o s ⟨o1, o2, h1, h2, d, x, y⟩ => by
      obtain ⟨o3, o4, h3, h4, e, z, _⟩ := y
      obtain ⟨a, e1, e2⟩ := hp σ v F H1 o trivial s ⟨o1, o3, h1, fun p w => h2 p (h3 p w), fun p w w' => d p w (h3 p w'), x, z⟩
      exact ⟨a, e1, s _ _ e2⟩
    exact ⟨a, D, c, u, b, rfl, ha, C, k, hk, q (.bl b) H1 (top_bl b (t1.ent (Ent.sepR Ent.right)))⟩
theorem ev_isET (he : EvP E te Γ cx) (hp : PArg E Γ K0 cx (ppE D)) (C : ExcC E.K D) (k : Paired ClsV cs us) (hk : PySem.W.kitAny E.K (.ref D) us = some b) (hl : cs.length ≤ 1000) : EvP E (tCB (rIsVT E.K) (tCons te (tCons (tTup (tCs cs)) tNil))) Γ (rV (.bool b)) := fun σ H R Q t q =>
  he σ H R _ t fun v H1 t1 => by
    obtain ⟨a, rfl, ha⟩ : ∃ a, v = .ref a ∧ H1 a = some (ExT (.ref D) a) := t1.fact fun F o s ⟨o1, o2, h1, h2, d, x, y⟩ => by
      obtain ⟨o3, o4, h3, h4, e, z, _⟩ := y
      obtain ⟨a, e1, e2⟩ := hp σ v F H1 o trivial s ⟨o1, o3, h1, fun p w => h2 p (h3 p w), fun p w w' => d p w (h3 p w'), x, z⟩
      exact ⟨a, e1, s _ _ e2⟩
    refine tCs_go ⟨Nat.le_trans hl (by decide), fun p hp => ⟨a, D, p, cs, us, b, rfl, ?_, C, upd_same, k, hk, q (.bl b) _ (top_bl b ((t1.ent (Ent.sepR Ent.right)).grow hp))⟩⟩
    rw [upd_ne (fun z => by rw [z, hp] at ha; cases ha)]
    exact ha
/-! ### a call that nothing leaves by an exception -/
theorem evx_call {α β : Type} {tr : TA} {cs : List RC} {ps : α → List PP} {m : α → Res β} {cb : β → V → Asr} (x : α) (h : EvAP E tr Γ cs) (hp : Pars E Γ K0 cs (ps x)) : EvJ E (tCallS (Sp0 E.ec ps m cb) (fun _ => E0) tr) Γ (noErr (m x)) (fun _ => Γ) (fun b _ => cb b) := fun σ H R Q t q =>
  h σ H R _ t fun vs H1 t1 => by
    refine ⟨x, _, t1, fun F H o s z => hp σ vs F H o trivial s (Ent.sepR Ent.left F H o s z), ?_⟩
    cases e : m x with
    | ok b =>
      rw [e] at q
      exact fun v H' t' => q v H' (t'.ent (Ent.assoc.trans (Ent.sepR ((Ent.sepL Ent.right).trans Ent.comm))))
    | err k =>
      rw [e] at q
      exact (show False from q).elim
    | bad =>
      rw [e] at q
      exact (show False from q).elim
end
/-! ### raise, try -/
theorem ps_raiseN {X : Cx} {C : Addr} {W : WX} {x m : Str} {j : Nat} {p p2 pos pos2 : Pos} (hc : X.calm = true) (tk : L2N.Takes X W) (R : ExcR X.K C) (hg : Gl X x) (gC : X.mg x = some (.ref C)) (hdb : (x == ("__debug__" : Str)) = false := by decide) :
    PS X (.Raise (some (.Call (.Name x p) [.Constant (.str m) j p2] [] pos)) none pos2) (tRaise C W) := L2N.ps_raise hc tk (L2N.pmk_own PySem.F.excBase_ValueError R.new gC R.kp (raises_own R.sb R.ty) hg hdb)
theorem ps_tryX {X : Cx} {x nm : Str} {c : Value} {i n : Nat} {ec : Nat → Value} {body suite : List Stmt} {b₀ : Stmt} {np pos pos' : Pos} {tb : WX → TS} {t : Addr → Nat → TS} {Wout : WX} (hs : X.stack = X.env :: X.outer) (hf : X.env.frame = some X.env.locals) (hN : X.N.Nodup) (hi : X.N[i]? = some nm) (hln : X.env.kindOf nm = some .local) (hc : Names X x c) (tk : L2N.Takes X Wout)
    (hb : ∀ (W : WX) (pn : List (Addr × Obj)) (xe : Value → Shared → Prop), L2N.Takes (X.tr pn xe) W → PassesOwn (model X.prog X.w) X.A X.env xe → PSs (X.tr pn xe) body (tb W))
    (hsu : ∀ (a : Addr) (oe : Obj) (k : Nat) (pn : List (Addr × Obj)), k < n → L2N.Zn (ec k) none oe → (∃ vs, oe.data = .fields vs) → PSs (X.suite a ((a, oe) :: pn)) (b₀ :: suite) (t a k)) :
    PS X (.Try body [.ExceptHandler (some (.Name x np)) (some nm) (b₀ :: suite) pos'] [] [] pos) (tTry X.K ec n c i tb t Wout) :=
  L2N.ps_try_as (ts := fun a cls d D σ H => ∃ k, (k < n ∧ cls = ec k ∧ d = none) ∧ t a k D σ H) hs hf hN hi hln hc tk hb fun a oe cls d pn hz hd => ⟨fun pins s σ H D I ⟨k, ⟨hk, e1, e2⟩, z⟩ => by
    subst e1 e2
    exact (hsu a oe k pn hk hz hd).run pins s σ H D I z⟩
/-- X(e) as a value, tracked -/
theorem pe_excT {X : Cx} {C : Addr} {x : Str} {e : Expr} {ta : TE} {p pos : Pos} (R : ExcR X.K C) (gC : X.mg x = some (.ref C)) (hg : Gl X x)
    (he : PE X e ta) (hs : starEach [e] X.env = (false, eval e X.env) :: starEach [] X.env := by rfl) (hdb : (x == ("__debug__" : Str)) = false := by decide) :
    PE X (.Call (.Name x p) [e] [] pos) (fun σ H Q => ta σ H fun _ H1 => ∀ a, H1 a = none → Q (.ref a) (upd H1 a (ExT (.ref C) a))) := by
  refine ⟨fun pins s σ H Q I h => ?_⟩
  refine wpAny_Call_Name_kw (ld_glob I hg gC ?_ hdb)
  refine PySem.W.callWith_K (h₀ := X.base) I.ok.mod.kin R.kp ?_ hs (by rfl)
  rw [hs]
  show wpAny _ _ (spliced ((false, eval e X.env) :: backTo pos (starEach [] X.env))) _ _ s
  refine Calls.spliced_cons (thn (he.run pins s σ H _ I h) fun u s1 ⟨v, H1, I1, r1, q1⟩ => ?_)
  refine Calls.spliced_nil ⟨I1.kIn, ?_⟩
  show wpAny _ _ (call (.ref C) [u]) _ _ _
  obtain ⟨bm, N, nm, qn, bs, hdct, sn, sub, ab, col, dd, k0, k1, k2, k3, k5, mN, hC, hN, hni, T⟩ := exc_obj I1.kIn R.new
  refine wpAny_call_exc_subT PySem.F.excBase_ValueError T hC hN hni (fun h' a hm => ?_) (by show 1 ≤ sizeLine; rw [sizeLine_eq]; omega)
  have hn : H1 a = none := I1.hok.gone hm.new
  obtain ⟨t, ht, _, _⟩ := hm.there
  exact ⟨.ref a, upd H1 a (ExT (.ref C) a), I1.laidN hm.keeps hm.new hn (exT_ok ht ⟨rfl, rfl⟩ rfl), rfl, q1 a hn⟩
theorem wp_needW {α : Type} {c : Prop} [Decidable c] {m : Res α} {Q : α → Prop} {Xn : Nat → Prop} (h : WP (need c m) Q Xn) : c ∧ WP m Q Xn := by
  obtain ⟨h⟩ := h
  obtain ⟨a, b⟩ := wp_need h
  exact ⟨a, ⟨b⟩⟩
theorem kitAny_or {K : PySem.W.Frag} {t c : Value} {cs : List Value} {b1 b2 : Bool} (h : PySem.W.kitOne K t c = some b1) (r : PySem.W.kitAny K t cs = some b2) : PySem.W.kitAny K t (c :: cs) = some (b1 || b2) :=
  kitAny_cons h (fun e => by rw [e, Bool.false_or]; exact r) fun e => by rw [e, Bool.true_or]
end Lc
/-! LcXc: exceptions as values, lists of them -/
namespace Lc
open PySem L2 Res PySem.Spec PyProof.Rows
def xA (D : Addr) (v : V) : Asr := ⟨fun F _ _ => ∃ a, v = .ref a ∧ F a = some (ExT (.ref D) a), fun s _ ⟨a, e, h⟩ => ⟨a, e, s _ _ h⟩, fun _ h => h⟩
def IsX (F : Hp) (w : V) (D : Addr) : Prop := ∃ a, w = .ref a ∧ F a = some (ExT (.ref D) a)
theorem IsX.mono {F G : Hp} {w : V} {D : Addr} (s : Same F G) (h : IsX F w D) : IsX G w D := by
  obtain ⟨a, e, h⟩ := h
  exact ⟨a, e, s _ _ h⟩
inductive XAll (F : Hp) : List V → List Addr → Prop
  | nil : XAll F [] []
  | cons {w : V} {D : Addr} {vs : List V} {Ds : List Addr} : IsX F w D → XAll F vs Ds → XAll F (w :: vs) (D :: Ds)
theorem XAll.mono {F G : Hp} (s : Same F G) : ∀ {vs : List V} {Ds : List Addr}, XAll F vs Ds → XAll G vs Ds
  | _, _, .nil => .nil
  | _, _, .cons h r => .cons (h.mono s) (r.mono s)
theorem XAll.len {F : Hp} : ∀ {vs : List V} {Ds : List Addr}, XAll F vs Ds → vs.length = Ds.length
  | _, _, .nil => rfl
  | _, _, .cons _ r => by rw [List.length_cons, List.length_cons, r.len]
theorem XAll.append {F : Hp} : ∀ {vs ws : List V} {Ds Es : List Addr}, XAll F vs Ds → XAll F ws Es → XAll F (vs ++ ws) (Ds ++ Es)
  | _, _, _, _, .nil, s => s
  | _, _, _, _, .cons h r, s => .cons h (r.append s)
theorem XAll.get {F : Hp} : ∀ {vs : List V} {Ds : List Addr} {i : Nat} {D : Addr}, XAll F vs Ds → Ds[i]? = some D → ∃ v, vs[i]? = some v ∧ IsX F v D
  | _, _, _, _, .nil, e => by simp at e
  | _, _, 0, D, .cons h _, e => by
    simp at e
    exact ⟨_, rfl, e ▸ h⟩
  | _, _, i + 1, D, .cons _ r, e => by
    obtain ⟨v, h1, h2⟩ := r.get (i := i) (D := D) (by simpa using e)
    exact ⟨v, by simpa using h1, h2⟩
theorem XAll.at {F : Hp} {vs : List V} {Ds : List Addr} {i : Int} {D : Addr} (r : XAll F vs Ds) (h : atI Ds i = some D) : ∃ v, atI vs i = some v ∧ IsX F v D := by
  unfold atI at h ⊢
  rw [r.len]
  cases e : ixN Ds.length i with
  | none =>
    rw [e] at h
    cases h
  | some j =>
    rw [e] at h
    exact r.get h
def xsA (Ds : List Addr) (v : V) : Asr := ⟨fun F _ _ => ∃ p vs, v = .ref p ∧ F p = some (.lst vs) ∧ XAll F vs Ds, fun s _ ⟨p, vs, e, h, r⟩ => ⟨p, vs, e, s _ _ h, r.mono s⟩, fun _ h => h⟩
def rX (D : Addr) : RC := fun _ v => xA D v
def rXs (Ds : List Addr) : RC := fun _ v => xsA Ds v
def cXs (Ds : List Addr) : Cell := fun o => match o with | some v => xsA Ds v | none => bot
section
variable {E : Ec} {Γ Γ' : List Cell} {i : Nat} {te : TE} {tr : TA} {cx : RC} {D : Addr} {Ds Es : List Addr}
theorem sto_xs : Sto (rXs Ds) (cXs Ds) := fun _ _ _ _ t => t
theorem pa_x {Kn : L2.St → Prop} : PArg E Γ Kn (rX D) (ppE D) := fun _ _ _ _ _ _ _ ⟨_, _, _, _, _, _, x⟩ => x
theorem ev_varX (h : Γ[i]? = some (cXs Ds)) : EvP E (tVar i) Γ (rXs Ds) := fun σ H R Q t q => by
  obtain ⟨F, o, s, kk, o1, o2, h1, h2, e, ⟨o3, o4, h3, h4, e', a, b⟩, b2⟩ := t
  obtain ⟨x, ex, hx⟩ := sl_get h a
  cases x with
  | none => exact (show False from hx).elim
  | some v => exact ⟨v, ex, q v H ⟨F, o, s, kk, o1, o2, h1, h2, e, ⟨o3, o4, h3, h4, e', a, b⟩, sep_pers (fun _ => hx) b2⟩⟩
theorem top_new {p : Addr} {ob : HO} {A : Asr} {H : Hp} {B : Asr} (t : Top A H) (hp : H p = none) (r : ∀ F o, Same F H → F p = none → A.P F H o → ∀ H' o', B.P (upd F p ob) H' o') : Top (sep B A) (upd H p ob) := by
  obtain ⟨F, o, s, k, a⟩ := t
  have ne : ∀ q, o q → q ≠ p := fun q hq e => (k q hq).2 (e ▸ hp)
  have fp : F p = none := by
    cases e : F p with
    | none => rfl
    | some u => rw [s p u e] at hp; cases hp
  have sF : Same F (upd F p ob) := fun b u e => by
    rw [upd_ne (fun z => by rw [z, fp] at e; cases e)]
    exact e
  refine ⟨upd F p ob, o, fun b u e => ?_, fun q hq => ?_, sep_pers (fun _ => r F o s fp a _ _) (A.st sF (fun q hq => upd_ne (ne q hq)) a)⟩
  · by_cases hb : b = p
    · subst hb
      rw [upd_same] at e ⊢
      exact e
    · rw [upd_ne hb] at e ⊢
      exact s b u e
  · rw [upd_ne (ne q hq), upd_ne (ne q hq)]
    exact k q hq
/-- X(e) -/
theorem ev_exc {C : Addr} (h : EvP E te Γ cx) : EvP E (fun σ H Q => te σ H fun _ H1 => ∀ a, H1 a = none → Q (.ref a) (upd H1 a (ExT (.ref C) a))) Γ (rX C) := fun σ H R Q t q =>
  h σ H R _ t fun v H1 t1 a ha => q (.ref a) _ ((top_new (B := xA C (.ref a)) (t1.ent (Ent.sepR Ent.right)) ha fun F o s fp z H' o' => ⟨a, rfl, upd_same⟩).ent frontE)
theorem csX {F H : Hp} {σ : L2.St} : ∀ {vs : List V} {Ds : List Addr} {o : Addr → Prop}, (csA (Ds.map rX) σ vs).P F H o → XAll F vs Ds
  | [], [], _, _ => .nil
  | [], _ :: _, _, h => (show False from h).elim
  | _ :: _, [], _, h => (show False from h).elim
  | v :: vs, D :: Ds, _, ⟨_, _, _, _, _, a, b⟩ => .cons a (csX b)
theorem evp_lstX (h : EvAP E tr Γ (Ds.map rX)) (hl : Ds.length ≤ 1000 := by exact Nat.le_of_ble_eq_true rfl) : EvP E (tLst tr) Γ (rXs Ds) := fun σ H R Q t q =>
  h σ H R _ t fun vs H1 t1 => by
    have ln : vs.length = Ds.length := t1.fact fun F o s ⟨_, _, _, _, _, _, ⟨_, _, _, _, _, z, _⟩⟩ => (csX z).len
    refine ⟨by rw [ln]; exact Nat.le_trans hl (by decide), fun p hp => q (.ref p) _ (((top_new (B := xsA Ds (.ref p)) t1 hp fun F o s fp z H' o' => ?_).ent frontE).ent (Ent.sepR (Ent.sepR Ent.right)))⟩
    obtain ⟨_, _, _, _, _, _, ⟨_, _, _, _, _, z, _⟩⟩ := z
    exact ⟨p, vs, rfl, upd_same, (csX z).mono fun b u e => by
      rw [upd_ne (fun z => by rw [z, fp] at e; cases e)]
      exact e⟩
theorem r2_catX (hl : Ds.length + Es.length ≤ 1000) : R2P E rCat (rXs Ds) (rXs Es) Γ (rXs (Ds ++ Es)) := fun σ H R Q x y t q => by
  have t0 := t
  obtain ⟨F, o, s, k, ⟨_, _, _, _, _, _, ⟨_, _, _, _, _, ⟨a, vs, e1, ha, ra⟩, ⟨_, _, _, _, _, ⟨b, ws, e2, hb, rb⟩, _⟩⟩⟩⟩ := t
  subst e1 e2
  have la := ra.len
  have lb := rb.len
  refine ⟨a, b, vs, ws, rfl, rfl, s _ _ ha, s _ _ hb, Nat.le_trans (by omega) (show 1000 ≤ sizeLine by decide), fun p hp => q (.ref p) _ (((top_new (B := xsA (Ds ++ Es) (.ref p)) t0 hp fun F' o' s' fp z H' o'' => ?_).ent frontE).ent (Ent.sepR (Ent.sepR (Ent.right.trans Ent.right))))⟩
  obtain ⟨_, _, _, _, _, _, ⟨_, _, _, _, _, ⟨a', vs', e1, ha', ra'⟩, ⟨_, _, _, _, _, ⟨b', ws', e2, hb', rb'⟩, _⟩⟩⟩ := z
  cases e1
  cases e2
  have ev : vs' = vs := by
    have h1 := s' _ _ ha'
    rw [s _ _ ha] at h1
    cases h1
    rfl
  have ew : ws' = ws := by
    have h1 := s' _ _ hb'
    rw [s _ _ hb] at h1
    cases h1
    rfl
  subst ev ew
  exact ⟨p, _, rfl, upd_same, (ra'.append rb').mono fun b u e => by
    rw [upd_ne (fun z => by rw [z, fp] at e; cases e)]
    exact e⟩
/-- xs[i], the class told by its number -/
theorem r2_ixX {ea : Nat → Addr} {ks : List Nat} {i : Int} : R2J E (rIxL E.K) (rXs (ks.map ea)) (rV (.int i)) Γ (getI ks i) (fun _ => Γ) fun k => rX (ea k) := fun σ H R Q x y t q => by
  unfold getI at q
  cases e : atI ks i with
  | none =>
    rw [e] at q
    exact (show False from q).elim
  | some a =>
    rw [e] at q
    have q : ∀ v H', Top (sep (base E σ Γ) (sep (xA (ea a) v) R)) H' → Q v H' := q
    have ey := int2 t
    have em : atI (ks.map ea) i = some (ea a) := by rw [atI_map, e]; rfl
    obtain ⟨F, o, s, k, p⟩ := t
    have p0 := p
    obtain ⟨_, _, _, _, _, _, ⟨_, _, _, _, _, ⟨a0, vs, rfl, hs, r⟩, _⟩⟩ := p
    obtain ⟨v, ev, rv⟩ := r.at em
    refine ⟨a0, vs, i, v, rfl, ey, SqL.of (s _ _ hs), ev, q v H ⟨F, o, s, k, ?_⟩⟩
    exact ((Ent.assoc'.trans (Ent.sepL Ent.comm)).trans Ent.assoc) F H o s (sep_pers (fun _ => rv) (Ent.sepR (Ent.right.trans Ent.right) F H o s p0))
/-- isinstance of such a value, computed -/
theorem ev_isEJ {α : Type} {m : Res α} {ea : Nat → Addr} {n : Nat} {g : α → Nat} {b : Nat → Bool} {c : V} {u : Value} (he : EvJ E te Γ m (fun _ => Γ) fun a => rX (ea (g a))) (C : ∀ k, k < n → ExcC E.K (ea k)) (k : ClsV c u) (hk : ∀ k, k < n → PySem.W.kitOne E.K (.ref (ea k)) u = some (b k)) :
    EvJ E (tCB (rIsV E.K) (tCons te (tCons (tC c) tNil))) Γ (m.bind fun a => need (g a < n) (.ok (b (g a)))) (fun _ => Γ) fun b => rV (.bool b) := fun σ H R Q t q =>
  he σ H R _ t (wp_mono (wp_bind.mp q) (fun a _ q v H1 t1 => by
    obtain ⟨hn, q⟩ := wp_need q
    obtain ⟨a', rfl, ha⟩ : ∃ a', v = .ref a' ∧ H1 a' = some (ExT (.ref (ea (g a))) a') := t1.fact fun F o s ⟨_, _, _, _, _, _, ⟨_, _, _, _, _, ⟨a', e1, e2⟩, _⟩⟩ => ⟨a', e1, s _ _ e2⟩
    exact ⟨a', _, c, u, _, rfl, ha, C _ hn, k, hk _ hn, q (.bl _) H1 (top_bl _ (t1.ent (Ent.sepR Ent.right)))⟩) fun _ x => x)
theorem ev_isEP {ea : Nat → Addr} {k0 : Nat} {b : Bool} {c : V} {u : Value} (he : EvP E te Γ (rX (ea k0))) (C : ExcC E.K (ea k0)) (k : ClsV c u) (hk : PySem.W.kitOne E.K (.ref (ea k0)) u = some b) : EvP E (tCB (rIsV E.K) (tCons te (tCons (tC c) tNil))) Γ (rV (.bool b)) :=
  ev_isE he pa_x C k hk
end
end Lc
/-! LcXs: strings: s[i], s * n -/
namespace Lc
open PySem L2 Res PySem.Spec PyProof.Rows
def MulS (x : Str) (n : Int) : Prop := x.length ≤ 1000 ∧ -10000 ≤ n ∧ n ≤ 10000
instance (x : Str) (n : Int) : Decidable (MulS x n) := by unfold MulS; infer_instance
theorem MulS.ok {x : Str} {n : Int} (h : MulS x n) : MulOk x n := by
  obtain ⟨h1, h2, h3⟩ := h
  have hm : x.length * n.toNat ≤ 10000000 := by
    have : x.length * n.toNat ≤ 1000 * 10000 := Nat.mul_le_mul h1 (by omega)
    omega
  refine ⟨by rw [decide_eq_false (by omega), decide_eq_false (by omega)]; rfl, fun q _ => ?_, fun q _ => ?_⟩
  · intro z
    have hd : 0 < n := by omega
    have h5 : (2 ^ 63 - 1 : Int) / n ≥ 1000 := by
      have : (1000 : Int) ≤ (2 ^ 63 - 1) / n := Int.le_ediv_of_mul_le hd (by omega)
      exact this
    omega
  · unfold Builtin.Str.tooLong
    refine decide_eq_false ?_
    have : (sizeLine : Nat) = 16777216 := by decide
    omega
def rMulS : R2 := fun x y H Q => ∃ s n, x = .str s ∧ y = .int n ∧ MulS s n ∧ Q (.str (Txt.mul s n)) H
theorem op_mulS {X : Cx} : OpR X (binaryOp .Mult) rMulS := by
  intro pins s σ H x y v u Q I rx ry h
  obtain ⟨z, n, rfl, rfl, hm, q⟩ := h
  obtain ⟨t, rfl⟩ := rx
  obtain ⟨t', rfl⟩ := ry
  exact SB.mul hm.ok fun t' k => ⟨.str _, H, I.tok _, ⟨_, rfl⟩, q⟩
def mulSR (x : Str) (n : Int) : Res Str := need (MulS x n) (.ok (Txt.mul x n))
def ixSR (x : Str) (i : Int) : Res Str := match atI x.cps.toList i with
  | some c => need (x.length ≤ lim) (.ok ⟨#[c]⟩)
  | none => .bad
section
variable {E : Ec} {Γ : List Cell}
theorem r2_mulS {x : Str} {n : Int} : R2J E rMulS (rV (.str x)) (rV (.int n)) Γ (mulSR x n) (fun _ => Γ) fun a => rV (.str a) := fun σ H R Q v w t q => by
  obtain ⟨hm, q⟩ := wp_need q
  have e1 := str1 t
  have e2 := int2 t
  subst e1
  subst e2
  exact ⟨x, n, rfl, rfl, hm, q _ H (res2 t fun F => .str _)⟩
theorem r2_ixS {x : Str} {i : Int} : R2J E rIxS (rV (.str x)) (rV (.int i)) Γ (ixSR x i) (fun _ => Γ) fun a => rV (.str a) := fun σ H R Q v w t q => by
  unfold ixSR at q
  have e1 := str1 t
  have e2 := int2 t
  subst e1
  subst e2
  cases e : atI x.cps.toList i with
  | none =>
    rw [e] at q
    exact (show False from q).elim
  | some c =>
    rw [e] at q
    obtain ⟨hm, q⟩ := wp_need q
    exact ⟨x, i, c, rfl, rfl, lim_le hm, e, q _ H (res2 t fun F => .str _)⟩
end
end Lc
/-! Ma: plain facts on what the mirrors are made of -/
namespace Lc
open PySem L2
/-- m ends well, with P -/
def Ok {α : Type} (m : Res α) (P : α → Prop) : Prop := ∃ a, m = .ok a ∧ P a
theorem Ok.bind {α β : Type} {m : Res α} {f : α → Res β} {P : α → Prop} {Q : β → Prop} (h : Ok m P) (k : ∀ a, P a → Ok (f a) Q) : Ok (m.bind f) Q := by
  obtain ⟨a, rfl, p⟩ := h
  exact k a p
theorem Ok.assoc {α β γ : Type} {m : Res α} {f : α → Res β} {g : β → Res γ} {P : γ → Prop} (h : Ok (m.bind fun a => (f a).bind g) P) : Ok ((m.bind f).bind g) P := by
  rw [Res.bind_assoc]
  exact h
theorem Ok.okb {α β : Type} {a : α} {f : α → Res β} {P : β → Prop} (h : Ok (f a) P) : Ok ((Res.ok a).bind f) P := h
theorem Ok.pure {α : Type} {a : α} {P : α → Prop} (h : P a) : Ok (.ok a) P := ⟨a, rfl, h⟩
theorem Ok.imp {α : Type} {m : Res α} {P Q : α → Prop} (h : Ok m P) (k : ∀ a, P a → Q a) : Ok m Q := by
  obtain ⟨a, e, p⟩ := h
  exact ⟨a, e, k a p⟩
theorem Ok.noErr {α : Type} {m : Res α} {P : α → Prop} (h : Ok m P) : Ok (noErr m) P := by
  obtain ⟨a, rfl, p⟩ := h
  exact ⟨a, rfl, p⟩
theorem Ok.need {α : Type} {c : Prop} [Decidable c] {m : Res α} {P : α → Prop} (hc : c) (h : Ok m P) : Ok (Res.need c m) P := by
  rw [Res.need_of hc]
  exact h
theorem Ok.of_eq {α : Type} {m : Res α} {a : α} (h : m = .ok a) : Ok m fun b => b = a := ⟨a, h, rfl⟩
theorem Ok.eq {α : Type} {m : Res α} {a : α} (h : Ok m fun b => b = a) : m = .ok a := by
  obtain ⟨b, e, rfl⟩ := h
  exact e
theorem getI_pos {α : Type} {xs : List α} {i : Int} (h0 : 0 ≤ i) (h1 : i < xs.length) : getI xs i = .ok (xs[i.toNat]'(by omega)) := by
  refine getI_some ?_
  unfold atI ixN
  rw [if_pos h0, if_pos (by omega)]
  simp
theorem getI_nat {α : Type} {xs : List α} {i : Nat} {a : α} (h : xs[i]? = some a) : getI xs (i : Int) = .ok a := by
  have hl : i < xs.length := (List.getElem?_eq_some_iff.mp h).1
  rw [getI_pos (Int.natCast_nonneg i) (by omega)]
  have e : xs[(i : Int).toNat]'(by omega) = a := by
    have := (List.getElem?_eq_some_iff.mp h).2
    simpa using this
  rw [e]
theorem getI_ok {α : Type} {xs : List α} {i : Int} (h0 : 0 ≤ i) (h1 : i < xs.length) : Ok (getI xs i) fun a => a ∈ xs := ⟨_, getI_pos h0 h1, List.getElem_mem _⟩
theorem getI_last {α : Type} {xs : List α} (h : xs ≠ []) : Ok (getI xs (-1)) fun a => a ∈ xs := by
  have hl : 0 < xs.length := List.length_pos_iff.mpr h
  refine ⟨xs[xs.length - 1]'(by omega), getI_some ?_, List.getElem_mem _⟩
  unfold atI ixN
  rw [if_neg (by omega), if_pos (by omega)]
  have e : ((-1 : Int) + (xs.length : Int)).toNat = xs.length - 1 := by omega
  simp only [Option.bind_some]
  rw [e]
  simp
theorem setR_pos {α : Type} {xs : List α} {i : Int} {a : α} (h0 : 0 ≤ i) (h1 : i < xs.length) : setR xs i a = .ok (xs.set i.toNat a) := by
  unfold setR ixN
  rw [if_pos h0, if_pos (by omega)]
theorem foldR_ok {α σ : Type} {f : σ → α → Res σ} (I : Nat → σ → Prop) : ∀ (xs : List α) (s : σ) (n : Nat), I n s → (∀ i s a, a ∈ xs → n ≤ i → i < n + xs.length → I i s → Ok (f s a) (I (i + 1))) → Ok (foldR xs s f) (I (n + xs.length))
  | [], s, n, h, _ => ⟨s, rfl, h⟩
  | a :: l, s, n, h, k => by
    unfold foldR
    refine Ok.bind (k n s a List.mem_cons_self (Nat.le_refl n) (by simp) h) fun s' h' => ?_
    have e : n + (a :: l).length = (n + 1) + l.length := by simp; omega
    rw [e]
    exact foldR_ok I l s' (n + 1) h' fun i s b hb h1 h2 => k i s b (List.mem_cons_of_mem _ hb) (by omega) (by rw [List.length_cons]; omega)
/-- an invariant at every step of a walk over a range -/
theorem foldR_range {σ : Type} {f : σ → Int → Res σ} (I : Int → σ → Prop) (b : Int) (hs : ∀ i s, i < b → I i s → Ok (f s i) (I (i + 1))) : ∀ (n : Nat) (a : Int) (s : σ), (b - a).toNat = n → a ≤ b → I a s → Ok (foldR (rangeL a b) s f) (I b)
  | 0, a, s, hn, hab, h => by
    have e : a = b := by omega
    subst e
    have : rangeL a a = [] := by unfold rangeL; simp
    rw [this]
    exact ⟨s, rfl, h⟩
  | n + 1, a, s, hn, hab, h => by
    have e : rangeL a b = a :: rangeL (a + 1) b := by
      unfold rangeL
      have : (b - a).toNat = (b - (a + 1)).toNat + 1 := by omega
      rw [this, List.range_succ_eq_map]
      simp [List.map_map, Function.comp_def]
      intro k _
      omega
    rw [e]
    unfold foldR
    exact Ok.bind (hs a s (by omega) h) fun s' h' => foldR_range I b hs n (a + 1) s' (by omega) (by omega) h'
theorem compR_ok {α β τ : Type} {f : τ → α → Res (Option β × τ)} (I : Nat → List β → τ → Prop) : ∀ (xs : List α) (s : τ) (acc : List β) (n : Nat), I n acc s → acc.length + xs.length ≤ lim →
    (∀ i s acc a, a ∈ xs → n ≤ i → i < n + xs.length → I i acc s → Ok (f s a) fun r => match r.1 with | some b => I (i + 1) (acc ++ [b]) r.2 | none => I (i + 1) acc r.2) →
    Ok (compR xs s acc f) fun r => I (n + xs.length) r.1 r.2
  | [], s, acc, n, h, _, _ => ⟨_, rfl, h⟩
  | a :: l, s, acc, n, h, hl, k => by
    rw [List.length_cons] at hl
    unfold compR
    refine Ok.bind (Ok.noErr (k n s acc a List.mem_cons_self (Nat.le_refl n) (by simp) h)) fun r h' => ?_
    have e : n + (a :: l).length = (n + 1) + l.length := by simp; omega
    rw [e]
    obtain ⟨ob, s'⟩ := r
    cases ob with
    | none => exact compR_ok I l s' acc (n + 1) h' (by omega) fun i s acc b hb h1 h2 => k i s acc b (List.mem_cons_of_mem _ hb) (by omega) (by rw [List.length_cons]; omega)
    | some b => exact Ok.need (by omega) (compR_ok I l s' (acc ++ [b]) (n + 1) h' (by simp; omega) fun i s acc b hb h1 h2 => k i s acc b (List.mem_cons_of_mem _ hb) (by omega) (by rw [List.length_cons]; omega))
theorem forR_ok {α σ ρ : Type} {f : σ → α → Res (Lp σ ρ)} (I : σ → Prop) : ∀ (xs : List α) (s : σ), I s → (∀ s a, a ∈ xs → I s → Ok (f s a) fun r => ∃ s', r = .next s' ∧ I s') → Ok (forR xs s f) fun r => ∃ s', r = .go s' ∧ I s'
  | [], s, h, _ => ⟨_, rfl, s, rfl, h⟩
  | a :: l, s, h, k => by
    unfold forR
    refine Ok.bind (k s a List.mem_cons_self h) fun r ⟨s', e, h'⟩ => ?_
    subst e
    exact forR_ok I l s' h' fun s b hb => k s b (List.mem_cons_of_mem _ hb)
theorem forR_idx {α σ ρ : Type} {f : σ → α → Res (Lp σ ρ)} (I : Nat → σ → Prop) : ∀ (xs : List α) (s : σ) (n : Nat), I n s → (∀ i s a, i < n + xs.length → I i s → Ok (f s a) fun r => ∃ s', r = .next s' ∧ I (i + 1) s') → Ok (forR xs s f) fun r => ∃ s', r = .go s' ∧ I (n + xs.length) s'
  | [], s, n, h, _ => ⟨_, rfl, s, rfl, h⟩
  | a :: l, s, n, h, k => by
    unfold forR
    refine Ok.bind (k n s a (by simp) h) fun r ⟨s', e, h'⟩ => ?_
    subst e
    have e : n + (a :: l).length = (n + 1) + l.length := by simp; omega
    rw [e]
    exact forR_idx I l s' (n + 1) h' fun i s b h1 => k i s b (by rw [List.length_cons]; omega)
theorem sq_ok {τ ρ β : Type} {m : Res (Jn τ ρ)} {k : τ → Res β} {g : ρ → β} {P : τ → Prop} {Q : β → Prop} (h : Ok m fun r => ∃ s', r = .go s' ∧ P s') (hk : ∀ s, P s → Ok (k s) Q) : Ok (Jn.sq m k g) Q := by
  obtain ⟨r, rfl, s, rfl, p⟩ := h
  exact hk s p
theorem rangeR_ok {a b : Int} (h1 : -(2 ^ 62) ≤ a) (h2 : a < 2 ^ 62) (h3 : -(2 ^ 62) ≤ b) (h4 : b < 2 ^ 62) : rangeR a b = .ok (rangeL a b) := Res.need_of ⟨h1, h2, h3, h4⟩
theorem mem_range {a b i : Int} (h : i ∈ rangeL a b) : a ≤ i ∧ i < b := by
  unfold rangeL at h
  simp at h
  obtain ⟨k, h1, rfl⟩ := h
  omega
theorem catR_ok {α : Type} {xs ys : List α} (h : xs.length + ys.length ≤ lim) : catR xs ys = .ok (xs ++ ys) := Res.need_of h
theorem modR_ok {i j : Int} (h : 0 < j) : modR i j = .ok (i % j) := Res.need_of h
theorem log2_lt {n k : Nat} (h : n < 2 ^ k) : n.log2 ≤ k := by
  by_cases h0 : n = 0
  · subst h0
    simp
  · exact Nat.le_of_lt ((Nat.log2_lt h0).mpr h)
theorem divR_ok {i j : Int} (h : 0 < j) (h2 : j < 2 ^ 300) : divR i j = .ok (i / j) := Res.need_of ⟨h, by
  have := log2_lt (n := j.natAbs) (k := 300) (by omega)
  omega⟩
theorem mulA_okL {i j : Int} (h : -(2 ^ 64) < i) (h2 : i < 2 ^ 64) : mulA i j = .ok (i * j) := Res.need_of (.inl (.inl ⟨h, h2⟩))
theorem mulA_okR {i j : Int} (h : -(2 ^ 64) < j) (h2 : j < 2 ^ 64) : mulA i j = .ok (i * j) := Res.need_of (.inl (.inr ⟨h, h2⟩))
theorem cutL_to {α : Type} (xs : List α) {k : Int} (h : 0 ≤ k) : cutL xs none (some k) = xs.take k.toNat := by
  obtain ⟨n, rfl⟩ := Int.eq_ofNat_of_zero_le h
  unfold cutL
  rw [HT.sIx_none, HT.sIx_nat, List.drop_zero, Nat.sub_zero, Int.toNat_natCast]
  by_cases hn : n ≤ xs.length
  · rw [Nat.min_eq_left hn]
  · rw [Nat.min_eq_right (by omega), List.take_of_length_le (Nat.le_refl _), List.take_of_length_le (by omega)]
theorem cutL_from {α : Type} (xs : List α) {k : Int} (h : 0 ≤ k) : cutL xs (some k) none = xs.drop k.toNat := by
  obtain ⟨n, rfl⟩ := Int.eq_ofNat_of_zero_le h
  unfold cutL
  rw [HT.sIx_none, HT.sIx_nat, Int.toNat_natCast]
  by_cases hn : n ≤ xs.length
  · rw [Nat.min_eq_left hn, List.take_of_length_le (by rw [List.length_drop]; exact Nat.le_refl _)]
  · rw [List.drop_of_length_le (by omega), List.drop_of_length_le (by omega)]
    simp
theorem cutL_mid {α : Type} (xs : List α) {i j : Int} (h : 0 ≤ i) (hj : i ≤ j) : cutL xs (some i) (some j) = (xs.drop i.toNat).take (j.toNat - i.toNat) := by
  obtain ⟨n, rfl⟩ := Int.eq_ofNat_of_zero_le h
  obtain ⟨m, rfl⟩ := Int.eq_ofNat_of_zero_le (Int.le_trans h hj)
  unfold cutL
  rw [HT.sIx_nat, HT.sIx_nat, Int.toNat_natCast, Int.toNat_natCast]
  have hnm : n ≤ m := by omega
  by_cases hn : n ≤ xs.length
  · rw [Nat.min_eq_left hn]
    by_cases hm : m ≤ xs.length
    · rw [Nat.min_eq_left hm]
    · rw [Nat.min_eq_right (by omega), List.take_of_length_le (by rw [List.length_drop]; exact Nat.le_refl _), List.take_of_length_le (by rw [List.length_drop]; omega)]
  · rw [Nat.min_eq_right (by omega), Nat.min_eq_right (by omega), List.drop_of_length_le (by omega), List.drop_of_length_le (by omega)]
    simp
theorem cutL_mem {α : Type} {xs : List α} {lo hi : Option Int} {a : α} (h : a ∈ cutL xs lo hi) : a ∈ xs := List.mem_of_mem_drop (List.mem_of_mem_take h)
theorem cutL_len {α : Type} (xs : List α) (lo hi : Option Int) : (cutL xs lo hi).length ≤ xs.length := by
  unfold cutL
  rw [List.length_take, List.length_drop]
  omega
theorem ints_dat (ns : List Int) : ns.map dat = ns.map PyData.int := rfl
end Lc
/-! Ma: what repr asks -/
namespace Lc
open PySem L2
mutual
def smallD : PyData → Bool
  | .none | .bool _ => true
  | .int i => decide (i.natAbs < 2 ^ 400)
  | .str x => decide ((reprText x).length ≤ 400)
  | .list xs | .tuple xs => smallAll xs
  | .dict kvs => kvs.isEmpty
def smallAll : List PyData → Bool
  | [] => true
  | x :: xs => smallD x && smallAll xs
end
mutual
def nodes : PyData → Nat
  | .list xs | .tuple xs => nodesAll xs + 1
  | _ => 1
def nodesAll : List PyData → Nat
  | [] => 0
  | x :: xs => nodes x + nodesAll xs
end
theorem int_log {i : Int} (h : i.natAbs < 2 ^ 400) : i.natAbs.log2 < 401 := by
  have := log2_lt h
  omega
mutual
theorem smallD_show : ∀ {d : PyData}, smallD d = true → d.showable = true
  | .none, _ => by simp only [PyData.showable]
  | .bool _, _ => by simp only [PyData.showable]
  | .int i, h => by
    have h : i.natAbs < 2 ^ 400 := by simpa [smallD] using h
    simp only [PyData.showable, decide_eq_true_eq]
    have := int_log h
    omega
  | .str _, _ => by simp only [PyData.showable]
  | .list xs, h => by
    simp only [PyData.showable]
    exact smallAll_show (by simpa [smallD] using h)
  | .tuple xs, h => by
    simp only [PyData.showable]
    exact smallAll_show (by simpa [smallD] using h)
  | .dict kvs, h => by
    have h : kvs = [] := by simpa [smallD] using h
    subst h
    simp only [PyData.showable, PyData.showableKv]
theorem smallAll_show : ∀ {xs : List PyData}, smallAll xs = true → PyData.showableAll xs = true
  | [], _ => rfl
  | x :: xs, h => by
    have h : smallD x = true ∧ smallAll xs = true := by simpa [smallAll] using h
    simp only [PyData.showableAll, smallD_show h.1, smallAll_show h.2, Bool.and_self]
end
mutual
theorem smallD_len : ∀ {d : PyData}, smallD d = true → d.shown.length + 2 ≤ 410 * nodes d
  | .none, _ => by
    have e : (PyData.shown .none).length = 4 := rfl
    simp only [nodes]
    omega
  | .bool b, _ => by
    have e : (PyData.shown (.bool b)).length ≤ 5 := by cases b <;> decide
    simp only [nodes]
    omega
  | .int i, h => by
    have h : i.natAbs < 2 ^ 400 := by simpa [smallD] using h
    have e := PySem.int_text_length_le (a := i) (k := 401) (by decide) (int_log h)
    rw [PyData.shown_int]
    simp only [nodes]
    have e2 : ((toString i : String) : Str).length = (toString i).length := ofString_length _
    omega
  | .str x, h => by
    have h : (reprText x).length ≤ 400 := by simpa [smallD] using h
    simp only [nodes, PyData.shown]
    omega
  | .list xs, h => by
    have h1 := smallAll_len (xs := xs) (by simpa [smallD] using h)
    have h2 := listText_len_le (PyData.shownAll xs)
    have h3 := PyData.shownAll_length xs
    simp only [PyData.shown, nodes]
    omega
  | .tuple xs, h => by
    have h1 := smallAll_len (xs := xs) (by simpa [smallD] using h)
    have h2 := tupleText_len_le (PyData.shownAll xs)
    have h3 := PyData.shownAll_length xs
    simp only [PyData.shown, nodes]
    omega
  | .dict kvs, h => by
    have h : kvs = [] := by simpa [smallD] using h
    subst h
    have e : (PyData.shown (.dict [])).length = 2 := by
      simp only [PyData.shown, PyData.shownKv]
      decide
    simp only [nodes]
    omega
theorem smallAll_len : ∀ {xs : List PyData}, smallAll xs = true → ((PyData.shownAll xs).map (·.length)).sum + 2 * xs.length ≤ 410 * nodesAll xs
  | [], _ => by simp [PyData.shownAll, nodesAll]
  | x :: xs, h => by
    have h : smallD x = true ∧ smallAll xs = true := by simpa [smallAll] using h
    have h1 := smallD_len h.1
    have h2 := smallAll_len h.2
    simp only [PyData.shownAll, List.map_cons, List.sum_cons, List.length_cons, nodesAll]
    omega
end
theorem reprR_ok {d : PyData} (h : smallD d = true) (hd : d.depth ≤ 50) (hn : nodes d ≤ 40900) : reprR d = .ok d.shown := by
  refine Res.need_of ?_
  unfold reprOk
  simp only [Bool.and_eq_true, decide_eq_true_eq, Bool.not_eq_true']
  refine ⟨⟨smallD_show h, hd⟩, ?_⟩
  have := smallD_len h
  have : sizeLine = 16777216 := by decide
  omega
/-- typed data -/
theorem smallAll_map {α : Type} [Dat α] : ∀ {xs : List α}, (∀ x ∈ xs, smallD (dat x) = true) → smallAll (xs.map dat) = true
  | [], _ => rfl
  | x :: xs, h => by
    simp only [List.map_cons, smallAll, Bool.and_eq_true]
    exact ⟨h x List.mem_cons_self, smallAll_map fun y hy => h y (List.mem_cons_of_mem _ hy)⟩
theorem nodesAll_map {α : Type} [Dat α] (k : Nat) : ∀ {xs : List α}, (∀ x ∈ xs, nodes (dat x) ≤ k) → nodesAll (xs.map dat) ≤ k * xs.length
  | [], _ => by simp [nodesAll]
  | x :: xs, h => by
    have h1 := h x List.mem_cons_self
    have h2 := nodesAll_map k fun y hy => h y (List.mem_cons_of_mem _ hy)
    simp only [List.map_cons, nodesAll, List.length_cons]
    rw [Nat.mul_add]
    omega
theorem depthAll_map {α : Type} [Dat α] (k : Nat) : ∀ {xs : List α}, (∀ x ∈ xs, (dat x).depth ≤ k) → PyData.depthAll (xs.map dat) ≤ k
  | [], _ => Nat.zero_le _
  | x :: xs, h => Nat.max_le.mpr ⟨h x List.mem_cons_self, depthAll_map k fun y hy => h y (List.mem_cons_of_mem _ hy)⟩
/-- what is needed of a datum: its numbers are small, its nodes, its depth -/
structure Rp' (d : PyData) (n k : Nat) : Prop where
  s : smallD d = true
  n : nodes d ≤ n
  d : d.depth ≤ k
theorem Rp'.int {i : Int} (h : -(2 ^ 400) < i) (h2 : i < 2 ^ 400) : Rp' (.int i) 1 0 := ⟨by simp only [smallD, decide_eq_true_eq]; omega, Nat.le_refl _, by simp [PyData.depth]⟩
structure RpAll' (ds : List PyData) (n k : Nat) : Prop where
  s : smallAll ds = true
  n : nodesAll ds ≤ n
  d : PyData.depthAll ds ≤ k
theorem RpAll'.nil : RpAll' [] 0 0 := ⟨rfl, Nat.le_refl _, Nat.le_refl _⟩
theorem RpAll'.cons {d : PyData} {ds : List PyData} {n k m j : Nat} (h : Rp' d n k) (r : RpAll' ds m j) : RpAll' (d :: ds) (n + m) (max k j) :=
  ⟨by simp only [smallAll, h.s, r.s, Bool.and_self], Nat.add_le_add h.n r.n, by
    have := h.d
    have := r.d
    show max d.depth (PyData.depthAll ds) ≤ _
    omega⟩
theorem RpAll'.list {ds : List PyData} {n k : Nat} (h : RpAll' ds n k) : Rp' (.list ds) (n + 1) (k + 1) := ⟨by simpa only [smallD] using h.s, by simpa only [nodes] using Nat.succ_le_succ h.n, by simpa only [PyData.depth] using Nat.succ_le_succ h.d⟩
theorem RpAll'.tuple {ds : List PyData} {n k : Nat} (h : RpAll' ds n k) : Rp' (.tuple ds) (n + 1) (k + 1) := ⟨by simpa only [smallD] using h.s, by simpa only [nodes] using Nat.succ_le_succ h.n, by simpa only [PyData.depth] using Nat.succ_le_succ h.d⟩
theorem RpAll'.map {α : Type} [Dat α] {xs : List α} {n k m : Nat} (h : ∀ x ∈ xs, Rp' (dat x) n k) (hl : xs.length ≤ m) : RpAll' (xs.map dat) (n * m) k :=
  ⟨smallAll_map fun x hx => (h x hx).s, Nat.le_trans (nodesAll_map n fun x hx => (h x hx).n) (Nat.mul_le_mul_left _ hl), depthAll_map k fun x hx => (h x hx).d⟩
theorem RpAll'.ints {xs : List Int} {m : Nat} (h : ∀ x ∈ xs, -(2 ^ 400) < x ∧ x < 2 ^ 400) (hl : xs.length ≤ m) : RpAll' (xs.map dat) (1 * m) 0 := RpAll'.map (fun x hx => Rp'.int (h x hx).1 (h x hx).2) hl
theorem Rp'.ok {d : PyData} {n k : Nat} (h : Rp' d n k) (hn : n ≤ 40900) (hk : k ≤ 50) : reprR d = .ok d.shown := reprR_ok h.s (Nat.le_trans h.d hk) (Nat.le_trans h.n hn)
end Lc
namespace Lw
open PySem L2 Lc
def top (i : Nat) : Stmt := PySem.Challenge.pw_lowcolumns_k84_errors_are_distinct.main.body.getD i (.Pass ⟨0, 0, 0, 0⟩)
abbrev s_is_integer : Stmt := top 21
abbrev s_is_start : Stmt := top 22
abbrev s_is_cards : Stmt := top 23
abbrev s_check_start : Stmt := top 24
abbrev s_check_cards : Stmt := top 25
abbrev s_lowest_in : Stmt := top 26
abbrev s_laid : Stmt := top 27
abbrev s_tops_in : Stmt := top 28
abbrev s_tops_of : Stmt := top 29
abbrev s__law_bag : Stmt := top 31
abbrev s__law_draw : Stmt := top 32
abbrev s__law_marks : Stmt := top 33
abbrev s__law_caught : Stmt := top 34
abbrev s__law_right : Stmt := top 35
abbrev s_law : Stmt := top 36
structure Ad where
  a_is_integer : Addr
  d_is_integer : FuncData
  a_is_start : Addr
  d_is_start : FuncData
  a_is_cards : Addr
  d_is_cards : FuncData
  a_check_start : Addr
  d_check_start : FuncData
  a_check_cards : Addr
  d_check_cards : FuncData
  a_lowest_in : Addr
  d_lowest_in : FuncData
  a_laid : Addr
  d_laid : FuncData
  a_tops_in : Addr
  d_tops_in : FuncData
  a_tops_of : Addr
  d_tops_of : FuncData
  a__law_bag : Addr
  d__law_bag : FuncData
  a__law_draw : Addr
  d__law_draw : FuncData
  a__law_marks : Addr
  d__law_marks : FuncData
  a__law_caught : Addr
  d__law_caught : FuncData
  a__law_right : Addr
  d__law_right : FuncData
  a_law : Addr
  d_law : FuncData
  c_DifferentColumnsError : Addr
  c_EmptyHistoryError : Addr
  c_FullError : Addr
  c_InvalidCardsError : Addr
  c_InvalidColumnError : Addr
  c_InvalidColumnsError : Addr
  c_InvalidFlagError : Addr
  c_InvalidFormatError : Addr
  c_InvalidHeightError : Addr
  c_InvalidIndexError : Addr
  c_InvalidNumberError : Addr
  c_InvalidStartError : Addr
  c_InvalidTopsError : Addr
  c_InvalidWayError : Addr
  c_TooLargeError : Addr
  c_LowcolumnsError : Addr
  t_MOST_CARDS : Tok
  t_MOST_COLUMNS : Tok
  t_MOST_HEIGHT : Tok
def eaOf (ad : Ad) : Nat → Addr := fun k => match k with
  | 0 => ad.c_DifferentColumnsError
  | 1 => ad.c_EmptyHistoryError
  | 2 => ad.c_FullError
  | 3 => ad.c_InvalidCardsError
  | 4 => ad.c_InvalidColumnError
  | 5 => ad.c_InvalidColumnsError
  | 6 => ad.c_InvalidFlagError
  | 7 => ad.c_InvalidFormatError
  | 8 => ad.c_InvalidHeightError
  | 9 => ad.c_InvalidIndexError
  | 10 => ad.c_InvalidNumberError
  | 11 => ad.c_InvalidStartError
  | 12 => ad.c_InvalidTopsError
  | 13 => ad.c_InvalidWayError
  | 14 => ad.c_TooLargeError
  | 15 => ad.c_LowcolumnsError
  | _ + 16 => ad.c_DifferentColumnsError
def ecOf (ad : Ad) : Nat → Value := fun k => .ref (eaOf ad k)
structure Txt (K : PySem.W.Frag) (mg : Str → Option Value) (ad : Ad) : Prop where
  F_is_integer : FunG K "is_integer" "is_integer" s_is_integer ad.a_is_integer ad.d_is_integer
  g_is_integer : mg "is_integer" = some (.ref ad.a_is_integer)
  b_is_integer : Binds K ad.d_is_integer ["value", "least", "most"] []
  F_is_start : FunG K "is_start" "is_start" s_is_start ad.a_is_start ad.d_is_start
  g_is_start : mg "is_start" = some (.ref ad.a_is_start)
  b_is_start : Binds K ad.d_is_start ["value"] []
  F_is_cards : FunG K "is_cards" "is_cards" s_is_cards ad.a_is_cards ad.d_is_cards
  g_is_cards : mg "is_cards" = some (.ref ad.a_is_cards)
  b_is_cards : Binds K ad.d_is_cards ["value"] []
  F_check_start : FunG K "check_start" "check_start" s_check_start ad.a_check_start ad.d_check_start
  g_check_start : mg "check_start" = some (.ref ad.a_check_start)
  b_check_start : Binds K ad.d_check_start ["start"] []
  F_check_cards : FunG K "check_cards" "check_cards" s_check_cards ad.a_check_cards ad.d_check_cards
  g_check_cards : mg "check_cards" = some (.ref ad.a_check_cards)
  b_check_cards : Binds K ad.d_check_cards ["heights"] []
  F_lowest_in : FunG K "lowest_in" "lowest_in" s_lowest_in ad.a_lowest_in ad.d_lowest_in
  g_lowest_in : mg "lowest_in" = some (.ref ad.a_lowest_in)
  b_lowest_in : Binds K ad.d_lowest_in ["columns", "right"] []
  F_laid : FunG K "laid" "laid" s_laid ad.a_laid ad.d_laid
  g_laid : mg "laid" = some (.ref ad.a_laid)
  b_laid : Binds K ad.d_laid ["start", "heights", "right", "gap"] []
  F_tops_in : FunG K "tops_in" "tops_in" s_tops_in ad.a_tops_in ad.d_tops_in
  g_tops_in : mg "tops_in" = some (.ref ad.a_tops_in)
  b_tops_in : Binds K ad.d_tops_in ["start", "heights"] []
  F_tops_of : FunG K "tops_of" "tops_of" s_tops_of ad.a_tops_of ad.d_tops_of
  g_tops_of : mg "tops_of" = some (.ref ad.a_tops_of)
  b_tops_of : Binds K ad.d_tops_of ["start", "heights"] []
  F__law_bag : FunG K "_law_bag" "_law_bag" s__law_bag ad.a__law_bag ad.d__law_bag
  g__law_bag : mg "_law_bag" = some (.ref ad.a__law_bag)
  b__law_bag : Binds K ad.d__law_bag ["cell", "k"] []
  F__law_draw : FunG K "_law_draw" "_law_draw" s__law_draw ad.a__law_draw ad.d__law_draw
  g__law_draw : mg "_law_draw" = some (.ref ad.a__law_draw)
  b__law_draw : Binds K ad.d__law_draw ["bag", "many"] []
  F__law_marks : FunG K "_law_marks" "_law_marks" s__law_marks ad.a__law_marks ad.d__law_marks
  g__law_marks : mg "_law_marks" = some (.ref ad.a__law_marks)
  b__law_marks : Binds K ad.d__law_marks ["e"] []
  F__law_caught : FunG K "_law_caught" "_law_caught" s__law_caught ad.a__law_caught ad.d__law_caught
  g__law_caught : mg "_law_caught" = some (.ref ad.a__law_caught)
  b__law_caught : Binds K ad.d__law_caught ["start", "some"] []
  F__law_right : FunG K "_law_right" "_law_right" s__law_right ad.a__law_right ad.d__law_right
  g__law_right : mg "_law_right" = some (.ref ad.a__law_right)
  b__law_right : Binds K ad.d__law_right ["message"] []
  F_law : FunG K "law" "law" s_law ad.a_law ad.d_law
  g_law : mg "law" = some (.ref ad.a_law)
  b_law : Binds K ad.d_law ["script"] []
  c_MOST_CARDS : mg "MOST_CARDS" = some (.int 200 ad.t_MOST_CARDS)
  c_MOST_COLUMNS : mg "MOST_COLUMNS" = some (.int 30 ad.t_MOST_COLUMNS)
  c_MOST_HEIGHT : mg "MOST_HEIGHT" = some (.int 1000000000000000000000000000000 ad.t_MOST_HEIGHT)
  z_ValueError : mg "ValueError" = none
  z_all : mg "all" = none
  z_bool : mg "bool" = none
  z_enumerate : mg "enumerate" = none
  z_int : mg "int" = none
  z_isinstance : mg "isinstance" = none
  z_len : mg "len" = none
  z_list : mg "list" = none
  z_min : mg "min" = none
  z_range : mg "range" = none
  gC_DifferentColumnsError : mg "DifferentColumnsError" = some (.ref ad.c_DifferentColumnsError)
  gC_EmptyHistoryError : mg "EmptyHistoryError" = some (.ref ad.c_EmptyHistoryError)
  gC_FullError : mg "FullError" = some (.ref ad.c_FullError)
  gC_InvalidCardsError : mg "InvalidCardsError" = some (.ref ad.c_InvalidCardsError)
  gC_InvalidColumnError : mg "InvalidColumnError" = some (.ref ad.c_InvalidColumnError)
  gC_InvalidColumnsError : mg "InvalidColumnsError" = some (.ref ad.c_InvalidColumnsError)
  gC_InvalidFlagError : mg "InvalidFlagError" = some (.ref ad.c_InvalidFlagError)
  gC_InvalidFormatError : mg "InvalidFormatError" = some (.ref ad.c_InvalidFormatError)
  gC_InvalidHeightError : mg "InvalidHeightError" = some (.ref ad.c_InvalidHeightError)
  gC_InvalidIndexError : mg "InvalidIndexError" = some (.ref ad.c_InvalidIndexError)
  gC_InvalidNumberError : mg "InvalidNumberError" = some (.ref ad.c_InvalidNumberError)
  gC_InvalidStartError : mg "InvalidStartError" = some (.ref ad.c_InvalidStartError)
  gC_InvalidTopsError : mg "InvalidTopsError" = some (.ref ad.c_InvalidTopsError)
  gC_InvalidWayError : mg "InvalidWayError" = some (.ref ad.c_InvalidWayError)
  gC_TooLargeError : mg "TooLargeError" = some (.ref ad.c_TooLargeError)
  gC_LowcolumnsError : mg "LowcolumnsError" = some (.ref ad.c_LowcolumnsError)
  er_DifferentColumnsError : ExcR K ad.c_DifferentColumnsError
  er_EmptyHistoryError : ExcR K ad.c_EmptyHistoryError
  er_FullError : ExcR K ad.c_FullError
  er_InvalidCardsError : ExcR K ad.c_InvalidCardsError
  er_InvalidColumnError : ExcR K ad.c_InvalidColumnError
  er_InvalidColumnsError : ExcR K ad.c_InvalidColumnsError
  er_InvalidFlagError : ExcR K ad.c_InvalidFlagError
  er_InvalidFormatError : ExcR K ad.c_InvalidFormatError
  er_InvalidHeightError : ExcR K ad.c_InvalidHeightError
  er_InvalidIndexError : ExcR K ad.c_InvalidIndexError
  er_InvalidNumberError : ExcR K ad.c_InvalidNumberError
  er_InvalidStartError : ExcR K ad.c_InvalidStartError
  er_InvalidTopsError : ExcR K ad.c_InvalidTopsError
  er_InvalidWayError : ExcR K ad.c_InvalidWayError
  er_TooLargeError : ExcR K ad.c_TooLargeError
  er_LowcolumnsError : ExcR K ad.c_LowcolumnsError
  xc : ∀ k, k < 16 → ExcC K (eaOf ad k)
  xm : ∀ k, k < 16 → PySem.W.exmOne K (ecOf ad k) (.ref ad.c_LowcolumnsError) = some true
  xk_DifferentColumnsError : ∀ k, k < 16 → PySem.W.kitOne K (.ref (eaOf ad k)) (.ref ad.c_DifferentColumnsError) = some (decide (k = 0))
  xk_EmptyHistoryError : ∀ k, k < 16 → PySem.W.kitOne K (.ref (eaOf ad k)) (.ref ad.c_EmptyHistoryError) = some (decide (k = 1))
  xk_FullError : ∀ k, k < 16 → PySem.W.kitOne K (.ref (eaOf ad k)) (.ref ad.c_FullError) = some (decide (k = 2))
  xk_InvalidCardsError : ∀ k, k < 16 → PySem.W.kitOne K (.ref (eaOf ad k)) (.ref ad.c_InvalidCardsError) = some (decide (k = 3))
  xk_InvalidColumnError : ∀ k, k < 16 → PySem.W.kitOne K (.ref (eaOf ad k)) (.ref ad.c_InvalidColumnError) = some (decide (k = 4))
  xk_InvalidColumnsError : ∀ k, k < 16 → PySem.W.kitOne K (.ref (eaOf ad k)) (.ref ad.c_InvalidColumnsError) = some (decide (k = 5))
  xk_InvalidFlagError : ∀ k, k < 16 → PySem.W.kitOne K (.ref (eaOf ad k)) (.ref ad.c_InvalidFlagError) = some (decide (k = 6))
  xk_InvalidFormatError : ∀ k, k < 16 → PySem.W.kitOne K (.ref (eaOf ad k)) (.ref ad.c_InvalidFormatError) = some (decide (k = 7))
  xk_InvalidHeightError : ∀ k, k < 16 → PySem.W.kitOne K (.ref (eaOf ad k)) (.ref ad.c_InvalidHeightError) = some (decide (k = 8))
  xk_InvalidIndexError : ∀ k, k < 16 → PySem.W.kitOne K (.ref (eaOf ad k)) (.ref ad.c_InvalidIndexError) = some (decide (k = 9))
  xk_InvalidNumberError : ∀ k, k < 16 → PySem.W.kitOne K (.ref (eaOf ad k)) (.ref ad.c_InvalidNumberError) = some (decide (k = 10))
  xk_InvalidStartError : ∀ k, k < 16 → PySem.W.kitOne K (.ref (eaOf ad k)) (.ref ad.c_InvalidStartError) = some (decide (k = 11))
  xk_InvalidTopsError : ∀ k, k < 16 → PySem.W.kitOne K (.ref (eaOf ad k)) (.ref ad.c_InvalidTopsError) = some (decide (k = 12))
  xk_InvalidWayError : ∀ k, k < 16 → PySem.W.kitOne K (.ref (eaOf ad k)) (.ref ad.c_InvalidWayError) = some (decide (k = 13))
  xk_TooLargeError : ∀ k, k < 16 → PySem.W.kitOne K (.ref (eaOf ad k)) (.ref ad.c_TooLargeError) = some (decide (k = 14))
  xk_LowcolumnsError : ∀ k, k < 16 → PySem.W.kitOne K (.ref (eaOf ad k)) (.ref ad.c_LowcolumnsError) = some true
  xk_ValueError : ∀ k, k < 16 → PySem.W.kitOne K (.ref (eaOf ad k)) (.type "ValueError") = some true
section
variable {P : Program} {w : World} {K : PySem.W.Frag} {mg : Str → Option Value} {base : Heap} {ad : Ad}
abbrev N_is_integer : List Str := ["value", "least", "most"]
theorem sc_is_integer : FnScope N_is_integer ["value", "least", "most"] (defScope s_is_integer) := ⟨rfl, rfl, rfl, by decide +kernel, rfl, by decide +kernel, by decide +kernel⟩
def m_is_integer (v : PyData) (a b : Int) : Res Bool := .ok (isIntD v a b)
abbrev ps_is_integer (K : PySem.W.Frag) (x : PyData × Int × Int) : List PP := [ppX x.1, ppV (.int x.2.1), ppV (.int x.2.2)]
abbrev c_is_integer (b : Bool) : V → Asr := vA (.bool b)
set_option maxHeartbeats 1600000 in
theorem ok_is_integer (T : Txt K mg ad) : FnG gp P w K mg base (L2N.CX P w) 1 ad.a_is_integer ad.d_is_integer ["value", "least", "most"] (Sp0 (ecOf ad) (ps_is_integer K) (fun x => m_is_integer x.1 x.2.1 x.2.2) c_is_integer) := by
  refine T.F_is_integer.okN sc_is_integer (fun vs H Q E h => ?_) (fun cdv A outer s H vs Q E hr h => ?_)
  · obtain ⟨x, C, hT, hC, hw⟩ := h
    exact len_of hT hC
  · obtain ⟨⟨d, a, b⟩, C, hT, hC, hw⟩ := h
    have hl : vs.length = 3 := len_of hT hC
    obtain ⟨v0, v1, v2, rfl⟩ := len3 hl
    have h0 : Bw (Ecf K E (ecOf ad) C) v0 (ppX d) := fun F H o s c => (hC F H o s c).1
    refine ⟨_, (pss_cons (ps_ret (pe_and (pe_callB call_isi (by rfl) T.z_isinstance (by decide +kernel) (pa_cons (pv 0) (pa_cons (pe_bltn (v := .ty "int") rfl T.z_int (by decide +kernel) rfl) pa_nil))) (pe_and (pe_not (pe_callB call_isi (by rfl) T.z_isinstance (by decide +kernel) (pa_cons (pv 0) (pa_cons (pe_bltn (v := .ty "bool") rfl T.z_bool (by decide +kernel) rfl) pa_nil)))) (pe_one (pe_chain op_le op_le (pv 1) (pv 0) (pv 2)))))) pss_nil), ?_⟩
    refine fin0 (K := K) (Γ0 := [cIs v0, cV (.int a), cV (.int b)]) (Γr := fun b : Bool => [cAny, cAny, cAny]) (c := c_is_integer) hT (fun F o s c => ⟨fun _ => rfl, fun _ => (hC F H o s c).2.1, fun _ => (hC F H o s c).2.2.1, trivial⟩) hw ?_
    exact es_retP (b := isIntD d a b) (ev_is_integer rfl rfl rfl h0) rfl (ret_le (.any (.any (.any .nil))))
abbrev N_is_start : List Str := ["value", "height"]
theorem sc_is_start : FnScope N_is_start ["value"] (defScope s_is_start) := ⟨rfl, rfl, rfl, by decide +kernel, rfl, by decide +kernel, by decide +kernel⟩
def m_is_start (v : PyData) : Res Bool := .ok (isStartD v)
def m_is_startL (ds : List PyData) : Res Bool :=
  (if ((!true) || (!(decide (1 ≤ ((ds).length : Int)) && decide (((ds).length : Int) ≤ 30)))) then (Res.ok false) else (((((Res.ok ()).bind fun a_6 => compR ds () [] fun s_8 x_7 => (m_is_integer x_7 0 1000000000000000000000000000000).bind fun r_9 => Res.ok (some r_9, s_8)).bind fun a_10 => (Res.ok ()).bind fun r_11 => Res.ok (a_10, r_11)).bind fun p_12 => Res.ok (p_12.1.1.all id)).bind fun r_13 => Res.ok r_13))
theorem m_is_startL_eq (ds : List PyData) : m_is_startL ds = .ok (isStartD (.list ds)) := by
  unfold m_is_startL isStartD
  by_cases h : 1 ≤ ds.length ∧ ds.length ≤ 30
  · rw [if_neg (by simp; omega)]
    simp only [Res.bind_ok]
    rw [compR_map (g := fun d => isIntD d 0 1000000000000000000000000000000) ds [] (fun _ _ => rfl) (by show 0 + ds.length ≤ 16000000; omega)]
    simp only [Res.bind_ok, List.nil_append, List.all_map]
    simp [h, Function.comp_def]
  · rw [if_pos (by simp; omega)]
    simp
    omega
abbrev ps_is_start (K : PySem.W.Frag) (x : PyData) : List PP := [ppX x]
abbrev c_is_start (b : Bool) : V → Asr := vA (.bool b)
set_option maxHeartbeats 1600000 in
theorem ok_is_start (T : Txt K mg ad) : FnG gp P w K mg base (L2N.CX P w) 2 ad.a_is_start ad.d_is_start ["value"] (Sp0 (ecOf ad) (ps_is_start K) (fun x => m_is_start x) c_is_start) := by
  have G_is_integer : FnG gp P w K mg base (L2N.CX P w) 1 ad.a_is_integer ad.d_is_integer ["value", "least", "most"] (Sp0 (ecOf ad) (ps_is_integer K) (fun x => m_is_integer x.1 x.2.1 x.2.2) c_is_integer) := ok_is_integer T
  refine T.F_is_start.okN sc_is_start (fun vs H Q E h => ?_) (fun cdv A outer s H vs Q E hr h => ?_)
  · obtain ⟨x, C, hT, hC, hw⟩ := h
    exact len_of hT hC
  · obtain ⟨d, C, hT, hC, hw⟩ := h
    have hl : vs.length = 1 := len_of hT hC
    obtain ⟨v0, rfl⟩ := len1 hl
    have h0 : Bw (Ecf K E (ecOf ad) C) v0 (ppX d) := fun F H o s c => (hC F H o s c).1
    have tk : L2N.Takes (cxOf (L2N.CX P w) P w K mg base N_is_start "is_start" (defScope s_is_start) ad.a_is_start cdv A outer s H E) (fun cls d _ H => E cls d H) := L2N.takes_of rfl rfl rfl rfl
    refine ⟨_, (pss_cons (ps_if (PW.pt (pw_or (pt_not (pt_val (pe_callB call_isi (by rfl) T.z_isinstance (by decide +kernel) (pa_cons (pv 0) (pa_cons (pe_bltn (v := .ty "list") rfl T.z_list (by decide +kernel) rfl) pa_nil))))) (pw_or1 (pt_not (pt_chain op_le op_le pe_int (pe_callB (lenK K rfl) (by rfl) T.z_len PySem.boot_len (pa_cons (pv 0) pa_nil)) (pe_glob (v := .int 30) rfl T.c_MOST_COLUMNS ⟨_, rfl⟩)))))) (pss_cons (ps_ret pe_bl) pss_nil) pss_nil) (pss_cons (ps_ret (pe_callB (allK K rfl rfl) (by rfl) T.z_all (by decide +kernel) (pa_cons (pe_lc (own := [("height", 1)]) rfl sc_is_start.nd (pi_list (pv 0)) (blkOk_by (own := [("height", 1)]) (N := N_is_start) (sc := defScope s_is_start) (by decide +kernel)) (fun _ _ _ _ _ => (pg_name (i := 1) sc_is_start.nd rfl (Or.inl rfl) (.inr rfl))) (fun _ _ _ _ _ => pts_nil) (fun _ _ _ _ _ => (pe_callG0 G_is_integer (hr.mono (by decide)) (by rfl) T.g_is_integer T.F_is_integer.kp T.b_is_integer .nil passLN (pa_cons (pv 1) (pa_cons pe_int (pa_cons (pe_glob (v := .int 1000000000000000000000000000000) rfl T.c_MOST_HEIGHT ⟨_, rfl⟩) pa_nil)))))) pa_nil))) pss_nil)), ?_⟩
    by_cases hd : ∃ ds, d = .list ds
    · obtain ⟨ds, rfl⟩ := hd
      have h1 := bwL_of h0
      refine fin0 (K := K) (Γ0 := [cIs v0, cAny]) (Γr := fun b : Bool => [cAny, cAny]) (c := c_is_start) hT (fun F o s c => ⟨fun _ => rfl, fun _ => trivial, trivial⟩) (m := m_is_startL ds) (by rw [m_is_startL_eq]; exact hw) ?_
      exact (es_ifT (etp_or (etp_not (et_val (b := fun _ => true) (evp_cb (eap_cons (ev_slot (i := 0) rfl no_Is) (eap_cons ev_ty eap_nil)) (rn_isiL (b := true) (pa_bw rfl h1) (kit_ty (show kitB "list" "list" = some true by decide +kernel)))))) (etp_not (et_val (b := fun _ => (decide (1 ≤ ((ds).length : Int)) && decide (((ds).length : Int) ≤ 30))) (evp_chain (p := (fun i j => decide (i ≤ j))) (p' := (fun i j => decide (i ≤ j))) ev_int (evp_cb (eap_cons (ev_slot (i := 0) rfl no_Is) eap_nil) (rn_len (xs := ds) (pa_S (pa_bw rfl h1)))) ev_int (ch_B0 (g := (fun i j => decide (i ≤ j)))) (ch_B0 (g := (fun i j => decide (i ≤ j)))))))) (by exact (es_retP (b := false) ev_bl rfl (ret_le (.any (.same .nil))))) (by exact (es_ret (g := fun r_13 : Bool => r_13) (ev_cb (ea_cons (Γ1 := fun (a_10 : (List Bool × Unit)) => [cIs v0, cAny]) (el_comp (xs := fun a_6 : Unit => ds) (Γs := fun s_8 : Unit => [cIs v0, cAny]) (Γt := fun (s_8 : Unit) (x_7 : PyData) => [cIs v0, cV x_7]) (s0 := fun a_6 => ()) (ei_list (ds := fun _ => (ds.map dat)) (ev_slot (i := 0) rfl no_Is) fun _ => (src_b rfl (bwS h1))) (fun _ _ => trivial) (fun a_6 => (.same (.same .nil))) (fun s_8 => (hv_cons rfl hv_nil)) (fun s_8 x_7 => (eg_name (lt_len rfl))) (by decide) (fun s_8 x_7 => elj_yes (b := fun r_9 : Bool => r_9) (s := fun r_9 => s_8) (evp_call0 (x_7, 0, 1000000000000000000000000000000) (eap_cons (ev_var rfl) (eap_cons ev_int (eap_cons ev_int eap_nil))) (pars_cons pa_xv (pars_cons pa_v (pars_cons pa_v pars_nil))) xok_calm calm_calm) (fun _ => fz_v) (fun r_9 => (.same (.any (.nil)))))) fun (a_10 : (List Bool × Unit)) => ea_nil) (fun p_12 => (rn_to (p_12.1.1.all id) (Γ' := fun r : Bool => [cIs v0, cAny]) (c := fun r : Bool => rV (PyData.bool r)) (rn_all (ns := p_12.1.1) (pa_S pa_lo))))) (fun _ => rfl) (fun r_13 => (ret_le (.any (.same .nil)))))))
    · have nl : ∀ ds, d ≠ .list ds := fun ds e => hd ⟨ds, e⟩
      have e : m_is_start d = .ok false := by
        cases d with
        | list ds => exact (nl ds rfl).elim
        | _ => rfl
      change (m_is_start d).wp _ _ at hw
      rw [e] at hw
      refine fin0 (K := K) (Γ0 := [cIs v0, cAny]) (Γr := fun b : Bool => [cAny, cAny]) (c := c_is_start) hT (fun F o s c => ⟨fun _ => rfl, fun _ => trivial, trivial⟩) hw ?_
      exact es_ifTT (etp_orT (et_nolist rfl h0 nl)) (es_retP (b := false) ev_bl rfl (ret_le (.any (.same .nil))))
abbrev N_is_cards : List Str := ["value", "height"]
theorem sc_is_cards : FnScope N_is_cards ["value"] (defScope s_is_cards) := ⟨rfl, rfl, rfl, by decide +kernel, rfl, by decide +kernel, by decide +kernel⟩
def m_is_cards (v : PyData) : Res Bool := .ok (isCardsD v)
def m_is_cardsL (ds : List PyData) : Res Bool :=
  (if ((!true) || (decide (200 < ((ds).length : Int)))) then (Res.ok false) else (((((Res.ok ()).bind fun a_19 => compR ds () [] fun s_21 x_20 => (m_is_integer x_20 1 1000000000000000000000000000000).bind fun r_22 => Res.ok (some r_22, s_21)).bind fun a_23 => (Res.ok ()).bind fun r_24 => Res.ok (a_23, r_24)).bind fun p_25 => Res.ok (p_25.1.1.all id)).bind fun r_26 => Res.ok r_26))
theorem m_is_cardsL_eq (ds : List PyData) : m_is_cardsL ds = .ok (isCardsD (.list ds)) := by
  unfold m_is_cardsL isCardsD
  by_cases h : ds.length ≤ 200
  · rw [if_neg (by simp; omega)]
    simp only [Res.bind_ok]
    rw [compR_map (g := fun d => isIntD d 1 1000000000000000000000000000000) ds [] (fun _ _ => rfl) (by show 0 + ds.length ≤ 16000000; omega)]
    simp only [Res.bind_ok, List.nil_append, List.all_map]
    simp [h, Function.comp_def]
  · rw [if_pos (by simp; omega)]
    simp
    omega
abbrev ps_is_cards (K : PySem.W.Frag) (x : PyData) : List PP := [ppX x]
abbrev c_is_cards (b : Bool) : V → Asr := vA (.bool b)
set_option maxHeartbeats 1600000 in
theorem ok_is_cards (T : Txt K mg ad) : FnG gp P w K mg base (L2N.CX P w) 2 ad.a_is_cards ad.d_is_cards ["value"] (Sp0 (ecOf ad) (ps_is_cards K) (fun x => m_is_cards x) c_is_cards) := by
  have G_is_integer : FnG gp P w K mg base (L2N.CX P w) 1 ad.a_is_integer ad.d_is_integer ["value", "least", "most"] (Sp0 (ecOf ad) (ps_is_integer K) (fun x => m_is_integer x.1 x.2.1 x.2.2) c_is_integer) := ok_is_integer T
  refine T.F_is_cards.okN sc_is_cards (fun vs H Q E h => ?_) (fun cdv A outer s H vs Q E hr h => ?_)
  · obtain ⟨x, C, hT, hC, hw⟩ := h
    exact len_of hT hC
  · obtain ⟨d, C, hT, hC, hw⟩ := h
    have hl : vs.length = 1 := len_of hT hC
    obtain ⟨v0, rfl⟩ := len1 hl
    have h0 : Bw (Ecf K E (ecOf ad) C) v0 (ppX d) := fun F H o s c => (hC F H o s c).1
    have tk : L2N.Takes (cxOf (L2N.CX P w) P w K mg base N_is_cards "is_cards" (defScope s_is_cards) ad.a_is_cards cdv A outer s H E) (fun cls d _ H => E cls d H) := L2N.takes_of rfl rfl rfl rfl
    refine ⟨_, (pss_cons (ps_if (PW.pt (pw_or (pt_not (pt_val (pe_callB call_isi (by rfl) T.z_isinstance (by decide +kernel) (pa_cons (pv 0) (pa_cons (pe_bltn (v := .ty "list") rfl T.z_list (by decide +kernel) rfl) pa_nil))))) (pw_or1 (pt_cmpR op_gt (pe_callB (lenK K rfl) (by rfl) T.z_len PySem.boot_len (pa_cons (pv 0) pa_nil)) (pe_glob (v := .int 200) rfl T.c_MOST_CARDS ⟨_, rfl⟩) (nomark _))))) (pss_cons (ps_ret pe_bl) pss_nil) pss_nil) (pss_cons (ps_ret (pe_callB (allK K rfl rfl) (by rfl) T.z_all (by decide +kernel) (pa_cons (pe_lc (own := [("height", 1)]) rfl sc_is_cards.nd (pi_list (pv 0)) (blkOk_by (own := [("height", 1)]) (N := N_is_cards) (sc := defScope s_is_cards) (by decide +kernel)) (fun _ _ _ _ _ => (pg_name (i := 1) sc_is_cards.nd rfl (Or.inl rfl) (.inr rfl))) (fun _ _ _ _ _ => pts_nil) (fun _ _ _ _ _ => (pe_callG0 G_is_integer (hr.mono (by decide)) (by rfl) T.g_is_integer T.F_is_integer.kp T.b_is_integer .nil passLN (pa_cons (pv 1) (pa_cons pe_int (pa_cons (pe_glob (v := .int 1000000000000000000000000000000) rfl T.c_MOST_HEIGHT ⟨_, rfl⟩) pa_nil)))))) pa_nil))) pss_nil)), ?_⟩
    by_cases hd : ∃ ds, d = .list ds
    · obtain ⟨ds, rfl⟩ := hd
      have h1 := bwL_of h0
      refine fin0 (K := K) (Γ0 := [cIs v0, cAny]) (Γr := fun b : Bool => [cAny, cAny]) (c := c_is_cards) hT (fun F o s c => ⟨fun _ => rfl, fun _ => trivial, trivial⟩) (m := m_is_cardsL ds) (by rw [m_is_cardsL_eq]; exact hw) ?_
      exact (es_ifT (etp_or (etp_not (et_val (b := fun _ => true) (evp_cb (eap_cons (ev_slot (i := 0) rfl no_Is) (eap_cons ev_ty eap_nil)) (rn_isiL (b := true) (pa_bw rfl h1) (kit_ty (show kitB "list" "list" = some true by decide +kernel)))))) (et_val (b := fun _ => (decide (200 < ((ds).length : Int)))) (evp_op (evp_cb (eap_cons (ev_slot (i := 0) rfl no_Is) eap_nil) (rn_len (xs := ds) (pa_S (pa_bw rfl h1)))) ev_int r2_B0))) (by exact (es_retP (b := false) ev_bl rfl (ret_le (.any (.same .nil))))) (by exact (es_ret (g := fun r_26 : Bool => r_26) (ev_cb (ea_cons (Γ1 := fun (a_23 : (List Bool × Unit)) => [cIs v0, cAny]) (el_comp (xs := fun a_19 : Unit => ds) (Γs := fun s_21 : Unit => [cIs v0, cAny]) (Γt := fun (s_21 : Unit) (x_20 : PyData) => [cIs v0, cV x_20]) (s0 := fun a_19 => ()) (ei_list (ds := fun _ => (ds.map dat)) (ev_slot (i := 0) rfl no_Is) fun _ => (src_b rfl (bwS h1))) (fun _ _ => trivial) (fun a_19 => (.same (.same .nil))) (fun s_21 => (hv_cons rfl hv_nil)) (fun s_21 x_20 => (eg_name (lt_len rfl))) (by decide) (fun s_21 x_20 => elj_yes (b := fun r_22 : Bool => r_22) (s := fun r_22 => s_21) (evp_call0 (x_20, 1, 1000000000000000000000000000000) (eap_cons (ev_var rfl) (eap_cons ev_int (eap_cons ev_int eap_nil))) (pars_cons pa_xv (pars_cons pa_v (pars_cons pa_v pars_nil))) xok_calm calm_calm) (fun _ => fz_v) (fun r_22 => (.same (.any (.nil)))))) fun (a_23 : (List Bool × Unit)) => ea_nil) (fun p_25 => (rn_to (p_25.1.1.all id) (Γ' := fun r : Bool => [cIs v0, cAny]) (c := fun r : Bool => rV (PyData.bool r)) (rn_all (ns := p_25.1.1) (pa_S pa_lo))))) (fun _ => rfl) (fun r_26 => (ret_le (.any (.same .nil)))))))
    · have nl : ∀ ds, d ≠ .list ds := fun ds e => hd ⟨ds, e⟩
      have e : m_is_cards d = .ok false := by
        cases d with
        | list ds => exact (nl ds rfl).elim
        | _ => rfl
      change (m_is_cards d).wp _ _ at hw
      rw [e] at hw
      refine fin0 (K := K) (Γ0 := [cIs v0, cAny]) (Γr := fun b : Bool => [cAny, cAny]) (c := c_is_cards) hT (fun F o s c => ⟨fun _ => rfl, fun _ => trivial, trivial⟩) hw ?_
      exact es_ifTT (etp_orT (et_nolist rfl h0 nl)) (es_retP (b := false) ev_bl rfl (ret_le (.any (.same .nil))))
abbrev N_check_start : List Str := ["start"]
theorem sc_check_start : FnScope N_check_start ["start"] (defScope s_check_start) := ⟨rfl, rfl, rfl, by decide +kernel, rfl, by decide +kernel, by decide +kernel⟩
def m_check_start (start_p : PyData) : Res Unit :=
  ((m_is_start start_p).bind fun c_27 => if (!c_27) then (Res.err 11) else (Res.ok ()))
abbrev ps_check_start (K : PySem.W.Frag) (x : PyData) : List PP := [ppX x]
abbrev c_check_start (b : Unit) : V → Asr := vA PyData.none
set_option maxHeartbeats 1600000 in
theorem ok_check_start (T : Txt K mg ad) : FnG gp P w K mg base (L2N.CX P w) 3 ad.a_check_start ad.d_check_start ["start"] (Sp0 (ecOf ad) (ps_check_start K) (fun x => m_check_start x) c_check_start) := by
  have G_is_start : FnG gp P w K mg base (L2N.CX P w) 2 ad.a_is_start ad.d_is_start ["value"] (Sp0 (ecOf ad) (ps_is_start K) (fun x => m_is_start x) c_is_start) := ok_is_start T
  refine T.F_check_start.okN sc_check_start (fun vs H Q E h => sp0_go h fun x C hT hC hw => ?_) (fun cdv A outer s H vs Q E hr h => sp0_go h fun x C hT hC hw => ?_)
  · exact len_of hT hC
  · revert hT hC hw
    revert x
    intro start_p hT hC hw
    have hl : vs.length = 1 := len_of hT hC
    obtain ⟨v0, rfl⟩ := len1 hl
    have h0 : Bw (Ecf K E (ecOf ad) C) v0 (ppX start_p) := fun F H o s c => (hC F H o s c).1
    have hU : (A.deeper (PyProof.Rows.envOfC "check_start" (defScope s_check_start) s.heap.objs.size ad.a_check_start cdv)).units + 64 < cLine := Nat.lt_of_le_of_lt (by omega) hr.un
    have hU5 : (A.deeper (PyProof.Rows.envOfC "check_start" (defScope s_check_start) s.heap.objs.size ad.a_check_start cdv)).units + 65 < cLine := Nat.lt_of_le_of_lt (by omega) hr.un
    have tk : L2N.Takes (cxOf (L2N.CX P w) P w K mg base N_check_start "check_start" (defScope s_check_start) ad.a_check_start cdv A outer s H E) (fun cls d _ H => E cls d H) := L2N.takes_of rfl rfl rfl rfl
    refine ⟨_, (pss_cons (ps_if (pt_not (pt_val (pe_callG G_is_start (hr.mono (by decide)) (by rfl) T.g_is_start T.F_is_start.kp T.b_is_start (fun σ => L2N.passAt tk σ) (pa_cons (pv 0) pa_nil)))) (pss_cons (ps_raiseN rfl tk T.er_InvalidStartError (by rfl) T.gC_InvalidStartError) pss_nil) pss_nil) pss_nil), ?_⟩
    have hw : WP (m_check_start start_p) (fun b => ∀ v H', Top (sep C (c_check_start b v)) H' → Q v H') (fun k => ∀ H', Top C H' → E (ecOf ad k) none H') := hw
    refine fin0NW (K := K) (Γ0 := [cIs v0]) (Γr := fun b : Unit => [cAny]) hT (fun F o s c => ⟨fun _ => rfl, trivial⟩) hw ?_
    exact (es_ifTM (b := fun c_27 : Bool => (!c_27)) (et_not (b := fun r : Bool => r) (et_val (b := fun r : Bool => r) (evp_callS start_p (eap_cons (ev_slot (i := 0) rfl no_Is) eap_nil) (pars_cons (pa_bw rfl h0) pars_nil) xok_emp))) (fun c_27 => by exact (es_raiseE xok_emp rfl)) (fun c_27 => by exact (es_end (b := ()) rfl (.any (.nil)))))
abbrev N_check_cards : List Str := ["heights"]
theorem sc_check_cards : FnScope N_check_cards ["heights"] (defScope s_check_cards) := ⟨rfl, rfl, rfl, by decide +kernel, rfl, by decide +kernel, by decide +kernel⟩
def m_check_cards (heights_p : PyData) : Res Unit :=
  ((m_is_cards heights_p).bind fun c_28 => if (!c_28) then (Res.err 3) else (Res.ok ()))
abbrev ps_check_cards (K : PySem.W.Frag) (x : PyData) : List PP := [ppX x]
abbrev c_check_cards (b : Unit) : V → Asr := vA PyData.none
set_option maxHeartbeats 1600000 in
theorem ok_check_cards (T : Txt K mg ad) : FnG gp P w K mg base (L2N.CX P w) 3 ad.a_check_cards ad.d_check_cards ["heights"] (Sp0 (ecOf ad) (ps_check_cards K) (fun x => m_check_cards x) c_check_cards) := by
  have G_is_cards : FnG gp P w K mg base (L2N.CX P w) 2 ad.a_is_cards ad.d_is_cards ["value"] (Sp0 (ecOf ad) (ps_is_cards K) (fun x => m_is_cards x) c_is_cards) := ok_is_cards T
  refine T.F_check_cards.okN sc_check_cards (fun vs H Q E h => sp0_go h fun x C hT hC hw => ?_) (fun cdv A outer s H vs Q E hr h => sp0_go h fun x C hT hC hw => ?_)
  · exact len_of hT hC
  · revert hT hC hw
    revert x
    intro heights_p hT hC hw
    have hl : vs.length = 1 := len_of hT hC
    obtain ⟨v0, rfl⟩ := len1 hl
    have h0 : Bw (Ecf K E (ecOf ad) C) v0 (ppX heights_p) := fun F H o s c => (hC F H o s c).1
    have hU : (A.deeper (PyProof.Rows.envOfC "check_cards" (defScope s_check_cards) s.heap.objs.size ad.a_check_cards cdv)).units + 64 < cLine := Nat.lt_of_le_of_lt (by omega) hr.un
    have hU5 : (A.deeper (PyProof.Rows.envOfC "check_cards" (defScope s_check_cards) s.heap.objs.size ad.a_check_cards cdv)).units + 65 < cLine := Nat.lt_of_le_of_lt (by omega) hr.un
    have tk : L2N.Takes (cxOf (L2N.CX P w) P w K mg base N_check_cards "check_cards" (defScope s_check_cards) ad.a_check_cards cdv A outer s H E) (fun cls d _ H => E cls d H) := L2N.takes_of rfl rfl rfl rfl
    refine ⟨_, (pss_cons (ps_if (pt_not (pt_val (pe_callG G_is_cards (hr.mono (by decide)) (by rfl) T.g_is_cards T.F_is_cards.kp T.b_is_cards (fun σ => L2N.passAt tk σ) (pa_cons (pv 0) pa_nil)))) (pss_cons (ps_raiseN rfl tk T.er_InvalidCardsError (by rfl) T.gC_InvalidCardsError) pss_nil) pss_nil) pss_nil), ?_⟩
    have hw : WP (m_check_cards heights_p) (fun b => ∀ v H', Top (sep C (c_check_cards b v)) H' → Q v H') (fun k => ∀ H', Top C H' → E (ecOf ad k) none H') := hw
    refine fin0NW (K := K) (Γ0 := [cIs v0]) (Γr := fun b : Unit => [cAny]) hT (fun F o s c => ⟨fun _ => rfl, trivial⟩) hw ?_
    exact (es_ifTM (b := fun c_28 : Bool => (!c_28)) (et_not (b := fun r : Bool => r) (et_val (b := fun r : Bool => r) (evp_callS heights_p (eap_cons (ev_slot (i := 0) rfl no_Is) eap_nil) (pars_cons (pa_bw rfl h0) pars_nil) xok_emp))) (fun c_28 => by exact (es_raiseE xok_emp rfl)) (fun c_28 => by exact (es_end (b := ()) rfl (.any (.nil)))))
abbrev N_lowest_in : List Str := ["columns", "right", "lowest", "places", "height", "place"]
theorem sc_lowest_in : FnScope N_lowest_in ["columns", "right"] (defScope s_lowest_in) := ⟨rfl, rfl, rfl, by decide +kernel, rfl, by decide +kernel, by decide +kernel⟩
def m_lowest_in (columns_p : (List Int)) (right_p : Bool) : Res Int :=
  ((minR columns_p).bind fun r_29 => (((Res.ok ()).bind fun a_30 => compR (enumL columns_p) () [] fun s_32 x_31 => if (decide (x_31.2 = r_29)) then Res.ok (some x_31.1, s_32) else Res.ok (none, s_32)).bind fun r_33 => ((if right_p then (getI r_33.1 (-1)) else (getI r_33.1 0)).bind fun r_34 => Res.ok r_34)))
abbrev ps_lowest_in (K : PySem.W.Frag) (x : (List Int) × Bool) : List PP := [ppL (x.1.map dat), ppV (PyData.bool x.2)]
abbrev c_lowest_in (b : Int) : V → Asr := vA (PyData.int b)
set_option maxHeartbeats 1600000 in
theorem ok_lowest_in (T : Txt K mg ad) : FnG gp P w K mg base (L2N.CX P w) 1 ad.a_lowest_in ad.d_lowest_in ["columns", "right"] (Sp0 (ecOf ad) (ps_lowest_in K) (fun x => m_lowest_in x.1 x.2) c_lowest_in) := by
  refine T.F_lowest_in.okN sc_lowest_in (fun vs H Q E h => sp0_go h fun x C hT hC hw => ?_) (fun cdv A outer s H vs Q E hr h => sp0_go h fun x C hT hC hw => ?_)
  · exact len_of hT hC
  · obtain ⟨columns_p, right_p⟩ := x
    have hl : vs.length = 2 := len_of hT hC
    obtain ⟨v0, v1, rfl⟩ := len2 hl
    have h0 : Bw (Ecf K E (ecOf ad) C) v0 (ppL (columns_p.map dat)) := fun F H o s c => (hC F H o s c).1
    have hU : (A.deeper (PyProof.Rows.envOfC "lowest_in" (defScope s_lowest_in) s.heap.objs.size ad.a_lowest_in cdv)).units + 64 < cLine := Nat.lt_of_le_of_lt (by omega) hr.un
    have hU5 : (A.deeper (PyProof.Rows.envOfC "lowest_in" (defScope s_lowest_in) s.heap.objs.size ad.a_lowest_in cdv)).units + 65 < cLine := Nat.lt_of_le_of_lt (by omega) hr.un
    have tk : L2N.Takes (cxOf (L2N.CX P w) P w K mg base N_lowest_in "lowest_in" (defScope s_lowest_in) ad.a_lowest_in cdv A outer s H E) (fun cls d _ H => E cls d H) := L2N.takes_of rfl rfl rfl rfl
    refine ⟨_, (pss_cons (ps_set (i := 2) sc_lowest_in.nd rfl (Or.inr rfl) (pe_callB (minK K rfl rfl) (by rfl) T.z_min (by decide +kernel) (pa_cons (pv 0) pa_nil))) (pss_cons (ps_setLc (i := 3) (own := [("place", 5), ("height", 4)]) rfl sc_lowest_in.nd rfl rfl (sw_true rfl rfl rfl (by decide +kernel)) (pi_enum (by rfl) T.z_enumerate (pa_cons (pv 0) pa_nil)) (blkOk_by (own := [("place", 5), ("height", 4)]) (N := N_lowest_in) (sc := defScope s_lowest_in) (by decide +kernel)) (fun _ _ _ _ _ => (pg_tupK K 2 rfl rfl (pgs_cons (pg_name (i := 5) sc_lowest_in.nd rfl (Or.inl rfl) (.inr rfl)) (pgs_cons (pg_name (i := 4) sc_lowest_in.nd rfl (Or.inl rfl) (.inr rfl)) pgs_nil)) rfl rfl)) (fun _ _ _ _ _ => pts_one (pt_cmpR op_eq (pv 4) (pv 2) (nomark _))) (fun _ _ _ _ _ => (pv 5))) (pss_cons (ps_ret (pe_ifExp (pt_val (pv 1)) (pe_ix (ixK K rfl) (pv 3) (pe_un un_neg pe_int) (fun _ _ => rfl)) (pe_ix (ixK K rfl) (pv 3) pe_int (fun _ _ => rfl)))) pss_nil))), ?_⟩
    have hw : WP (m_lowest_in columns_p right_p) (fun b => ∀ v H', Top (sep C (c_lowest_in b v)) H' → Q v H') (fun k => ∀ H', Top C H' → E (ecOf ad k) none H') := hw
    refine fin0W (K := K) (Γ0 := [cIs v0, cV (PyData.bool right_p), cAny, cAny, cAny, cAny]) (Γr := fun b : Int => [cAny, cAny, cAny, cAny, cAny, cAny]) (c := c_lowest_in) hT (fun F o s c => ⟨fun _ => rfl, fun _ => (hC F H o s c).2.1, fun _ => trivial, fun _ => trivial, fun _ => trivial, fun _ => trivial, trivial⟩) hw ?_
    exact (es_seq (es_asg (evp_cb (eap_cons (ev_slot (i := 0) rfl no_Is) eap_nil) (rn_min (ns := columns_p) (pa_S (pa_bw rfl h0)))) (fun _ => sto_v) (fun _ => lt_len rfl)) fun (r_29 : Int) => by exact EvS.is (Δ := [cIs v0, cV (PyData.bool right_p), cV (PyData.int r_29), cAny, cAny, cAny]) rfl (es_seq (es_asg (el_comp (xs := fun a_30 : Unit => (enumL columns_p)) (Γs := fun s_32 : Unit => [cIs v0, cV (PyData.bool right_p), cV (PyData.int r_29), cAny, cAny, cAny]) (Γt := fun (s_32 : Unit) (x_31 : (Int × Int)) => [cIs v0, cV (PyData.bool right_p), cV (PyData.int r_29), cAny, cV (PyData.int x_31.2), cV (PyData.int x_31.1)]) (s0 := fun a_30 => ()) (ei_enum (xs := columns_p) (eap_cons (ev_slot (i := 0) rfl no_Is) eap_nil) (src_b rfl (bwS h0))) (fun _ _ => trivial) (fun a_30 => (.same (.same (.same (.same (.same (.same .nil))))))) (fun s_32 => (hv_cons rfl (hv_cons rfl hv_nil))) (fun s_32 x_31 => (eg_tup (egs_cons (eg_name (lt_len rfl)) (egs_cons (eg_name (lt_len rfl)) egs_nil)) rfl)) (by decide) (fun s_32 x_31 => elj_ifP (b := x_31.1) (s := s_32) (et_val (b := fun _ => (decide (x_31.2 = r_29))) (evp_op (ev_var rfl) (ev_var rfl) r2_eqI)) (ev_var rfl) fz_v (.same (.same (.same (.same (.any (.any (.nil))))))))) (fun _ => sto_f) (fun _ => lt_len rfl)) fun (r_33 : (List Int × Unit)) => by exact EvS.is (Δ := [cIs v0, cV (PyData.bool right_p), cV (PyData.int r_29), cV (PyData.list (r_33.1.map dat)), cAny, cAny]) rfl (es_ret (g := fun r_34 : Int => r_34) (evp_if (et_val (b := fun _ => right_p) (ev_var rfl)) (evp_op (ev_var rfl) (evp_un ev_int r1_neg) (r2_ix (pa_S pa_lv))) (evp_op (ev_var rfl) ev_int (r2_ix (pa_S pa_lv)))) (fun _ => rfl) (fun r_34 => (ret_le (.any (.any (.any (.any (.same (.same .nil)))))))))))
abbrev N_laid : List Str := ["start", "heights", "right", "gap", "columns", "found", "height", "place"]
theorem sc_laid : FnScope N_laid ["start", "heights", "right", "gap"] (defScope s_laid) := ⟨rfl, rfl, rfl, by decide +kernel, rfl, by decide +kernel, by decide +kernel⟩
def m_laid (start_p : (List Int)) (heights_p : (List Int)) (right_p : Bool) (gap_p : Int) : Res (List (Int × Int)) :=
  (((Res.ok ()).bind fun a_35 => foldR heights_p (start_p, ([] : (List (Int × Int)))) fun s_37 x_36 => ((m_lowest_in s_37.1 right_p).bind fun r_38 => ((((Res.ok (r_38 : Int)).bind fun a_39 => ((getI s_37.1 r_38).bind fun a_40 => (Res.ok ()).bind fun r_41 => Res.ok (a_40, r_41)).bind fun r_42 => Res.ok (a_39, r_42)).bind fun q_43 => Res.need (s_37.2.length < lim) (Res.ok q_43)).bind fun r_44 => (((getI s_37.1 r_38).bind fun z_45 => setR s_37.1 r_38 (z_45 + (x_36 + gap_p))).bind fun r_46 => (Res.ok (r_46, (s_37.2 ++ [(r_44.1, r_44.2.1)]))))))).bind fun j_47 => (Res.ok j_47.2))
abbrev ps_laid (K : PySem.W.Frag) (x : (List Int) × (List Int) × Bool × Int) : List PP := [ppL (x.1.map dat), ppL (x.2.1.map dat), ppV (PyData.bool x.2.2.1), ppV (PyData.int x.2.2.2)]
abbrev c_laid (b : (List (Int × Int))) : V → Asr := oV (b.map dat)
set_option maxHeartbeats 1600000 in
theorem ok_laid (T : Txt K mg ad) : FnG gp P w K mg base (L2N.CX P w) 2 ad.a_laid ad.d_laid ["start", "heights", "right", "gap"] (Sp0 (ecOf ad) (ps_laid K) (fun x => m_laid x.1 x.2.1 x.2.2.1 x.2.2.2) c_laid) := by
  have G_lowest_in : FnG gp P w K mg base (L2N.CX P w) 1 ad.a_lowest_in ad.d_lowest_in ["columns", "right"] (Sp0 (ecOf ad) (ps_lowest_in K) (fun x => m_lowest_in x.1 x.2) c_lowest_in) := ok_lowest_in T
  refine T.F_laid.okN sc_laid (fun vs H Q E h => sp0_go h fun x C hT hC hw => ?_) (fun cdv A outer s H vs Q E hr h => sp0_go h fun x C hT hC hw => ?_)
  · exact len_of hT hC
  · obtain ⟨start_p, heights_p, right_p, gap_p⟩ := x
    have hl : vs.length = 4 := len_of hT hC
    obtain ⟨v0, v1, v2, v3, rfl⟩ := len4 hl
    have h0 : Bw (Ecf K E (ecOf ad) C) v0 (ppL (start_p.map dat)) := fun F H o s c => (hC F H o s c).1
    have h1 : Bw (Ecf K E (ecOf ad) C) v1 (ppL (heights_p.map dat)) := fun F H o s c => (hC F H o s c).2.1
    have hU : (A.deeper (PyProof.Rows.envOfC "laid" (defScope s_laid) s.heap.objs.size ad.a_laid cdv)).units + 64 < cLine := Nat.lt_of_le_of_lt (by omega) hr.un
    have hU5 : (A.deeper (PyProof.Rows.envOfC "laid" (defScope s_laid) s.heap.objs.size ad.a_laid cdv)).units + 65 < cLine := Nat.lt_of_le_of_lt (by omega) hr.un
    have tk : L2N.Takes (cxOf (L2N.CX P w) P w K mg base N_laid "laid" (defScope s_laid) ad.a_laid cdv A outer s H E) (fun cls d _ H => E cls d H) := L2N.takes_of rfl rfl rfl rfl
    refine ⟨_, (pss_cons (ps_set (i := 4) sc_laid.nd rfl (Or.inl rfl) (pe_callTy (listK K rfl) (by rfl) T.z_list (by decide +kernel) (pa_cons (pv 0) pa_nil))) (pss_cons (ps_set (i := 5) sc_laid.nd rfl (Or.inl rfl) (pe_lst pa_nil)) (pss_cons (ps_for (passes_of rfl) rfl (pi_list (pv 1)) (pg_name (i := 6) sc_laid.nd rfl (Or.inl rfl)) (pss_cons (ps_set (i := 7) sc_laid.nd rfl (Or.inl rfl) (pe_callG G_lowest_in (hr.mono (by decide)) (by rfl) T.g_lowest_in T.F_lowest_in.kp T.b_lowest_in (fun σ => L2N.passAt tk σ) (pa_cons (pv 4) (pa_cons (pv 2) pa_nil)))) (pss_cons (ps_expr (pe_bm PySem.F.plainAttrs_list PySem.F.slot_list_append PySem.F.type_list_append mt_append (pv 5) (pa_cons (pe_tup (pa_cons (pv 7) (pa_cons (pe_ix (ixK K rfl) (pv 4) (pv 7) (fun _ _ => rfl)) pa_nil))) pa_nil))) (pss_cons (ps_augS (pv 4) (pv 7) pget_list (pe_op op_add (pv 6) (pv 3)) ip_add set_list) pss_nil)))) (pss_cons (ps_ret (pv 5)) pss_nil)))), ?_⟩
    have hw : WP (m_laid start_p heights_p right_p gap_p) (fun b => ∀ v H', Top (sep C (c_laid b v)) H' → Q v H') (fun k => ∀ H', Top C H' → E (ecOf ad k) none H') := hw
    refine fin0W (K := K) (Γ0 := [cIs v0, cIs v1, cV (PyData.bool right_p), cV (PyData.int gap_p), cAny, cAny, cAny, cAny]) (Γr := fun b : (List (Int × Int)) => [cAny, cAny, cAny, cAny, cAny, cAny, cAny, cAny]) (c := c_laid) hT (fun F o s c => ⟨fun _ => rfl, fun _ => rfl, fun _ => (hC F H o s c).2.2.1, fun _ => (hC F H o s c).2.2.2.1, fun _ => trivial, fun _ => trivial, fun _ => trivial, fun _ => trivial, trivial⟩) hw ?_
    exact (es_seqP (es_asgP (evp_cb (eap_cons (ev_slot (i := 0) rfl no_Is) eap_nil) (rn_list (ds := (start_p.map dat)) (pa_S (pa_bw rfl h0)))) sto_o (lt_len rfl)) (by exact EvS.is (Δ := [cIs v0, cIs v1, cV (PyData.bool right_p), cV (PyData.int gap_p), cO (start_p.map dat), cAny, cAny, cAny]) rfl (es_seqP (es_asgP (evp_lst (ds := []) eap_nil .nil) sto_o (lt_len rfl)) (by exact EvS.is (Δ := [cIs v0, cIs v1, cV (PyData.bool right_p), cV (PyData.int gap_p), cO (start_p.map dat), cO (([] : (List (Int × Int))).map dat), cAny, cAny]) rfl (es_seq (es_for0 (xs := fun a_35 : Unit => heights_p) (Γs := fun s_37 : ((List Int) × (List (Int × Int))) => [cIs v0, cIs v1, cV (PyData.bool right_p), cV (PyData.int gap_p), cO (s_37.1.map dat), cO (s_37.2.map dat), cAny, cAny]) (Γt := fun (s_37 : ((List Int) × (List (Int × Int)))) (x_36 : Int) => [cIs v0, cIs v1, cV (PyData.bool right_p), cV (PyData.int gap_p), cO (s_37.1.map dat), cO (s_37.2.map dat), cV (PyData.int x_36), cAny]) (s0 := fun a_35 => (start_p, ([] : (List (Int × Int))))) (ei_list (ds := fun _ => (heights_p.map dat)) (ev_slot (i := 1) rfl no_Is) fun _ => (src_b rfl (bwS h1))) (fun _ _ => trivial) (fun a_35 => (.same (.same (.same (.same (.same (.same (.same (.same .nil))))))))) (fun s_37 x_36 => (eg_name (lt_len rfl))) (fun s_37 x_36 => by exact (es_seq (es_asg (evp_callS (s_37.1, right_p) (eap_cons (ev_slot (i := 4) rfl no_O) (eap_cons (ev_var rfl) eap_nil)) (pars_cons (pa_own own_O rfl) (pars_cons pa_v pars_nil)) xok_emp) (fun _ => sto_v) (fun _ => lt_len rfl)) fun (r_38 : Int) => by exact EvS.is (Δ := [cIs v0, cIs v1, cV (PyData.bool right_p), cV (PyData.int gap_p), cO (s_37.1.map dat), cO (s_37.2.map dat), cV (PyData.int x_36), cV (PyData.int r_38)]) rfl (es_seq (es_appendTM (xs := fun q_43 : (Int × Int × Unit) => s_37.2) (a := fun q_43 => (q_43.1, q_43.2.1)) own_O (ev_tup (ds := fun p : (Int × Int × Unit) => [(PyData.int p.1), (PyData.int p.2.1)]) (ea_cons (Γ1 := fun (a_39 : Int) => [cIs v0, cIs v1, cV (PyData.bool right_p), cV (PyData.int gap_p), cO (s_37.1.map dat), cO (s_37.2.map dat), cV (PyData.int x_36), cV (PyData.int r_38)]) (ev_pure (a := r_38) (cc := fun r : Int => rV (PyData.int r)) (ev_var rfl)) fun (a_39 : Int) => (ea_cons (Γ1 := fun (a_40 : Int) => [cIs v0, cIs v1, cV (PyData.bool right_p), cV (PyData.int gap_p), cO (s_37.1.map dat), cO (s_37.2.map dat), cV (PyData.int x_36), cV (PyData.int r_38)]) (evp_op (ev_slot (i := 4) rfl no_O) (ev_var rfl) (r2_ix (pa_S (pa_own own_O rfl)))) fun (a_40 : Int) => ea_nil)) fun p => (.cons fz_v (.cons fz_v .nil))) (fun _ => fz_v) rfl (fun _ => rfl)) fun (r_44 : (Int × Int × Unit)) => by exact EvS.is (Δ := [cIs v0, cIs v1, cV (PyData.bool right_p), cV (PyData.int gap_p), cO (s_37.1.map dat), cO ((s_37.2 ++ [(r_44.1, r_44.2.1)]).map dat), cV (PyData.int x_36), cV (PyData.int r_38)]) rfl (es_seq (es_augitem (f := (fun i j => i + j)) (xs := s_37.1) own_O (evp_op (ev_var rfl) (ev_var rfl) r2_I0) (ev_var rfl) rfl) fun (r_46 : (List Int)) => by exact EvS.is (Δ := [cIs v0, cIs v1, cV (PyData.bool right_p), cV (PyData.int gap_p), cO (r_46.map dat), cO ((s_37.2 ++ [(r_44.1, r_44.2.1)]).map dat), cV (PyData.int x_36), cV (PyData.int r_38)]) rfl (es_endL (b := (r_46, (s_37.2 ++ [(r_44.1, r_44.2.1)]))) rfl (.same (.same (.same (.same (.same (.same (.any (.any (.nil))))))))))))))) fun (j_47 : ((List Int) × (List (Int × Int)))) => by exact EvS.is (Δ := [cIs v0, cIs v1, cV (PyData.bool right_p), cV (PyData.int gap_p), cO (j_47.1.map dat), cO (j_47.2.map dat), cAny, cAny]) rfl (es_retP (b := j_47.2) (ev_slot (i := 5) rfl no_O) rfl (ret_own own_O rfl (.any (.any (.any (.any (.any (.same (.same (.same .nil)))))))))))))))
abbrev N_tops_in : List Str := ["start", "heights", "top", "place"]
theorem sc_tops_in : FnScope N_tops_in ["start", "heights"] (defScope s_tops_in) := ⟨rfl, rfl, rfl, by decide +kernel, rfl, by decide +kernel, by decide +kernel⟩
def m_tops_in (start_p : (List Int)) (heights_p : (List Int)) : Res (List Int) :=
  (((m_laid start_p heights_p false 0).bind fun a_48 => compR a_48 () [] fun s_50 x_49 => Res.ok (some x_49.2, s_50)).bind fun r_51 => Res.ok r_51.1)
abbrev ps_tops_in (K : PySem.W.Frag) (x : (List Int) × (List Int)) : List PP := [ppL (x.1.map dat), ppL (x.2.map dat)]
abbrev c_tops_in (b : (List Int)) : V → Asr := oV (b.map dat)
set_option maxHeartbeats 1600000 in
theorem ok_tops_in (T : Txt K mg ad) : FnG gp P w K mg base (L2N.CX P w) 3 ad.a_tops_in ad.d_tops_in ["start", "heights"] (Sp0 (ecOf ad) (ps_tops_in K) (fun x => m_tops_in x.1 x.2) c_tops_in) := by
  have G_laid : FnG gp P w K mg base (L2N.CX P w) 2 ad.a_laid ad.d_laid ["start", "heights", "right", "gap"] (Sp0 (ecOf ad) (ps_laid K) (fun x => m_laid x.1 x.2.1 x.2.2.1 x.2.2.2) c_laid) := ok_laid T
  refine T.F_tops_in.okN sc_tops_in (fun vs H Q E h => sp0_go h fun x C hT hC hw => ?_) (fun cdv A outer s H vs Q E hr h => sp0_go h fun x C hT hC hw => ?_)
  · exact len_of hT hC
  · obtain ⟨start_p, heights_p⟩ := x
    have hl : vs.length = 2 := len_of hT hC
    obtain ⟨v0, v1, rfl⟩ := len2 hl
    have h0 : Bw (Ecf K E (ecOf ad) C) v0 (ppL (start_p.map dat)) := fun F H o s c => (hC F H o s c).1
    have h1 : Bw (Ecf K E (ecOf ad) C) v1 (ppL (heights_p.map dat)) := fun F H o s c => (hC F H o s c).2.1
    have hU : (A.deeper (PyProof.Rows.envOfC "tops_in" (defScope s_tops_in) s.heap.objs.size ad.a_tops_in cdv)).units + 64 < cLine := Nat.lt_of_le_of_lt (by omega) hr.un
    have hU5 : (A.deeper (PyProof.Rows.envOfC "tops_in" (defScope s_tops_in) s.heap.objs.size ad.a_tops_in cdv)).units + 65 < cLine := Nat.lt_of_le_of_lt (by omega) hr.un
    have tk : L2N.Takes (cxOf (L2N.CX P w) P w K mg base N_tops_in "tops_in" (defScope s_tops_in) ad.a_tops_in cdv A outer s H E) (fun cls d _ H => E cls d H) := L2N.takes_of rfl rfl rfl rfl
    refine ⟨_, (pss_cons (ps_ret (pe_lc (own := [("place", 3), ("top", 2)]) rfl sc_tops_in.nd (pi_list (pe_callG G_laid (hr.mono (by decide)) (by rfl) T.g_laid T.F_laid.kp T.b_laid (fun σ => L2N.passAt tk σ) (pa_cons (pv 0) (pa_cons (pv 1) (pa_cons pe_bl (pa_cons pe_int pa_nil)))))) (blkOk_by (own := [("place", 3), ("top", 2)]) (N := N_tops_in) (sc := defScope s_tops_in) (by decide +kernel)) (fun _ _ _ _ _ => (pg_tupK K 2 rfl rfl (pgs_cons (pg_name (i := 3) sc_tops_in.nd rfl (Or.inl rfl) (.inr rfl)) (pgs_cons (pg_name (i := 2) sc_tops_in.nd rfl (Or.inl rfl) (.inr rfl)) pgs_nil)) rfl rfl)) (fun _ _ _ _ _ => pts_nil) (fun _ _ _ _ _ => (pv 2)))) pss_nil), ?_⟩
    have hw : WP (m_tops_in start_p heights_p) (fun b => ∀ v H', Top (sep C (c_tops_in b v)) H' → Q v H') (fun k => ∀ H', Top C H' → E (ecOf ad k) none H') := hw
    refine fin0W (K := K) (Γ0 := [cIs v0, cIs v1, cAny, cAny]) (Γr := fun b : (List Int) => [cAny, cAny, cAny, cAny]) (c := c_tops_in) hT (fun F o s c => ⟨fun _ => rfl, fun _ => rfl, fun _ => trivial, fun _ => trivial, trivial⟩) hw ?_
    exact (es_ret (g := fun r_51 : (List Int × Unit) => r_51.1) (el_comp (xs := fun a_48 : (List (Int × Int)) => a_48) (Γs := fun s_50 : Unit => [cIs v0, cIs v1, cAny, cAny]) (Γt := fun (s_50 : Unit) (x_49 : (Int × Int)) => [cIs v0, cIs v1, cV (PyData.int x_49.2), cV (PyData.int x_49.1)]) (s0 := fun a_48 => ()) (ei_list (ds := fun r : (List (Int × Int)) => (r.map dat)) (evp_callS (start_p, heights_p, false, 0) (eap_cons (ev_slot (i := 0) rfl no_Is) (eap_cons (ev_slot (i := 1) rfl no_Is) (eap_cons ev_bl (eap_cons ev_int eap_nil)))) (pars_cons (pa_bw rfl h0) (pars_cons (pa_bw rfl h1) (pars_cons pa_v (pars_cons pa_v pars_nil)))) xok_emp) fun r => src_o) (fun _ _ => trivial) (fun a_48 => (.same (.same (.same (.same .nil))))) (fun s_50 => (hv_cons rfl (hv_cons rfl hv_nil))) (fun s_50 x_49 => (eg_tup (egs_cons (eg_name (lt_len rfl)) (egs_cons (eg_name (lt_len rfl)) egs_nil)) rfl)) (by decide) (fun s_50 x_49 => elj_yesP (b := x_49.2) (s := s_50) (ev_var rfl) fz_v (.same (.same (.any (.any (.nil))))))) (fun _ => rfl) (fun r_51 => (ret_le (.any (.any (.same (.same .nil)))))))
abbrev N_tops_of : List Str := ["start", "heights"]
theorem sc_tops_of : FnScope N_tops_of ["start", "heights"] (defScope s_tops_of) := ⟨rfl, rfl, rfl, by decide +kernel, rfl, by decide +kernel, by decide +kernel⟩
def m_tops_of (start_p : PyData) (heights_p : PyData) : Res Unit :=
  ((m_check_start start_p).bind fun r_52 => ((m_check_cards heights_p).bind fun r_53 => Res.bad))
abbrev ps_tops_of (K : PySem.W.Frag) (x : PyData × PyData) : List PP := [ppX x.1, ppX x.2]
abbrev c_tops_of (b : Unit) : V → Asr := vA PyData.none
set_option maxHeartbeats 1600000 in
theorem ok_tops_of (T : Txt K mg ad) : FnG gp P w K mg base (L2N.CX P w) 4 ad.a_tops_of ad.d_tops_of ["start", "heights"] (Sp0 (ecOf ad) (ps_tops_of K) (fun x => m_tops_of x.1 x.2) c_tops_of) := by
  have G_check_cards : FnG gp P w K mg base (L2N.CX P w) 3 ad.a_check_cards ad.d_check_cards ["heights"] (Sp0 (ecOf ad) (ps_check_cards K) (fun x => m_check_cards x) c_check_cards) := ok_check_cards T
  have G_check_start : FnG gp P w K mg base (L2N.CX P w) 3 ad.a_check_start ad.d_check_start ["start"] (Sp0 (ecOf ad) (ps_check_start K) (fun x => m_check_start x) c_check_start) := ok_check_start T
  refine T.F_tops_of.okN sc_tops_of (fun vs H Q E h => sp0_go h fun x C hT hC hw => ?_) (fun cdv A outer s H vs Q E hr h => sp0_go h fun x C hT hC hw => ?_)
  · exact len_of hT hC
  · obtain ⟨start_p, heights_p⟩ := x
    have hl : vs.length = 2 := len_of hT hC
    obtain ⟨v0, v1, rfl⟩ := len2 hl
    have h0 : Bw (Ecf K E (ecOf ad) C) v0 (ppX start_p) := fun F H o s c => (hC F H o s c).1
    have h1 : Bw (Ecf K E (ecOf ad) C) v1 (ppX heights_p) := fun F H o s c => (hC F H o s c).2.1
    have hU : (A.deeper (PyProof.Rows.envOfC "tops_of" (defScope s_tops_of) s.heap.objs.size ad.a_tops_of cdv)).units + 64 < cLine := Nat.lt_of_le_of_lt (by omega) hr.un
    have hU5 : (A.deeper (PyProof.Rows.envOfC "tops_of" (defScope s_tops_of) s.heap.objs.size ad.a_tops_of cdv)).units + 65 < cLine := Nat.lt_of_le_of_lt (by omega) hr.un
    have tk : L2N.Takes (cxOf (L2N.CX P w) P w K mg base N_tops_of "tops_of" (defScope s_tops_of) ad.a_tops_of cdv A outer s H E) (fun cls d _ H => E cls d H) := L2N.takes_of rfl rfl rfl rfl
    refine ⟨_, (pss_cons (ps_expr (pe_callG G_check_start (hr.mono (by decide)) (by rfl) T.g_check_start T.F_check_start.kp T.b_check_start (fun σ => L2N.passAt tk σ) (pa_cons (pv 0) pa_nil))) (pss_cons (ps_expr (pe_callG G_check_cards (hr.mono (by decide)) (by rfl) T.g_check_cards T.F_check_cards.kp T.b_check_cards (fun σ => L2N.passAt tk σ) (pa_cons (pv 1) pa_nil))) pss_never)), ?_⟩
    have hw : WP (m_tops_of start_p heights_p) (fun b => ∀ v H', Top (sep C (c_tops_of b v)) H' → Q v H') (fun k => ∀ H', Top C H' → E (ecOf ad k) none H') := hw
    refine fin0W (K := K) (Γ0 := [cIs v0, cIs v1]) (Γr := fun b : Unit => [cAny, cAny]) (c := c_tops_of) hT (fun F o s c => ⟨fun _ => rfl, fun _ => rfl, trivial⟩) hw ?_
    exact (es_seq (es_drop (evp_callS start_p (eap_cons (ev_slot (i := 0) rfl no_Is) eap_nil) (pars_cons (pa_bw rfl h0) pars_nil) xok_emp)) fun (r_52 : Unit) => by exact EvS.is (Δ := [cIs v0, cIs v1]) rfl (es_seq (es_drop (evp_callS heights_p (eap_cons (ev_slot (i := 1) rfl no_Is) eap_nil) (pars_cons (pa_bw rfl h1) pars_nil) xok_emp)) fun (r_53 : Unit) => by exact EvS.is (Δ := [cIs v0, cIs v1]) rfl es_bad))
abbrev N__law_bag : List Str := ["cell", "k"]
theorem sc__law_bag : FnScope N__law_bag ["cell", "k"] (defScope s__law_bag) := ⟨rfl, rfl, rfl, by decide +kernel, rfl, by decide +kernel, by decide +kernel⟩
def m__law_bag (cell_p : Int) (k_p : Int) : Res (List Int) :=
  (if (decide (cell_p < 0)) then (((Res.ok ((-cell_p) : Int)).bind fun a_57 => (((mulA 37 k_p).bind fun x_58 => (Res.ok (18 : Int)).bind fun y_59 => Res.ok (x_58 + y_59)).bind fun a_60 => (Res.ok ()).bind fun r_61 => Res.ok (a_60, r_61)).bind fun r_62 => Res.ok (a_57, r_62)).bind fun r_63 => Res.ok ([r_63.1, r_63.2.1] : List Int)) else (((Res.ok (cell_p : Int)).bind fun a_64 => ((mulA 37 k_p).bind fun a_65 => (Res.ok ()).bind fun r_66 => Res.ok (a_65, r_66)).bind fun r_67 => Res.ok (a_64, r_67)).bind fun r_68 => Res.ok ([r_68.1, r_68.2.1] : List Int)))
abbrev ps__law_bag (K : PySem.W.Frag) (x : Int × Int) : List PP := [ppV (PyData.int x.1), ppV (PyData.int x.2)]
abbrev c__law_bag (b : (List Int)) : V → Asr := oV (b.map dat)
set_option maxHeartbeats 1600000 in
theorem ok__law_bag (T : Txt K mg ad) : FnG gp P w K mg base (L2N.CX P w) 1 ad.a__law_bag ad.d__law_bag ["cell", "k"] (Sp0 (ecOf ad) (ps__law_bag K) (fun x => m__law_bag x.1 x.2) c__law_bag) := by
  refine T.F__law_bag.okN sc__law_bag (fun vs H Q E h => sp0_go h fun x C hT hC hw => ?_) (fun cdv A outer s H vs Q E hr h => sp0_go h fun x C hT hC hw => ?_)
  · exact len_of hT hC
  · obtain ⟨cell_p, k_p⟩ := x
    have hl : vs.length = 2 := len_of hT hC
    obtain ⟨v0, v1, rfl⟩ := len2 hl
    have hU : (A.deeper (PyProof.Rows.envOfC "_law_bag" (defScope s__law_bag) s.heap.objs.size ad.a__law_bag cdv)).units + 64 < cLine := Nat.lt_of_le_of_lt (by omega) hr.un
    have hU5 : (A.deeper (PyProof.Rows.envOfC "_law_bag" (defScope s__law_bag) s.heap.objs.size ad.a__law_bag cdv)).units + 65 < cLine := Nat.lt_of_le_of_lt (by omega) hr.un
    have tk : L2N.Takes (cxOf (L2N.CX P w) P w K mg base N__law_bag "_law_bag" (defScope s__law_bag) ad.a__law_bag cdv A outer s H E) (fun cls d _ H => E cls d H) := L2N.takes_of rfl rfl rfl rfl
    refine ⟨_, (pss_cons (ps_if (pt_cmpR op_lt (pv 0) pe_int (nomark _)) (pss_cons (ps_ret (pe_lst (pa_cons (pe_un un_neg (pv 0)) (pa_cons (pe_op op_add (pe_op op_mulA pe_int (pv 1)) pe_int) pa_nil)))) pss_nil) pss_nil) (pss_cons (ps_ret (pe_lst (pa_cons (pv 0) (pa_cons (pe_op op_mulA pe_int (pv 1)) pa_nil)))) pss_nil)), ?_⟩
    have hw : WP (m__law_bag cell_p k_p) (fun b => ∀ v H', Top (sep C (c__law_bag b v)) H' → Q v H') (fun k => ∀ H', Top C H' → E (ecOf ad k) none H') := hw
    refine fin0W (K := K) (Γ0 := [cV (PyData.int cell_p), cV (PyData.int k_p)]) (Γr := fun b : (List Int) => [cAny, cAny]) (c := c__law_bag) hT (fun F o s c => ⟨fun _ => (hC F H o s c).1, fun _ => (hC F H o s c).2.1, trivial⟩) hw ?_
    exact (es_ifT (et_val (b := fun _ => (decide (cell_p < 0))) (evp_op (ev_var rfl) ev_int r2_B0)) (by exact (es_ret (g := fun r_63 : (Int × Int × Unit) => ([r_63.1, r_63.2.1] : List Int)) (ev_lst (ds := fun p : (Int × Int × Unit) => [(PyData.int p.1), (PyData.int p.2.1)]) (ea_cons (Γ1 := fun (a_57 : Int) => [cV (PyData.int cell_p), cV (PyData.int k_p)]) (ev_pure (a := (-cell_p)) (cc := fun r : Int => rV (PyData.int r)) (evp_un (ev_var rfl) r1_neg)) fun (a_57 : Int) => (ea_cons (Γ1 := fun (a_60 : Int) => [cV (PyData.int cell_p), cV (PyData.int k_p)]) (ev_op (evp_op ev_int (ev_var rfl) r2_mulA) (fun (x_58 : Int) => (ev_pure (a := 18) (cc := fun r : Int => rV (PyData.int r)) ev_int)) (fun (x_58 : Int) (y_59 : Int) => (r2_to (x_58 + y_59) (Γ' := fun r : Int => [cV (PyData.int cell_p), cV (PyData.int k_p)]) (c := fun r : Int => rV (PyData.int r)) r2_I0))) fun (a_60 : Int) => ea_nil)) fun p => (.cons fz_v (.cons fz_v .nil))) (fun _ => rfl) (fun r_63 => (ret_le (.any (.any (.nil))))))) (by exact (es_ret (g := fun r_68 : (Int × Int × Unit) => ([r_68.1, r_68.2.1] : List Int)) (ev_lst (ds := fun p : (Int × Int × Unit) => [(PyData.int p.1), (PyData.int p.2.1)]) (ea_cons (Γ1 := fun (a_64 : Int) => [cV (PyData.int cell_p), cV (PyData.int k_p)]) (ev_pure (a := cell_p) (cc := fun r : Int => rV (PyData.int r)) (ev_var rfl)) fun (a_64 : Int) => (ea_cons (Γ1 := fun (a_65 : Int) => [cV (PyData.int cell_p), cV (PyData.int k_p)]) (evp_op ev_int (ev_var rfl) r2_mulA) fun (a_65 : Int) => ea_nil)) fun p => (.cons fz_v (.cons fz_v .nil))) (fun _ => rfl) (fun r_68 => (ret_le (.any (.any (.nil))))))))
abbrev N__law_draw : List Str := ["bag", "many", "digit", "one"]
theorem sc__law_draw : FnScope N__law_draw ["bag", "many"] (defScope s__law_draw) := ⟨rfl, rfl, rfl, by decide +kernel, rfl, by decide +kernel, by decide +kernel⟩
def m__law_draw (bag_p : (List Int)) (many_p : Int) : Res (Int × List Int) :=
  noErr (((getI bag_p 1).bind fun z_69 => setR bag_p 1 (z_69 + 1)).bind fun r_70 => (((getI r_70 0).bind fun x_71 => (Res.ok (1000000000000000000 : Int)).bind fun y_72 => Res.ok (decide (y_72 ≤ x_71))).bind fun c_73 => if c_73 then (((getI r_70 0).bind fun x_74 => (Res.ok (many_p : Int)).bind fun y_75 => (modR x_74 y_75)).bind fun r_77 => ((((getI r_70 0).bind fun x_78 => (Res.ok (many_p : Int)).bind fun y_79 => (divR x_78 y_79)).bind fun g_81 => (Res.ok (0 : Int)).bind fun d_82 => (setR r_70 d_82 g_81).bind fun ys_83 => Res.ok (g_81, d_82, ys_83)).bind fun r_84 => (Res.ok (r_77, r_84.2.2)))) else ((((((getI r_70 0).bind fun x_85 => (Res.ok (2147483629 : Int)).bind fun y_86 => (modR x_85 y_86)).bind fun x_91 => ((Res.ok (104729 : Int)).bind fun x_92 => (getI r_70 1).bind fun y_93 => (mulA x_92 y_93)).bind fun y_95 => Res.ok (x_91 + y_95)).bind fun x_96 => (Res.ok (1 : Int)).bind fun y_97 => Res.ok (x_96 + y_97)).bind fun x_98 => (Res.ok (2147483587 : Int)).bind fun y_99 => (modR x_98 y_99)).bind fun r_101 => (((mulA r_101 r_101).bind fun x_102 => (Res.ok (2147483587 : Int)).bind fun y_103 => (modR x_102 y_103)).bind fun r_105 => ((((Res.ok (r_105 : Int)).bind fun x_109 => ((Res.ok (40692 : Int)).bind fun x_110 => (getI r_70 1).bind fun y_111 => (mulA x_110 y_111)).bind fun y_113 => Res.ok (x_109 + y_113)).bind fun x_114 => (Res.ok (2147483563 : Int)).bind fun y_115 => (modR x_114 y_115)).bind fun r_117 => (((mulA r_117 r_117).bind fun x_118 => (Res.ok (2147483563 : Int)).bind fun y_119 => (modR x_118 y_119)).bind fun r_121 => (((divR r_121 8).bind fun x_122 => (Res.ok (many_p : Int)).bind fun y_123 => (modR x_122 y_123)).bind fun r_125 => Res.ok (r_125, r_70))))))))
abbrev ps__law_draw (K : PySem.W.Frag) (p : Addr) (x : (List Int) × Int) : List PP := [ppAt p, ppV (PyData.int x.2)]
abbrev c__law_draw (b : (Int × List Int)) : V → Asr := vA (PyData.int b.1)
set_option maxHeartbeats 1600000 in
theorem ok__law_draw (T : Txt K mg ad) : FnG gp P w K mg base (L2N.CX P w) 1 ad.a__law_draw ad.d__law_draw ["bag", "many"] (Sp1 (ecOf ad) (ps__law_draw K) (fun x : (List Int) × Int => (x.1.map dat)) (fun x => m__law_draw x.1 x.2) (fun b => (b.2.map dat)) c__law_draw) := by
  refine T.F__law_draw.okN sc__law_draw (fun vs H Q E h => sp1_go h fun p x C hT hC hw => ?_) (fun cdv A outer s H vs Q E hr h => sp1_go h fun p x C hT hC hw => ?_)
  · exact len_of1 hT (hC)
  · obtain ⟨bag_p, many_p⟩ := x
    have hl : vs.length = 2 := len_of1 hT hC
    obtain ⟨v0, v1, rfl⟩ := len2 hl
    obtain rfl : v0 = V.ref p := hT.fact fun F o s ⟨_, _, _, _, _, c, _⟩ => (hC F H _ s c).1
    have hU : (A.deeper (PyProof.Rows.envOfC "_law_draw" (defScope s__law_draw) s.heap.objs.size ad.a__law_draw cdv)).units + 64 < cLine := Nat.lt_of_le_of_lt (by omega) hr.un
    have hU5 : (A.deeper (PyProof.Rows.envOfC "_law_draw" (defScope s__law_draw) s.heap.objs.size ad.a__law_draw cdv)).units + 65 < cLine := Nat.lt_of_le_of_lt (by omega) hr.un
    have tk : L2N.Takes (cxOf (L2N.CX P w) P w K mg base N__law_draw "_law_draw" (defScope s__law_draw) ad.a__law_draw cdv A outer s H E) (fun cls d _ H => E cls d H) := L2N.takes_of rfl rfl rfl rfl
    refine ⟨_, (pss_cons (ps_augS (pv 0) pe_int pget_list pe_int ip_add set_list) (pss_cons (ps_if (pt_cmpR op_ge (pe_ix (ixK K rfl) (pv 0) pe_int (fun _ _ => rfl)) (pe_op op_pow pe_int pe_int) (nomark _)) (pss_cons (ps_set (i := 2) sc__law_draw.nd rfl (Or.inl rfl) (pe_op op_mod (pe_ix (ixK K rfl) (pv 0) pe_int (fun _ _ => rfl)) (pv 1))) (pss_cons (ps_asg (pe_op op_fdivW (pe_ix (ixK K rfl) (pv 0) pe_int (fun _ _ => rfl)) (pv 1)) (pg_sub (pv 0) pe_int set_list)) (pss_cons (ps_ret (pv 2)) pss_nil))) pss_nil) (pss_cons (ps_set (i := 3) sc__law_draw.nd rfl (Or.inl rfl) (pe_op op_mod (pe_op op_add (pe_op op_add (pe_op op_mod (pe_ix (ixK K rfl) (pv 0) pe_int (fun _ _ => rfl)) pe_int) (pe_op op_mulA pe_int (pe_ix (ixK K rfl) (pv 0) pe_int (fun _ _ => rfl)))) pe_int) pe_int)) (pss_cons (ps_set (i := 3) sc__law_draw.nd rfl (Or.inl rfl) (pe_op op_mod (pe_op op_mulA (pv 3) (pv 3)) pe_int)) (pss_cons (ps_set (i := 3) sc__law_draw.nd rfl (Or.inl rfl) (pe_op op_mod (pe_op op_add (pv 3) (pe_op op_mulA pe_int (pe_ix (ixK K rfl) (pv 0) pe_int (fun _ _ => rfl)))) pe_int)) (pss_cons (ps_set (i := 3) sc__law_draw.nd rfl (Or.inl rfl) (pe_op op_mod (pe_op op_mulA (pv 3) (pv 3)) pe_int)) (pss_cons (ps_ret (pe_op op_mod (pe_op op_fdivW (pv 3) pe_int) (pv 1))) pss_nil))))))), ?_⟩
    refine fin1W (K := K) (Ex := E) (ec := ecOf ad) (i := 0) (Γ := [cAt p (bag_p.map dat), cV (PyData.int many_p), cAny, cAny]) (Γr := fun b : (Int × List Int) => [cAt p (b.2.map dat), cAny, cAny, cAny]) (i1 := fun b => (b.2.map dat)) (c := c__law_draw) hT (lt_len rfl) rfl (fun F o s c => ⟨fun _ => trivial, fun _ => (hC F H o s c).2.1, fun _ => trivial, fun _ => trivial, trivial⟩) (fun _ => rfl) hw (EvS.is (Δ := [cAt p (bag_p.map dat), cV (PyData.int many_p), cAny, cAny]) rfl ?_)
    exact (es_seq (es_augitem (f := (fun i j => i + j)) (xs := bag_p) own_At ev_int ev_int rfl) fun (r_70 : (List Int)) => by exact EvS.is (Δ := [cAt p (r_70.map dat), cV (PyData.int many_p), cAny, cAny]) rfl (es_ifTM (b := fun c_73 : Bool => c_73) (et_val (b := fun r : Bool => r) (ev_op (evp_op (ev_slot (i := 0) rfl no_At) ev_int (r2_ix (pa_S (pa_own own_At rfl)))) (fun (x_71 : Int) => (ev_pure (a := 1000000000000000000) (cc := fun r : Int => rV (PyData.int r)) (evp_op ev_int ev_int (r2_pow (k := 1000000000000000000) (by unfold CPow; decide +kernel) (by decide +kernel))))) (fun (x_71 : Int) (y_72 : Int) => (r2_to (decide (y_72 ≤ x_71)) (Γ' := fun r : Bool => [cAt p (r_70.map dat), cV (PyData.int many_p), cAny, cAny]) (c := fun r : Bool => rV (PyData.bool r)) r2_B0)))) (fun c_73 => by exact (es_seq (es_asg (ev_op (evp_op (ev_slot (i := 0) rfl no_At) ev_int (r2_ix (pa_S (pa_own own_At rfl)))) (fun (x_74 : Int) => (ev_pure (a := many_p) (cc := fun r : Int => rV (PyData.int r)) (ev_var rfl))) (fun (x_74 : Int) (y_75 : Int) => r2_mod)) (fun _ => sto_v) (fun _ => lt_len rfl)) fun (r_77 : Int) => by exact EvS.is (Δ := [cAt p (r_70.map dat), cV (PyData.int many_p), cV (PyData.int r_77), cAny]) rfl (es_seq (es_setitem (a := fun g_81 : Int => g_81) (k := fun (g_81 : Int) (d_82 : Int) => d_82) (xs := fun (g_81 : Int) (d_82 : Int) => r_70) (Γ2 := fun (g_81 : Int) (d_82 : Int) => [cAt p (r_70.map dat), cV (PyData.int many_p), cV (PyData.int r_77), cAny]) own_At (ev_op (evp_op (ev_slot (i := 0) rfl no_At) ev_int (r2_ix (pa_S (pa_own own_At rfl)))) (fun (x_78 : Int) => (ev_pure (a := many_p) (cc := fun r : Int => rV (PyData.int r)) (ev_var rfl))) (fun (x_78 : Int) (y_79 : Int) => r2_div)) (fun _ => fz_v) (fun g_81 => (ev_pure (a := 0) (cc := fun r : Int => rV (PyData.int r)) ev_int)) (fun _ => ⟨_, rfl⟩) (fun _ _ => rfl)) fun (r_84 : (Int × Int × (List Int))) => by exact EvS.is (Δ := [cAt p (r_84.2.2.map dat), cV (PyData.int many_p), cV (PyData.int r_77), cAny]) rfl (es_retP (b := (r_77, r_84.2.2)) (ev_var rfl) rfl (ret_le (.same (.any (.any (.same .nil))))))))) (fun c_73 => by exact (es_seq (es_asg (ev_op (ev_op (ev_op (ev_op (evp_op (ev_slot (i := 0) rfl no_At) ev_int (r2_ix (pa_S (pa_own own_At rfl)))) (fun (x_85 : Int) => (ev_pure (a := 2147483629) (cc := fun r : Int => rV (PyData.int r)) ev_int)) (fun (x_85 : Int) (y_86 : Int) => r2_mod)) (fun (x_91 : Int) => (ev_op (ev_pure (a := 104729) (cc := fun r : Int => rV (PyData.int r)) ev_int) (fun (x_92 : Int) => (evp_op (ev_slot (i := 0) rfl no_At) ev_int (r2_ix (pa_S (pa_own own_At rfl))))) (fun (x_92 : Int) (y_93 : Int) => r2_mulA))) (fun (x_91 : Int) (y_95 : Int) => (r2_to (x_91 + y_95) (Γ' := fun r : Int => [cAt p (r_70.map dat), cV (PyData.int many_p), cAny, cAny]) (c := fun r : Int => rV (PyData.int r)) r2_I0))) (fun (x_96 : Int) => (ev_pure (a := 1) (cc := fun r : Int => rV (PyData.int r)) ev_int)) (fun (x_96 : Int) (y_97 : Int) => (r2_to (x_96 + y_97) (Γ' := fun r : Int => [cAt p (r_70.map dat), cV (PyData.int many_p), cAny, cAny]) (c := fun r : Int => rV (PyData.int r)) r2_I0))) (fun (x_98 : Int) => (ev_pure (a := 2147483587) (cc := fun r : Int => rV (PyData.int r)) ev_int)) (fun (x_98 : Int) (y_99 : Int) => r2_mod)) (fun _ => sto_v) (fun _ => lt_len rfl)) fun (r_101 : Int) => by exact EvS.is (Δ := [cAt p (r_70.map dat), cV (PyData.int many_p), cAny, cV (PyData.int r_101)]) rfl (es_seq (es_asg (ev_op (evp_op (ev_var rfl) (ev_var rfl) r2_mulA) (fun (x_102 : Int) => (ev_pure (a := 2147483587) (cc := fun r : Int => rV (PyData.int r)) ev_int)) (fun (x_102 : Int) (y_103 : Int) => r2_mod)) (fun _ => sto_v) (fun _ => lt_len rfl)) fun (r_105 : Int) => by exact EvS.is (Δ := [cAt p (r_70.map dat), cV (PyData.int many_p), cAny, cV (PyData.int r_105)]) rfl (es_seq (es_asg (ev_op (ev_op (ev_pure (a := r_105) (cc := fun r : Int => rV (PyData.int r)) (ev_var rfl)) (fun (x_109 : Int) => (ev_op (ev_pure (a := 40692) (cc := fun r : Int => rV (PyData.int r)) ev_int) (fun (x_110 : Int) => (evp_op (ev_slot (i := 0) rfl no_At) ev_int (r2_ix (pa_S (pa_own own_At rfl))))) (fun (x_110 : Int) (y_111 : Int) => r2_mulA))) (fun (x_109 : Int) (y_113 : Int) => (r2_to (x_109 + y_113) (Γ' := fun r : Int => [cAt p (r_70.map dat), cV (PyData.int many_p), cAny, cV (PyData.int r_105)]) (c := fun r : Int => rV (PyData.int r)) r2_I0))) (fun (x_114 : Int) => (ev_pure (a := 2147483563) (cc := fun r : Int => rV (PyData.int r)) ev_int)) (fun (x_114 : Int) (y_115 : Int) => r2_mod)) (fun _ => sto_v) (fun _ => lt_len rfl)) fun (r_117 : Int) => by exact EvS.is (Δ := [cAt p (r_70.map dat), cV (PyData.int many_p), cAny, cV (PyData.int r_117)]) rfl (es_seq (es_asg (ev_op (evp_op (ev_var rfl) (ev_var rfl) r2_mulA) (fun (x_118 : Int) => (ev_pure (a := 2147483563) (cc := fun r : Int => rV (PyData.int r)) ev_int)) (fun (x_118 : Int) (y_119 : Int) => r2_mod)) (fun _ => sto_v) (fun _ => lt_len rfl)) fun (r_121 : Int) => by exact EvS.is (Δ := [cAt p (r_70.map dat), cV (PyData.int many_p), cAny, cV (PyData.int r_121)]) rfl (es_ret (g := fun r_125 : Int => (r_125, r_70)) (ev_op (evp_op (ev_var rfl) ev_int r2_div) (fun (x_122 : Int) => (ev_pure (a := many_p) (cc := fun r : Int => rV (PyData.int r)) (ev_var rfl))) (fun (x_122 : Int) (y_123 : Int) => r2_mod)) (fun _ => rfl) (fun r_125 => (ret_le (.same (.any (.same (.any (.nil)))))))))))))))
abbrev N__law_marks : List Str := ["e", "marks"]
theorem sc__law_marks : FnScope N__law_marks ["e"] (defScope s__law_marks) := ⟨rfl, rfl, rfl, by decide +kernel, rfl, by decide +kernel, by decide +kernel⟩
def m__law_marks (e_p : Nat) : Res (List Bool) :=
  ((Res.ok (([(decide (e_p = 0)), (decide (e_p = 1)), (decide (e_p = 2))] : List Bool) : (List Bool))).bind fun r_126 => ((catR r_126 ([(decide (e_p = 3)), (decide (e_p = 4))] : List Bool)).bind fun r_127 => ((catR r_127 ([(decide (e_p = 5)), (decide (e_p = 6))] : List Bool)).bind fun r_128 => ((catR r_128 ([(decide (e_p = 7)), (decide (e_p = 8))] : List Bool)).bind fun r_129 => ((catR r_129 ([(decide (e_p = 9)), (decide (e_p = 10))] : List Bool)).bind fun r_130 => ((catR r_130 ([(decide (e_p = 11)), (decide (e_p = 12))] : List Bool)).bind fun r_131 => ((catR r_131 ([(decide (e_p = 13)), (decide (e_p = 14))] : List Bool)).bind fun r_132 => Res.ok r_132)))))))
abbrev c__law_marks (b : (List Bool)) : V → Asr := oV (b.map dat)
set_option maxHeartbeats 1600000 in
theorem okX__law_marks (T : Txt K mg ad) : ∀ e_p, e_p < 16 → FnX P w K mg base (L2N.CX P w) 1 ad.a__law_marks ad.d__law_marks ["e"] (eaOf ad e_p) (fun a => Sp0 (ecOf ad) (fun _ : Unit => [fun v _ _ => v = V.ref a]) (fun _ => m__law_marks e_p) c__law_marks) := fun e_p hk => by
  have xc := T.xc _ hk
  refine T.F__law_marks.okH sc__law_marks (fun a vs H Q E h => sp0_go h fun x C hT hC hw => ?_) (fun cdv A outer s H vs Q E p hot hz hf hr h => sp0_go h fun x C hT hC hw => ?_)
  · exact len_of hT hC
  · have hl : vs.length = 1 := len_of hT hC
    obtain ⟨v0, rfl⟩ := len1 hl
    obtain rfl : v0 = V.ref p.1 := hT.fact fun F o s c => (hC F H o s c).1
    have hU : (A.deeper (PyProof.Rows.envOfC "_law_marks" (defScope s__law_marks) s.heap.objs.size ad.a__law_marks cdv)).units + 64 < cLine := Nat.lt_of_le_of_lt (by omega) hr.un
    have hU5 : (A.deeper (PyProof.Rows.envOfC "_law_marks" (defScope s__law_marks) s.heap.objs.size ad.a__law_marks cdv)).units + 65 < cLine := Nat.lt_of_le_of_lt (by omega) hr.un
    have hx : L2H.HotC (L2H.cxH (L2N.CX P w) P w K mg base N__law_marks "_law_marks" (defScope s__law_marks) ad.a__law_marks cdv A outer s H E p) := ⟨p, hot, List.mem_singleton.mpr rfl⟩
    refine ⟨_, (pss_cons (ps_set (i := 1) sc__law_marks.nd rfl (Or.inl rfl) (pe_lst (pa_cons (pe_callB (call_isX1 (oe := p.2) K rfl xc hz hf (List.mem_singleton.mpr rfl)) (by rfl) T.z_isinstance (by decide +kernel) (pa_cons (pv 0) (pa_cons (pe_glob (v := .ref ad.c_DifferentColumnsError) (by rfl) T.gC_DifferentColumnsError rfl) pa_nil))) (pa_cons (pe_callB (call_isX1 (oe := p.2) K rfl xc hz hf (List.mem_singleton.mpr rfl)) (by rfl) T.z_isinstance (by decide +kernel) (pa_cons (pv 0) (pa_cons (pe_glob (v := .ref ad.c_EmptyHistoryError) (by rfl) T.gC_EmptyHistoryError rfl) pa_nil))) (pa_cons (pe_callB (call_isX1 (oe := p.2) K rfl xc hz hf (List.mem_singleton.mpr rfl)) (by rfl) T.z_isinstance (by decide +kernel) (pa_cons (pv 0) (pa_cons (pe_glob (v := .ref ad.c_FullError) (by rfl) T.gC_FullError rfl) pa_nil))) pa_nil))))) (pss_cons (ps_set (i := 1) sc__law_marks.nd rfl (Or.inl rfl) (pe_op op_cat (pv 1) (pe_lst (pa_cons (pe_callB (call_isX1 (oe := p.2) K rfl xc hz hf (List.mem_singleton.mpr rfl)) (by rfl) T.z_isinstance (by decide +kernel) (pa_cons (pv 0) (pa_cons (pe_glob (v := .ref ad.c_InvalidCardsError) (by rfl) T.gC_InvalidCardsError rfl) pa_nil))) (pa_cons (pe_callB (call_isX1 (oe := p.2) K rfl xc hz hf (List.mem_singleton.mpr rfl)) (by rfl) T.z_isinstance (by decide +kernel) (pa_cons (pv 0) (pa_cons (pe_glob (v := .ref ad.c_InvalidColumnError) (by rfl) T.gC_InvalidColumnError rfl) pa_nil))) pa_nil))))) (pss_cons (ps_set (i := 1) sc__law_marks.nd rfl (Or.inl rfl) (pe_op op_cat (pv 1) (pe_lst (pa_cons (pe_callB (call_isX1 (oe := p.2) K rfl xc hz hf (List.mem_singleton.mpr rfl)) (by rfl) T.z_isinstance (by decide +kernel) (pa_cons (pv 0) (pa_cons (pe_glob (v := .ref ad.c_InvalidColumnsError) (by rfl) T.gC_InvalidColumnsError rfl) pa_nil))) (pa_cons (pe_callB (call_isX1 (oe := p.2) K rfl xc hz hf (List.mem_singleton.mpr rfl)) (by rfl) T.z_isinstance (by decide +kernel) (pa_cons (pv 0) (pa_cons (pe_glob (v := .ref ad.c_InvalidFlagError) (by rfl) T.gC_InvalidFlagError rfl) pa_nil))) pa_nil))))) (pss_cons (ps_set (i := 1) sc__law_marks.nd rfl (Or.inl rfl) (pe_op op_cat (pv 1) (pe_lst (pa_cons (pe_callB (call_isX1 (oe := p.2) K rfl xc hz hf (List.mem_singleton.mpr rfl)) (by rfl) T.z_isinstance (by decide +kernel) (pa_cons (pv 0) (pa_cons (pe_glob (v := .ref ad.c_InvalidFormatError) (by rfl) T.gC_InvalidFormatError rfl) pa_nil))) (pa_cons (pe_callB (call_isX1 (oe := p.2) K rfl xc hz hf (List.mem_singleton.mpr rfl)) (by rfl) T.z_isinstance (by decide +kernel) (pa_cons (pv 0) (pa_cons (pe_glob (v := .ref ad.c_InvalidHeightError) (by rfl) T.gC_InvalidHeightError rfl) pa_nil))) pa_nil))))) (pss_cons (ps_set (i := 1) sc__law_marks.nd rfl (Or.inl rfl) (pe_op op_cat (pv 1) (pe_lst (pa_cons (pe_callB (call_isX1 (oe := p.2) K rfl xc hz hf (List.mem_singleton.mpr rfl)) (by rfl) T.z_isinstance (by decide +kernel) (pa_cons (pv 0) (pa_cons (pe_glob (v := .ref ad.c_InvalidIndexError) (by rfl) T.gC_InvalidIndexError rfl) pa_nil))) (pa_cons (pe_callB (call_isX1 (oe := p.2) K rfl xc hz hf (List.mem_singleton.mpr rfl)) (by rfl) T.z_isinstance (by decide +kernel) (pa_cons (pv 0) (pa_cons (pe_glob (v := .ref ad.c_InvalidNumberError) (by rfl) T.gC_InvalidNumberError rfl) pa_nil))) pa_nil))))) (pss_cons (ps_set (i := 1) sc__law_marks.nd rfl (Or.inl rfl) (pe_op op_cat (pv 1) (pe_lst (pa_cons (pe_callB (call_isX1 (oe := p.2) K rfl xc hz hf (List.mem_singleton.mpr rfl)) (by rfl) T.z_isinstance (by decide +kernel) (pa_cons (pv 0) (pa_cons (pe_glob (v := .ref ad.c_InvalidStartError) (by rfl) T.gC_InvalidStartError rfl) pa_nil))) (pa_cons (pe_callB (call_isX1 (oe := p.2) K rfl xc hz hf (List.mem_singleton.mpr rfl)) (by rfl) T.z_isinstance (by decide +kernel) (pa_cons (pv 0) (pa_cons (pe_glob (v := .ref ad.c_InvalidTopsError) (by rfl) T.gC_InvalidTopsError rfl) pa_nil))) pa_nil))))) (pss_cons (ps_ret (pe_op op_cat (pv 1) (pe_lst (pa_cons (pe_callB (call_isX1 (oe := p.2) K rfl xc hz hf (List.mem_singleton.mpr rfl)) (by rfl) T.z_isinstance (by decide +kernel) (pa_cons (pv 0) (pa_cons (pe_glob (v := .ref ad.c_InvalidWayError) (by rfl) T.gC_InvalidWayError rfl) pa_nil))) (pa_cons (pe_callB (call_isX1 (oe := p.2) K rfl xc hz hf (List.mem_singleton.mpr rfl)) (by rfl) T.z_isinstance (by decide +kernel) (pa_cons (pv 0) (pa_cons (pe_glob (v := .ref ad.c_TooLargeError) (by rfl) T.gC_TooLargeError rfl) pa_nil))) pa_nil))))) pss_nil))))))), ?_⟩
    have hw : WP (m__law_marks e_p) (fun b => ∀ v H', Top (sep C (c__law_marks b v)) H' → Q v H') (fun k => ∀ H', Top C H' → E (ecOf ad k) none H') := hw
    refine fin0W (K := K) (Γ0 := [cIs (V.ref p.1), cAny]) (Γr := fun b : (List Bool) => [cAny, cAny]) (c := c__law_marks) hT (fun F o s c => ⟨fun _ => rfl, fun _ => trivial, trivial⟩) hw ?_
    exact (es_seq (es_asg (ev_pure (a := ([(decide (e_p = 0)), (decide (e_p = 1)), (decide (e_p = 2))] : List Bool)) (cc := fun r : (List Bool) => rO (r.map dat)) (evp_lst (ds := [(PyData.bool (decide (e_p = 0))), (PyData.bool (decide (e_p = 1))), (PyData.bool (decide (e_p = 2)))]) (eap_cons (ev_isX (i := 0) rfl (.own _) (T.xk_DifferentColumnsError _ hk)) (eap_cons (ev_isX (i := 0) rfl (.own _) (T.xk_EmptyHistoryError _ hk)) (eap_cons (ev_isX (i := 0) rfl (.own _) (T.xk_FullError _ hk)) eap_nil))) (.cons fz_v (.cons fz_v (.cons fz_v .nil))))) (fun _ => sto_f) (fun _ => lt_len rfl)) fun (r_126 : (List Bool)) => by exact EvS.is (Δ := [cIs (V.ref p.1), cV (PyData.list (r_126.map dat))]) rfl (es_seq (es_asg (evp_op (ev_var rfl) (evp_lst (ds := [(PyData.bool (decide (e_p = 3))), (PyData.bool (decide (e_p = 4)))]) (eap_cons (ev_isX (i := 0) rfl (.own _) (T.xk_InvalidCardsError _ hk)) (eap_cons (ev_isX (i := 0) rfl (.own _) (T.xk_InvalidColumnError _ hk)) eap_nil)) (.cons fz_v (.cons fz_v .nil))) (r2_cat pa_lv pa_lo)) (fun _ => sto_f) (fun _ => lt_len rfl)) fun (r_127 : (List Bool)) => by exact EvS.is (Δ := [cIs (V.ref p.1), cV (PyData.list (r_127.map dat))]) rfl (es_seq (es_asg (evp_op (ev_var rfl) (evp_lst (ds := [(PyData.bool (decide (e_p = 5))), (PyData.bool (decide (e_p = 6)))]) (eap_cons (ev_isX (i := 0) rfl (.own _) (T.xk_InvalidColumnsError _ hk)) (eap_cons (ev_isX (i := 0) rfl (.own _) (T.xk_InvalidFlagError _ hk)) eap_nil)) (.cons fz_v (.cons fz_v .nil))) (r2_cat pa_lv pa_lo)) (fun _ => sto_f) (fun _ => lt_len rfl)) fun (r_128 : (List Bool)) => by exact EvS.is (Δ := [cIs (V.ref p.1), cV (PyData.list (r_128.map dat))]) rfl (es_seq (es_asg (evp_op (ev_var rfl) (evp_lst (ds := [(PyData.bool (decide (e_p = 7))), (PyData.bool (decide (e_p = 8)))]) (eap_cons (ev_isX (i := 0) rfl (.own _) (T.xk_InvalidFormatError _ hk)) (eap_cons (ev_isX (i := 0) rfl (.own _) (T.xk_InvalidHeightError _ hk)) eap_nil)) (.cons fz_v (.cons fz_v .nil))) (r2_cat pa_lv pa_lo)) (fun _ => sto_f) (fun _ => lt_len rfl)) fun (r_129 : (List Bool)) => by exact EvS.is (Δ := [cIs (V.ref p.1), cV (PyData.list (r_129.map dat))]) rfl (es_seq (es_asg (evp_op (ev_var rfl) (evp_lst (ds := [(PyData.bool (decide (e_p = 9))), (PyData.bool (decide (e_p = 10)))]) (eap_cons (ev_isX (i := 0) rfl (.own _) (T.xk_InvalidIndexError _ hk)) (eap_cons (ev_isX (i := 0) rfl (.own _) (T.xk_InvalidNumberError _ hk)) eap_nil)) (.cons fz_v (.cons fz_v .nil))) (r2_cat pa_lv pa_lo)) (fun _ => sto_f) (fun _ => lt_len rfl)) fun (r_130 : (List Bool)) => by exact EvS.is (Δ := [cIs (V.ref p.1), cV (PyData.list (r_130.map dat))]) rfl (es_seq (es_asg (evp_op (ev_var rfl) (evp_lst (ds := [(PyData.bool (decide (e_p = 11))), (PyData.bool (decide (e_p = 12)))]) (eap_cons (ev_isX (i := 0) rfl (.own _) (T.xk_InvalidStartError _ hk)) (eap_cons (ev_isX (i := 0) rfl (.own _) (T.xk_InvalidTopsError _ hk)) eap_nil)) (.cons fz_v (.cons fz_v .nil))) (r2_cat pa_lv pa_lo)) (fun _ => sto_f) (fun _ => lt_len rfl)) fun (r_131 : (List Bool)) => by exact EvS.is (Δ := [cIs (V.ref p.1), cV (PyData.list (r_131.map dat))]) rfl (es_ret (g := fun r_132 : (List Bool) => r_132) (evp_op (ev_var rfl) (evp_lst (ds := [(PyData.bool (decide (e_p = 13))), (PyData.bool (decide (e_p = 14)))]) (eap_cons (ev_isX (i := 0) rfl (.own _) (T.xk_InvalidWayError _ hk)) (eap_cons (ev_isX (i := 0) rfl (.own _) (T.xk_TooLargeError _ hk)) eap_nil)) (.cons fz_v (.cons fz_v .nil))) (r2_cat pa_lv pa_lo)) (fun _ => rfl) (fun r_132 => (ret_le (.any (.any (.nil))))))))))))
def m__law_marks_c (e_p : Nat) : Res (List Bool) := Res.need (e_p < 16) (m__law_marks e_p)
abbrev ps__law_marks (ad : Ad) (x : Nat) : List PP := [ppE (eaOf ad x)]
set_option maxHeartbeats 1600000 in
theorem ok__law_marks (T : Txt K mg ad) : FnG gp P w K mg base (L2N.CX P w) 1 ad.a__law_marks ad.d__law_marks ["e"] (Sp0 (ecOf ad) (ps__law_marks ad) (fun x => m__law_marks_c x) c__law_marks) := by
  refine T.F__law_marks.okN sc__law_marks (fun vs H Q E h => sp0_go h fun x C hT hC hw => ?_) (fun cdv A outer s H vs Q E hr h => sp0_go h fun x C hT hC hw => ?_)
  · exact len_of hT hC
  · revert hT hC hw
    revert x
    intro e_p hT hC hw
    have hl : vs.length = 1 := len_of hT hC
    obtain ⟨v0, rfl⟩ := len1 hl
    have h0 : Bw (Ecf K E (ecOf ad) C) v0 (ppE (eaOf ad e_p)) := fun F H o s c => (hC F H o s c).1
    have hU : (A.deeper (PyProof.Rows.envOfC "_law_marks" (defScope s__law_marks) s.heap.objs.size ad.a__law_marks cdv)).units + 64 < cLine := Nat.lt_of_le_of_lt (by omega) hr.un
    have hU5 : (A.deeper (PyProof.Rows.envOfC "_law_marks" (defScope s__law_marks) s.heap.objs.size ad.a__law_marks cdv)).units + 65 < cLine := Nat.lt_of_le_of_lt (by omega) hr.un
    refine ⟨_, (pss_cons (ps_set (i := 1) sc__law_marks.nd rfl (Or.inl rfl) (pe_lst (pa_cons (pe_callB (call_isV K rfl) (by rfl) T.z_isinstance (by decide +kernel) (pa_cons (pv 0) (pa_cons (pe_glob (v := .ref ad.c_DifferentColumnsError) (by rfl) T.gC_DifferentColumnsError rfl) pa_nil))) (pa_cons (pe_callB (call_isV K rfl) (by rfl) T.z_isinstance (by decide +kernel) (pa_cons (pv 0) (pa_cons (pe_glob (v := .ref ad.c_EmptyHistoryError) (by rfl) T.gC_EmptyHistoryError rfl) pa_nil))) (pa_cons (pe_callB (call_isV K rfl) (by rfl) T.z_isinstance (by decide +kernel) (pa_cons (pv 0) (pa_cons (pe_glob (v := .ref ad.c_FullError) (by rfl) T.gC_FullError rfl) pa_nil))) pa_nil))))) (pss_cons (ps_set (i := 1) sc__law_marks.nd rfl (Or.inl rfl) (pe_op op_cat (pv 1) (pe_lst (pa_cons (pe_callB (call_isV K rfl) (by rfl) T.z_isinstance (by decide +kernel) (pa_cons (pv 0) (pa_cons (pe_glob (v := .ref ad.c_InvalidCardsError) (by rfl) T.gC_InvalidCardsError rfl) pa_nil))) (pa_cons (pe_callB (call_isV K rfl) (by rfl) T.z_isinstance (by decide +kernel) (pa_cons (pv 0) (pa_cons (pe_glob (v := .ref ad.c_InvalidColumnError) (by rfl) T.gC_InvalidColumnError rfl) pa_nil))) pa_nil))))) (pss_cons (ps_set (i := 1) sc__law_marks.nd rfl (Or.inl rfl) (pe_op op_cat (pv 1) (pe_lst (pa_cons (pe_callB (call_isV K rfl) (by rfl) T.z_isinstance (by decide +kernel) (pa_cons (pv 0) (pa_cons (pe_glob (v := .ref ad.c_InvalidColumnsError) (by rfl) T.gC_InvalidColumnsError rfl) pa_nil))) (pa_cons (pe_callB (call_isV K rfl) (by rfl) T.z_isinstance (by decide +kernel) (pa_cons (pv 0) (pa_cons (pe_glob (v := .ref ad.c_InvalidFlagError) (by rfl) T.gC_InvalidFlagError rfl) pa_nil))) pa_nil))))) (pss_cons (ps_set (i := 1) sc__law_marks.nd rfl (Or.inl rfl) (pe_op op_cat (pv 1) (pe_lst (pa_cons (pe_callB (call_isV K rfl) (by rfl) T.z_isinstance (by decide +kernel) (pa_cons (pv 0) (pa_cons (pe_glob (v := .ref ad.c_InvalidFormatError) (by rfl) T.gC_InvalidFormatError rfl) pa_nil))) (pa_cons (pe_callB (call_isV K rfl) (by rfl) T.z_isinstance (by decide +kernel) (pa_cons (pv 0) (pa_cons (pe_glob (v := .ref ad.c_InvalidHeightError) (by rfl) T.gC_InvalidHeightError rfl) pa_nil))) pa_nil))))) (pss_cons (ps_set (i := 1) sc__law_marks.nd rfl (Or.inl rfl) (pe_op op_cat (pv 1) (pe_lst (pa_cons (pe_callB (call_isV K rfl) (by rfl) T.z_isinstance (by decide +kernel) (pa_cons (pv 0) (pa_cons (pe_glob (v := .ref ad.c_InvalidIndexError) (by rfl) T.gC_InvalidIndexError rfl) pa_nil))) (pa_cons (pe_callB (call_isV K rfl) (by rfl) T.z_isinstance (by decide +kernel) (pa_cons (pv 0) (pa_cons (pe_glob (v := .ref ad.c_InvalidNumberError) (by rfl) T.gC_InvalidNumberError rfl) pa_nil))) pa_nil))))) (pss_cons (ps_set (i := 1) sc__law_marks.nd rfl (Or.inl rfl) (pe_op op_cat (pv 1) (pe_lst (pa_cons (pe_callB (call_isV K rfl) (by rfl) T.z_isinstance (by decide +kernel) (pa_cons (pv 0) (pa_cons (pe_glob (v := .ref ad.c_InvalidStartError) (by rfl) T.gC_InvalidStartError rfl) pa_nil))) (pa_cons (pe_callB (call_isV K rfl) (by rfl) T.z_isinstance (by decide +kernel) (pa_cons (pv 0) (pa_cons (pe_glob (v := .ref ad.c_InvalidTopsError) (by rfl) T.gC_InvalidTopsError rfl) pa_nil))) pa_nil))))) (pss_cons (ps_ret (pe_op op_cat (pv 1) (pe_lst (pa_cons (pe_callB (call_isV K rfl) (by rfl) T.z_isinstance (by decide +kernel) (pa_cons (pv 0) (pa_cons (pe_glob (v := .ref ad.c_InvalidWayError) (by rfl) T.gC_InvalidWayError rfl) pa_nil))) (pa_cons (pe_callB (call_isV K rfl) (by rfl) T.z_isinstance (by decide +kernel) (pa_cons (pv 0) (pa_cons (pe_glob (v := .ref ad.c_TooLargeError) (by rfl) T.gC_TooLargeError rfl) pa_nil))) pa_nil))))) pss_nil))))))), ?_⟩
    have hw : WP (m__law_marks_c e_p) (fun b => ∀ v H', Top (sep C (c__law_marks b v)) H' → Q v H') (fun k => ∀ H', Top C H' → E (ecOf ad k) none H') := hw
    obtain ⟨hk, hw⟩ := wp_needW hw
    refine fin0W (K := K) (Γ0 := [cIs v0, cAny]) (Γr := fun b : (List Bool) => [cAny, cAny]) (c := c__law_marks) hT (fun F o s c => ⟨fun _ => rfl, fun _ => trivial, trivial⟩) hw ?_
    exact (es_seq (es_asg (ev_pure (a := ([(decide (e_p = 0)), (decide (e_p = 1)), (decide (e_p = 2))] : List Bool)) (cc := fun r : (List Bool) => rO (r.map dat)) (evp_lst (ds := [(PyData.bool (decide (e_p = 0))), (PyData.bool (decide (e_p = 1))), (PyData.bool (decide (e_p = 2)))]) (eap_cons (ev_isE (ev_slot (i := 0) rfl no_Is) (pa_bw rfl h0) (T.xc _ hk) (.own _) (T.xk_DifferentColumnsError _ hk)) (eap_cons (ev_isE (ev_slot (i := 0) rfl no_Is) (pa_bw rfl h0) (T.xc _ hk) (.own _) (T.xk_EmptyHistoryError _ hk)) (eap_cons (ev_isE (ev_slot (i := 0) rfl no_Is) (pa_bw rfl h0) (T.xc _ hk) (.own _) (T.xk_FullError _ hk)) eap_nil))) (.cons fz_v (.cons fz_v (.cons fz_v .nil))))) (fun _ => sto_f) (fun _ => lt_len rfl)) fun (r_133 : (List Bool)) => by exact EvS.is (Δ := [cIs v0, cV (PyData.list (r_133.map dat))]) rfl (es_seq (es_asg (evp_op (ev_var rfl) (evp_lst (ds := [(PyData.bool (decide (e_p = 3))), (PyData.bool (decide (e_p = 4)))]) (eap_cons (ev_isE (ev_slot (i := 0) rfl no_Is) (pa_bw rfl h0) (T.xc _ hk) (.own _) (T.xk_InvalidCardsError _ hk)) (eap_cons (ev_isE (ev_slot (i := 0) rfl no_Is) (pa_bw rfl h0) (T.xc _ hk) (.own _) (T.xk_InvalidColumnError _ hk)) eap_nil)) (.cons fz_v (.cons fz_v .nil))) (r2_cat pa_lv pa_lo)) (fun _ => sto_f) (fun _ => lt_len rfl)) fun (r_134 : (List Bool)) => by exact EvS.is (Δ := [cIs v0, cV (PyData.list (r_134.map dat))]) rfl (es_seq (es_asg (evp_op (ev_var rfl) (evp_lst (ds := [(PyData.bool (decide (e_p = 5))), (PyData.bool (decide (e_p = 6)))]) (eap_cons (ev_isE (ev_slot (i := 0) rfl no_Is) (pa_bw rfl h0) (T.xc _ hk) (.own _) (T.xk_InvalidColumnsError _ hk)) (eap_cons (ev_isE (ev_slot (i := 0) rfl no_Is) (pa_bw rfl h0) (T.xc _ hk) (.own _) (T.xk_InvalidFlagError _ hk)) eap_nil)) (.cons fz_v (.cons fz_v .nil))) (r2_cat pa_lv pa_lo)) (fun _ => sto_f) (fun _ => lt_len rfl)) fun (r_135 : (List Bool)) => by exact EvS.is (Δ := [cIs v0, cV (PyData.list (r_135.map dat))]) rfl (es_seq (es_asg (evp_op (ev_var rfl) (evp_lst (ds := [(PyData.bool (decide (e_p = 7))), (PyData.bool (decide (e_p = 8)))]) (eap_cons (ev_isE (ev_slot (i := 0) rfl no_Is) (pa_bw rfl h0) (T.xc _ hk) (.own _) (T.xk_InvalidFormatError _ hk)) (eap_cons (ev_isE (ev_slot (i := 0) rfl no_Is) (pa_bw rfl h0) (T.xc _ hk) (.own _) (T.xk_InvalidHeightError _ hk)) eap_nil)) (.cons fz_v (.cons fz_v .nil))) (r2_cat pa_lv pa_lo)) (fun _ => sto_f) (fun _ => lt_len rfl)) fun (r_136 : (List Bool)) => by exact EvS.is (Δ := [cIs v0, cV (PyData.list (r_136.map dat))]) rfl (es_seq (es_asg (evp_op (ev_var rfl) (evp_lst (ds := [(PyData.bool (decide (e_p = 9))), (PyData.bool (decide (e_p = 10)))]) (eap_cons (ev_isE (ev_slot (i := 0) rfl no_Is) (pa_bw rfl h0) (T.xc _ hk) (.own _) (T.xk_InvalidIndexError _ hk)) (eap_cons (ev_isE (ev_slot (i := 0) rfl no_Is) (pa_bw rfl h0) (T.xc _ hk) (.own _) (T.xk_InvalidNumberError _ hk)) eap_nil)) (.cons fz_v (.cons fz_v .nil))) (r2_cat pa_lv pa_lo)) (fun _ => sto_f) (fun _ => lt_len rfl)) fun (r_137 : (List Bool)) => by exact EvS.is (Δ := [cIs v0, cV (PyData.list (r_137.map dat))]) rfl (es_seq (es_asg (evp_op (ev_var rfl) (evp_lst (ds := [(PyData.bool (decide (e_p = 11))), (PyData.bool (decide (e_p = 12)))]) (eap_cons (ev_isE (ev_slot (i := 0) rfl no_Is) (pa_bw rfl h0) (T.xc _ hk) (.own _) (T.xk_InvalidStartError _ hk)) (eap_cons (ev_isE (ev_slot (i := 0) rfl no_Is) (pa_bw rfl h0) (T.xc _ hk) (.own _) (T.xk_InvalidTopsError _ hk)) eap_nil)) (.cons fz_v (.cons fz_v .nil))) (r2_cat pa_lv pa_lo)) (fun _ => sto_f) (fun _ => lt_len rfl)) fun (r_138 : (List Bool)) => by exact EvS.is (Δ := [cIs v0, cV (PyData.list (r_138.map dat))]) rfl (es_ret (g := fun r_139 : (List Bool) => r_139) (evp_op (ev_var rfl) (evp_lst (ds := [(PyData.bool (decide (e_p = 13))), (PyData.bool (decide (e_p = 14)))]) (eap_cons (ev_isE (ev_slot (i := 0) rfl no_Is) (pa_bw rfl h0) (T.xc _ hk) (.own _) (T.xk_InvalidWayError _ hk)) (eap_cons (ev_isE (ev_slot (i := 0) rfl no_Is) (pa_bw rfl h0) (T.xc _ hk) (.own _) (T.xk_TooLargeError _ hk)) eap_nil)) (.cons fz_v (.cons fz_v .nil))) (r2_cat pa_lv pa_lo)) (fun _ => rfl) (fun r_139 => (ret_le (.any (.any (.nil))))))))))))
abbrev N__law_caught : List Str := ["start", "some", "marks", "e"]
theorem sc__law_caught : FnScope N__law_caught ["start", "some"] (defScope s__law_caught) := ⟨rfl, rfl, rfl, by decide +kernel, rfl, by decide +kernel, by decide +kernel⟩
def m__law_caught (start_p : PyData) (some_p : PyData) : Res (List Bool) :=
  ((catchR 16 ((m_tops_of start_p some_p).bind fun r_142 => (Res.ok ([] : (List Bool)))) (fun x => ((noErr (m__law_marks x)).bind fun r_140 => Res.ok r_140))).bind fun j_141 => (Res.ok j_141))
abbrev ps__law_caught (K : PySem.W.Frag) (x : PyData × PyData) : List PP := [ppX x.1, ppX x.2]
abbrev c__law_caught (b : (List Bool)) : V → Asr := vA (PyData.list (b.map dat))
set_option maxHeartbeats 1600000 in
theorem ok__law_caught (T : Txt K mg ad) : FnG gp P w K mg base (L2N.CX P w) 5 ad.a__law_caught ad.d__law_caught ["start", "some"] (Sp0 (ecOf ad) (ps__law_caught K) (fun x => m__law_caught x.1 x.2) c__law_caught) := by
  have G_tops_of : FnG gp P w K mg base (L2N.CX P w) 4 ad.a_tops_of ad.d_tops_of ["start", "heights"] (Sp0 (ecOf ad) (ps_tops_of K) (fun x => m_tops_of x.1 x.2) c_tops_of) := ok_tops_of T
  have GX__law_marks := okX__law_marks (P := P) (w := w) (base := base) T
  refine T.F__law_caught.okN sc__law_caught (fun vs H Q E h => sp0_go h fun x C hT hC hw => ?_) (fun cdv A outer s H vs Q E hr h => sp0_go h fun x C hT hC hw => ?_)
  · exact len_of hT hC
  · obtain ⟨start_p, some_p⟩ := x
    have hl : vs.length = 2 := len_of hT hC
    obtain ⟨v0, v1, rfl⟩ := len2 hl
    have h0 : Bw (Ecf K E (ecOf ad) C) v0 (ppX start_p) := fun F H o s c => (hC F H o s c).1
    have h1 : Bw (Ecf K E (ecOf ad) C) v1 (ppX some_p) := fun F H o s c => (hC F H o s c).2.1
    have hU : (A.deeper (PyProof.Rows.envOfC "_law_caught" (defScope s__law_caught) s.heap.objs.size ad.a__law_caught cdv)).units + 64 < cLine := Nat.lt_of_le_of_lt (by omega) hr.un
    have hU5 : (A.deeper (PyProof.Rows.envOfC "_law_caught" (defScope s__law_caught) s.heap.objs.size ad.a__law_caught cdv)).units + 65 < cLine := Nat.lt_of_le_of_lt (by omega) hr.un
    have tk : L2N.Takes (cxOf (L2N.CX P w) P w K mg base N__law_caught "_law_caught" (defScope s__law_caught) ad.a__law_caught cdv A outer s H E) (fun cls d _ H => E cls d H) := L2N.takes_of rfl rfl rfl rfl
    refine ⟨_, (pss_cons (ps_set (i := 2) sc__law_caught.nd rfl (Or.inl rfl) (pe_lst pa_nil)) (pss_cons (ps_tryX (i := 3) (n := 16) (ec := ecOf ad) rfl rfl sc__law_caught.nd rfl rfl ⟨rfl, by decide, .inl T.gC_LowcolumnsError⟩ tk (fun W pn xe tk po => by exact (pss_cons (ps_expr (pe_callG G_tops_of (hr.mono (by decide)) (by rfl) T.g_tops_of T.F_tops_of.kp T.b_tops_of (fun σ => L2N.passAt tk σ) (pa_cons (pv 0) (pa_cons (pv 1) pa_nil)))) pss_nil)) (fun a oe x pn hk hz hd => by exact (pss_cons (ps_set (i := 2) sc__law_caught.nd rfl (Or.inl rfl) (pe_callX (GX__law_marks _ hk) hz hd ((L2H.roomH_of hr.rm).mono (by decide)) (by rfl) T.g__law_marks T.F__law_marks.kp T.b__law_marks (pa_cons (pv 3) pa_nil))) pss_nil))) (pss_cons (ps_ret (pv 2)) pss_nil))), ?_⟩
    have hw : WP (m__law_caught start_p some_p) (fun b => ∀ v H', Top (sep C (c__law_caught b v)) H' → Q v H') (fun k => ∀ H', Top C H' → E (ecOf ad k) none H') := hw
    refine fin0W (K := K) (Γ0 := [cIs v0, cIs v1, cAny, cAny]) (Γr := fun b : (List Bool) => [cAny, cAny, cAny, cAny]) (c := c__law_caught) hT (fun F o s c => ⟨fun _ => rfl, fun _ => rfl, fun _ => trivial, fun _ => trivial, trivial⟩) hw ?_
    exact (es_seqP (es_asgP (evp_lst (ds := []) eap_nil .nil) sto_f (lt_len rfl)) (by exact EvS.is (Δ := [cIs v0, cIs v1, cV (PyData.list (([] : (List Bool)).map dat)), cAny]) rfl (es_seq (es_try (n := 16) (i := 3) (Γx := [cIs v0, cIs v1, cAny, cAny]) (post := (fun j_141 : (List Bool) => Fin.nx [cIs v0, cIs v1, cV (PyData.list (j_141.map dat)), cAny])) (fun W => by exact (es_seq (es_drop (evp_callS (start_p, some_p) (eap_cons (ev_slot (i := 0) rfl no_Is) (eap_cons (ev_slot (i := 1) rfl no_Is) eap_nil)) (pars_cons (pa_bw rfl h0) (pars_cons (pa_bw rfl h1) pars_nil)) (xok_le (.same (.same (.any (.same .nil))))))) fun (r_142 : Unit) => by exact EvS.is (Δ := [cIs v0, cIs v1, cV (PyData.list (([] : (List Bool)).map dat)), cAny]) rfl (es_end (b := ([] : (List Bool))) rfl (.same (.same (.same (.same .nil))))))) T.xm (lt_len rfl) (fun a x hk => by exact EvS.is (Δ := [cIs v0, cIs v1, cAny, cIs (V.ref a)]) rfl (es_seq (es_asg (evx_call () (eap_cons (ev_slot (i := 3) rfl no_Is) eap_nil) (pars_cons (pa_is rfl) pars_nil)) (fun _ => sto_f) (fun _ => lt_len rfl)) fun (r_140 : (List Bool)) => by exact EvS.is (Δ := [cIs v0, cIs v1, cV (PyData.list (r_140.map dat)), cIs (V.ref a)]) rfl (es_end (b := r_140) rfl (.same (.same (.same (.any (.nil)))))))) (fun b => rfl)) fun (j_141 : (List Bool)) => by exact EvS.is (Δ := [cIs v0, cIs v1, cV (PyData.list (j_141.map dat)), cAny]) rfl (es_retP (b := j_141) (ev_var rfl) rfl (ret_le (.any (.any (.any (.same .nil)))))))))
abbrev N__law_right : List Str := ["message", "some", "k", "due", "place", "j"]
theorem sc__law_right : FnScope N__law_right ["message"] (defScope s__law_right) := ⟨rfl, rfl, rfl, by decide +kernel, rfl, by decide +kernel, by decide +kernel⟩
def m__law_right (message_p : Str) : Res Bool :=
  (Jn.sq ((rangeR 0 15).bind fun a_143 => forR a_143 () fun s_145 x_144 => (((((getI [0, 1, 2, 3, 4, 5, 6, 7, 8, 9, 10, 11, 12, 13, 14] x_144).bind fun a_146 => (Res.ok ()).bind fun r_147 => Res.ok (a_146, r_147)).bind fun p_148 => m__law_marks_c p_148.1).bind fun x_155 => ((rangeR 0 15).bind fun a_156 => compR a_156 () [] fun s_158 x_157 => Res.ok (some (decide (x_157 = x_144)), s_158)).bind fun y_159 => Res.ok (!eqD (x_155 : (List Bool)) (y_159.1 : (List Bool)))).bind fun c_160 => if c_160 then (Res.ok (Lp.ret false)) else (((((getI [0, 1, 2, 3, 4, 5, 6, 7, 8, 9, 10, 11, 12, 13, 14] x_144).bind fun q_161 => Res.need (q_161 < 16) (Res.ok true)).bind fun r_164 => Res.ok (!r_164)).bind fun b_165 => if b_165 then Res.ok true else (((getI [0, 1, 2, 3, 4, 5, 6, 7, 8, 9, 10, 11, 12, 13, 14] x_144).bind fun q_162 => Res.need (q_162 < 16) (Res.ok true)).bind fun r_163 => Res.ok (!r_163))).bind fun c_166 => if c_166 then (Res.ok (Lp.ret false)) else (Res.ok (Lp.next ()))))) (fun (j_167 : Unit) => (((Res.ok (true : Bool)).bind fun x_168 => (m__law_marks_c 15).bind fun y_169 => Res.ok (inL (x_168 : Bool) (y_169 : (List Bool)))).bind fun c_170 => if c_170 then (Res.ok false) else (((Res.ok ()).bind fun a_171 => compR ([11, 3, 11] : List Int) () [] fun s_173 x_172 => ((rangeR 0 15).bind fun a_174 => compR a_174 () [] fun s_176 x_175 => Res.ok (some (decide (x_175 = x_172)), s_176)).bind fun r_177 => Res.ok (some r_177.1, s_173)).bind fun r_178 => ((((m__law_caught PyData.none (PyData.list (([1] : List Int).map dat))).bind fun a_179 => ((m__law_caught (PyData.list (([0] : List Int).map dat)) (PyData.list (([0] : List Int).map dat))).bind fun a_180 => ((m__law_caught (PyData.list (([(-1)] : List Int).map dat)) PyData.none).bind fun a_181 => (Res.ok ()).bind fun r_182 => Res.ok (a_181, r_182)).bind fun r_183 => Res.ok (a_180, r_183)).bind fun r_184 => Res.ok (a_179, r_184)).bind fun x_185 => (Res.ok (r_178.1 : (List (List Bool)))).bind fun y_186 => Res.ok (eqD (([x_185.1, x_185.2.1, x_185.2.2.1] : List (List Bool)) : (List (List Bool))) (y_186 : (List (List Bool))))).bind fun r_187 => Res.ok r_187)))) fun b_188 => b_188)
abbrev ps__law_right (K : PySem.W.Frag) (x : Str) : List PP := [ppV (PyData.str x)]
abbrev c__law_right (b : Bool) : V → Asr := vA (PyData.bool b)
set_option maxHeartbeats 1600000 in
theorem ok__law_right (T : Txt K mg ad) : FnG gp P w K mg base (L2N.CX P w) 6 ad.a__law_right ad.d__law_right ["message"] (Sp0 (ecOf ad) (ps__law_right K) (fun x => m__law_right x) c__law_right) := by
  have G__law_caught : FnG gp P w K mg base (L2N.CX P w) 5 ad.a__law_caught ad.d__law_caught ["start", "some"] (Sp0 (ecOf ad) (ps__law_caught K) (fun x => m__law_caught x.1 x.2) c__law_caught) := ok__law_caught T
  have G__law_marks : FnG gp P w K mg base (L2N.CX P w) 1 ad.a__law_marks ad.d__law_marks ["e"] (Sp0 (ecOf ad) (ps__law_marks ad) (fun x => m__law_marks_c x) c__law_marks) := ok__law_marks T
  refine T.F__law_right.okN sc__law_right (fun vs H Q E h => sp0_go h fun x C hT hC hw => ?_) (fun cdv A outer s H vs Q E hr h => sp0_go h fun x C hT hC hw => ?_)
  · exact len_of hT hC
  · revert hT hC hw
    revert x
    intro message_p hT hC hw
    have hl : vs.length = 1 := len_of hT hC
    obtain ⟨v0, rfl⟩ := len1 hl
    have hU : (A.deeper (PyProof.Rows.envOfC "_law_right" (defScope s__law_right) s.heap.objs.size ad.a__law_right cdv)).units + 64 < cLine := Nat.lt_of_le_of_lt (by omega) hr.un
    have hU5 : (A.deeper (PyProof.Rows.envOfC "_law_right" (defScope s__law_right) s.heap.objs.size ad.a__law_right cdv)).units + 65 < cLine := Nat.lt_of_le_of_lt (by omega) hr.un
    have tk : L2N.Takes (cxOf (L2N.CX P w) P w K mg base N__law_right "_law_right" (defScope s__law_right) ad.a__law_right cdv A outer s H E) (fun cls d _ H => E cls d H) := L2N.takes_of rfl rfl rfl rfl
    refine ⟨_, (pss_cons (ps_set (i := 1) sc__law_right.nd rfl (Or.inl rfl) (pe_lst (pa_cons (pe_excT T.er_DifferentColumnsError T.gC_DifferentColumnsError (by rfl) (pv 0)) (pa_cons (pe_excT T.er_EmptyHistoryError T.gC_EmptyHistoryError (by rfl) (pv 0)) (pa_cons (pe_excT T.er_FullError T.gC_FullError (by rfl) (pv 0)) pa_nil))))) (pss_cons (ps_set (i := 1) sc__law_right.nd rfl (Or.inl rfl) (pe_op op_cat (pv 1) (pe_lst (pa_cons (pe_excT T.er_InvalidCardsError T.gC_InvalidCardsError (by rfl) (pv 0)) (pa_cons (pe_excT T.er_InvalidColumnError T.gC_InvalidColumnError (by rfl) (pv 0)) (pa_cons (pe_excT T.er_InvalidColumnsError T.gC_InvalidColumnsError (by rfl) (pv 0)) pa_nil)))))) (pss_cons (ps_set (i := 1) sc__law_right.nd rfl (Or.inl rfl) (pe_op op_cat (pv 1) (pe_lst (pa_cons (pe_excT T.er_InvalidFlagError T.gC_InvalidFlagError (by rfl) (pv 0)) (pa_cons (pe_excT T.er_InvalidFormatError T.gC_InvalidFormatError (by rfl) (pv 0)) (pa_cons (pe_excT T.er_InvalidHeightError T.gC_InvalidHeightError (by rfl) (pv 0)) pa_nil)))))) (pss_cons (ps_set (i := 1) sc__law_right.nd rfl (Or.inl rfl) (pe_op op_cat (pv 1) (pe_lst (pa_cons (pe_excT T.er_InvalidIndexError T.gC_InvalidIndexError (by rfl) (pv 0)) (pa_cons (pe_excT T.er_InvalidNumberError T.gC_InvalidNumberError (by rfl) (pv 0)) (pa_cons (pe_excT T.er_InvalidStartError T.gC_InvalidStartError (by rfl) (pv 0)) pa_nil)))))) (pss_cons (ps_set (i := 1) sc__law_right.nd rfl (Or.inl rfl) (pe_op op_cat (pv 1) (pe_lst (pa_cons (pe_excT T.er_InvalidTopsError T.gC_InvalidTopsError (by rfl) (pv 0)) (pa_cons (pe_excT T.er_InvalidWayError T.gC_InvalidWayError (by rfl) (pv 0)) (pa_cons (pe_excT T.er_TooLargeError T.gC_TooLargeError (by rfl) (pv 0)) pa_nil)))))) (pss_cons (ps_for (passes_of rfl) rfl (pi_range1 (by rfl) T.z_range (pa_cons pe_int pa_nil)) (pg_name (i := 2) sc__law_right.nd rfl (Or.inr rfl)) (pss_cons (ps_if (pt_cmpR (neDK K rfl hU) (pe_callG G__law_marks (hr.mono (by decide)) (by rfl) T.g__law_marks T.F__law_marks.kp T.b__law_marks (fun σ => L2N.passAt tk σ) (pa_cons (pe_ix (ixK K rfl) (pv 1) (pv 2) (fun _ _ => rfl)) pa_nil)) (pe_lc (own := [("j", 5)]) rfl sc__law_right.nd (pi_range1 (by rfl) T.z_range (pa_cons pe_int pa_nil)) (blkOk_by (own := [("j", 5)]) (N := N__law_right) (sc := defScope s__law_right) (by decide +kernel)) (fun _ _ _ _ _ => (pg_name (i := 5) sc__law_right.nd rfl (Or.inl rfl) (.inr rfl))) (fun _ _ _ _ _ => pts_nil) (fun _ _ _ _ _ => (pe_cmpR op_eq (pv 5) (pv 2) (nomark _)))) (nomark _)) (pss_cons (ps_ret pe_bl) pss_nil) pss_nil) (pss_cons (ps_if (PW.pt (pw_or (pt_not (pt_val (pe_callB (call_isV K rfl) (by rfl) T.z_isinstance (by decide +kernel) (pa_cons (pe_ix (ixK K rfl) (pv 1) (pv 2) (fun _ _ => rfl)) (pa_cons (pe_glob (v := .ref ad.c_LowcolumnsError) (by rfl) T.gC_LowcolumnsError rfl) pa_nil))))) (pw_or1 (pt_not (pt_val (pe_callB (call_isV K rfl) (by rfl) T.z_isinstance (by decide +kernel) (pa_cons (pe_ix (ixK K rfl) (pv 1) (pv 2) (fun _ _ => rfl)) (pa_cons (pe_bltn (v := .ty "ValueError") rfl T.z_ValueError (by decide +kernel) rfl) pa_nil)))))))) (pss_cons (ps_ret pe_bl) pss_nil) pss_nil) pss_nil))) (pss_cons (ps_if (pt_cmpR (inDK K rfl hU5) pe_bl (pe_callG G__law_marks (hr.mono (by decide)) (by rfl) T.g__law_marks T.F__law_marks.kp T.b__law_marks (fun σ => L2N.passAt tk σ) (pa_cons (pe_excT T.er_LowcolumnsError T.gC_LowcolumnsError (by rfl) (pv 0)) pa_nil)) (by rfl)) (pss_cons (ps_ret pe_bl) pss_nil) pss_nil) (pss_cons (ps_setLc (i := 3) (own := [("place", 4)]) rfl sc__law_right.nd rfl rfl (sw_true rfl rfl rfl (by decide +kernel)) (pi_list (pe_lst (pa_cons pe_int (pa_cons pe_int (pa_cons pe_int pa_nil))))) (blkOk_by (own := [("place", 4)]) (N := N__law_right) (sc := defScope s__law_right) (by decide +kernel)) (fun _ _ _ _ _ => (pg_name (i := 4) sc__law_right.nd rfl (Or.inr rfl) (.inl rfl))) (fun _ _ _ _ _ => pts_nil) (fun _ _ _ _ _ => (pe_lc (own := [("j", 5)]) rfl sc__law_right.nd (pi_range1 (by rfl) T.z_range (pa_cons pe_int pa_nil)) (blkOk_by (own := [("j", 5)]) (N := N__law_right) (sc := { kind := .function, names := [(".0", .local), ("place", .cell), ("range", .globalImplicit)], isGenerator := false, isCoroutine := false }) (by decide +kernel)) (fun _ _ _ _ _ => (pg_name (i := 5) sc__law_right.nd rfl (Or.inl rfl) (.inr rfl))) (fun _ _ _ _ _ => pts_nil) (fun _ _ _ _ _ => (pe_cmpR op_eq (pv 5) (pv 4) (nomark _)))))) (pss_cons (ps_ret (pe_cmpR (eqDK K rfl hU) (pe_lst (pa_cons (pe_callG G__law_caught (hr.mono (by decide)) (by rfl) T.g__law_caught T.F__law_caught.kp T.b__law_caught (fun σ => L2N.passAt tk σ) (pa_cons pe_non (pa_cons (pe_lst (pa_cons pe_int pa_nil)) pa_nil))) (pa_cons (pe_callG G__law_caught (hr.mono (by decide)) (by rfl) T.g__law_caught T.F__law_caught.kp T.b__law_caught (fun σ => L2N.passAt tk σ) (pa_cons (pe_lst (pa_cons pe_int pa_nil)) (pa_cons (pe_lst (pa_cons pe_int pa_nil)) pa_nil))) (pa_cons (pe_callG G__law_caught (hr.mono (by decide)) (by rfl) T.g__law_caught T.F__law_caught.kp T.b__law_caught (fun σ => L2N.passAt tk σ) (pa_cons (pe_lst (pa_cons (pe_un un_neg pe_int) pa_nil)) (pa_cons pe_non pa_nil))) pa_nil)))) (pv 3) (nomark _))) pss_nil))))))))), ?_⟩
    have hw : WP (m__law_right message_p) (fun b => ∀ v H', Top (sep C (c__law_right b v)) H' → Q v H') (fun k => ∀ H', Top C H' → E (ecOf ad k) none H') := hw
    refine fin0W (K := K) (Γ0 := [cV (PyData.str message_p), cAny, cAny, cAny, cAny, cAny]) (Γr := fun b : Bool => [cAny, cAny, cAny, cAny, cAny, cAny]) (c := c__law_right) hT (fun F o s c => ⟨fun _ => (hC F H o s c).1, fun _ => trivial, fun _ => trivial, fun _ => trivial, fun _ => trivial, fun _ => trivial, trivial⟩) hw ?_
    exact (es_seqP (es_asgP (evp_lstX (Ds := [eaOf ad 0, eaOf ad 1, eaOf ad 2]) (eap_cons (ev_exc (ev_var rfl)) (eap_cons (ev_exc (ev_var rfl)) (eap_cons (ev_exc (ev_var rfl)) eap_nil)))) sto_xs (lt_len rfl)) (by exact EvS.is (Δ := [cV (PyData.str message_p), cXs ([0, 1, 2].map (eaOf ad)), cAny, cAny, cAny, cAny]) rfl (es_seqP (es_asgP (evp_op (ev_varX rfl) (evp_lstX (Ds := [eaOf ad 3, eaOf ad 4, eaOf ad 5]) (eap_cons (ev_exc (ev_var rfl)) (eap_cons (ev_exc (ev_var rfl)) (eap_cons (ev_exc (ev_var rfl)) eap_nil)))) (r2_catX (by exact Nat.le_of_ble_eq_true rfl))) sto_xs (lt_len rfl)) (by exact EvS.is (Δ := [cV (PyData.str message_p), cXs ([0, 1, 2, 3, 4, 5].map (eaOf ad)), cAny, cAny, cAny, cAny]) rfl (es_seqP (es_asgP (evp_op (ev_varX rfl) (evp_lstX (Ds := [eaOf ad 6, eaOf ad 7, eaOf ad 8]) (eap_cons (ev_exc (ev_var rfl)) (eap_cons (ev_exc (ev_var rfl)) (eap_cons (ev_exc (ev_var rfl)) eap_nil)))) (r2_catX (by exact Nat.le_of_ble_eq_true rfl))) sto_xs (lt_len rfl)) (by exact EvS.is (Δ := [cV (PyData.str message_p), cXs ([0, 1, 2, 3, 4, 5, 6, 7, 8].map (eaOf ad)), cAny, cAny, cAny, cAny]) rfl (es_seqP (es_asgP (evp_op (ev_varX rfl) (evp_lstX (Ds := [eaOf ad 9, eaOf ad 10, eaOf ad 11]) (eap_cons (ev_exc (ev_var rfl)) (eap_cons (ev_exc (ev_var rfl)) (eap_cons (ev_exc (ev_var rfl)) eap_nil)))) (r2_catX (by exact Nat.le_of_ble_eq_true rfl))) sto_xs (lt_len rfl)) (by exact EvS.is (Δ := [cV (PyData.str message_p), cXs ([0, 1, 2, 3, 4, 5, 6, 7, 8, 9, 10, 11].map (eaOf ad)), cAny, cAny, cAny, cAny]) rfl (es_seqP (es_asgP (evp_op (ev_varX rfl) (evp_lstX (Ds := [eaOf ad 12, eaOf ad 13, eaOf ad 14]) (eap_cons (ev_exc (ev_var rfl)) (eap_cons (ev_exc (ev_var rfl)) (eap_cons (ev_exc (ev_var rfl)) eap_nil)))) (r2_catX (by exact Nat.le_of_ble_eq_true rfl))) sto_xs (lt_len rfl)) (by exact EvS.is (Δ := [cV (PyData.str message_p), cXs ([0, 1, 2, 3, 4, 5, 6, 7, 8, 9, 10, 11, 12, 13, 14].map (eaOf ad)), cAny, cAny, cAny, cAny]) rfl (es_seqGJ (post0 := (fun b : Bool => .rt [cAny, cAny, cAny, cAny, cAny, cAny] fun _ => c__law_right b)) (fun b_188 => b_188) (fun _ => rfl) (es_for (xs := fun a_143 : (List Int) => a_143) (Γs := fun s_145 : Unit => [cV (PyData.str message_p), cXs ([0, 1, 2, 3, 4, 5, 6, 7, 8, 9, 10, 11, 12, 13, 14].map (eaOf ad)), cAny, cAny, cAny, cAny]) (Γt := fun (s_145 : Unit) (x_144 : Int) => [cV (PyData.str message_p), cXs ([0, 1, 2, 3, 4, 5, 6, 7, 8, 9, 10, 11, 12, 13, 14].map (eaOf ad)), cV (PyData.int x_144), cAny, cAny, cAny]) (s0 := fun a_143 => ()) (ei_range1 (eap_cons ev_int eap_nil)) (fun _ _ => trivial) (fun a_143 => (.same (.same (.same (.same (.same (.same .nil))))))) (fun s_145 x_144 => (eg_name (lt_len rfl))) (fun s_145 x_144 => by exact (es_ifTM (b := fun c_160 : Bool => c_160) (et_val (b := fun r : Bool => r) (ev_op (ev_callSC (fun p_148 : (Nat × Unit) => p_148.1) (ea_cons (Γ1 := fun (a_146 : Nat) => [cV (PyData.str message_p), cXs ([0, 1, 2, 3, 4, 5, 6, 7, 8, 9, 10, 11, 12, 13, 14].map (eaOf ad)), cV (PyData.int x_144), cAny, cAny, cAny]) (evp_op (ev_varX rfl) (ev_var rfl) (r2_ixX (ea := eaOf ad) (ks := [0, 1, 2, 3, 4, 5, 6, 7, 8, 9, 10, 11, 12, 13, 14]))) fun (a_146 : Nat) => ea_nil) rfl (fun p_148 => (pars_cons pa_x pars_nil)) xok_emp) (fun (x_155 : (List Bool)) => (el_comp (xs := fun a_156 : (List Int) => a_156) (Γs := fun s_158 : Unit => [cV (PyData.str message_p), cXs ([0, 1, 2, 3, 4, 5, 6, 7, 8, 9, 10, 11, 12, 13, 14].map (eaOf ad)), cV (PyData.int x_144), cAny, cAny, cAny]) (Γt := fun (s_158 : Unit) (x_157 : Int) => [cV (PyData.str message_p), cXs ([0, 1, 2, 3, 4, 5, 6, 7, 8, 9, 10, 11, 12, 13, 14].map (eaOf ad)), cV (PyData.int x_144), cAny, cAny, cV (PyData.int x_157)]) (s0 := fun a_156 => ()) (ei_range1 (eap_cons ev_int eap_nil)) (fun _ _ => trivial) (fun a_156 => (.same (.same (.same (.same (.same (.same .nil))))))) (fun s_158 => (hv_cons rfl hv_nil)) (fun s_158 x_157 => (eg_name (lt_len rfl))) (by decide) (fun s_158 x_157 => elj_yesP (b := (decide (x_157 = x_144))) (s := s_158) (evp_op (ev_var rfl) (ev_var rfl) r2_eqI) fz_v (.same (.same (.same (.same (.same (.any (.nil)))))))))) (fun (x_155 : (List Bool)) (y_159 : (List Bool × Unit)) => (r2_to (!eqD (x_155 : (List Bool)) (y_159.1 : (List Bool))) (Γ' := fun r : Bool => [cV (PyData.str message_p), cXs ([0, 1, 2, 3, 4, 5, 6, 7, 8, 9, 10, 11, 12, 13, 14].map (eaOf ad)), cV (PyData.int x_144), cAny, cAny, cAny]) (c := fun r : Bool => rV (PyData.bool r)) (r2_ne (pa_D (pa_S pa_lo)) (pa_D (pa_S pa_lo)) (shp (α := (List Bool)) (a := x_155)) (shp (α := (List Bool)) (a := y_159.1))))))) (fun c_160 => by exact (es_retP (b := (Lp.ret false)) ev_bl rfl (ret_le (.any (.any (.any (.same (.same (.same .nil))))))))) (fun c_160 => by exact (es_ifTM (b := fun c_166 : Bool => c_166) (et_or (et_norm (b := fun r_164 : Bool => (!r_164)) (et_not (b := fun r : Bool => r) (et_val (b := fun r : Bool => r) (ev_isEJ (ea := eaOf ad) (n := 16) (g := fun q_161 : Nat => q_161) (b := fun q_161 => true) (evp_op (ev_varX rfl) (ev_var rfl) (r2_ixX (ea := eaOf ad) (ks := [0, 1, 2, 3, 4, 5, 6, 7, 8, 9, 10, 11, 12, 13, 14]))) T.xc (.own _) T.xk_LowcolumnsError)))) (et_norm (b := fun r_163 : Bool => (!r_163)) (et_not (b := fun r : Bool => r) (et_val (b := fun r : Bool => r) (ev_isEJ (ea := eaOf ad) (n := 16) (g := fun q_162 : Nat => q_162) (b := fun q_162 => true) (evp_op (ev_varX rfl) (ev_var rfl) (r2_ixX (ea := eaOf ad) (ks := [0, 1, 2, 3, 4, 5, 6, 7, 8, 9, 10, 11, 12, 13, 14]))) T.xc (.ty _) T.xk_ValueError))))) (fun c_166 => by exact (es_retP (b := (Lp.ret false)) ev_bl rfl (ret_le (.any (.any (.any (.same (.same (.same .nil))))))))) (fun c_166 => by exact (es_endL (b := (Lp.next ())) rfl (.same (.same (.any (.same (.same (.same .nil)))))))))))) (fun _ => ⟨nofun, nofun, nofun⟩)) fun (j_167 : Unit) => by exact EvS.is (Δ := [cV (PyData.str message_p), cXs ([0, 1, 2, 3, 4, 5, 6, 7, 8, 9, 10, 11, 12, 13, 14].map (eaOf ad)), cAny, cAny, cAny, cAny]) rfl (es_ifTM (b := fun c_170 : Bool => c_170) (et_val (b := fun r : Bool => r) (ev_op (ev_pure (a := true) (cc := fun r : Bool => rV (PyData.bool r)) ev_bl) (fun (x_168 : Bool) => (evp_callS 15 (eap_cons (ev_exc (ev_var rfl)) eap_nil) (pars_cons pa_x pars_nil) xok_emp)) (fun (x_168 : Bool) (y_169 : (List Bool)) => (r2_to (inL (x_168 : Bool) (y_169 : (List Bool))) (Γ' := fun r : Bool => [cV (PyData.str message_p), cXs ([0, 1, 2, 3, 4, 5, 6, 7, 8, 9, 10, 11, 12, 13, 14].map (eaOf ad)), cAny, cAny, cAny, cAny]) (c := fun r : Bool => rV (PyData.bool r)) (r2_inD pa_dv (pa_D (pa_S pa_lo)) (shp (α := Bool) (a := x_168)) (shp (α := (List Bool)) (a := y_169))))))) (fun c_170 => by exact (es_retP (b := false) ev_bl rfl (ret_le (.any (.any (.same (.same (.same (.same .nil))))))))) (fun c_170 => by exact (es_seq (es_asg (el_comp (xs := fun a_171 : Unit => ([11, 3, 11] : List Int)) (Γs := fun s_173 : Unit => [cV (PyData.str message_p), cXs ([0, 1, 2, 3, 4, 5, 6, 7, 8, 9, 10, 11, 12, 13, 14].map (eaOf ad)), cAny, cAny, cAny, cAny]) (Γt := fun (s_173 : Unit) (x_172 : Int) => [cV (PyData.str message_p), cXs ([0, 1, 2, 3, 4, 5, 6, 7, 8, 9, 10, 11, 12, 13, 14].map (eaOf ad)), cAny, cAny, cV (PyData.int x_172), cAny]) (s0 := fun a_171 => ()) (ei_list (ds := fun _ => (([11, 3, 11] : List Int).map dat)) (evp_lst (ds := [(PyData.int 11), (PyData.int 3), (PyData.int 11)]) (eap_cons ev_int (eap_cons ev_int (eap_cons ev_int eap_nil))) (.cons fz_v (.cons fz_v (.cons fz_v .nil)))) fun _ => src_o) (fun _ _ => trivial) (fun a_171 => (.same (.same (.same (.same (.same (.same .nil))))))) (fun s_173 => (hv_cons rfl hv_nil)) (fun s_173 x_172 => (eg_name (lt_len rfl))) (by decide) (fun s_173 x_172 => elj_yes (b := fun r_177 : (List Bool × Unit) => r_177.1) (s := fun r_177 => s_173) (el_comp (xs := fun a_174 : (List Int) => a_174) (Γs := fun s_176 : Unit => [cV (PyData.str message_p), cXs ([0, 1, 2, 3, 4, 5, 6, 7, 8, 9, 10, 11, 12, 13, 14].map (eaOf ad)), cAny, cAny, cV (PyData.int x_172), cAny]) (Γt := fun (s_176 : Unit) (x_175 : Int) => [cV (PyData.str message_p), cXs ([0, 1, 2, 3, 4, 5, 6, 7, 8, 9, 10, 11, 12, 13, 14].map (eaOf ad)), cAny, cAny, cV (PyData.int x_172), cV (PyData.int x_175)]) (s0 := fun a_174 => ()) (ei_range1 (eap_cons ev_int eap_nil)) (fun _ _ => trivial) (fun a_174 => (.same (.same (.same (.same (.same (.same .nil))))))) (fun s_176 => (hv_cons rfl hv_nil)) (fun s_176 x_175 => (eg_name (lt_len rfl))) (by decide) (fun s_176 x_175 => elj_yesP (b := (decide (x_175 = x_172))) (s := s_176) (evp_op (ev_var rfl) (ev_var rfl) r2_eqI) fz_v (.same (.same (.same (.same (.same (.any (.nil))))))))) (fun _ => fz_o) (fun r_177 => (.same (.same (.same (.same (.any (.same .nil))))))))) (fun _ => sto_f) (fun _ => lt_len rfl)) fun (r_178 : (List (List Bool) × Unit)) => by exact EvS.is (Δ := [cV (PyData.str message_p), cXs ([0, 1, 2, 3, 4, 5, 6, 7, 8, 9, 10, 11, 12, 13, 14].map (eaOf ad)), cAny, cV (PyData.list (r_178.1.map dat)), cAny, cAny]) rfl (es_ret (g := fun r_187 : Bool => r_187) (ev_op (ev_lst (ds := fun p : ((List Bool) × (List Bool) × (List Bool) × Unit) => [(PyData.list (p.1.map dat)), (PyData.list (p.2.1.map dat)), (PyData.list (p.2.2.1.map dat))]) (ea_cons (Γ1 := fun (a_179 : (List Bool)) => [cV (PyData.str message_p), cXs ([0, 1, 2, 3, 4, 5, 6, 7, 8, 9, 10, 11, 12, 13, 14].map (eaOf ad)), cAny, cV (PyData.list (r_178.1.map dat)), cAny, cAny]) (evp_callS (PyData.none, (PyData.list (([1] : List Int).map dat))) (eap_cons ev_non (eap_cons (evp_lst (ds := [(PyData.int 1)]) (eap_cons ev_int eap_nil) (.cons fz_v .nil)) eap_nil)) (pars_cons pa_xv (pars_cons (pa_xl pa_lo) pars_nil)) xok_emp) fun (a_179 : (List Bool)) => (ea_cons (Γ1 := fun (a_180 : (List Bool)) => [cV (PyData.str message_p), cXs ([0, 1, 2, 3, 4, 5, 6, 7, 8, 9, 10, 11, 12, 13, 14].map (eaOf ad)), cAny, cV (PyData.list (r_178.1.map dat)), cAny, cAny]) (evp_callS ((PyData.list (([0] : List Int).map dat)), (PyData.list (([0] : List Int).map dat))) (eap_cons (evp_lst (ds := [(PyData.int 0)]) (eap_cons ev_int eap_nil) (.cons fz_v .nil)) (eap_cons (evp_lst (ds := [(PyData.int 0)]) (eap_cons ev_int eap_nil) (.cons fz_v .nil)) eap_nil)) (pars_cons (pa_xl pa_lo) (pars_cons (pa_xl pa_lo) pars_nil)) xok_emp) fun (a_180 : (List Bool)) => (ea_cons (Γ1 := fun (a_181 : (List Bool)) => [cV (PyData.str message_p), cXs ([0, 1, 2, 3, 4, 5, 6, 7, 8, 9, 10, 11, 12, 13, 14].map (eaOf ad)), cAny, cV (PyData.list (r_178.1.map dat)), cAny, cAny]) (evp_callS ((PyData.list (([(-1)] : List Int).map dat)), PyData.none) (eap_cons (evp_lst (ds := [(PyData.int (-1))]) (eap_cons (evp_un ev_int r1_neg) eap_nil) (.cons fz_v .nil)) (eap_cons ev_non eap_nil)) (pars_cons (pa_xl pa_lo) (pars_cons pa_xv pars_nil)) xok_emp) fun (a_181 : (List Bool)) => ea_nil))) fun p => (.cons fz_v (.cons fz_v (.cons fz_v .nil)))) (fun (x_185 : ((List Bool) × (List Bool) × (List Bool) × Unit)) => (ev_pure (a := r_178.1) (cc := fun r : (List (List Bool)) => rV (PyData.list (r.map dat))) (ev_var rfl))) (fun (x_185 : ((List Bool) × (List Bool) × (List Bool) × Unit)) (y_186 : (List (List Bool))) => (r2_to (eqD (([x_185.1, x_185.2.1, x_185.2.2.1] : List (List Bool)) : (List (List Bool))) (y_186 : (List (List Bool)))) (Γ' := fun r : Bool => [cV (PyData.str message_p), cXs ([0, 1, 2, 3, 4, 5, 6, 7, 8, 9, 10, 11, 12, 13, 14].map (eaOf ad)), cAny, cV (PyData.list (r_178.1.map dat)), cAny, cAny]) (c := fun r : Bool => rV (PyData.bool r)) (r2_eq (pa_D (pa_S pa_lo)) pa_dv (shp (α := (List (List Bool))) (a := ([x_185.1, x_185.2.1, x_185.2.2.1] : List (List Bool)))) (shp (α := (List (List Bool))) (a := y_186)))))) (fun _ => rfl) (fun r_187 => (ret_le (.any (.any (.same (.any (.same (.same .nil)))))))))))))))))))))))
abbrev N_law : List Str := ["script", "cells", "k", "bag"]
theorem sc_law : FnScope N_law ["script"] (defScope s_law) := ⟨rfl, rfl, rfl, by decide +kernel, rfl, by decide +kernel, by decide +kernel⟩
def m_law (script_p : (List Int)) : Res Bool :=
  (((Res.ok ((cutL script_p none (some 12)) : (List Int))).bind fun x_189 => (repR ([0] : List Int) (b2i' (eqD (script_p : (List Int)) (([] : (List Int)) : (List Int))))).bind fun y_190 => (catR x_189 y_190)).bind fun r_192 => (Jn.sq ((rangeR 0 ((r_192).length : Int)).bind fun a_193 => forR a_193 () fun s_195 x_194 => ((((getI r_192 x_194).bind fun a_196 => ((Res.ok (x_194 : Int)).bind fun a_197 => (Res.ok ()).bind fun r_198 => Res.ok (a_197, r_198)).bind fun r_199 => Res.ok (a_196, r_199)).bind fun p_200 => m__law_bag p_200.1 p_200.2.1).bind fun r_201 => ((((((Res.ok ((Str.ofString "a| ~") : Str)).bind fun x_208 => (m__law_draw r_201 4).bind fun y_209 => ((ixSR x_208 y_209.1)).bind fun z_210 => Res.ok (z_210, y_209.2)).bind fun x_211 => (m__law_draw x_211.2 60).bind fun y_212 => ((mulSR x_211.1 y_212.1)).bind fun z_213 => Res.ok (z_213, y_212.2)).bind fun a_214 => (Res.ok ()).bind fun r_215 => Res.ok (a_214, r_215)).bind fun p_216 => (m__law_right p_216.1.1).bind fun b_217 => Res.ok (p_216, b_217)).bind fun c_218 => if (!c_218.2) then (Res.ok (Lp.ret false)) else (Res.ok (Lp.next ()))))) (fun (j_219 : Unit) => (Res.ok true)) fun b_220 => b_220))
abbrev ps_law (K : PySem.W.Frag) (x : (List Int)) : List PP := [ppS K (x.map dat)]
abbrev c_law (b : Bool) : V → Asr := vA (PyData.bool b)
set_option maxHeartbeats 1600000 in
theorem ok_law (T : Txt K mg ad) : FnG gp P w K mg base (L2N.CX P w) 7 ad.a_law ad.d_law ["script"] (Sp0 (ecOf ad) (ps_law K) (fun x => m_law x) c_law) := by
  have G__law_bag : FnG gp P w K mg base (L2N.CX P w) 1 ad.a__law_bag ad.d__law_bag ["cell", "k"] (Sp0 (ecOf ad) (ps__law_bag K) (fun x => m__law_bag x.1 x.2) c__law_bag) := ok__law_bag T
  have G__law_draw : FnG gp P w K mg base (L2N.CX P w) 1 ad.a__law_draw ad.d__law_draw ["bag", "many"] (Sp1 (ecOf ad) (ps__law_draw K) (fun x : (List Int) × Int => (x.1.map dat)) (fun x => m__law_draw x.1 x.2) (fun b => (b.2.map dat)) c__law_draw) := ok__law_draw T
  have G__law_right : FnG gp P w K mg base (L2N.CX P w) 6 ad.a__law_right ad.d__law_right ["message"] (Sp0 (ecOf ad) (ps__law_right K) (fun x => m__law_right x) c__law_right) := ok__law_right T
  refine T.F_law.okN sc_law (fun vs H Q E h => sp0_go h fun x C hT hC hw => ?_) (fun cdv A outer s H vs Q E hr h => sp0_go h fun x C hT hC hw => ?_)
  · exact len_of hT hC
  · revert hT hC hw
    revert x
    intro script_p hT hC hw
    have hl : vs.length = 1 := len_of hT hC
    obtain ⟨v0, rfl⟩ := len1 hl
    have h0 : Bw (Ecf K E (ecOf ad) C) v0 (ppS K (script_p.map dat)) := fun F H o s c => (hC F H o s c).1
    have hU : (A.deeper (PyProof.Rows.envOfC "law" (defScope s_law) s.heap.objs.size ad.a_law cdv)).units + 64 < cLine := Nat.lt_of_le_of_lt (by omega) hr.un
    have hU5 : (A.deeper (PyProof.Rows.envOfC "law" (defScope s_law) s.heap.objs.size ad.a_law cdv)).units + 65 < cLine := Nat.lt_of_le_of_lt (by omega) hr.un
    have tk : L2N.Takes (cxOf (L2N.CX P w) P w K mg base N_law "law" (defScope s_law) ad.a_law cdv A outer s H E) (fun cls d _ H => E cls d H) := L2N.takes_of rfl rfl rfl rfl
    refine ⟨_, (pss_cons (ps_set (i := 1) sc_law.nd rfl (Or.inl rfl) (pe_op op_cat (pe_slice (slK K rfl) (pv 0) po_none (po_some pe_int)) (pe_op op_rep (pe_lst (pa_cons pe_int pa_nil)) (pe_callTy call_int1 (by rfl) T.z_int (by decide +kernel) (pa_cons (pe_cmpR (eqDK K rfl hU) (pv 0) (pe_lst pa_nil) (nomark _)) pa_nil))))) (pss_cons (ps_for (passes_of rfl) rfl (pi_range1 (by rfl) T.z_range (pa_cons (pe_callB (lenK K rfl) (by rfl) T.z_len PySem.boot_len (pa_cons (pv 1) pa_nil)) pa_nil)) (pg_name (i := 2) sc_law.nd rfl (Or.inl rfl)) (pss_cons (ps_set (i := 3) sc_law.nd rfl (Or.inl rfl) (pe_callG G__law_bag (hr.mono (by decide)) (by rfl) T.g__law_bag T.F__law_bag.kp T.b__law_bag (fun σ => L2N.passAt tk σ) (pa_cons (pe_ix (ixK K rfl) (pv 1) (pv 2) (fun _ _ => rfl)) (pa_cons (pv 2) pa_nil)))) (pss_cons (ps_if (pt_not (pt_val (pe_callG G__law_right (hr.mono (by decide)) (by rfl) T.g__law_right T.F__law_right.kp T.b__law_right (fun σ => L2N.passAt tk σ) (pa_cons (pe_op op_mulS (pe_ix ix_str pe_str (pe_callG G__law_draw (hr.mono (by decide)) (by rfl) T.g__law_draw T.F__law_draw.kp T.b__law_draw (fun σ => L2N.passAt tk σ) (pa_cons (pv 3) (pa_cons pe_int pa_nil))) (fun _ _ => rfl)) (pe_callG G__law_draw (hr.mono (by decide)) (by rfl) T.g__law_draw T.F__law_draw.kp T.b__law_draw (fun σ => L2N.passAt tk σ) (pa_cons (pv 3) (pa_cons pe_int pa_nil)))) pa_nil)))) (pss_cons (ps_ret pe_bl) pss_nil) pss_nil) pss_nil))) (pss_cons (ps_ret pe_bl) pss_nil))), ?_⟩
    have hw : WP (m_law script_p) (fun b => ∀ v H', Top (sep C (c_law b v)) H' → Q v H') (fun k => ∀ H', Top C H' → E (ecOf ad k) none H') := hw
    refine fin0W (K := K) (Γ0 := [cIs v0, cAny, cAny, cAny]) (Γr := fun b : Bool => [cAny, cAny, cAny, cAny]) (c := c_law) hT (fun F o s c => ⟨fun _ => rfl, fun _ => trivial, fun _ => trivial, fun _ => trivial, trivial⟩) hw ?_
    exact (es_seq (es_asg (ev_op (ev_pure (a := (cutL script_p none (some 12))) (cc := fun r : (List Int) => rO (r.map dat)) (evp_sl (ev_slot (i := 0) rfl no_Is) eo_no (eop ev_int) (rsl_list (xs := script_p) (pa_bw rfl h0)))) (fun (x_189 : (List Int)) => (evp_op (evp_lst (ds := [(PyData.int 0)]) (eap_cons ev_int eap_nil) (.cons fz_v .nil)) (evp_cb (eap_cons (evp_op (ev_slot (i := 0) rfl no_Is) (evp_lst (ds := []) eap_nil .nil) (r2_eq (pa_D (pa_bw rfl h0)) (pa_D (pa_S pa_lo)) (shp (α := (List Int)) (a := script_p)) (shp (α := (List Int)) (a := ([] : (List Int)))))) eap_nil) rn_intB) (r2_rep pa_lo))) (fun (x_189 : (List Int)) (y_190 : (List Int)) => (r2_cat pa_lo pa_lo))) (fun _ => sto_f) (fun _ => lt_len rfl)) fun (r_192 : (List Int)) => by exact EvS.is (Δ := [cIs v0, cV (PyData.list (r_192.map dat)), cAny, cAny]) rfl (es_seqGJ (post0 := (fun b : Bool => .rt [cAny, cAny, cAny, cAny] fun _ => c_law b)) (fun b_220 => b_220) (fun _ => rfl) (es_for (xs := fun a_193 : (List Int) => a_193) (Γs := fun s_195 : Unit => [cIs v0, cV (PyData.list (r_192.map dat)), cAny, cAny]) (Γt := fun (s_195 : Unit) (x_194 : Int) => [cIs v0, cV (PyData.list (r_192.map dat)), cV (PyData.int x_194), cAny]) (s0 := fun a_193 => ()) (ei_range1 (eap_cons (evp_cb (eap_cons (ev_var rfl) eap_nil) (rn_len (xs := r_192) (pa_S pa_lv))) eap_nil)) (fun _ _ => trivial) (fun a_193 => (.same (.same (.same (.same .nil))))) (fun s_195 x_194 => (eg_name (lt_len rfl))) (fun s_195 x_194 => by exact (es_seq (es_asg (ev_callSC (fun p_200 : (Int × Int × Unit) => (p_200.1, p_200.2.1)) (ea_cons (Γ1 := fun (a_196 : Int) => [cIs v0, cV (PyData.list (r_192.map dat)), cV (PyData.int x_194), cAny]) (evp_op (ev_var rfl) (ev_var rfl) (r2_ix (pa_S pa_lv))) fun (a_196 : Int) => (ea_cons (Γ1 := fun (a_197 : Int) => [cIs v0, cV (PyData.list (r_192.map dat)), cV (PyData.int x_194), cAny]) (ev_pure (a := x_194) (cc := fun r : Int => rV (PyData.int r)) (ev_var rfl)) fun (a_197 : Int) => ea_nil)) rfl (fun p_200 => (pars_cons pa_v (pars_cons pa_v pars_nil))) xok_emp) (fun _ => sto_o) (fun _ => lt_len rfl)) fun (r_201 : (List Int)) => by exact EvS.is (Δ := [cIs v0, cV (PyData.list (r_192.map dat)), cV (PyData.int x_194), cO (r_201.map dat)]) rfl (es_ifTM (b := fun c_218 : (((Str × List Int) × Unit) × Bool) => (!c_218.2)) (et_not (b := fun r : (((Str × List Int) × Unit) × Bool) => r.2) (et_val (b := fun r : (((Str × List Int) × Unit) × Bool) => r.2) (ev_callSe (fun p_216 : ((Str × List Int) × Unit) => p_216.1.1) (ea_cons (Γ1 := fun (a_214 : (Str × List Int)) => [cIs v0, cV (PyData.list (r_192.map dat)), cV (PyData.int x_194), cO (a_214.2.map dat)]) (ev_op (ev_op (ev_pure (a := (Str.ofString "a| ~")) (cc := fun r : Str => rV (PyData.str r)) ev_str) (fun (x_208 : Str) => (evp_callS1 (i := 3) (r_201, 4) own_O (eap_cons (ev_slot (i := 3) rfl no_O) (eap_cons ev_int eap_nil)) rfl (fun _ => (pars_cons pa_at (pars_cons pa_v pars_nil))) xok_emp)) (fun (x_208 : Str) (y_209 : (Int × List Int)) => (r2_map (fun z_210 => (z_210, y_209.2)) (Γ' := fun r : (Str × List Int) => [cIs v0, cV (PyData.list (r_192.map dat)), cV (PyData.int x_194), cO (r.2.map dat)]) (c := fun r : (Str × List Int) => rV (PyData.str r.1)) r2_ixS))) (fun (x_211 : (Str × List Int)) => (evp_callS1 (i := 3) (x_211.2, 60) own_O (eap_cons (ev_slot (i := 3) rfl no_O) (eap_cons ev_int eap_nil)) rfl (fun _ => (pars_cons pa_at (pars_cons pa_v pars_nil))) xok_emp)) (fun (x_211 : (Str × List Int)) (y_212 : (Int × List Int)) => (r2_map (fun z_213 => (z_213, y_212.2)) (Γ' := fun r : (Str × List Int) => [cIs v0, cV (PyData.list (r_192.map dat)), cV (PyData.int x_194), cO (r.2.map dat)]) (c := fun r : (Str × List Int) => rV (PyData.str r.1)) r2_mulS))) fun (a_214 : (Str × List Int)) => ea_nil) (fun p_216 => (pars_cons pa_v pars_nil)) (fun _ => xok_emp) (fun _ => rfl)))) (fun c_218 => by exact (es_retP (b := (Lp.ret false)) ev_bl rfl (ret_le (.any (.any (.any (.any (.nil)))))))) (fun c_218 => by exact (es_endL (b := (Lp.next ())) rfl (.same (.same (.any (.any (.nil)))))))))) (fun _ => ⟨nofun, nofun, nofun⟩)) fun (j_219 : Unit) => by exact EvS.is (Δ := [cIs v0, cV (PyData.list (r_192.map dat)), cAny, cAny]) rfl (es_retP (b := true) ev_bl rfl (ret_le (.any (.any (.same (.same .nil))))))))
end
theorem right_ok (s : Str) : m__law_right s = .ok true := by kernel_rfl
/-- a bag: what is left of the cell, a number -/
def Bg (k : Int) (s : List Int) : Prop := ∃ a b : Int, s = [a, b] ∧ 0 ≤ a ∧ 0 ≤ b ∧ b ≤ k
theorem getI2_0 (a b : Int) : getI [a, b] 0 = .ok a := rfl
theorem getI2_1 (a b : Int) : getI [a, b] 1 = .ok b := rfl
theorem setR2_0 (a b c : Int) : setR [a, b] 0 c = .ok [c, b] := rfl
theorem setR2_1 (a b c : Int) : setR [a, b] 1 c = .ok [a, c] := rfl
theorem draw_ok {k : Int} {s : List Int} {n : Int} (h : Bg k s) (hk : k < 1000000) (hn : 1 ≤ n) (hn2 : n < 1000) : Ok (m__law_draw s n) fun r => 0 ≤ r.1 ∧ r.1 < n ∧ Bg (k + 1) r.2 := by
  obtain ⟨a, b, rfl, ha, hb, hbk⟩ := h
  unfold m__law_draw
  refine Ok.noErr ?_
  rw [getI2_1]
  (repeat (with_reducible first | refine Ok.assoc ?_ | refine Ok.okb ?_); try dsimp only)
  rw [setR2_1]
  (repeat (with_reducible first | refine Ok.assoc ?_ | refine Ok.okb ?_); try dsimp only)
  rw [getI2_0]
  (repeat (with_reducible first | refine Ok.assoc ?_ | refine Ok.okb ?_); try dsimp only)
  split
  · (repeat (with_reducible first | refine Ok.assoc ?_ | refine Ok.okb ?_); try dsimp only)
    rw [modR_ok (by omega)]
    (repeat (with_reducible first | refine Ok.assoc ?_ | refine Ok.okb ?_); try dsimp only)
    rw [divR_ok (by omega) (by omega)]
    (repeat (with_reducible first | refine Ok.assoc ?_ | refine Ok.okb ?_); try dsimp only)
    rw [setR2_0]
    (repeat (with_reducible first | refine Ok.assoc ?_ | refine Ok.okb ?_); try dsimp only)
    exact Ok.pure ⟨Int.emod_nonneg _ (by omega), Int.emod_lt_of_pos _ (by omega), _, _, rfl, Int.ediv_nonneg ha (by omega), by omega, by omega⟩
  · (repeat (with_reducible first | refine Ok.assoc ?_ | refine Ok.okb ?_); try dsimp only)
    rw [modR_ok (by decide)]
    (repeat (with_reducible first | refine Ok.assoc ?_ | refine Ok.okb ?_); try dsimp only)
    rw [getI2_1]
    (repeat (with_reducible first | refine Ok.assoc ?_ | refine Ok.okb ?_); try dsimp only)
    rw [mulA_okL (by omega) (by omega)]
    (repeat (with_reducible first | refine Ok.assoc ?_ | refine Ok.okb ?_); try dsimp only)
    have h1 := Int.emod_nonneg a (show (2147483629 : Int) ≠ 0 by decide)
    have h2 := Int.emod_lt_of_pos a (show (0 : Int) < 2147483629 by decide)
    rw [modR_ok (by decide)]
    (repeat (with_reducible first | refine Ok.assoc ?_ | refine Ok.okb ?_); try dsimp only)
    generalize hx : (a % 2147483629 + 104729 * (b + 1) + 1) % 2147483587 = x
    have x0 : 0 ≤ x := hx ▸ Int.emod_nonneg _ (by decide)
    have x1 : x < 2147483587 := hx ▸ Int.emod_lt_of_pos _ (by decide)
    rw [mulA_okL (by omega) (by omega)]
    (repeat (with_reducible first | refine Ok.assoc ?_ | refine Ok.okb ?_); try dsimp only)
    rw [modR_ok (by decide)]
    (repeat (with_reducible first | refine Ok.assoc ?_ | refine Ok.okb ?_); try dsimp only)
    generalize hy : x * x % 2147483587 = y
    have y0 : 0 ≤ y := hy ▸ Int.emod_nonneg _ (by decide)
    have y1 : y < 2147483587 := hy ▸ Int.emod_lt_of_pos _ (by decide)
    rw [mulA_okL (by omega) (by omega)]
    (repeat (with_reducible first | refine Ok.assoc ?_ | refine Ok.okb ?_); try dsimp only)
    rw [modR_ok (by decide)]
    (repeat (with_reducible first | refine Ok.assoc ?_ | refine Ok.okb ?_); try dsimp only)
    generalize hz : (y + 40692 * (b + 1)) % 2147483563 = z
    have z0 : 0 ≤ z := hz ▸ Int.emod_nonneg _ (by decide)
    have z1 : z < 2147483563 := hz ▸ Int.emod_lt_of_pos _ (by decide)
    rw [mulA_okL (by omega) (by omega)]
    (repeat (with_reducible first | refine Ok.assoc ?_ | refine Ok.okb ?_); try dsimp only)
    rw [modR_ok (by decide)]
    (repeat (with_reducible first | refine Ok.assoc ?_ | refine Ok.okb ?_); try dsimp only)
    rw [divR_ok (by decide) (by decide)]
    (repeat (with_reducible first | refine Ok.assoc ?_ | refine Ok.okb ?_); try dsimp only)
    rw [modR_ok (by omega)]
    (repeat (with_reducible first | refine Ok.assoc ?_ | refine Ok.okb ?_); try dsimp only)
    exact Ok.pure ⟨Int.emod_nonneg _ (by omega), Int.emod_lt_of_pos _ (by omega), _, _, rfl, ha, by omega, by omega⟩
theorem bag_ok {cell k : Int} (h0 : 0 ≤ k) (h : k < 64) : Ok (m__law_bag cell k) (Bg 10000) := by
  unfold m__law_bag
  split
  · (repeat (with_reducible first | refine Ok.assoc ?_ | refine Ok.okb ?_); try dsimp only)
    rw [mulA_okL (by decide) (by decide)]
    (repeat (with_reducible first | refine Ok.assoc ?_ | refine Ok.okb ?_); try dsimp only)
    rename_i hc
    have := of_decide_eq_true hc
    exact Ok.pure ⟨_, _, rfl, by omega, by omega, by omega⟩
  · (repeat (with_reducible first | refine Ok.assoc ?_ | refine Ok.okb ?_); try dsimp only)
    rw [mulA_okL (by decide) (by decide)]
    (repeat (with_reducible first | refine Ok.assoc ?_ | refine Ok.okb ?_); try dsimp only)
    rename_i hc
    have : ¬ cell < 0 := fun z => hc (decide_eq_true z)
    exact Ok.pure ⟨_, _, rfl, by omega, by omega, by omega⟩
theorem abc_ok {i : Int} (h0 : 0 ≤ i) (h : i < 4) : Ok (ixSR (Str.ofString "a| ~") i) fun s => s.length ≤ 1 := by
  have : i = 0 ∨ i = 1 ∨ i = 2 ∨ i = 3 := by omega
  rcases this with rfl | rfl | rfl | rfl
  · exact ⟨⟨#[97]⟩, by kernel_rfl, Nat.le_refl _⟩
  · exact ⟨⟨#[124]⟩, by kernel_rfl, Nat.le_refl _⟩
  · exact ⟨⟨#[32]⟩, by kernel_rfl, Nat.le_refl _⟩
  · exact ⟨⟨#[126]⟩, by kernel_rfl, Nat.le_refl _⟩
theorem law_true (ns : List Int) (h : ns.length ≤ 63) : m_law ns = .ok true := by
  refine Ok.eq ?_
  unfold m_law
  (repeat (with_reducible first | refine Ok.assoc ?_ | refine Ok.okb ?_); try dsimp only)
  have hb : b2i' (eqD ns ([] : List Int)) = 0 ∨ b2i' (eqD ns ([] : List Int)) = 1 := by
    unfold b2i'
    split
    · exact .inr rfl
    · exact .inl rfl
  have hr : Ok (repR ([0] : List Int) (b2i' (eqD ns ([] : List Int)))) fun r => r.length ≤ 1 := by
    rcases hb with e | e
    · rw [e]
      exact ⟨[], by kernel_rfl, Nat.zero_le _⟩
    · rw [e]
      exact ⟨[0], by kernel_rfl, Nat.le_refl _⟩
  refine Ok.bind hr fun z hz => ?_
  (repeat (with_reducible first | refine Ok.assoc ?_ | refine Ok.okb ?_); try dsimp only)
  have hc := cutL_len ns none (some 12)
  rw [catR_ok (by show _ ≤ 16000000; omega)]
  (repeat (with_reducible first | refine Ok.assoc ?_ | refine Ok.okb ?_); try dsimp only)
  have hl : (cutL ns none (some 12) ++ z).length ≤ 64 := by
    rw [List.length_append]
    omega
  generalize cutL ns none (some 12) ++ z = cs at hl
  refine sq_ok (P := fun _ => True) ?_ fun _ _ => Ok.pure rfl
  rw [rangeR_ok (by decide) (by decide) (by omega) (by omega)]
  (repeat (with_reducible first | refine Ok.assoc ?_ | refine Ok.okb ?_); try dsimp only)
  refine Ok.imp (forR_ok (fun _ => True) (rangeL 0 (cs.length : Int)) () trivial fun st a ha _ => ?_) fun r hr => ?_
  · have hm := mem_range ha
    (repeat (with_reducible first | refine Ok.assoc ?_ | refine Ok.okb ?_); try dsimp only)
    refine Ok.bind (getI_ok hm.1 hm.2) fun c _ => ?_
    (repeat (with_reducible first | refine Ok.assoc ?_ | refine Ok.okb ?_); try dsimp only)
    refine Ok.bind (bag_ok hm.1 (by omega)) fun b hb => ?_
    (repeat (with_reducible first | refine Ok.assoc ?_ | refine Ok.okb ?_); try dsimp only)
    refine Ok.bind (draw_ok hb (by omega) (by decide) (by decide)) fun r1 ⟨a1, b1, g1⟩ => ?_
    (repeat (with_reducible first | refine Ok.assoc ?_ | refine Ok.okb ?_); try dsimp only)
    refine Ok.bind (abc_ok a1 b1) fun x hx => ?_
    (repeat (with_reducible first | refine Ok.assoc ?_ | refine Ok.okb ?_); try dsimp only)
    refine Ok.bind (draw_ok g1 (by omega) (by decide) (by decide)) fun r2 ⟨a2, b2, g2⟩ => ?_
    (repeat (with_reducible first | refine Ok.assoc ?_ | refine Ok.okb ?_); try dsimp only)
    have e : mulSR x r2.1 = .ok (Txt.mul x r2.1) := Res.need_of ⟨by omega, by omega, by omega⟩
    rw [e]
    (repeat (with_reducible first | refine Ok.assoc ?_ | refine Ok.okb ?_); try dsimp only)
    rw [right_ok]
    exact Ok.pure ⟨_, rfl, trivial⟩
  · obtain ⟨s', e, _⟩ := hr
    exact ⟨s', e, trivial⟩
section
set_option maxHeartbeats 3200000 in
theorem all_mk {l : PySem.W.OpenLaw} {w : World} {K : PySem.W.Frag} {h : Heap} {mg : Str → Option Value} {fa f_is_integer f_is_start f_is_cards f_check_start f_check_cards f_lowest_in f_laid f_tops_in f_tops_of f__law_bag f__law_draw f__law_marks f__law_caught f__law_right f_law fC_DifferentColumnsError fC_EmptyHistoryError fC_FullError fC_InvalidCardsError fC_InvalidColumnError fC_InvalidColumnsError fC_InvalidFlagError fC_InvalidFormatError fC_InvalidHeightError fC_InvalidIndexError fC_InvalidNumberError fC_InvalidStartError fC_InvalidTopsError fC_InvalidWayError fC_TooLargeError fC_LowcolumnsError : Addr} (X : K.In h) (G : h.Ns mainGlobals mg) (hfa : mg "law" = some (.ref fa))
    (hm : ∀ ns : List Int, ns.length ≤ 63 → m_law ns = .ok true)
    {od_is_integer an_is_integer : Option Addr} {sl_is_integer : Array (Option Value)} {oc_is_integer kV_is_integer dc_is_integer pm_is_integer cd_is_integer ct_is_integer : Value}
    {od_is_start an_is_start : Option Addr} {sl_is_start : Array (Option Value)} {oc_is_start kV_is_start dc_is_start pm_is_start cd_is_start ct_is_start : Value}
    {od_is_cards an_is_cards : Option Addr} {sl_is_cards : Array (Option Value)} {oc_is_cards kV_is_cards dc_is_cards pm_is_cards cd_is_cards ct_is_cards : Value}
    {od_check_start an_check_start : Option Addr} {sl_check_start : Array (Option Value)} {oc_check_start kV_check_start dc_check_start pm_check_start cd_check_start ct_check_start : Value}
    {od_check_cards an_check_cards : Option Addr} {sl_check_cards : Array (Option Value)} {oc_check_cards kV_check_cards dc_check_cards pm_check_cards cd_check_cards ct_check_cards : Value}
    {od_lowest_in an_lowest_in : Option Addr} {sl_lowest_in : Array (Option Value)} {oc_lowest_in kV_lowest_in dc_lowest_in pm_lowest_in cd_lowest_in ct_lowest_in : Value}
    {od_laid an_laid : Option Addr} {sl_laid : Array (Option Value)} {oc_laid kV_laid dc_laid pm_laid cd_laid ct_laid : Value}
    {od_tops_in an_tops_in : Option Addr} {sl_tops_in : Array (Option Value)} {oc_tops_in kV_tops_in dc_tops_in pm_tops_in cd_tops_in ct_tops_in : Value}
    {od_tops_of an_tops_of : Option Addr} {sl_tops_of : Array (Option Value)} {oc_tops_of kV_tops_of dc_tops_of pm_tops_of cd_tops_of ct_tops_of : Value}
    {od__law_bag an__law_bag : Option Addr} {sl__law_bag : Array (Option Value)} {oc__law_bag kV__law_bag dc__law_bag pm__law_bag cd__law_bag ct__law_bag : Value}
    {od__law_draw an__law_draw : Option Addr} {sl__law_draw : Array (Option Value)} {oc__law_draw kV__law_draw dc__law_draw pm__law_draw cd__law_draw ct__law_draw : Value}
    {od__law_marks an__law_marks : Option Addr} {sl__law_marks : Array (Option Value)} {oc__law_marks kV__law_marks dc__law_marks pm__law_marks cd__law_marks ct__law_marks : Value}
    {od__law_caught an__law_caught : Option Addr} {sl__law_caught : Array (Option Value)} {oc__law_caught kV__law_caught dc__law_caught pm__law_caught cd__law_caught ct__law_caught : Value}
    {od__law_right an__law_right : Option Addr} {sl__law_right : Array (Option Value)} {oc__law_right kV__law_right dc__law_right pm__law_right cd__law_right ct__law_right : Value}
    {od_law an_law : Option Addr} {sl_law : Array (Option Value)} {oc_law kV_law dc_law pm_law cd_law ct_law : Value}
    (a_is_integer : PySem.W.nsIn K mainGlobals "is_integer" = some (some (.ref f_is_integer))) (l_is_integer : K.lookup f_is_integer = some ⟨oc_is_integer, od_is_integer, .func (PySem.W.fnOf "is_integer" "is_integer" (defArgs s_is_integer) (defBody s_is_integer) (defScope s_is_integer) .none kV_is_integer dc_is_integer pm_is_integer an_is_integer cd_is_integer ct_is_integer), sl_is_integer⟩) (c_is_integer : PySem.W.codeIn K cd_is_integer "is_integer" = true) (k_is_integer : PySem.W.keepIn K (.ref f_is_integer) = true)
    (a_is_start : PySem.W.nsIn K mainGlobals "is_start" = some (some (.ref f_is_start))) (l_is_start : K.lookup f_is_start = some ⟨oc_is_start, od_is_start, .func (PySem.W.fnOf "is_start" "is_start" (defArgs s_is_start) (defBody s_is_start) (defScope s_is_start) .none kV_is_start dc_is_start pm_is_start an_is_start cd_is_start ct_is_start), sl_is_start⟩) (c_is_start : PySem.W.codeIn K cd_is_start "is_start" = true) (k_is_start : PySem.W.keepIn K (.ref f_is_start) = true)
    (a_is_cards : PySem.W.nsIn K mainGlobals "is_cards" = some (some (.ref f_is_cards))) (l_is_cards : K.lookup f_is_cards = some ⟨oc_is_cards, od_is_cards, .func (PySem.W.fnOf "is_cards" "is_cards" (defArgs s_is_cards) (defBody s_is_cards) (defScope s_is_cards) .none kV_is_cards dc_is_cards pm_is_cards an_is_cards cd_is_cards ct_is_cards), sl_is_cards⟩) (c_is_cards : PySem.W.codeIn K cd_is_cards "is_cards" = true) (k_is_cards : PySem.W.keepIn K (.ref f_is_cards) = true)
    (a_check_start : PySem.W.nsIn K mainGlobals "check_start" = some (some (.ref f_check_start))) (l_check_start : K.lookup f_check_start = some ⟨oc_check_start, od_check_start, .func (PySem.W.fnOf "check_start" "check_start" (defArgs s_check_start) (defBody s_check_start) (defScope s_check_start) .none kV_check_start dc_check_start pm_check_start an_check_start cd_check_start ct_check_start), sl_check_start⟩) (c_check_start : PySem.W.codeIn K cd_check_start "check_start" = true) (k_check_start : PySem.W.keepIn K (.ref f_check_start) = true)
    (a_check_cards : PySem.W.nsIn K mainGlobals "check_cards" = some (some (.ref f_check_cards))) (l_check_cards : K.lookup f_check_cards = some ⟨oc_check_cards, od_check_cards, .func (PySem.W.fnOf "check_cards" "check_cards" (defArgs s_check_cards) (defBody s_check_cards) (defScope s_check_cards) .none kV_check_cards dc_check_cards pm_check_cards an_check_cards cd_check_cards ct_check_cards), sl_check_cards⟩) (c_check_cards : PySem.W.codeIn K cd_check_cards "check_cards" = true) (k_check_cards : PySem.W.keepIn K (.ref f_check_cards) = true)
    (a_lowest_in : PySem.W.nsIn K mainGlobals "lowest_in" = some (some (.ref f_lowest_in))) (l_lowest_in : K.lookup f_lowest_in = some ⟨oc_lowest_in, od_lowest_in, .func (PySem.W.fnOf "lowest_in" "lowest_in" (defArgs s_lowest_in) (defBody s_lowest_in) (defScope s_lowest_in) .none kV_lowest_in dc_lowest_in pm_lowest_in an_lowest_in cd_lowest_in ct_lowest_in), sl_lowest_in⟩) (c_lowest_in : PySem.W.codeIn K cd_lowest_in "lowest_in" = true) (k_lowest_in : PySem.W.keepIn K (.ref f_lowest_in) = true)
    (a_laid : PySem.W.nsIn K mainGlobals "laid" = some (some (.ref f_laid))) (l_laid : K.lookup f_laid = some ⟨oc_laid, od_laid, .func (PySem.W.fnOf "laid" "laid" (defArgs s_laid) (defBody s_laid) (defScope s_laid) .none kV_laid dc_laid pm_laid an_laid cd_laid ct_laid), sl_laid⟩) (c_laid : PySem.W.codeIn K cd_laid "laid" = true) (k_laid : PySem.W.keepIn K (.ref f_laid) = true)
    (a_tops_in : PySem.W.nsIn K mainGlobals "tops_in" = some (some (.ref f_tops_in))) (l_tops_in : K.lookup f_tops_in = some ⟨oc_tops_in, od_tops_in, .func (PySem.W.fnOf "tops_in" "tops_in" (defArgs s_tops_in) (defBody s_tops_in) (defScope s_tops_in) .none kV_tops_in dc_tops_in pm_tops_in an_tops_in cd_tops_in ct_tops_in), sl_tops_in⟩) (c_tops_in : PySem.W.codeIn K cd_tops_in "tops_in" = true) (k_tops_in : PySem.W.keepIn K (.ref f_tops_in) = true)
    (a_tops_of : PySem.W.nsIn K mainGlobals "tops_of" = some (some (.ref f_tops_of))) (l_tops_of : K.lookup f_tops_of = some ⟨oc_tops_of, od_tops_of, .func (PySem.W.fnOf "tops_of" "tops_of" (defArgs s_tops_of) (defBody s_tops_of) (defScope s_tops_of) .none kV_tops_of dc_tops_of pm_tops_of an_tops_of cd_tops_of ct_tops_of), sl_tops_of⟩) (c_tops_of : PySem.W.codeIn K cd_tops_of "tops_of" = true) (k_tops_of : PySem.W.keepIn K (.ref f_tops_of) = true)
    (a__law_bag : PySem.W.nsIn K mainGlobals "_law_bag" = some (some (.ref f__law_bag))) (l__law_bag : K.lookup f__law_bag = some ⟨oc__law_bag, od__law_bag, .func (PySem.W.fnOf "_law_bag" "_law_bag" (defArgs s__law_bag) (defBody s__law_bag) (defScope s__law_bag) .none kV__law_bag dc__law_bag pm__law_bag an__law_bag cd__law_bag ct__law_bag), sl__law_bag⟩) (c__law_bag : PySem.W.codeIn K cd__law_bag "_law_bag" = true) (k__law_bag : PySem.W.keepIn K (.ref f__law_bag) = true)
    (a__law_draw : PySem.W.nsIn K mainGlobals "_law_draw" = some (some (.ref f__law_draw))) (l__law_draw : K.lookup f__law_draw = some ⟨oc__law_draw, od__law_draw, .func (PySem.W.fnOf "_law_draw" "_law_draw" (defArgs s__law_draw) (defBody s__law_draw) (defScope s__law_draw) .none kV__law_draw dc__law_draw pm__law_draw an__law_draw cd__law_draw ct__law_draw), sl__law_draw⟩) (c__law_draw : PySem.W.codeIn K cd__law_draw "_law_draw" = true) (k__law_draw : PySem.W.keepIn K (.ref f__law_draw) = true)
    (a__law_marks : PySem.W.nsIn K mainGlobals "_law_marks" = some (some (.ref f__law_marks))) (l__law_marks : K.lookup f__law_marks = some ⟨oc__law_marks, od__law_marks, .func (PySem.W.fnOf "_law_marks" "_law_marks" (defArgs s__law_marks) (defBody s__law_marks) (defScope s__law_marks) .none kV__law_marks dc__law_marks pm__law_marks an__law_marks cd__law_marks ct__law_marks), sl__law_marks⟩) (c__law_marks : PySem.W.codeIn K cd__law_marks "_law_marks" = true) (k__law_marks : PySem.W.keepIn K (.ref f__law_marks) = true)
    (a__law_caught : PySem.W.nsIn K mainGlobals "_law_caught" = some (some (.ref f__law_caught))) (l__law_caught : K.lookup f__law_caught = some ⟨oc__law_caught, od__law_caught, .func (PySem.W.fnOf "_law_caught" "_law_caught" (defArgs s__law_caught) (defBody s__law_caught) (defScope s__law_caught) .none kV__law_caught dc__law_caught pm__law_caught an__law_caught cd__law_caught ct__law_caught), sl__law_caught⟩) (c__law_caught : PySem.W.codeIn K cd__law_caught "_law_caught" = true) (k__law_caught : PySem.W.keepIn K (.ref f__law_caught) = true)
    (a__law_right : PySem.W.nsIn K mainGlobals "_law_right" = some (some (.ref f__law_right))) (l__law_right : K.lookup f__law_right = some ⟨oc__law_right, od__law_right, .func (PySem.W.fnOf "_law_right" "_law_right" (defArgs s__law_right) (defBody s__law_right) (defScope s__law_right) .none kV__law_right dc__law_right pm__law_right an__law_right cd__law_right ct__law_right), sl__law_right⟩) (c__law_right : PySem.W.codeIn K cd__law_right "_law_right" = true) (k__law_right : PySem.W.keepIn K (.ref f__law_right) = true)
    (a_law : PySem.W.nsIn K mainGlobals "law" = some (some (.ref f_law))) (l_law : K.lookup f_law = some ⟨oc_law, od_law, .func (PySem.W.fnOf "law" "law" (defArgs s_law) (defBody s_law) (defScope s_law) .none kV_law dc_law pm_law an_law cd_law ct_law), sl_law⟩) (c_law : PySem.W.codeIn K cd_law "law" = true) (k_law : PySem.W.keepIn K (.ref f_law) = true)
    {t_MOST_CARDS : Tok} (v_MOST_CARDS : PySem.W.nsIn K mainGlobals "MOST_CARDS" = some (some (.int 200 t_MOST_CARDS)))
    {t_MOST_COLUMNS : Tok} (v_MOST_COLUMNS : PySem.W.nsIn K mainGlobals "MOST_COLUMNS" = some (some (.int 30 t_MOST_COLUMNS)))
    {t_MOST_HEIGHT : Tok} (v_MOST_HEIGHT : PySem.W.nsIn K mainGlobals "MOST_HEIGHT" = some (some (.int 1000000000000000000000000000000 t_MOST_HEIGHT)))
    (z_ValueError : PySem.W.nsIn K mainGlobals "ValueError" = some none)
    (z_all : PySem.W.nsIn K mainGlobals "all" = some none)
    (z_bool : PySem.W.nsIn K mainGlobals "bool" = some none)
    (z_enumerate : PySem.W.nsIn K mainGlobals "enumerate" = some none)
    (z_int : PySem.W.nsIn K mainGlobals "int" = some none)
    (z_isinstance : PySem.W.nsIn K mainGlobals "isinstance" = some none)
    (z_len : PySem.W.nsIn K mainGlobals "len" = some none)
    (z_list : PySem.W.nsIn K mainGlobals "list" = some none)
    (z_min : PySem.W.nsIn K mainGlobals "min" = some none)
    (z_range : PySem.W.nsIn K mainGlobals "range" = some none)
    (aC_DifferentColumnsError : PySem.W.nsIn K mainGlobals "DifferentColumnsError" = some (some (.ref fC_DifferentColumnsError)))
    (aC_EmptyHistoryError : PySem.W.nsIn K mainGlobals "EmptyHistoryError" = some (some (.ref fC_EmptyHistoryError)))
    (aC_FullError : PySem.W.nsIn K mainGlobals "FullError" = some (some (.ref fC_FullError)))
    (aC_InvalidCardsError : PySem.W.nsIn K mainGlobals "InvalidCardsError" = some (some (.ref fC_InvalidCardsError)))
    (aC_InvalidColumnError : PySem.W.nsIn K mainGlobals "InvalidColumnError" = some (some (.ref fC_InvalidColumnError)))
    (aC_InvalidColumnsError : PySem.W.nsIn K mainGlobals "InvalidColumnsError" = some (some (.ref fC_InvalidColumnsError)))
    (aC_InvalidFlagError : PySem.W.nsIn K mainGlobals "InvalidFlagError" = some (some (.ref fC_InvalidFlagError)))
    (aC_InvalidFormatError : PySem.W.nsIn K mainGlobals "InvalidFormatError" = some (some (.ref fC_InvalidFormatError)))
    (aC_InvalidHeightError : PySem.W.nsIn K mainGlobals "InvalidHeightError" = some (some (.ref fC_InvalidHeightError)))
    (aC_InvalidIndexError : PySem.W.nsIn K mainGlobals "InvalidIndexError" = some (some (.ref fC_InvalidIndexError)))
    (aC_InvalidNumberError : PySem.W.nsIn K mainGlobals "InvalidNumberError" = some (some (.ref fC_InvalidNumberError)))
    (aC_InvalidStartError : PySem.W.nsIn K mainGlobals "InvalidStartError" = some (some (.ref fC_InvalidStartError)))
    (aC_InvalidTopsError : PySem.W.nsIn K mainGlobals "InvalidTopsError" = some (some (.ref fC_InvalidTopsError)))
    (aC_InvalidWayError : PySem.W.nsIn K mainGlobals "InvalidWayError" = some (some (.ref fC_InvalidWayError)))
    (aC_TooLargeError : PySem.W.nsIn K mainGlobals "TooLargeError" = some (some (.ref fC_TooLargeError)))
    (aC_LowcolumnsError : PySem.W.nsIn K mainGlobals "LowcolumnsError" = some (some (.ref fC_LowcolumnsError)))
    (en_DifferentColumnsError : PySem.W.excIn K fC_DifferentColumnsError [.type "ValueError", .type "Exception", .type "BaseException", .type "object"] "ValueError.__new__" = true)
    (ek_DifferentColumnsError : PySem.W.keepIn K (.ref fC_DifferentColumnsError) = true)
    (es_DifferentColumnsError : PySem.W.subIn K (.ref fC_DifferentColumnsError) (.type "BaseException") = some true)
    (et_DifferentColumnsError : PySem.W.typeIn K (.ref fC_DifferentColumnsError) = some (.type "type"))
    (xg_DifferentColumnsError : PySem.W.findIn K (.ref fC_DifferentColumnsError) "__getattribute__" = some (some (.builtin "BaseException.__getattribute__")))
    (xh_DifferentColumnsError : PySem.W.findIn K (.ref fC_DifferentColumnsError) "__getattr__" = some none)
    (xd_DifferentColumnsError : PySem.W.hasDictIn K fC_DifferentColumnsError = true)
    (xa_DifferentColumnsError : PySem.W.findIn K (.ref fC_DifferentColumnsError) "__class__" = some (some (.builtin "object.__class__")))
    (xo_DifferentColumnsError : PySem.W.mroIn K fC_DifferentColumnsError (.type "object") = some true)
    (xm_DifferentColumnsError : PySem.W.exmOne K (.ref fC_DifferentColumnsError) (.ref fC_LowcolumnsError) = some true)
    (x_DifferentColumnsError_DifferentColumnsError : PySem.W.kitOne K (.ref fC_DifferentColumnsError) (.ref fC_DifferentColumnsError) = some true)
    (x_DifferentColumnsError_EmptyHistoryError : PySem.W.kitOne K (.ref fC_DifferentColumnsError) (.ref fC_EmptyHistoryError) = some false)
    (x_DifferentColumnsError_FullError : PySem.W.kitOne K (.ref fC_DifferentColumnsError) (.ref fC_FullError) = some false)
    (x_DifferentColumnsError_InvalidCardsError : PySem.W.kitOne K (.ref fC_DifferentColumnsError) (.ref fC_InvalidCardsError) = some false)
    (x_DifferentColumnsError_InvalidColumnError : PySem.W.kitOne K (.ref fC_DifferentColumnsError) (.ref fC_InvalidColumnError) = some false)
    (x_DifferentColumnsError_InvalidColumnsError : PySem.W.kitOne K (.ref fC_DifferentColumnsError) (.ref fC_InvalidColumnsError) = some false)
    (x_DifferentColumnsError_InvalidFlagError : PySem.W.kitOne K (.ref fC_DifferentColumnsError) (.ref fC_InvalidFlagError) = some false)
    (x_DifferentColumnsError_InvalidFormatError : PySem.W.kitOne K (.ref fC_DifferentColumnsError) (.ref fC_InvalidFormatError) = some false)
    (x_DifferentColumnsError_InvalidHeightError : PySem.W.kitOne K (.ref fC_DifferentColumnsError) (.ref fC_InvalidHeightError) = some false)
    (x_DifferentColumnsError_InvalidIndexError : PySem.W.kitOne K (.ref fC_DifferentColumnsError) (.ref fC_InvalidIndexError) = some false)
    (x_DifferentColumnsError_InvalidNumberError : PySem.W.kitOne K (.ref fC_DifferentColumnsError) (.ref fC_InvalidNumberError) = some false)
    (x_DifferentColumnsError_InvalidStartError : PySem.W.kitOne K (.ref fC_DifferentColumnsError) (.ref fC_InvalidStartError) = some false)
    (x_DifferentColumnsError_InvalidTopsError : PySem.W.kitOne K (.ref fC_DifferentColumnsError) (.ref fC_InvalidTopsError) = some false)
    (x_DifferentColumnsError_InvalidWayError : PySem.W.kitOne K (.ref fC_DifferentColumnsError) (.ref fC_InvalidWayError) = some false)
    (x_DifferentColumnsError_TooLargeError : PySem.W.kitOne K (.ref fC_DifferentColumnsError) (.ref fC_TooLargeError) = some false)
    (x_DifferentColumnsError_LowcolumnsError : PySem.W.kitOne K (.ref fC_DifferentColumnsError) (.ref fC_LowcolumnsError) = some true)
    (x_DifferentColumnsError_ValueError : PySem.W.kitOne K (.ref fC_DifferentColumnsError) (.type "ValueError") = some true)
    (en_EmptyHistoryError : PySem.W.excIn K fC_EmptyHistoryError [.type "ValueError", .type "Exception", .type "BaseException", .type "object"] "ValueError.__new__" = true)
    (ek_EmptyHistoryError : PySem.W.keepIn K (.ref fC_EmptyHistoryError) = true)
    (es_EmptyHistoryError : PySem.W.subIn K (.ref fC_EmptyHistoryError) (.type "BaseException") = some true)
    (et_EmptyHistoryError : PySem.W.typeIn K (.ref fC_EmptyHistoryError) = some (.type "type"))
    (xg_EmptyHistoryError : PySem.W.findIn K (.ref fC_EmptyHistoryError) "__getattribute__" = some (some (.builtin "BaseException.__getattribute__")))
    (xh_EmptyHistoryError : PySem.W.findIn K (.ref fC_EmptyHistoryError) "__getattr__" = some none)
    (xd_EmptyHistoryError : PySem.W.hasDictIn K fC_EmptyHistoryError = true)
    (xa_EmptyHistoryError : PySem.W.findIn K (.ref fC_EmptyHistoryError) "__class__" = some (some (.builtin "object.__class__")))
    (xo_EmptyHistoryError : PySem.W.mroIn K fC_EmptyHistoryError (.type "object") = some true)
    (xm_EmptyHistoryError : PySem.W.exmOne K (.ref fC_EmptyHistoryError) (.ref fC_LowcolumnsError) = some true)
    (x_EmptyHistoryError_DifferentColumnsError : PySem.W.kitOne K (.ref fC_EmptyHistoryError) (.ref fC_DifferentColumnsError) = some false)
    (x_EmptyHistoryError_EmptyHistoryError : PySem.W.kitOne K (.ref fC_EmptyHistoryError) (.ref fC_EmptyHistoryError) = some true)
    (x_EmptyHistoryError_FullError : PySem.W.kitOne K (.ref fC_EmptyHistoryError) (.ref fC_FullError) = some false)
    (x_EmptyHistoryError_InvalidCardsError : PySem.W.kitOne K (.ref fC_EmptyHistoryError) (.ref fC_InvalidCardsError) = some false)
    (x_EmptyHistoryError_InvalidColumnError : PySem.W.kitOne K (.ref fC_EmptyHistoryError) (.ref fC_InvalidColumnError) = some false)
    (x_EmptyHistoryError_InvalidColumnsError : PySem.W.kitOne K (.ref fC_EmptyHistoryError) (.ref fC_InvalidColumnsError) = some false)
    (x_EmptyHistoryError_InvalidFlagError : PySem.W.kitOne K (.ref fC_EmptyHistoryError) (.ref fC_InvalidFlagError) = some false)
    (x_EmptyHistoryError_InvalidFormatError : PySem.W.kitOne K (.ref fC_EmptyHistoryError) (.ref fC_InvalidFormatError) = some false)
    (x_EmptyHistoryError_InvalidHeightError : PySem.W.kitOne K (.ref fC_EmptyHistoryError) (.ref fC_InvalidHeightError) = some false)
    (x_EmptyHistoryError_InvalidIndexError : PySem.W.kitOne K (.ref fC_EmptyHistoryError) (.ref fC_InvalidIndexError) = some false)
    (x_EmptyHistoryError_InvalidNumberError : PySem.W.kitOne K (.ref fC_EmptyHistoryError) (.ref fC_InvalidNumberError) = some false)
    (x_EmptyHistoryError_InvalidStartError : PySem.W.kitOne K (.ref fC_EmptyHistoryError) (.ref fC_InvalidStartError) = some false)
    (x_EmptyHistoryError_InvalidTopsError : PySem.W.kitOne K (.ref fC_EmptyHistoryError) (.ref fC_InvalidTopsError) = some false)
    (x_EmptyHistoryError_InvalidWayError : PySem.W.kitOne K (.ref fC_EmptyHistoryError) (.ref fC_InvalidWayError) = some false)
    (x_EmptyHistoryError_TooLargeError : PySem.W.kitOne K (.ref fC_EmptyHistoryError) (.ref fC_TooLargeError) = some false)
    (x_EmptyHistoryError_LowcolumnsError : PySem.W.kitOne K (.ref fC_EmptyHistoryError) (.ref fC_LowcolumnsError) = some true)
    (x_EmptyHistoryError_ValueError : PySem.W.kitOne K (.ref fC_EmptyHistoryError) (.type "ValueError") = some true)
    (en_FullError : PySem.W.excIn K fC_FullError [.type "ValueError", .type "Exception", .type "BaseException", .type "object"] "ValueError.__new__" = true)
    (ek_FullError : PySem.W.keepIn K (.ref fC_FullError) = true)
    (es_FullError : PySem.W.subIn K (.ref fC_FullError) (.type "BaseException") = some true)
    (et_FullError : PySem.W.typeIn K (.ref fC_FullError) = some (.type "type"))
    (xg_FullError : PySem.W.findIn K (.ref fC_FullError) "__getattribute__" = some (some (.builtin "BaseException.__getattribute__")))
    (xh_FullError : PySem.W.findIn K (.ref fC_FullError) "__getattr__" = some none)
    (xd_FullError : PySem.W.hasDictIn K fC_FullError = true)
    (xa_FullError : PySem.W.findIn K (.ref fC_FullError) "__class__" = some (some (.builtin "object.__class__")))
    (xo_FullError : PySem.W.mroIn K fC_FullError (.type "object") = some true)
    (xm_FullError : PySem.W.exmOne K (.ref fC_FullError) (.ref fC_LowcolumnsError) = some true)
    (x_FullError_DifferentColumnsError : PySem.W.kitOne K (.ref fC_FullError) (.ref fC_DifferentColumnsError) = some false)
    (x_FullError_EmptyHistoryError : PySem.W.kitOne K (.ref fC_FullError) (.ref fC_EmptyHistoryError) = some false)
    (x_FullError_FullError : PySem.W.kitOne K (.ref fC_FullError) (.ref fC_FullError) = some true)
    (x_FullError_InvalidCardsError : PySem.W.kitOne K (.ref fC_FullError) (.ref fC_InvalidCardsError) = some false)
    (x_FullError_InvalidColumnError : PySem.W.kitOne K (.ref fC_FullError) (.ref fC_InvalidColumnError) = some false)
    (x_FullError_InvalidColumnsError : PySem.W.kitOne K (.ref fC_FullError) (.ref fC_InvalidColumnsError) = some false)
    (x_FullError_InvalidFlagError : PySem.W.kitOne K (.ref fC_FullError) (.ref fC_InvalidFlagError) = some false)
    (x_FullError_InvalidFormatError : PySem.W.kitOne K (.ref fC_FullError) (.ref fC_InvalidFormatError) = some false)
    (x_FullError_InvalidHeightError : PySem.W.kitOne K (.ref fC_FullError) (.ref fC_InvalidHeightError) = some false)
    (x_FullError_InvalidIndexError : PySem.W.kitOne K (.ref fC_FullError) (.ref fC_InvalidIndexError) = some false)
    (x_FullError_InvalidNumberError : PySem.W.kitOne K (.ref fC_FullError) (.ref fC_InvalidNumberError) = some false)
    (x_FullError_InvalidStartError : PySem.W.kitOne K (.ref fC_FullError) (.ref fC_InvalidStartError) = some false)
    (x_FullError_InvalidTopsError : PySem.W.kitOne K (.ref fC_FullError) (.ref fC_InvalidTopsError) = some false)
    (x_FullError_InvalidWayError : PySem.W.kitOne K (.ref fC_FullError) (.ref fC_InvalidWayError) = some false)
    (x_FullError_TooLargeError : PySem.W.kitOne K (.ref fC_FullError) (.ref fC_TooLargeError) = some false)
    (x_FullError_LowcolumnsError : PySem.W.kitOne K (.ref fC_FullError) (.ref fC_LowcolumnsError) = some true)
    (x_FullError_ValueError : PySem.W.kitOne K (.ref fC_FullError) (.type "ValueError") = some true)
    (en_InvalidCardsError : PySem.W.excIn K fC_InvalidCardsError [.type "ValueError", .type "Exception", .type "BaseException", .type "object"] "ValueError.__new__" = true)
    (ek_InvalidCardsError : PySem.W.keepIn K (.ref fC_InvalidCardsError) = true)
    (es_InvalidCardsError : PySem.W.subIn K (.ref fC_InvalidCardsError) (.type "BaseException") = some true)
    (et_InvalidCardsError : PySem.W.typeIn K (.ref fC_InvalidCardsError) = some (.type "type"))
    (xg_InvalidCardsError : PySem.W.findIn K (.ref fC_InvalidCardsError) "__getattribute__" = some (some (.builtin "BaseException.__getattribute__")))
    (xh_InvalidCardsError : PySem.W.findIn K (.ref fC_InvalidCardsError) "__getattr__" = some none)
    (xd_InvalidCardsError : PySem.W.hasDictIn K fC_InvalidCardsError = true)
    (xa_InvalidCardsError : PySem.W.findIn K (.ref fC_InvalidCardsError) "__class__" = some (some (.builtin "object.__class__")))
    (xo_InvalidCardsError : PySem.W.mroIn K fC_InvalidCardsError (.type "object") = some true)
    (xm_InvalidCardsError : PySem.W.exmOne K (.ref fC_InvalidCardsError) (.ref fC_LowcolumnsError) = some true)
    (x_InvalidCardsError_DifferentColumnsError : PySem.W.kitOne K (.ref fC_InvalidCardsError) (.ref fC_DifferentColumnsError) = some false)
    (x_InvalidCardsError_EmptyHistoryError : PySem.W.kitOne K (.ref fC_InvalidCardsError) (.ref fC_EmptyHistoryError) = some false)
    (x_InvalidCardsError_FullError : PySem.W.kitOne K (.ref fC_InvalidCardsError) (.ref fC_FullError) = some false)
    (x_InvalidCardsError_InvalidCardsError : PySem.W.kitOne K (.ref fC_InvalidCardsError) (.ref fC_InvalidCardsError) = some true)
    (x_InvalidCardsError_InvalidColumnError : PySem.W.kitOne K (.ref fC_InvalidCardsError) (.ref fC_InvalidColumnError) = some false)
    (x_InvalidCardsError_InvalidColumnsError : PySem.W.kitOne K (.ref fC_InvalidCardsError) (.ref fC_InvalidColumnsError) = some false)
    (x_InvalidCardsError_InvalidFlagError : PySem.W.kitOne K (.ref fC_InvalidCardsError) (.ref fC_InvalidFlagError) = some false)
    (x_InvalidCardsError_InvalidFormatError : PySem.W.kitOne K (.ref fC_InvalidCardsError) (.ref fC_InvalidFormatError) = some false)
    (x_InvalidCardsError_InvalidHeightError : PySem.W.kitOne K (.ref fC_InvalidCardsError) (.ref fC_InvalidHeightError) = some false)
    (x_InvalidCardsError_InvalidIndexError : PySem.W.kitOne K (.ref fC_InvalidCardsError) (.ref fC_InvalidIndexError) = some false)
    (x_InvalidCardsError_InvalidNumberError : PySem.W.kitOne K (.ref fC_InvalidCardsError) (.ref fC_InvalidNumberError) = some false)
    (x_InvalidCardsError_InvalidStartError : PySem.W.kitOne K (.ref fC_InvalidCardsError) (.ref fC_InvalidStartError) = some false)
    (x_InvalidCardsError_InvalidTopsError : PySem.W.kitOne K (.ref fC_InvalidCardsError) (.ref fC_InvalidTopsError) = some false)
    (x_InvalidCardsError_InvalidWayError : PySem.W.kitOne K (.ref fC_InvalidCardsError) (.ref fC_InvalidWayError) = some false)
    (x_InvalidCardsError_TooLargeError : PySem.W.kitOne K (.ref fC_InvalidCardsError) (.ref fC_TooLargeError) = some false)
    (x_InvalidCardsError_LowcolumnsError : PySem.W.kitOne K (.ref fC_InvalidCardsError) (.ref fC_LowcolumnsError) = some true)
    (x_InvalidCardsError_ValueError : PySem.W.kitOne K (.ref fC_InvalidCardsError) (.type "ValueError") = some true)
    (en_InvalidColumnError : PySem.W.excIn K fC_InvalidColumnError [.type "ValueError", .type "Exception", .type "BaseException", .type "object"] "ValueError.__new__" = true)
    (ek_InvalidColumnError : PySem.W.keepIn K (.ref fC_InvalidColumnError) = true)
    (es_InvalidColumnError : PySem.W.subIn K (.ref fC_InvalidColumnError) (.type "BaseException") = some true)
    (et_InvalidColumnError : PySem.W.typeIn K (.ref fC_InvalidColumnError) = some (.type "type"))
    (xg_InvalidColumnError : PySem.W.findIn K (.ref fC_InvalidColumnError) "__getattribute__" = some (some (.builtin "BaseException.__getattribute__")))
    (xh_InvalidColumnError : PySem.W.findIn K (.ref fC_InvalidColumnError) "__getattr__" = some none)
    (xd_InvalidColumnError : PySem.W.hasDictIn K fC_InvalidColumnError = true)
    (xa_InvalidColumnError : PySem.W.findIn K (.ref fC_InvalidColumnError) "__class__" = some (some (.builtin "object.__class__")))
    (xo_InvalidColumnError : PySem.W.mroIn K fC_InvalidColumnError (.type "object") = some true)
    (xm_InvalidColumnError : PySem.W.exmOne K (.ref fC_InvalidColumnError) (.ref fC_LowcolumnsError) = some true)
    (x_InvalidColumnError_DifferentColumnsError : PySem.W.kitOne K (.ref fC_InvalidColumnError) (.ref fC_DifferentColumnsError) = some false)
    (x_InvalidColumnError_EmptyHistoryError : PySem.W.kitOne K (.ref fC_InvalidColumnError) (.ref fC_EmptyHistoryError) = some false)
    (x_InvalidColumnError_FullError : PySem.W.kitOne K (.ref fC_InvalidColumnError) (.ref fC_FullError) = some false)
    (x_InvalidColumnError_InvalidCardsError : PySem.W.kitOne K (.ref fC_InvalidColumnError) (.ref fC_InvalidCardsError) = some false)
    (x_InvalidColumnError_InvalidColumnError : PySem.W.kitOne K (.ref fC_InvalidColumnError) (.ref fC_InvalidColumnError) = some true)
    (x_InvalidColumnError_InvalidColumnsError : PySem.W.kitOne K (.ref fC_InvalidColumnError) (.ref fC_InvalidColumnsError) = some false)
    (x_InvalidColumnError_InvalidFlagError : PySem.W.kitOne K (.ref fC_InvalidColumnError) (.ref fC_InvalidFlagError) = some false)
    (x_InvalidColumnError_InvalidFormatError : PySem.W.kitOne K (.ref fC_InvalidColumnError) (.ref fC_InvalidFormatError) = some false)
    (x_InvalidColumnError_InvalidHeightError : PySem.W.kitOne K (.ref fC_InvalidColumnError) (.ref fC_InvalidHeightError) = some false)
    (x_InvalidColumnError_InvalidIndexError : PySem.W.kitOne K (.ref fC_InvalidColumnError) (.ref fC_InvalidIndexError) = some false)
    (x_InvalidColumnError_InvalidNumberError : PySem.W.kitOne K (.ref fC_InvalidColumnError) (.ref fC_InvalidNumberError) = some false)
    (x_InvalidColumnError_InvalidStartError : PySem.W.kitOne K (.ref fC_InvalidColumnError) (.ref fC_InvalidStartError) = some false)
    (x_InvalidColumnError_InvalidTopsError : PySem.W.kitOne K (.ref fC_InvalidColumnError) (.ref fC_InvalidTopsError) = some false)
    (x_InvalidColumnError_InvalidWayError : PySem.W.kitOne K (.ref fC_InvalidColumnError) (.ref fC_InvalidWayError) = some false)
    (x_InvalidColumnError_TooLargeError : PySem.W.kitOne K (.ref fC_InvalidColumnError) (.ref fC_TooLargeError) = some false)
    (x_InvalidColumnError_LowcolumnsError : PySem.W.kitOne K (.ref fC_InvalidColumnError) (.ref fC_LowcolumnsError) = some true)
    (x_InvalidColumnError_ValueError : PySem.W.kitOne K (.ref fC_InvalidColumnError) (.type "ValueError") = some true)
    (en_InvalidColumnsError : PySem.W.excIn K fC_InvalidColumnsError [.type "ValueError", .type "Exception", .type "BaseException", .type "object"] "ValueError.__new__" = true)
    (ek_InvalidColumnsError : PySem.W.keepIn K (.ref fC_InvalidColumnsError) = true)
    (es_InvalidColumnsError : PySem.W.subIn K (.ref fC_InvalidColumnsError) (.type "BaseException") = some true)
    (et_InvalidColumnsError : PySem.W.typeIn K (.ref fC_InvalidColumnsError) = some (.type "type"))
    (xg_InvalidColumnsError : PySem.W.findIn K (.ref fC_InvalidColumnsError) "__getattribute__" = some (some (.builtin "BaseException.__getattribute__")))
    (xh_InvalidColumnsError : PySem.W.findIn K (.ref fC_InvalidColumnsError) "__getattr__" = some none)
    (xd_InvalidColumnsError : PySem.W.hasDictIn K fC_InvalidColumnsError = true)
    (xa_InvalidColumnsError : PySem.W.findIn K (.ref fC_InvalidColumnsError) "__class__" = some (some (.builtin "object.__class__")))
    (xo_InvalidColumnsError : PySem.W.mroIn K fC_InvalidColumnsError (.type "object") = some true)
    (xm_InvalidColumnsError : PySem.W.exmOne K (.ref fC_InvalidColumnsError) (.ref fC_LowcolumnsError) = some true)
    (x_InvalidColumnsError_DifferentColumnsError : PySem.W.kitOne K (.ref fC_InvalidColumnsError) (.ref fC_DifferentColumnsError) = some false)
    (x_InvalidColumnsError_EmptyHistoryError : PySem.W.kitOne K (.ref fC_InvalidColumnsError) (.ref fC_EmptyHistoryError) = some false)
    (x_InvalidColumnsError_FullError : PySem.W.kitOne K (.ref fC_InvalidColumnsError) (.ref fC_FullError) = some false)
    (x_InvalidColumnsError_InvalidCardsError : PySem.W.kitOne K (.ref fC_InvalidColumnsError) (.ref fC_InvalidCardsError) = some false)
    (x_InvalidColumnsError_InvalidColumnError : PySem.W.kitOne K (.ref fC_InvalidColumnsError) (.ref fC_InvalidColumnError) = some false)
    (x_InvalidColumnsError_InvalidColumnsError : PySem.W.kitOne K (.ref fC_InvalidColumnsError) (.ref fC_InvalidColumnsError) = some true)
    (x_InvalidColumnsError_InvalidFlagError : PySem.W.kitOne K (.ref fC_InvalidColumnsError) (.ref fC_InvalidFlagError) = some false)
    (x_InvalidColumnsError_InvalidFormatError : PySem.W.kitOne K (.ref fC_InvalidColumnsError) (.ref fC_InvalidFormatError) = some false)
    (x_InvalidColumnsError_InvalidHeightError : PySem.W.kitOne K (.ref fC_InvalidColumnsError) (.ref fC_InvalidHeightError) = some false)
    (x_InvalidColumnsError_InvalidIndexError : PySem.W.kitOne K (.ref fC_InvalidColumnsError) (.ref fC_InvalidIndexError) = some false)
    (x_InvalidColumnsError_InvalidNumberError : PySem.W.kitOne K (.ref fC_InvalidColumnsError) (.ref fC_InvalidNumberError) = some false)
    (x_InvalidColumnsError_InvalidStartError : PySem.W.kitOne K (.ref fC_InvalidColumnsError) (.ref fC_InvalidStartError) = some false)
    (x_InvalidColumnsError_InvalidTopsError : PySem.W.kitOne K (.ref fC_InvalidColumnsError) (.ref fC_InvalidTopsError) = some false)
    (x_InvalidColumnsError_InvalidWayError : PySem.W.kitOne K (.ref fC_InvalidColumnsError) (.ref fC_InvalidWayError) = some false)
    (x_InvalidColumnsError_TooLargeError : PySem.W.kitOne K (.ref fC_InvalidColumnsError) (.ref fC_TooLargeError) = some false)
    (x_InvalidColumnsError_LowcolumnsError : PySem.W.kitOne K (.ref fC_InvalidColumnsError) (.ref fC_LowcolumnsError) = some true)
    (x_InvalidColumnsError_ValueError : PySem.W.kitOne K (.ref fC_InvalidColumnsError) (.type "ValueError") = some true)
    (en_InvalidFlagError : PySem.W.excIn K fC_InvalidFlagError [.type "ValueError", .type "Exception", .type "BaseException", .type "object"] "ValueError.__new__" = true)
    (ek_InvalidFlagError : PySem.W.keepIn K (.ref fC_InvalidFlagError) = true)
    (es_InvalidFlagError : PySem.W.subIn K (.ref fC_InvalidFlagError) (.type "BaseException") = some true)
    (et_InvalidFlagError : PySem.W.typeIn K (.ref fC_InvalidFlagError) = some (.type "type"))
    (xg_InvalidFlagError : PySem.W.findIn K (.ref fC_InvalidFlagError) "__getattribute__" = some (some (.builtin "BaseException.__getattribute__")))
    (xh_InvalidFlagError : PySem.W.findIn K (.ref fC_InvalidFlagError) "__getattr__" = some none)
    (xd_InvalidFlagError : PySem.W.hasDictIn K fC_InvalidFlagError = true)
    (xa_InvalidFlagError : PySem.W.findIn K (.ref fC_InvalidFlagError) "__class__" = some (some (.builtin "object.__class__")))
    (xo_InvalidFlagError : PySem.W.mroIn K fC_InvalidFlagError (.type "object") = some true)
    (xm_InvalidFlagError : PySem.W.exmOne K (.ref fC_InvalidFlagError) (.ref fC_LowcolumnsError) = some true)
    (x_InvalidFlagError_DifferentColumnsError : PySem.W.kitOne K (.ref fC_InvalidFlagError) (.ref fC_DifferentColumnsError) = some false)
    (x_InvalidFlagError_EmptyHistoryError : PySem.W.kitOne K (.ref fC_InvalidFlagError) (.ref fC_EmptyHistoryError) = some false)
    (x_InvalidFlagError_FullError : PySem.W.kitOne K (.ref fC_InvalidFlagError) (.ref fC_FullError) = some false)
    (x_InvalidFlagError_InvalidCardsError : PySem.W.kitOne K (.ref fC_InvalidFlagError) (.ref fC_InvalidCardsError) = some false)
    (x_InvalidFlagError_InvalidColumnError : PySem.W.kitOne K (.ref fC_InvalidFlagError) (.ref fC_InvalidColumnError) = some false)
    (x_InvalidFlagError_InvalidColumnsError : PySem.W.kitOne K (.ref fC_InvalidFlagError) (.ref fC_InvalidColumnsError) = some false)
    (x_InvalidFlagError_InvalidFlagError : PySem.W.kitOne K (.ref fC_InvalidFlagError) (.ref fC_InvalidFlagError) = some true)
    (x_InvalidFlagError_InvalidFormatError : PySem.W.kitOne K (.ref fC_InvalidFlagError) (.ref fC_InvalidFormatError) = some false)
    (x_InvalidFlagError_InvalidHeightError : PySem.W.kitOne K (.ref fC_InvalidFlagError) (.ref fC_InvalidHeightError) = some false)
    (x_InvalidFlagError_InvalidIndexError : PySem.W.kitOne K (.ref fC_InvalidFlagError) (.ref fC_InvalidIndexError) = some false)
    (x_InvalidFlagError_InvalidNumberError : PySem.W.kitOne K (.ref fC_InvalidFlagError) (.ref fC_InvalidNumberError) = some false)
    (x_InvalidFlagError_InvalidStartError : PySem.W.kitOne K (.ref fC_InvalidFlagError) (.ref fC_InvalidStartError) = some false)
    (x_InvalidFlagError_InvalidTopsError : PySem.W.kitOne K (.ref fC_InvalidFlagError) (.ref fC_InvalidTopsError) = some false)
    (x_InvalidFlagError_InvalidWayError : PySem.W.kitOne K (.ref fC_InvalidFlagError) (.ref fC_InvalidWayError) = some false)
    (x_InvalidFlagError_TooLargeError : PySem.W.kitOne K (.ref fC_InvalidFlagError) (.ref fC_TooLargeError) = some false)
    (x_InvalidFlagError_LowcolumnsError : PySem.W.kitOne K (.ref fC_InvalidFlagError) (.ref fC_LowcolumnsError) = some true)
    (x_InvalidFlagError_ValueError : PySem.W.kitOne K (.ref fC_InvalidFlagError) (.type "ValueError") = some true)
    (en_InvalidFormatError : PySem.W.excIn K fC_InvalidFormatError [.type "ValueError", .type "Exception", .type "BaseException", .type "object"] "ValueError.__new__" = true)
    (ek_InvalidFormatError : PySem.W.keepIn K (.ref fC_InvalidFormatError) = true)
    (es_InvalidFormatError : PySem.W.subIn K (.ref fC_InvalidFormatError) (.type "BaseException") = some true)
    (et_InvalidFormatError : PySem.W.typeIn K (.ref fC_InvalidFormatError) = some (.type "type"))
    (xg_InvalidFormatError : PySem.W.findIn K (.ref fC_InvalidFormatError) "__getattribute__" = some (some (.builtin "BaseException.__getattribute__")))
    (xh_InvalidFormatError : PySem.W.findIn K (.ref fC_InvalidFormatError) "__getattr__" = some none)
    (xd_InvalidFormatError : PySem.W.hasDictIn K fC_InvalidFormatError = true)
    (xa_InvalidFormatError : PySem.W.findIn K (.ref fC_InvalidFormatError) "__class__" = some (some (.builtin "object.__class__")))
    (xo_InvalidFormatError : PySem.W.mroIn K fC_InvalidFormatError (.type "object") = some true)
    (xm_InvalidFormatError : PySem.W.exmOne K (.ref fC_InvalidFormatError) (.ref fC_LowcolumnsError) = some true)
    (x_InvalidFormatError_DifferentColumnsError : PySem.W.kitOne K (.ref fC_InvalidFormatError) (.ref fC_DifferentColumnsError) = some false)
    (x_InvalidFormatError_EmptyHistoryError : PySem.W.kitOne K (.ref fC_InvalidFormatError) (.ref fC_EmptyHistoryError) = some false)
    (x_InvalidFormatError_FullError : PySem.W.kitOne K (.ref fC_InvalidFormatError) (.ref fC_FullError) = some false)
    (x_InvalidFormatError_InvalidCardsError : PySem.W.kitOne K (.ref fC_InvalidFormatError) (.ref fC_InvalidCardsError) = some false)
    (x_InvalidFormatError_InvalidColumnError : PySem.W.kitOne K (.ref fC_InvalidFormatError) (.ref fC_InvalidColumnError) = some false)
    (x_InvalidFormatError_InvalidColumnsError : PySem.W.kitOne K (.ref fC_InvalidFormatError) (.ref fC_InvalidColumnsError) = some false)
    (x_InvalidFormatError_InvalidFlagError : PySem.W.kitOne K (.ref fC_InvalidFormatError) (.ref fC_InvalidFlagError) = some false)
    (x_InvalidFormatError_InvalidFormatError : PySem.W.kitOne K (.ref fC_InvalidFormatError) (.ref fC_InvalidFormatError) = some true)
    (x_InvalidFormatError_InvalidHeightError : PySem.W.kitOne K (.ref fC_InvalidFormatError) (.ref fC_InvalidHeightError) = some false)
    (x_InvalidFormatError_InvalidIndexError : PySem.W.kitOne K (.ref fC_InvalidFormatError) (.ref fC_InvalidIndexError) = some false)
    (x_InvalidFormatError_InvalidNumberError : PySem.W.kitOne K (.ref fC_InvalidFormatError) (.ref fC_InvalidNumberError) = some false)
    (x_InvalidFormatError_InvalidStartError : PySem.W.kitOne K (.ref fC_InvalidFormatError) (.ref fC_InvalidStartError) = some false)
    (x_InvalidFormatError_InvalidTopsError : PySem.W.kitOne K (.ref fC_InvalidFormatError) (.ref fC_InvalidTopsError) = some false)
    (x_InvalidFormatError_InvalidWayError : PySem.W.kitOne K (.ref fC_InvalidFormatError) (.ref fC_InvalidWayError) = some false)
    (x_InvalidFormatError_TooLargeError : PySem.W.kitOne K (.ref fC_InvalidFormatError) (.ref fC_TooLargeError) = some false)
    (x_InvalidFormatError_LowcolumnsError : PySem.W.kitOne K (.ref fC_InvalidFormatError) (.ref fC_LowcolumnsError) = some true)
    (x_InvalidFormatError_ValueError : PySem.W.kitOne K (.ref fC_InvalidFormatError) (.type "ValueError") = some true)
    (en_InvalidHeightError : PySem.W.excIn K fC_InvalidHeightError [.type "ValueError", .type "Exception", .type "BaseException", .type "object"] "ValueError.__new__" = true)
    (ek_InvalidHeightError : PySem.W.keepIn K (.ref fC_InvalidHeightError) = true)
    (es_InvalidHeightError : PySem.W.subIn K (.ref fC_InvalidHeightError) (.type "BaseException") = some true)
    (et_InvalidHeightError : PySem.W.typeIn K (.ref fC_InvalidHeightError) = some (.type "type"))
    (xg_InvalidHeightError : PySem.W.findIn K (.ref fC_InvalidHeightError) "__getattribute__" = some (some (.builtin "BaseException.__getattribute__")))
    (xh_InvalidHeightError : PySem.W.findIn K (.ref fC_InvalidHeightError) "__getattr__" = some none)
    (xd_InvalidHeightError : PySem.W.hasDictIn K fC_InvalidHeightError = true)
    (xa_InvalidHeightError : PySem.W.findIn K (.ref fC_InvalidHeightError) "__class__" = some (some (.builtin "object.__class__")))
    (xo_InvalidHeightError : PySem.W.mroIn K fC_InvalidHeightError (.type "object") = some true)
    (xm_InvalidHeightError : PySem.W.exmOne K (.ref fC_InvalidHeightError) (.ref fC_LowcolumnsError) = some true)
    (x_InvalidHeightError_DifferentColumnsError : PySem.W.kitOne K (.ref fC_InvalidHeightError) (.ref fC_DifferentColumnsError) = some false)
    (x_InvalidHeightError_EmptyHistoryError : PySem.W.kitOne K (.ref fC_InvalidHeightError) (.ref fC_EmptyHistoryError) = some false)
    (x_InvalidHeightError_FullError : PySem.W.kitOne K (.ref fC_InvalidHeightError) (.ref fC_FullError) = some false)
    (x_InvalidHeightError_InvalidCardsError : PySem.W.kitOne K (.ref fC_InvalidHeightError) (.ref fC_InvalidCardsError) = some false)
    (x_InvalidHeightError_InvalidColumnError : PySem.W.kitOne K (.ref fC_InvalidHeightError) (.ref fC_InvalidColumnError) = some false)
    (x_InvalidHeightError_InvalidColumnsError : PySem.W.kitOne K (.ref fC_InvalidHeightError) (.ref fC_InvalidColumnsError) = some false)
    (x_InvalidHeightError_InvalidFlagError : PySem.W.kitOne K (.ref fC_InvalidHeightError) (.ref fC_InvalidFlagError) = some false)
    (x_InvalidHeightError_InvalidFormatError : PySem.W.kitOne K (.ref fC_InvalidHeightError) (.ref fC_InvalidFormatError) = some false)
    (x_InvalidHeightError_InvalidHeightError : PySem.W.kitOne K (.ref fC_InvalidHeightError) (.ref fC_InvalidHeightError) = some true)
    (x_InvalidHeightError_InvalidIndexError : PySem.W.kitOne K (.ref fC_InvalidHeightError) (.ref fC_InvalidIndexError) = some false)
    (x_InvalidHeightError_InvalidNumberError : PySem.W.kitOne K (.ref fC_InvalidHeightError) (.ref fC_InvalidNumberError) = some false)
    (x_InvalidHeightError_InvalidStartError : PySem.W.kitOne K (.ref fC_InvalidHeightError) (.ref fC_InvalidStartError) = some false)
    (x_InvalidHeightError_InvalidTopsError : PySem.W.kitOne K (.ref fC_InvalidHeightError) (.ref fC_InvalidTopsError) = some false)
    (x_InvalidHeightError_InvalidWayError : PySem.W.kitOne K (.ref fC_InvalidHeightError) (.ref fC_InvalidWayError) = some false)
    (x_InvalidHeightError_TooLargeError : PySem.W.kitOne K (.ref fC_InvalidHeightError) (.ref fC_TooLargeError) = some false)
    (x_InvalidHeightError_LowcolumnsError : PySem.W.kitOne K (.ref fC_InvalidHeightError) (.ref fC_LowcolumnsError) = some true)
    (x_InvalidHeightError_ValueError : PySem.W.kitOne K (.ref fC_InvalidHeightError) (.type "ValueError") = some true)
    (en_InvalidIndexError : PySem.W.excIn K fC_InvalidIndexError [.type "ValueError", .type "Exception", .type "BaseException", .type "object"] "ValueError.__new__" = true)
    (ek_InvalidIndexError : PySem.W.keepIn K (.ref fC_InvalidIndexError) = true)
    (es_InvalidIndexError : PySem.W.subIn K (.ref fC_InvalidIndexError) (.type "BaseException") = some true)
    (et_InvalidIndexError : PySem.W.typeIn K (.ref fC_InvalidIndexError) = some (.type "type"))
    (xg_InvalidIndexError : PySem.W.findIn K (.ref fC_InvalidIndexError) "__getattribute__" = some (some (.builtin "BaseException.__getattribute__")))
    (xh_InvalidIndexError : PySem.W.findIn K (.ref fC_InvalidIndexError) "__getattr__" = some none)
    (xd_InvalidIndexError : PySem.W.hasDictIn K fC_InvalidIndexError = true)
    (xa_InvalidIndexError : PySem.W.findIn K (.ref fC_InvalidIndexError) "__class__" = some (some (.builtin "object.__class__")))
    (xo_InvalidIndexError : PySem.W.mroIn K fC_InvalidIndexError (.type "object") = some true)
    (xm_InvalidIndexError : PySem.W.exmOne K (.ref fC_InvalidIndexError) (.ref fC_LowcolumnsError) = some true)
    (x_InvalidIndexError_DifferentColumnsError : PySem.W.kitOne K (.ref fC_InvalidIndexError) (.ref fC_DifferentColumnsError) = some false)
    (x_InvalidIndexError_EmptyHistoryError : PySem.W.kitOne K (.ref fC_InvalidIndexError) (.ref fC_EmptyHistoryError) = some false)
    (x_InvalidIndexError_FullError : PySem.W.kitOne K (.ref fC_InvalidIndexError) (.ref fC_FullError) = some false)
    (x_InvalidIndexError_InvalidCardsError : PySem.W.kitOne K (.ref fC_InvalidIndexError) (.ref fC_InvalidCardsError) = some false)
    (x_InvalidIndexError_InvalidColumnError : PySem.W.kitOne K (.ref fC_InvalidIndexError) (.ref fC_InvalidColumnError) = some false)
    (x_InvalidIndexError_InvalidColumnsError : PySem.W.kitOne K (.ref fC_InvalidIndexError) (.ref fC_InvalidColumnsError) = some false)
    (x_InvalidIndexError_InvalidFlagError : PySem.W.kitOne K (.ref fC_InvalidIndexError) (.ref fC_InvalidFlagError) = some false)
    (x_InvalidIndexError_InvalidFormatError : PySem.W.kitOne K (.ref fC_InvalidIndexError) (.ref fC_InvalidFormatError) = some false)
    (x_InvalidIndexError_InvalidHeightError : PySem.W.kitOne K (.ref fC_InvalidIndexError) (.ref fC_InvalidHeightError) = some false)
    (x_InvalidIndexError_InvalidIndexError : PySem.W.kitOne K (.ref fC_InvalidIndexError) (.ref fC_InvalidIndexError) = some true)
    (x_InvalidIndexError_InvalidNumberError : PySem.W.kitOne K (.ref fC_InvalidIndexError) (.ref fC_InvalidNumberError) = some false)
    (x_InvalidIndexError_InvalidStartError : PySem.W.kitOne K (.ref fC_InvalidIndexError) (.ref fC_InvalidStartError) = some false)
    (x_InvalidIndexError_InvalidTopsError : PySem.W.kitOne K (.ref fC_InvalidIndexError) (.ref fC_InvalidTopsError) = some false)
    (x_InvalidIndexError_InvalidWayError : PySem.W.kitOne K (.ref fC_InvalidIndexError) (.ref fC_InvalidWayError) = some false)
    (x_InvalidIndexError_TooLargeError : PySem.W.kitOne K (.ref fC_InvalidIndexError) (.ref fC_TooLargeError) = some false)
    (x_InvalidIndexError_LowcolumnsError : PySem.W.kitOne K (.ref fC_InvalidIndexError) (.ref fC_LowcolumnsError) = some true)
    (x_InvalidIndexError_ValueError : PySem.W.kitOne K (.ref fC_InvalidIndexError) (.type "ValueError") = some true)
    (en_InvalidNumberError : PySem.W.excIn K fC_InvalidNumberError [.type "ValueError", .type "Exception", .type "BaseException", .type "object"] "ValueError.__new__" = true)
    (ek_InvalidNumberError : PySem.W.keepIn K (.ref fC_InvalidNumberError) = true)
    (es_InvalidNumberError : PySem.W.subIn K (.ref fC_InvalidNumberError) (.type "BaseException") = some true)
    (et_InvalidNumberError : PySem.W.typeIn K (.ref fC_InvalidNumberError) = some (.type "type"))
    (xg_InvalidNumberError : PySem.W.findIn K (.ref fC_InvalidNumberError) "__getattribute__" = some (some (.builtin "BaseException.__getattribute__")))
    (xh_InvalidNumberError : PySem.W.findIn K (.ref fC_InvalidNumberError) "__getattr__" = some none)
    (xd_InvalidNumberError : PySem.W.hasDictIn K fC_InvalidNumberError = true)
    (xa_InvalidNumberError : PySem.W.findIn K (.ref fC_InvalidNumberError) "__class__" = some (some (.builtin "object.__class__")))
    (xo_InvalidNumberError : PySem.W.mroIn K fC_InvalidNumberError (.type "object") = some true)
    (xm_InvalidNumberError : PySem.W.exmOne K (.ref fC_InvalidNumberError) (.ref fC_LowcolumnsError) = some true)
    (x_InvalidNumberError_DifferentColumnsError : PySem.W.kitOne K (.ref fC_InvalidNumberError) (.ref fC_DifferentColumnsError) = some false)
    (x_InvalidNumberError_EmptyHistoryError : PySem.W.kitOne K (.ref fC_InvalidNumberError) (.ref fC_EmptyHistoryError) = some false)
    (x_InvalidNumberError_FullError : PySem.W.kitOne K (.ref fC_InvalidNumberError) (.ref fC_FullError) = some false)
    (x_InvalidNumberError_InvalidCardsError : PySem.W.kitOne K (.ref fC_InvalidNumberError) (.ref fC_InvalidCardsError) = some false)
    (x_InvalidNumberError_InvalidColumnError : PySem.W.kitOne K (.ref fC_InvalidNumberError) (.ref fC_InvalidColumnError) = some false)
    (x_InvalidNumberError_InvalidColumnsError : PySem.W.kitOne K (.ref fC_InvalidNumberError) (.ref fC_InvalidColumnsError) = some false)
    (x_InvalidNumberError_InvalidFlagError : PySem.W.kitOne K (.ref fC_InvalidNumberError) (.ref fC_InvalidFlagError) = some false)
    (x_InvalidNumberError_InvalidFormatError : PySem.W.kitOne K (.ref fC_InvalidNumberError) (.ref fC_InvalidFormatError) = some false)
    (x_InvalidNumberError_InvalidHeightError : PySem.W.kitOne K (.ref fC_InvalidNumberError) (.ref fC_InvalidHeightError) = some false)
    (x_InvalidNumberError_InvalidIndexError : PySem.W.kitOne K (.ref fC_InvalidNumberError) (.ref fC_InvalidIndexError) = some false)
    (x_InvalidNumberError_InvalidNumberError : PySem.W.kitOne K (.ref fC_InvalidNumberError) (.ref fC_InvalidNumberError) = some true)
    (x_InvalidNumberError_InvalidStartError : PySem.W.kitOne K (.ref fC_InvalidNumberError) (.ref fC_InvalidStartError) = some false)
    (x_InvalidNumberError_InvalidTopsError : PySem.W.kitOne K (.ref fC_InvalidNumberError) (.ref fC_InvalidTopsError) = some false)
    (x_InvalidNumberError_InvalidWayError : PySem.W.kitOne K (.ref fC_InvalidNumberError) (.ref fC_InvalidWayError) = some false)
    (x_InvalidNumberError_TooLargeError : PySem.W.kitOne K (.ref fC_InvalidNumberError) (.ref fC_TooLargeError) = some false)
    (x_InvalidNumberError_LowcolumnsError : PySem.W.kitOne K (.ref fC_InvalidNumberError) (.ref fC_LowcolumnsError) = some true)
    (x_InvalidNumberError_ValueError : PySem.W.kitOne K (.ref fC_InvalidNumberError) (.type "ValueError") = some true)
    (en_InvalidStartError : PySem.W.excIn K fC_InvalidStartError [.type "ValueError", .type "Exception", .type "BaseException", .type "object"] "ValueError.__new__" = true)
    (ek_InvalidStartError : PySem.W.keepIn K (.ref fC_InvalidStartError) = true)
    (es_InvalidStartError : PySem.W.subIn K (.ref fC_InvalidStartError) (.type "BaseException") = some true)
    (et_InvalidStartError : PySem.W.typeIn K (.ref fC_InvalidStartError) = some (.type "type"))
    (xg_InvalidStartError : PySem.W.findIn K (.ref fC_InvalidStartError) "__getattribute__" = some (some (.builtin "BaseException.__getattribute__")))
    (xh_InvalidStartError : PySem.W.findIn K (.ref fC_InvalidStartError) "__getattr__" = some none)
    (xd_InvalidStartError : PySem.W.hasDictIn K fC_InvalidStartError = true)
    (xa_InvalidStartError : PySem.W.findIn K (.ref fC_InvalidStartError) "__class__" = some (some (.builtin "object.__class__")))
    (xo_InvalidStartError : PySem.W.mroIn K fC_InvalidStartError (.type "object") = some true)
    (xm_InvalidStartError : PySem.W.exmOne K (.ref fC_InvalidStartError) (.ref fC_LowcolumnsError) = some true)
    (x_InvalidStartError_DifferentColumnsError : PySem.W.kitOne K (.ref fC_InvalidStartError) (.ref fC_DifferentColumnsError) = some false)
    (x_InvalidStartError_EmptyHistoryError : PySem.W.kitOne K (.ref fC_InvalidStartError) (.ref fC_EmptyHistoryError) = some false)
    (x_InvalidStartError_FullError : PySem.W.kitOne K (.ref fC_InvalidStartError) (.ref fC_FullError) = some false)
    (x_InvalidStartError_InvalidCardsError : PySem.W.kitOne K (.ref fC_InvalidStartError) (.ref fC_InvalidCardsError) = some false)
    (x_InvalidStartError_InvalidColumnError : PySem.W.kitOne K (.ref fC_InvalidStartError) (.ref fC_InvalidColumnError) = some false)
    (x_InvalidStartError_InvalidColumnsError : PySem.W.kitOne K (.ref fC_InvalidStartError) (.ref fC_InvalidColumnsError) = some false)
    (x_InvalidStartError_InvalidFlagError : PySem.W.kitOne K (.ref fC_InvalidStartError) (.ref fC_InvalidFlagError) = some false)
    (x_InvalidStartError_InvalidFormatError : PySem.W.kitOne K (.ref fC_InvalidStartError) (.ref fC_InvalidFormatError) = some false)
    (x_InvalidStartError_InvalidHeightError : PySem.W.kitOne K (.ref fC_InvalidStartError) (.ref fC_InvalidHeightError) = some false)
    (x_InvalidStartError_InvalidIndexError : PySem.W.kitOne K (.ref fC_InvalidStartError) (.ref fC_InvalidIndexError) = some false)
    (x_InvalidStartError_InvalidNumberError : PySem.W.kitOne K (.ref fC_InvalidStartError) (.ref fC_InvalidNumberError) = some false)
    (x_InvalidStartError_InvalidStartError : PySem.W.kitOne K (.ref fC_InvalidStartError) (.ref fC_InvalidStartError) = some true)
    (x_InvalidStartError_InvalidTopsError : PySem.W.kitOne K (.ref fC_InvalidStartError) (.ref fC_InvalidTopsError) = some false)
    (x_InvalidStartError_InvalidWayError : PySem.W.kitOne K (.ref fC_InvalidStartError) (.ref fC_InvalidWayError) = some false)
    (x_InvalidStartError_TooLargeError : PySem.W.kitOne K (.ref fC_InvalidStartError) (.ref fC_TooLargeError) = some false)
    (x_InvalidStartError_LowcolumnsError : PySem.W.kitOne K (.ref fC_InvalidStartError) (.ref fC_LowcolumnsError) = some true)
    (x_InvalidStartError_ValueError : PySem.W.kitOne K (.ref fC_InvalidStartError) (.type "ValueError") = some true)
    (en_InvalidTopsError : PySem.W.excIn K fC_InvalidTopsError [.type "ValueError", .type "Exception", .type "BaseException", .type "object"] "ValueError.__new__" = true)
    (ek_InvalidTopsError : PySem.W.keepIn K (.ref fC_InvalidTopsError) = true)
    (es_InvalidTopsError : PySem.W.subIn K (.ref fC_InvalidTopsError) (.type "BaseException") = some true)
    (et_InvalidTopsError : PySem.W.typeIn K (.ref fC_InvalidTopsError) = some (.type "type"))
    (xg_InvalidTopsError : PySem.W.findIn K (.ref fC_InvalidTopsError) "__getattribute__" = some (some (.builtin "BaseException.__getattribute__")))
    (xh_InvalidTopsError : PySem.W.findIn K (.ref fC_InvalidTopsError) "__getattr__" = some none)
    (xd_InvalidTopsError : PySem.W.hasDictIn K fC_InvalidTopsError = true)
    (xa_InvalidTopsError : PySem.W.findIn K (.ref fC_InvalidTopsError) "__class__" = some (some (.builtin "object.__class__")))
    (xo_InvalidTopsError : PySem.W.mroIn K fC_InvalidTopsError (.type "object") = some true)
    (xm_InvalidTopsError : PySem.W.exmOne K (.ref fC_InvalidTopsError) (.ref fC_LowcolumnsError) = some true)
    (x_InvalidTopsError_DifferentColumnsError : PySem.W.kitOne K (.ref fC_InvalidTopsError) (.ref fC_DifferentColumnsError) = some false)
    (x_InvalidTopsError_EmptyHistoryError : PySem.W.kitOne K (.ref fC_InvalidTopsError) (.ref fC_EmptyHistoryError) = some false)
    (x_InvalidTopsError_FullError : PySem.W.kitOne K (.ref fC_InvalidTopsError) (.ref fC_FullError) = some false)
    (x_InvalidTopsError_InvalidCardsError : PySem.W.kitOne K (.ref fC_InvalidTopsError) (.ref fC_InvalidCardsError) = some false)
    (x_InvalidTopsError_InvalidColumnError : PySem.W.kitOne K (.ref fC_InvalidTopsError) (.ref fC_InvalidColumnError) = some false)
    (x_InvalidTopsError_InvalidColumnsError : PySem.W.kitOne K (.ref fC_InvalidTopsError) (.ref fC_InvalidColumnsError) = some false)
    (x_InvalidTopsError_InvalidFlagError : PySem.W.kitOne K (.ref fC_InvalidTopsError) (.ref fC_InvalidFlagError) = some false)
    (x_InvalidTopsError_InvalidFormatError : PySem.W.kitOne K (.ref fC_InvalidTopsError) (.ref fC_InvalidFormatError) = some false)
    (x_InvalidTopsError_InvalidHeightError : PySem.W.kitOne K (.ref fC_InvalidTopsError) (.ref fC_InvalidHeightError) = some false)
    (x_InvalidTopsError_InvalidIndexError : PySem.W.kitOne K (.ref fC_InvalidTopsError) (.ref fC_InvalidIndexError) = some false)
    (x_InvalidTopsError_InvalidNumberError : PySem.W.kitOne K (.ref fC_InvalidTopsError) (.ref fC_InvalidNumberError) = some false)
    (x_InvalidTopsError_InvalidStartError : PySem.W.kitOne K (.ref fC_InvalidTopsError) (.ref fC_InvalidStartError) = some false)
    (x_InvalidTopsError_InvalidTopsError : PySem.W.kitOne K (.ref fC_InvalidTopsError) (.ref fC_InvalidTopsError) = some true)
    (x_InvalidTopsError_InvalidWayError : PySem.W.kitOne K (.ref fC_InvalidTopsError) (.ref fC_InvalidWayError) = some false)
    (x_InvalidTopsError_TooLargeError : PySem.W.kitOne K (.ref fC_InvalidTopsError) (.ref fC_TooLargeError) = some false)
    (x_InvalidTopsError_LowcolumnsError : PySem.W.kitOne K (.ref fC_InvalidTopsError) (.ref fC_LowcolumnsError) = some true)
    (x_InvalidTopsError_ValueError : PySem.W.kitOne K (.ref fC_InvalidTopsError) (.type "ValueError") = some true)
    (en_InvalidWayError : PySem.W.excIn K fC_InvalidWayError [.type "ValueError", .type "Exception", .type "BaseException", .type "object"] "ValueError.__new__" = true)
    (ek_InvalidWayError : PySem.W.keepIn K (.ref fC_InvalidWayError) = true)
    (es_InvalidWayError : PySem.W.subIn K (.ref fC_InvalidWayError) (.type "BaseException") = some true)
    (et_InvalidWayError : PySem.W.typeIn K (.ref fC_InvalidWayError) = some (.type "type"))
    (xg_InvalidWayError : PySem.W.findIn K (.ref fC_InvalidWayError) "__getattribute__" = some (some (.builtin "BaseException.__getattribute__")))
    (xh_InvalidWayError : PySem.W.findIn K (.ref fC_InvalidWayError) "__getattr__" = some none)
    (xd_InvalidWayError : PySem.W.hasDictIn K fC_InvalidWayError = true)
    (xa_InvalidWayError : PySem.W.findIn K (.ref fC_InvalidWayError) "__class__" = some (some (.builtin "object.__class__")))
    (xo_InvalidWayError : PySem.W.mroIn K fC_InvalidWayError (.type "object") = some true)
    (xm_InvalidWayError : PySem.W.exmOne K (.ref fC_InvalidWayError) (.ref fC_LowcolumnsError) = some true)
    (x_InvalidWayError_DifferentColumnsError : PySem.W.kitOne K (.ref fC_InvalidWayError) (.ref fC_DifferentColumnsError) = some false)
    (x_InvalidWayError_EmptyHistoryError : PySem.W.kitOne K (.ref fC_InvalidWayError) (.ref fC_EmptyHistoryError) = some false)
    (x_InvalidWayError_FullError : PySem.W.kitOne K (.ref fC_InvalidWayError) (.ref fC_FullError) = some false)
    (x_InvalidWayError_InvalidCardsError : PySem.W.kitOne K (.ref fC_InvalidWayError) (.ref fC_InvalidCardsError) = some false)
    (x_InvalidWayError_InvalidColumnError : PySem.W.kitOne K (.ref fC_InvalidWayError) (.ref fC_InvalidColumnError) = some false)
    (x_InvalidWayError_InvalidColumnsError : PySem.W.kitOne K (.ref fC_InvalidWayError) (.ref fC_InvalidColumnsError) = some false)
    (x_InvalidWayError_InvalidFlagError : PySem.W.kitOne K (.ref fC_InvalidWayError) (.ref fC_InvalidFlagError) = some false)
    (x_InvalidWayError_InvalidFormatError : PySem.W.kitOne K (.ref fC_InvalidWayError) (.ref fC_InvalidFormatError) = some false)
    (x_InvalidWayError_InvalidHeightError : PySem.W.kitOne K (.ref fC_InvalidWayError) (.ref fC_InvalidHeightError) = some false)
    (x_InvalidWayError_InvalidIndexError : PySem.W.kitOne K (.ref fC_InvalidWayError) (.ref fC_InvalidIndexError) = some false)
    (x_InvalidWayError_InvalidNumberError : PySem.W.kitOne K (.ref fC_InvalidWayError) (.ref fC_InvalidNumberError) = some false)
    (x_InvalidWayError_InvalidStartError : PySem.W.kitOne K (.ref fC_InvalidWayError) (.ref fC_InvalidStartError) = some false)
    (x_InvalidWayError_InvalidTopsError : PySem.W.kitOne K (.ref fC_InvalidWayError) (.ref fC_InvalidTopsError) = some false)
    (x_InvalidWayError_InvalidWayError : PySem.W.kitOne K (.ref fC_InvalidWayError) (.ref fC_InvalidWayError) = some true)
    (x_InvalidWayError_TooLargeError : PySem.W.kitOne K (.ref fC_InvalidWayError) (.ref fC_TooLargeError) = some false)
    (x_InvalidWayError_LowcolumnsError : PySem.W.kitOne K (.ref fC_InvalidWayError) (.ref fC_LowcolumnsError) = some true)
    (x_InvalidWayError_ValueError : PySem.W.kitOne K (.ref fC_InvalidWayError) (.type "ValueError") = some true)
    (en_TooLargeError : PySem.W.excIn K fC_TooLargeError [.type "ValueError", .type "Exception", .type "BaseException", .type "object"] "ValueError.__new__" = true)
    (ek_TooLargeError : PySem.W.keepIn K (.ref fC_TooLargeError) = true)
    (es_TooLargeError : PySem.W.subIn K (.ref fC_TooLargeError) (.type "BaseException") = some true)
    (et_TooLargeError : PySem.W.typeIn K (.ref fC_TooLargeError) = some (.type "type"))
    (xg_TooLargeError : PySem.W.findIn K (.ref fC_TooLargeError) "__getattribute__" = some (some (.builtin "BaseException.__getattribute__")))
    (xh_TooLargeError : PySem.W.findIn K (.ref fC_TooLargeError) "__getattr__" = some none)
    (xd_TooLargeError : PySem.W.hasDictIn K fC_TooLargeError = true)
    (xa_TooLargeError : PySem.W.findIn K (.ref fC_TooLargeError) "__class__" = some (some (.builtin "object.__class__")))
    (xo_TooLargeError : PySem.W.mroIn K fC_TooLargeError (.type "object") = some true)
    (xm_TooLargeError : PySem.W.exmOne K (.ref fC_TooLargeError) (.ref fC_LowcolumnsError) = some true)
    (x_TooLargeError_DifferentColumnsError : PySem.W.kitOne K (.ref fC_TooLargeError) (.ref fC_DifferentColumnsError) = some false)
    (x_TooLargeError_EmptyHistoryError : PySem.W.kitOne K (.ref fC_TooLargeError) (.ref fC_EmptyHistoryError) = some false)
    (x_TooLargeError_FullError : PySem.W.kitOne K (.ref fC_TooLargeError) (.ref fC_FullError) = some false)
    (x_TooLargeError_InvalidCardsError : PySem.W.kitOne K (.ref fC_TooLargeError) (.ref fC_InvalidCardsError) = some false)
    (x_TooLargeError_InvalidColumnError : PySem.W.kitOne K (.ref fC_TooLargeError) (.ref fC_InvalidColumnError) = some false)
    (x_TooLargeError_InvalidColumnsError : PySem.W.kitOne K (.ref fC_TooLargeError) (.ref fC_InvalidColumnsError) = some false)
    (x_TooLargeError_InvalidFlagError : PySem.W.kitOne K (.ref fC_TooLargeError) (.ref fC_InvalidFlagError) = some false)
    (x_TooLargeError_InvalidFormatError : PySem.W.kitOne K (.ref fC_TooLargeError) (.ref fC_InvalidFormatError) = some false)
    (x_TooLargeError_InvalidHeightError : PySem.W.kitOne K (.ref fC_TooLargeError) (.ref fC_InvalidHeightError) = some false)
    (x_TooLargeError_InvalidIndexError : PySem.W.kitOne K (.ref fC_TooLargeError) (.ref fC_InvalidIndexError) = some false)
    (x_TooLargeError_InvalidNumberError : PySem.W.kitOne K (.ref fC_TooLargeError) (.ref fC_InvalidNumberError) = some false)
    (x_TooLargeError_InvalidStartError : PySem.W.kitOne K (.ref fC_TooLargeError) (.ref fC_InvalidStartError) = some false)
    (x_TooLargeError_InvalidTopsError : PySem.W.kitOne K (.ref fC_TooLargeError) (.ref fC_InvalidTopsError) = some false)
    (x_TooLargeError_InvalidWayError : PySem.W.kitOne K (.ref fC_TooLargeError) (.ref fC_InvalidWayError) = some false)
    (x_TooLargeError_TooLargeError : PySem.W.kitOne K (.ref fC_TooLargeError) (.ref fC_TooLargeError) = some true)
    (x_TooLargeError_LowcolumnsError : PySem.W.kitOne K (.ref fC_TooLargeError) (.ref fC_LowcolumnsError) = some true)
    (x_TooLargeError_ValueError : PySem.W.kitOne K (.ref fC_TooLargeError) (.type "ValueError") = some true)
    (en_LowcolumnsError : PySem.W.excIn K fC_LowcolumnsError [.type "ValueError", .type "Exception", .type "BaseException", .type "object"] "ValueError.__new__" = true)
    (ek_LowcolumnsError : PySem.W.keepIn K (.ref fC_LowcolumnsError) = true)
    (es_LowcolumnsError : PySem.W.subIn K (.ref fC_LowcolumnsError) (.type "BaseException") = some true)
    (et_LowcolumnsError : PySem.W.typeIn K (.ref fC_LowcolumnsError) = some (.type "type"))
    (xg_LowcolumnsError : PySem.W.findIn K (.ref fC_LowcolumnsError) "__getattribute__" = some (some (.builtin "BaseException.__getattribute__")))
    (xh_LowcolumnsError : PySem.W.findIn K (.ref fC_LowcolumnsError) "__getattr__" = some none)
    (xd_LowcolumnsError : PySem.W.hasDictIn K fC_LowcolumnsError = true)
    (xa_LowcolumnsError : PySem.W.findIn K (.ref fC_LowcolumnsError) "__class__" = some (some (.builtin "object.__class__")))
    (xo_LowcolumnsError : PySem.W.mroIn K fC_LowcolumnsError (.type "object") = some true)
    (xm_LowcolumnsError : PySem.W.exmOne K (.ref fC_LowcolumnsError) (.ref fC_LowcolumnsError) = some true)
    (x_LowcolumnsError_DifferentColumnsError : PySem.W.kitOne K (.ref fC_LowcolumnsError) (.ref fC_DifferentColumnsError) = some false)
    (x_LowcolumnsError_EmptyHistoryError : PySem.W.kitOne K (.ref fC_LowcolumnsError) (.ref fC_EmptyHistoryError) = some false)
    (x_LowcolumnsError_FullError : PySem.W.kitOne K (.ref fC_LowcolumnsError) (.ref fC_FullError) = some false)
    (x_LowcolumnsError_InvalidCardsError : PySem.W.kitOne K (.ref fC_LowcolumnsError) (.ref fC_InvalidCardsError) = some false)
    (x_LowcolumnsError_InvalidColumnError : PySem.W.kitOne K (.ref fC_LowcolumnsError) (.ref fC_InvalidColumnError) = some false)
    (x_LowcolumnsError_InvalidColumnsError : PySem.W.kitOne K (.ref fC_LowcolumnsError) (.ref fC_InvalidColumnsError) = some false)
    (x_LowcolumnsError_InvalidFlagError : PySem.W.kitOne K (.ref fC_LowcolumnsError) (.ref fC_InvalidFlagError) = some false)
    (x_LowcolumnsError_InvalidFormatError : PySem.W.kitOne K (.ref fC_LowcolumnsError) (.ref fC_InvalidFormatError) = some false)
    (x_LowcolumnsError_InvalidHeightError : PySem.W.kitOne K (.ref fC_LowcolumnsError) (.ref fC_InvalidHeightError) = some false)
    (x_LowcolumnsError_InvalidIndexError : PySem.W.kitOne K (.ref fC_LowcolumnsError) (.ref fC_InvalidIndexError) = some false)
    (x_LowcolumnsError_InvalidNumberError : PySem.W.kitOne K (.ref fC_LowcolumnsError) (.ref fC_InvalidNumberError) = some false)
    (x_LowcolumnsError_InvalidStartError : PySem.W.kitOne K (.ref fC_LowcolumnsError) (.ref fC_InvalidStartError) = some false)
    (x_LowcolumnsError_InvalidTopsError : PySem.W.kitOne K (.ref fC_LowcolumnsError) (.ref fC_InvalidTopsError) = some false)
    (x_LowcolumnsError_InvalidWayError : PySem.W.kitOne K (.ref fC_LowcolumnsError) (.ref fC_InvalidWayError) = some false)
    (x_LowcolumnsError_TooLargeError : PySem.W.kitOne K (.ref fC_LowcolumnsError) (.ref fC_TooLargeError) = some false)
    (x_LowcolumnsError_LowcolumnsError : PySem.W.kitOne K (.ref fC_LowcolumnsError) (.ref fC_LowcolumnsError) = some true)
    (x_LowcolumnsError_ValueError : PySem.W.kitOne K (.ref fC_LowcolumnsError) (.type "ValueError") = some true)
    (xn_get : PySem.W.specialIn K (.builtin "object.__class__") "__get__" = some (some (.builtin "getset_descriptor.__get__")))
    (xt_tak : PySem.W.takesIn K (.builtin "object.__class__") = some true)
    : ∃ fd : FuncData, (∀ (s : Shared) (v : Value), BindsTo s fd ⟨[v], []⟩ [("script", v)]) ∧ ∀ base : Heap, K.In base → base.Ns mainGlobals mg → FnG True l.prog w K mg base (L2N.CX l.prog w) 7 fa fd ["script"] (spLaw K) := by
  have e := hfa.symm.trans (PySem.W.mg_of X G a_law)
  cases e
  have F_is_integer := fun_mkG (st := s_is_integer) l_is_integer c_is_integer k_is_integer
  have B_is_integer := F_is_integer.bindsAll (ps := ["value", "least", "most"]) fun us hl => match us, hl with | [_, _, _], _ => rfl
  have F_is_start := fun_mkG (st := s_is_start) l_is_start c_is_start k_is_start
  have B_is_start := F_is_start.bindsAll (ps := ["value"]) fun us hl => match us, hl with | [_], _ => rfl
  have F_is_cards := fun_mkG (st := s_is_cards) l_is_cards c_is_cards k_is_cards
  have B_is_cards := F_is_cards.bindsAll (ps := ["value"]) fun us hl => match us, hl with | [_], _ => rfl
  have F_check_start := fun_mkG (st := s_check_start) l_check_start c_check_start k_check_start
  have B_check_start := F_check_start.bindsAll (ps := ["start"]) fun us hl => match us, hl with | [_], _ => rfl
  have F_check_cards := fun_mkG (st := s_check_cards) l_check_cards c_check_cards k_check_cards
  have B_check_cards := F_check_cards.bindsAll (ps := ["heights"]) fun us hl => match us, hl with | [_], _ => rfl
  have F_lowest_in := fun_mkG (st := s_lowest_in) l_lowest_in c_lowest_in k_lowest_in
  have B_lowest_in := F_lowest_in.bindsAll (ps := ["columns", "right"]) fun us hl => match us, hl with | [_, _], _ => rfl
  have F_laid := fun_mkG (st := s_laid) l_laid c_laid k_laid
  have B_laid := F_laid.bindsAll (ps := ["start", "heights", "right", "gap"]) fun us hl => match us, hl with | [_, _, _, _], _ => rfl
  have F_tops_in := fun_mkG (st := s_tops_in) l_tops_in c_tops_in k_tops_in
  have B_tops_in := F_tops_in.bindsAll (ps := ["start", "heights"]) fun us hl => match us, hl with | [_, _], _ => rfl
  have F_tops_of := fun_mkG (st := s_tops_of) l_tops_of c_tops_of k_tops_of
  have B_tops_of := F_tops_of.bindsAll (ps := ["start", "heights"]) fun us hl => match us, hl with | [_, _], _ => rfl
  have F__law_bag := fun_mkG (st := s__law_bag) l__law_bag c__law_bag k__law_bag
  have B__law_bag := F__law_bag.bindsAll (ps := ["cell", "k"]) fun us hl => match us, hl with | [_, _], _ => rfl
  have F__law_draw := fun_mkG (st := s__law_draw) l__law_draw c__law_draw k__law_draw
  have B__law_draw := F__law_draw.bindsAll (ps := ["bag", "many"]) fun us hl => match us, hl with | [_, _], _ => rfl
  have F__law_marks := fun_mkG (st := s__law_marks) l__law_marks c__law_marks k__law_marks
  have B__law_marks := F__law_marks.bindsAll (ps := ["e"]) fun us hl => match us, hl with | [_], _ => rfl
  have F__law_caught := fun_mkG (st := s__law_caught) l__law_caught c__law_caught k__law_caught
  have B__law_caught := F__law_caught.bindsAll (ps := ["start", "some"]) fun us hl => match us, hl with | [_, _], _ => rfl
  have F__law_right := fun_mkG (st := s__law_right) l__law_right c__law_right k__law_right
  have B__law_right := F__law_right.bindsAll (ps := ["message"]) fun us hl => match us, hl with | [_], _ => rfl
  have F_law := fun_mkG (st := s_law) l_law c_law k_law
  have B_law := F_law.bindsAll (ps := ["script"]) fun us hl => match us, hl with | [_], _ => rfl
  have T : Txt K mg (Ad.mk f_is_integer _ f_is_start _ f_is_cards _ f_check_start _ f_check_cards _ f_lowest_in _ f_laid _ f_tops_in _ f_tops_of _ f__law_bag _ f__law_draw _ f__law_marks _ f__law_caught _ f__law_right _ fa _ fC_DifferentColumnsError fC_EmptyHistoryError fC_FullError fC_InvalidCardsError fC_InvalidColumnError fC_InvalidColumnsError fC_InvalidFlagError fC_InvalidFormatError fC_InvalidHeightError fC_InvalidIndexError fC_InvalidNumberError fC_InvalidStartError fC_InvalidTopsError fC_InvalidWayError fC_TooLargeError fC_LowcolumnsError t_MOST_CARDS t_MOST_COLUMNS t_MOST_HEIGHT) := { F_is_integer := F_is_integer, g_is_integer := PySem.W.mg_of X G a_is_integer, b_is_integer := B_is_integer, F_is_start := F_is_start, g_is_start := PySem.W.mg_of X G a_is_start, b_is_start := B_is_start, F_is_cards := F_is_cards, g_is_cards := PySem.W.mg_of X G a_is_cards, b_is_cards := B_is_cards, F_check_start := F_check_start, g_check_start := PySem.W.mg_of X G a_check_start, b_check_start := B_check_start, F_check_cards := F_check_cards, g_check_cards := PySem.W.mg_of X G a_check_cards, b_check_cards := B_check_cards, F_lowest_in := F_lowest_in, g_lowest_in := PySem.W.mg_of X G a_lowest_in, b_lowest_in := B_lowest_in, F_laid := F_laid, g_laid := PySem.W.mg_of X G a_laid, b_laid := B_laid, F_tops_in := F_tops_in, g_tops_in := PySem.W.mg_of X G a_tops_in, b_tops_in := B_tops_in, F_tops_of := F_tops_of, g_tops_of := PySem.W.mg_of X G a_tops_of, b_tops_of := B_tops_of, F__law_bag := F__law_bag, g__law_bag := PySem.W.mg_of X G a__law_bag, b__law_bag := B__law_bag, F__law_draw := F__law_draw, g__law_draw := PySem.W.mg_of X G a__law_draw, b__law_draw := B__law_draw, F__law_marks := F__law_marks, g__law_marks := PySem.W.mg_of X G a__law_marks, b__law_marks := B__law_marks, F__law_caught := F__law_caught, g__law_caught := PySem.W.mg_of X G a__law_caught, b__law_caught := B__law_caught, F__law_right := F__law_right, g__law_right := PySem.W.mg_of X G a__law_right, b__law_right := B__law_right, F_law := F_law, g_law := PySem.W.mg_of X G a_law, b_law := B_law, c_MOST_CARDS := PySem.W.mg_of X G v_MOST_CARDS, c_MOST_COLUMNS := PySem.W.mg_of X G v_MOST_COLUMNS, c_MOST_HEIGHT := PySem.W.mg_of X G v_MOST_HEIGHT, z_ValueError := PySem.W.mg_none_of X G z_ValueError, z_all := PySem.W.mg_none_of X G z_all, z_bool := PySem.W.mg_none_of X G z_bool, z_enumerate := PySem.W.mg_none_of X G z_enumerate, z_int := PySem.W.mg_none_of X G z_int, z_isinstance := PySem.W.mg_none_of X G z_isinstance, z_len := PySem.W.mg_none_of X G z_len, z_list := PySem.W.mg_none_of X G z_list, z_min := PySem.W.mg_none_of X G z_min, z_range := PySem.W.mg_none_of X G z_range, gC_DifferentColumnsError := PySem.W.mg_of X G aC_DifferentColumnsError, gC_EmptyHistoryError := PySem.W.mg_of X G aC_EmptyHistoryError, gC_FullError := PySem.W.mg_of X G aC_FullError, gC_InvalidCardsError := PySem.W.mg_of X G aC_InvalidCardsError, gC_InvalidColumnError := PySem.W.mg_of X G aC_InvalidColumnError, gC_InvalidColumnsError := PySem.W.mg_of X G aC_InvalidColumnsError, gC_InvalidFlagError := PySem.W.mg_of X G aC_InvalidFlagError, gC_InvalidFormatError := PySem.W.mg_of X G aC_InvalidFormatError, gC_InvalidHeightError := PySem.W.mg_of X G aC_InvalidHeightError, gC_InvalidIndexError := PySem.W.mg_of X G aC_InvalidIndexError, gC_InvalidNumberError := PySem.W.mg_of X G aC_InvalidNumberError, gC_InvalidStartError := PySem.W.mg_of X G aC_InvalidStartError, gC_InvalidTopsError := PySem.W.mg_of X G aC_InvalidTopsError, gC_InvalidWayError := PySem.W.mg_of X G aC_InvalidWayError, gC_TooLargeError := PySem.W.mg_of X G aC_TooLargeError, gC_LowcolumnsError := PySem.W.mg_of X G aC_LowcolumnsError, er_DifferentColumnsError := ⟨en_DifferentColumnsError, ek_DifferentColumnsError, es_DifferentColumnsError, et_DifferentColumnsError⟩, er_EmptyHistoryError := ⟨en_EmptyHistoryError, ek_EmptyHistoryError, es_EmptyHistoryError, et_EmptyHistoryError⟩, er_FullError := ⟨en_FullError, ek_FullError, es_FullError, et_FullError⟩, er_InvalidCardsError := ⟨en_InvalidCardsError, ek_InvalidCardsError, es_InvalidCardsError, et_InvalidCardsError⟩, er_InvalidColumnError := ⟨en_InvalidColumnError, ek_InvalidColumnError, es_InvalidColumnError, et_InvalidColumnError⟩, er_InvalidColumnsError := ⟨en_InvalidColumnsError, ek_InvalidColumnsError, es_InvalidColumnsError, et_InvalidColumnsError⟩, er_InvalidFlagError := ⟨en_InvalidFlagError, ek_InvalidFlagError, es_InvalidFlagError, et_InvalidFlagError⟩, er_InvalidFormatError := ⟨en_InvalidFormatError, ek_InvalidFormatError, es_InvalidFormatError, et_InvalidFormatError⟩, er_InvalidHeightError := ⟨en_InvalidHeightError, ek_InvalidHeightError, es_InvalidHeightError, et_InvalidHeightError⟩, er_InvalidIndexError := ⟨en_InvalidIndexError, ek_InvalidIndexError, es_InvalidIndexError, et_InvalidIndexError⟩, er_InvalidNumberError := ⟨en_InvalidNumberError, ek_InvalidNumberError, es_InvalidNumberError, et_InvalidNumberError⟩, er_InvalidStartError := ⟨en_InvalidStartError, ek_InvalidStartError, es_InvalidStartError, et_InvalidStartError⟩, er_InvalidTopsError := ⟨en_InvalidTopsError, ek_InvalidTopsError, es_InvalidTopsError, et_InvalidTopsError⟩, er_InvalidWayError := ⟨en_InvalidWayError, ek_InvalidWayError, es_InvalidWayError, et_InvalidWayError⟩, er_TooLargeError := ⟨en_TooLargeError, ek_TooLargeError, es_TooLargeError, et_TooLargeError⟩, er_LowcolumnsError := ⟨en_LowcolumnsError, ek_LowcolumnsError, es_LowcolumnsError, et_LowcolumnsError⟩, xc := (fun k hk => match k, hk with | 0, _ => ⟨xg_DifferentColumnsError, xh_DifferentColumnsError, es_DifferentColumnsError, xd_DifferentColumnsError, xa_DifferentColumnsError, xn_get, xt_tak, xo_DifferentColumnsError⟩ | 1, _ => ⟨xg_EmptyHistoryError, xh_EmptyHistoryError, es_EmptyHistoryError, xd_EmptyHistoryError, xa_EmptyHistoryError, xn_get, xt_tak, xo_EmptyHistoryError⟩ | 2, _ => ⟨xg_FullError, xh_FullError, es_FullError, xd_FullError, xa_FullError, xn_get, xt_tak, xo_FullError⟩ | 3, _ => ⟨xg_InvalidCardsError, xh_InvalidCardsError, es_InvalidCardsError, xd_InvalidCardsError, xa_InvalidCardsError, xn_get, xt_tak, xo_InvalidCardsError⟩ | 4, _ => ⟨xg_InvalidColumnError, xh_InvalidColumnError, es_InvalidColumnError, xd_InvalidColumnError, xa_InvalidColumnError, xn_get, xt_tak, xo_InvalidColumnError⟩ | 5, _ => ⟨xg_InvalidColumnsError, xh_InvalidColumnsError, es_InvalidColumnsError, xd_InvalidColumnsError, xa_InvalidColumnsError, xn_get, xt_tak, xo_InvalidColumnsError⟩ | 6, _ => ⟨xg_InvalidFlagError, xh_InvalidFlagError, es_InvalidFlagError, xd_InvalidFlagError, xa_InvalidFlagError, xn_get, xt_tak, xo_InvalidFlagError⟩ | 7, _ => ⟨xg_InvalidFormatError, xh_InvalidFormatError, es_InvalidFormatError, xd_InvalidFormatError, xa_InvalidFormatError, xn_get, xt_tak, xo_InvalidFormatError⟩ | 8, _ => ⟨xg_InvalidHeightError, xh_InvalidHeightError, es_InvalidHeightError, xd_InvalidHeightError, xa_InvalidHeightError, xn_get, xt_tak, xo_InvalidHeightError⟩ | 9, _ => ⟨xg_InvalidIndexError, xh_InvalidIndexError, es_InvalidIndexError, xd_InvalidIndexError, xa_InvalidIndexError, xn_get, xt_tak, xo_InvalidIndexError⟩ | 10, _ => ⟨xg_InvalidNumberError, xh_InvalidNumberError, es_InvalidNumberError, xd_InvalidNumberError, xa_InvalidNumberError, xn_get, xt_tak, xo_InvalidNumberError⟩ | 11, _ => ⟨xg_InvalidStartError, xh_InvalidStartError, es_InvalidStartError, xd_InvalidStartError, xa_InvalidStartError, xn_get, xt_tak, xo_InvalidStartError⟩ | 12, _ => ⟨xg_InvalidTopsError, xh_InvalidTopsError, es_InvalidTopsError, xd_InvalidTopsError, xa_InvalidTopsError, xn_get, xt_tak, xo_InvalidTopsError⟩ | 13, _ => ⟨xg_InvalidWayError, xh_InvalidWayError, es_InvalidWayError, xd_InvalidWayError, xa_InvalidWayError, xn_get, xt_tak, xo_InvalidWayError⟩ | 14, _ => ⟨xg_TooLargeError, xh_TooLargeError, es_TooLargeError, xd_TooLargeError, xa_TooLargeError, xn_get, xt_tak, xo_TooLargeError⟩ | 15, _ => ⟨xg_LowcolumnsError, xh_LowcolumnsError, es_LowcolumnsError, xd_LowcolumnsError, xa_LowcolumnsError, xn_get, xt_tak, xo_LowcolumnsError⟩ | _ + 16, h => absurd h (by omega)), xm := (fun k hk => match k, hk with | 0, _ => xm_DifferentColumnsError | 1, _ => xm_EmptyHistoryError | 2, _ => xm_FullError | 3, _ => xm_InvalidCardsError | 4, _ => xm_InvalidColumnError | 5, _ => xm_InvalidColumnsError | 6, _ => xm_InvalidFlagError | 7, _ => xm_InvalidFormatError | 8, _ => xm_InvalidHeightError | 9, _ => xm_InvalidIndexError | 10, _ => xm_InvalidNumberError | 11, _ => xm_InvalidStartError | 12, _ => xm_InvalidTopsError | 13, _ => xm_InvalidWayError | 14, _ => xm_TooLargeError | 15, _ => xm_LowcolumnsError | _ + 16, h => absurd h (by omega)), xk_DifferentColumnsError := (fun k hk => match k, hk with | 0, _ => x_DifferentColumnsError_DifferentColumnsError | 1, _ => x_EmptyHistoryError_DifferentColumnsError | 2, _ => x_FullError_DifferentColumnsError | 3, _ => x_InvalidCardsError_DifferentColumnsError | 4, _ => x_InvalidColumnError_DifferentColumnsError | 5, _ => x_InvalidColumnsError_DifferentColumnsError | 6, _ => x_InvalidFlagError_DifferentColumnsError | 7, _ => x_InvalidFormatError_DifferentColumnsError | 8, _ => x_InvalidHeightError_DifferentColumnsError | 9, _ => x_InvalidIndexError_DifferentColumnsError | 10, _ => x_InvalidNumberError_DifferentColumnsError | 11, _ => x_InvalidStartError_DifferentColumnsError | 12, _ => x_InvalidTopsError_DifferentColumnsError | 13, _ => x_InvalidWayError_DifferentColumnsError | 14, _ => x_TooLargeError_DifferentColumnsError | 15, _ => x_LowcolumnsError_DifferentColumnsError | _ + 16, h => absurd h (by omega)), xk_EmptyHistoryError := (fun k hk => match k, hk with | 0, _ => x_DifferentColumnsError_EmptyHistoryError | 1, _ => x_EmptyHistoryError_EmptyHistoryError | 2, _ => x_FullError_EmptyHistoryError | 3, _ => x_InvalidCardsError_EmptyHistoryError | 4, _ => x_InvalidColumnError_EmptyHistoryError | 5, _ => x_InvalidColumnsError_EmptyHistoryError | 6, _ => x_InvalidFlagError_EmptyHistoryError | 7, _ => x_InvalidFormatError_EmptyHistoryError | 8, _ => x_InvalidHeightError_EmptyHistoryError | 9, _ => x_InvalidIndexError_EmptyHistoryError | 10, _ => x_InvalidNumberError_EmptyHistoryError | 11, _ => x_InvalidStartError_EmptyHistoryError | 12, _ => x_InvalidTopsError_EmptyHistoryError | 13, _ => x_InvalidWayError_EmptyHistoryError | 14, _ => x_TooLargeError_EmptyHistoryError | 15, _ => x_LowcolumnsError_EmptyHistoryError | _ + 16, h => absurd h (by omega)), xk_FullError := (fun k hk => match k, hk with | 0, _ => x_DifferentColumnsError_FullError | 1, _ => x_EmptyHistoryError_FullError | 2, _ => x_FullError_FullError | 3, _ => x_InvalidCardsError_FullError | 4, _ => x_InvalidColumnError_FullError | 5, _ => x_InvalidColumnsError_FullError | 6, _ => x_InvalidFlagError_FullError | 7, _ => x_InvalidFormatError_FullError | 8, _ => x_InvalidHeightError_FullError | 9, _ => x_InvalidIndexError_FullError | 10, _ => x_InvalidNumberError_FullError | 11, _ => x_InvalidStartError_FullError | 12, _ => x_InvalidTopsError_FullError | 13, _ => x_InvalidWayError_FullError | 14, _ => x_TooLargeError_FullError | 15, _ => x_LowcolumnsError_FullError | _ + 16, h => absurd h (by omega)), xk_InvalidCardsError := (fun k hk => match k, hk with | 0, _ => x_DifferentColumnsError_InvalidCardsError | 1, _ => x_EmptyHistoryError_InvalidCardsError | 2, _ => x_FullError_InvalidCardsError | 3, _ => x_InvalidCardsError_InvalidCardsError | 4, _ => x_InvalidColumnError_InvalidCardsError | 5, _ => x_InvalidColumnsError_InvalidCardsError | 6, _ => x_InvalidFlagError_InvalidCardsError | 7, _ => x_InvalidFormatError_InvalidCardsError | 8, _ => x_InvalidHeightError_InvalidCardsError | 9, _ => x_InvalidIndexError_InvalidCardsError | 10, _ => x_InvalidNumberError_InvalidCardsError | 11, _ => x_InvalidStartError_InvalidCardsError | 12, _ => x_InvalidTopsError_InvalidCardsError | 13, _ => x_InvalidWayError_InvalidCardsError | 14, _ => x_TooLargeError_InvalidCardsError | 15, _ => x_LowcolumnsError_InvalidCardsError | _ + 16, h => absurd h (by omega)), xk_InvalidColumnError := (fun k hk => match k, hk with | 0, _ => x_DifferentColumnsError_InvalidColumnError | 1, _ => x_EmptyHistoryError_InvalidColumnError | 2, _ => x_FullError_InvalidColumnError | 3, _ => x_InvalidCardsError_InvalidColumnError | 4, _ => x_InvalidColumnError_InvalidColumnError | 5, _ => x_InvalidColumnsError_InvalidColumnError | 6, _ => x_InvalidFlagError_InvalidColumnError | 7, _ => x_InvalidFormatError_InvalidColumnError | 8, _ => x_InvalidHeightError_InvalidColumnError | 9, _ => x_InvalidIndexError_InvalidColumnError | 10, _ => x_InvalidNumberError_InvalidColumnError | 11, _ => x_InvalidStartError_InvalidColumnError | 12, _ => x_InvalidTopsError_InvalidColumnError | 13, _ => x_InvalidWayError_InvalidColumnError | 14, _ => x_TooLargeError_InvalidColumnError | 15, _ => x_LowcolumnsError_InvalidColumnError | _ + 16, h => absurd h (by omega)), xk_InvalidColumnsError := (fun k hk => match k, hk with | 0, _ => x_DifferentColumnsError_InvalidColumnsError | 1, _ => x_EmptyHistoryError_InvalidColumnsError | 2, _ => x_FullError_InvalidColumnsError | 3, _ => x_InvalidCardsError_InvalidColumnsError | 4, _ => x_InvalidColumnError_InvalidColumnsError | 5, _ => x_InvalidColumnsError_InvalidColumnsError | 6, _ => x_InvalidFlagError_InvalidColumnsError | 7, _ => x_InvalidFormatError_InvalidColumnsError | 8, _ => x_InvalidHeightError_InvalidColumnsError | 9, _ => x_InvalidIndexError_InvalidColumnsError | 10, _ => x_InvalidNumberError_InvalidColumnsError | 11, _ => x_InvalidStartError_InvalidColumnsError | 12, _ => x_InvalidTopsError_InvalidColumnsError | 13, _ => x_InvalidWayError_InvalidColumnsError | 14, _ => x_TooLargeError_InvalidColumnsError | 15, _ => x_LowcolumnsError_InvalidColumnsError | _ + 16, h => absurd h (by omega)), xk_InvalidFlagError := (fun k hk => match k, hk with | 0, _ => x_DifferentColumnsError_InvalidFlagError | 1, _ => x_EmptyHistoryError_InvalidFlagError | 2, _ => x_FullError_InvalidFlagError | 3, _ => x_InvalidCardsError_InvalidFlagError | 4, _ => x_InvalidColumnError_InvalidFlagError | 5, _ => x_InvalidColumnsError_InvalidFlagError | 6, _ => x_InvalidFlagError_InvalidFlagError | 7, _ => x_InvalidFormatError_InvalidFlagError | 8, _ => x_InvalidHeightError_InvalidFlagError | 9, _ => x_InvalidIndexError_InvalidFlagError | 10, _ => x_InvalidNumberError_InvalidFlagError | 11, _ => x_InvalidStartError_InvalidFlagError | 12, _ => x_InvalidTopsError_InvalidFlagError | 13, _ => x_InvalidWayError_InvalidFlagError | 14, _ => x_TooLargeError_InvalidFlagError | 15, _ => x_LowcolumnsError_InvalidFlagError | _ + 16, h => absurd h (by omega)), xk_InvalidFormatError := (fun k hk => match k, hk with | 0, _ => x_DifferentColumnsError_InvalidFormatError | 1, _ => x_EmptyHistoryError_InvalidFormatError | 2, _ => x_FullError_InvalidFormatError | 3, _ => x_InvalidCardsError_InvalidFormatError | 4, _ => x_InvalidColumnError_InvalidFormatError | 5, _ => x_InvalidColumnsError_InvalidFormatError | 6, _ => x_InvalidFlagError_InvalidFormatError | 7, _ => x_InvalidFormatError_InvalidFormatError | 8, _ => x_InvalidHeightError_InvalidFormatError | 9, _ => x_InvalidIndexError_InvalidFormatError | 10, _ => x_InvalidNumberError_InvalidFormatError | 11, _ => x_InvalidStartError_InvalidFormatError | 12, _ => x_InvalidTopsError_InvalidFormatError | 13, _ => x_InvalidWayError_InvalidFormatError | 14, _ => x_TooLargeError_InvalidFormatError | 15, _ => x_LowcolumnsError_InvalidFormatError | _ + 16, h => absurd h (by omega)), xk_InvalidHeightError := (fun k hk => match k, hk with | 0, _ => x_DifferentColumnsError_InvalidHeightError | 1, _ => x_EmptyHistoryError_InvalidHeightError | 2, _ => x_FullError_InvalidHeightError | 3, _ => x_InvalidCardsError_InvalidHeightError | 4, _ => x_InvalidColumnError_InvalidHeightError | 5, _ => x_InvalidColumnsError_InvalidHeightError | 6, _ => x_InvalidFlagError_InvalidHeightError | 7, _ => x_InvalidFormatError_InvalidHeightError | 8, _ => x_InvalidHeightError_InvalidHeightError | 9, _ => x_InvalidIndexError_InvalidHeightError | 10, _ => x_InvalidNumberError_InvalidHeightError | 11, _ => x_InvalidStartError_InvalidHeightError | 12, _ => x_InvalidTopsError_InvalidHeightError | 13, _ => x_InvalidWayError_InvalidHeightError | 14, _ => x_TooLargeError_InvalidHeightError | 15, _ => x_LowcolumnsError_InvalidHeightError | _ + 16, h => absurd h (by omega)), xk_InvalidIndexError := (fun k hk => match k, hk with | 0, _ => x_DifferentColumnsError_InvalidIndexError | 1, _ => x_EmptyHistoryError_InvalidIndexError | 2, _ => x_FullError_InvalidIndexError | 3, _ => x_InvalidCardsError_InvalidIndexError | 4, _ => x_InvalidColumnError_InvalidIndexError | 5, _ => x_InvalidColumnsError_InvalidIndexError | 6, _ => x_InvalidFlagError_InvalidIndexError | 7, _ => x_InvalidFormatError_InvalidIndexError | 8, _ => x_InvalidHeightError_InvalidIndexError | 9, _ => x_InvalidIndexError_InvalidIndexError | 10, _ => x_InvalidNumberError_InvalidIndexError | 11, _ => x_InvalidStartError_InvalidIndexError | 12, _ => x_InvalidTopsError_InvalidIndexError | 13, _ => x_InvalidWayError_InvalidIndexError | 14, _ => x_TooLargeError_InvalidIndexError | 15, _ => x_LowcolumnsError_InvalidIndexError | _ + 16, h => absurd h (by omega)), xk_InvalidNumberError := (fun k hk => match k, hk with | 0, _ => x_DifferentColumnsError_InvalidNumberError | 1, _ => x_EmptyHistoryError_InvalidNumberError | 2, _ => x_FullError_InvalidNumberError | 3, _ => x_InvalidCardsError_InvalidNumberError | 4, _ => x_InvalidColumnError_InvalidNumberError | 5, _ => x_InvalidColumnsError_InvalidNumberError | 6, _ => x_InvalidFlagError_InvalidNumberError | 7, _ => x_InvalidFormatError_InvalidNumberError | 8, _ => x_InvalidHeightError_InvalidNumberError | 9, _ => x_InvalidIndexError_InvalidNumberError | 10, _ => x_InvalidNumberError_InvalidNumberError | 11, _ => x_InvalidStartError_InvalidNumberError | 12, _ => x_InvalidTopsError_InvalidNumberError | 13, _ => x_InvalidWayError_InvalidNumberError | 14, _ => x_TooLargeError_InvalidNumberError | 15, _ => x_LowcolumnsError_InvalidNumberError | _ + 16, h => absurd h (by omega)), xk_InvalidStartError := (fun k hk => match k, hk with | 0, _ => x_DifferentColumnsError_InvalidStartError | 1, _ => x_EmptyHistoryError_InvalidStartError | 2, _ => x_FullError_InvalidStartError | 3, _ => x_InvalidCardsError_InvalidStartError | 4, _ => x_InvalidColumnError_InvalidStartError | 5, _ => x_InvalidColumnsError_InvalidStartError | 6, _ => x_InvalidFlagError_InvalidStartError | 7, _ => x_InvalidFormatError_InvalidStartError | 8, _ => x_InvalidHeightError_InvalidStartError | 9, _ => x_InvalidIndexError_InvalidStartError | 10, _ => x_InvalidNumberError_InvalidStartError | 11, _ => x_InvalidStartError_InvalidStartError | 12, _ => x_InvalidTopsError_InvalidStartError | 13, _ => x_InvalidWayError_InvalidStartError | 14, _ => x_TooLargeError_InvalidStartError | 15, _ => x_LowcolumnsError_InvalidStartError | _ + 16, h => absurd h (by omega)), xk_InvalidTopsError := (fun k hk => match k, hk with | 0, _ => x_DifferentColumnsError_InvalidTopsError | 1, _ => x_EmptyHistoryError_InvalidTopsError | 2, _ => x_FullError_InvalidTopsError | 3, _ => x_InvalidCardsError_InvalidTopsError | 4, _ => x_InvalidColumnError_InvalidTopsError | 5, _ => x_InvalidColumnsError_InvalidTopsError | 6, _ => x_InvalidFlagError_InvalidTopsError | 7, _ => x_InvalidFormatError_InvalidTopsError | 8, _ => x_InvalidHeightError_InvalidTopsError | 9, _ => x_InvalidIndexError_InvalidTopsError | 10, _ => x_InvalidNumberError_InvalidTopsError | 11, _ => x_InvalidStartError_InvalidTopsError | 12, _ => x_InvalidTopsError_InvalidTopsError | 13, _ => x_InvalidWayError_InvalidTopsError | 14, _ => x_TooLargeError_InvalidTopsError | 15, _ => x_LowcolumnsError_InvalidTopsError | _ + 16, h => absurd h (by omega)), xk_InvalidWayError := (fun k hk => match k, hk with | 0, _ => x_DifferentColumnsError_InvalidWayError | 1, _ => x_EmptyHistoryError_InvalidWayError | 2, _ => x_FullError_InvalidWayError | 3, _ => x_InvalidCardsError_InvalidWayError | 4, _ => x_InvalidColumnError_InvalidWayError | 5, _ => x_InvalidColumnsError_InvalidWayError | 6, _ => x_InvalidFlagError_InvalidWayError | 7, _ => x_InvalidFormatError_InvalidWayError | 8, _ => x_InvalidHeightError_InvalidWayError | 9, _ => x_InvalidIndexError_InvalidWayError | 10, _ => x_InvalidNumberError_InvalidWayError | 11, _ => x_InvalidStartError_InvalidWayError | 12, _ => x_InvalidTopsError_InvalidWayError | 13, _ => x_InvalidWayError_InvalidWayError | 14, _ => x_TooLargeError_InvalidWayError | 15, _ => x_LowcolumnsError_InvalidWayError | _ + 16, h => absurd h (by omega)), xk_TooLargeError := (fun k hk => match k, hk with | 0, _ => x_DifferentColumnsError_TooLargeError | 1, _ => x_EmptyHistoryError_TooLargeError | 2, _ => x_FullError_TooLargeError | 3, _ => x_InvalidCardsError_TooLargeError | 4, _ => x_InvalidColumnError_TooLargeError | 5, _ => x_InvalidColumnsError_TooLargeError | 6, _ => x_InvalidFlagError_TooLargeError | 7, _ => x_InvalidFormatError_TooLargeError | 8, _ => x_InvalidHeightError_TooLargeError | 9, _ => x_InvalidIndexError_TooLargeError | 10, _ => x_InvalidNumberError_TooLargeError | 11, _ => x_InvalidStartError_TooLargeError | 12, _ => x_InvalidTopsError_TooLargeError | 13, _ => x_InvalidWayError_TooLargeError | 14, _ => x_TooLargeError_TooLargeError | 15, _ => x_LowcolumnsError_TooLargeError | _ + 16, h => absurd h (by omega)), xk_LowcolumnsError := (fun k hk => match k, hk with | 0, _ => x_DifferentColumnsError_LowcolumnsError | 1, _ => x_EmptyHistoryError_LowcolumnsError | 2, _ => x_FullError_LowcolumnsError | 3, _ => x_InvalidCardsError_LowcolumnsError | 4, _ => x_InvalidColumnError_LowcolumnsError | 5, _ => x_InvalidColumnsError_LowcolumnsError | 6, _ => x_InvalidFlagError_LowcolumnsError | 7, _ => x_InvalidFormatError_LowcolumnsError | 8, _ => x_InvalidHeightError_LowcolumnsError | 9, _ => x_InvalidIndexError_LowcolumnsError | 10, _ => x_InvalidNumberError_LowcolumnsError | 11, _ => x_InvalidStartError_LowcolumnsError | 12, _ => x_InvalidTopsError_LowcolumnsError | 13, _ => x_InvalidWayError_LowcolumnsError | 14, _ => x_TooLargeError_LowcolumnsError | 15, _ => x_LowcolumnsError_LowcolumnsError | _ + 16, h => absurd h (by omega)), xk_ValueError := (fun k hk => match k, hk with | 0, _ => x_DifferentColumnsError_ValueError | 1, _ => x_EmptyHistoryError_ValueError | 2, _ => x_FullError_ValueError | 3, _ => x_InvalidCardsError_ValueError | 4, _ => x_InvalidColumnError_ValueError | 5, _ => x_InvalidColumnsError_ValueError | 6, _ => x_InvalidFlagError_ValueError | 7, _ => x_InvalidFormatError_ValueError | 8, _ => x_InvalidHeightError_ValueError | 9, _ => x_InvalidIndexError_ValueError | 10, _ => x_InvalidNumberError_ValueError | 11, _ => x_InvalidStartError_ValueError | 12, _ => x_InvalidTopsError_ValueError | 13, _ => x_InvalidWayError_ValueError | 14, _ => x_TooLargeError_ValueError | 15, _ => x_LowcolumnsError_ValueError | _ + 16, h => absurd h (by omega)) }
  exact ⟨_, fun s v => .of_eq rfl, fun base _ _ => (ok_law T).imp fun vs H Q E q => law_sp hm vs H Q E q⟩
end
end Lw
open PySem PySem.W PyProof.Rows in
set_option maxRecDepth 100000 in
set_option maxHeartbeats 0 in
theorem PySem.Challenge.cw_lowcolumns_k84_errors_are_distinct_holds : PySem.Challenge.rw_lowcolumns_k84_errors_are_distinct.Holds := by
  w_on; o_law; k_head; (case hw => w_witness2)
  k_fill
  refine Lc.walkGN (k := 7) (l := PySem.Challenge.rw_lowcolumns_k84_errors_are_distinct) rfl rfl ⟨rfl, by decide, by decide⟩ (fun w h Y => PySem.W.kIn_of Y) ?F
  case F =>
    intro w mg fa h KX G hmg
    refine' Lw.all_mk KX G hmg Lw.law_true ?a_is_integer ?l_is_integer ?c_is_integer ?k_is_integer ?a_is_start ?l_is_start ?c_is_start ?k_is_start ?a_is_cards ?l_is_cards ?c_is_cards ?k_is_cards ?a_check_start ?l_check_start ?c_check_start ?k_check_start ?a_check_cards ?l_check_cards ?c_check_cards ?k_check_cards ?a_lowest_in ?l_lowest_in ?c_lowest_in ?k_lowest_in ?a_laid ?l_laid ?c_laid ?k_laid ?a_tops_in ?l_tops_in ?c_tops_in ?k_tops_in ?a_tops_of ?l_tops_of ?c_tops_of ?k_tops_of ?a__law_bag ?l__law_bag ?c__law_bag ?k__law_bag ?a__law_draw ?l__law_draw ?c__law_draw ?k__law_draw ?a__law_marks ?l__law_marks ?c__law_marks ?k__law_marks ?a__law_caught ?l__law_caught ?c__law_caught ?k__law_caught ?a__law_right ?l__law_right ?c__law_right ?k__law_right ?a_law ?l_law ?c_law ?k_law ?v_MOST_CARDS ?v_MOST_COLUMNS ?v_MOST_HEIGHT ?z_ValueError ?z_all ?z_bool ?z_enumerate ?z_int ?z_isinstance ?z_len ?z_list ?z_min ?z_range ?aC_DifferentColumnsError ?aC_EmptyHistoryError ?aC_FullError ?aC_InvalidCardsError ?aC_InvalidColumnError ?aC_InvalidColumnsError ?aC_InvalidFlagError ?aC_InvalidFormatError ?aC_InvalidHeightError ?aC_InvalidIndexError ?aC_InvalidNumberError ?aC_InvalidStartError ?aC_InvalidTopsError ?aC_InvalidWayError ?aC_TooLargeError ?aC_LowcolumnsError ?en_DifferentColumnsError ?ek_DifferentColumnsError ?es_DifferentColumnsError ?et_DifferentColumnsError ?xg_DifferentColumnsError ?xh_DifferentColumnsError ?xd_DifferentColumnsError ?xa_DifferentColumnsError ?xo_DifferentColumnsError ?xm_DifferentColumnsError ?x_DifferentColumnsError_DifferentColumnsError ?x_DifferentColumnsError_EmptyHistoryError ?x_DifferentColumnsError_FullError ?x_DifferentColumnsError_InvalidCardsError ?x_DifferentColumnsError_InvalidColumnError ?x_DifferentColumnsError_InvalidColumnsError ?x_DifferentColumnsError_InvalidFlagError ?x_DifferentColumnsError_InvalidFormatError ?x_DifferentColumnsError_InvalidHeightError ?x_DifferentColumnsError_InvalidIndexError ?x_DifferentColumnsError_InvalidNumberError ?x_DifferentColumnsError_InvalidStartError ?x_DifferentColumnsError_InvalidTopsError ?x_DifferentColumnsError_InvalidWayError ?x_DifferentColumnsError_TooLargeError ?x_DifferentColumnsError_LowcolumnsError ?x_DifferentColumnsError_ValueError ?en_EmptyHistoryError ?ek_EmptyHistoryError ?es_EmptyHistoryError ?et_EmptyHistoryError ?xg_EmptyHistoryError ?xh_EmptyHistoryError ?xd_EmptyHistoryError ?xa_EmptyHistoryError ?xo_EmptyHistoryError ?xm_EmptyHistoryError ?x_EmptyHistoryError_DifferentColumnsError ?x_EmptyHistoryError_EmptyHistoryError ?x_EmptyHistoryError_FullError ?x_EmptyHistoryError_InvalidCardsError ?x_EmptyHistoryError_InvalidColumnError ?x_EmptyHistoryError_InvalidColumnsError ?x_EmptyHistoryError_InvalidFlagError ?x_EmptyHistoryError_InvalidFormatError ?x_EmptyHistoryError_InvalidHeightError ?x_EmptyHistoryError_InvalidIndexError ?x_EmptyHistoryError_InvalidNumberError ?x_EmptyHistoryError_InvalidStartError ?x_EmptyHistoryError_InvalidTopsError ?x_EmptyHistoryError_InvalidWayError ?x_EmptyHistoryError_TooLargeError ?x_EmptyHistoryError_LowcolumnsError ?x_EmptyHistoryError_ValueError ?en_FullError ?ek_FullError ?es_FullError ?et_FullError ?xg_FullError ?xh_FullError ?xd_FullError ?xa_FullError ?xo_FullError ?xm_FullError ?x_FullError_DifferentColumnsError ?x_FullError_EmptyHistoryError ?x_FullError_FullError ?x_FullError_InvalidCardsError ?x_FullError_InvalidColumnError ?x_FullError_InvalidColumnsError ?x_FullError_InvalidFlagError ?x_FullError_InvalidFormatError ?x_FullError_InvalidHeightError ?x_FullError_InvalidIndexError ?x_FullError_InvalidNumberError ?x_FullError_InvalidStartError ?x_FullError_InvalidTopsError ?x_FullError_InvalidWayError ?x_FullError_TooLargeError ?x_FullError_LowcolumnsError ?x_FullError_ValueError ?en_InvalidCardsError ?ek_InvalidCardsError ?es_InvalidCardsError ?et_InvalidCardsError ?xg_InvalidCardsError ?xh_InvalidCardsError ?xd_InvalidCardsError ?xa_InvalidCardsError ?xo_InvalidCardsError ?xm_InvalidCardsError ?x_InvalidCardsError_DifferentColumnsError ?x_InvalidCardsError_EmptyHistoryError ?x_InvalidCardsError_FullError ?x_InvalidCardsError_InvalidCardsError ?x_InvalidCardsError_InvalidColumnError ?x_InvalidCardsError_InvalidColumnsError ?x_InvalidCardsError_InvalidFlagError ?x_InvalidCardsError_InvalidFormatError ?x_InvalidCardsError_InvalidHeightError ?x_InvalidCardsError_InvalidIndexError ?x_InvalidCardsError_InvalidNumberError ?x_InvalidCardsError_InvalidStartError ?x_InvalidCardsError_InvalidTopsError ?x_InvalidCardsError_InvalidWayError ?x_InvalidCardsError_TooLargeError ?x_InvalidCardsError_LowcolumnsError ?x_InvalidCardsError_ValueError ?en_InvalidColumnError ?ek_InvalidColumnError ?es_InvalidColumnError ?et_InvalidColumnError ?xg_InvalidColumnError ?xh_InvalidColumnError ?xd_InvalidColumnError ?xa_InvalidColumnError ?xo_InvalidColumnError ?xm_InvalidColumnError ?x_InvalidColumnError_DifferentColumnsError ?x_InvalidColumnError_EmptyHistoryError ?x_InvalidColumnError_FullError ?x_InvalidColumnError_InvalidCardsError ?x_InvalidColumnError_InvalidColumnError ?x_InvalidColumnError_InvalidColumnsError ?x_InvalidColumnError_InvalidFlagError ?x_InvalidColumnError_InvalidFormatError ?x_InvalidColumnError_InvalidHeightError ?x_InvalidColumnError_InvalidIndexError ?x_InvalidColumnError_InvalidNumberError ?x_InvalidColumnError_InvalidStartError ?x_InvalidColumnError_InvalidTopsError ?x_InvalidColumnError_InvalidWayError ?x_InvalidColumnError_TooLargeError ?x_InvalidColumnError_LowcolumnsError ?x_InvalidColumnError_ValueError ?en_InvalidColumnsError ?ek_InvalidColumnsError ?es_InvalidColumnsError ?et_InvalidColumnsError ?xg_InvalidColumnsError ?xh_InvalidColumnsError ?xd_InvalidColumnsError ?xa_InvalidColumnsError ?xo_InvalidColumnsError ?xm_InvalidColumnsError ?x_InvalidColumnsError_DifferentColumnsError ?x_InvalidColumnsError_EmptyHistoryError ?x_InvalidColumnsError_FullError ?x_InvalidColumnsError_InvalidCardsError ?x_InvalidColumnsError_InvalidColumnError ?x_InvalidColumnsError_InvalidColumnsError ?x_InvalidColumnsError_InvalidFlagError ?x_InvalidColumnsError_InvalidFormatError ?x_InvalidColumnsError_InvalidHeightError ?x_InvalidColumnsError_InvalidIndexError ?x_InvalidColumnsError_InvalidNumberError ?x_InvalidColumnsError_InvalidStartError ?x_InvalidColumnsError_InvalidTopsError ?x_InvalidColumnsError_InvalidWayError ?x_InvalidColumnsError_TooLargeError ?x_InvalidColumnsError_LowcolumnsError ?x_InvalidColumnsError_ValueError ?en_InvalidFlagError ?ek_InvalidFlagError ?es_InvalidFlagError ?et_InvalidFlagError ?xg_InvalidFlagError ?xh_InvalidFlagError ?xd_InvalidFlagError ?xa_InvalidFlagError ?xo_InvalidFlagError ?xm_InvalidFlagError ?x_InvalidFlagError_DifferentColumnsError ?x_InvalidFlagError_EmptyHistoryError ?x_InvalidFlagError_FullError ?x_InvalidFlagError_InvalidCardsError ?x_InvalidFlagError_InvalidColumnError ?x_InvalidFlagError_InvalidColumnsError ?x_InvalidFlagError_InvalidFlagError ?x_InvalidFlagError_InvalidFormatError ?x_InvalidFlagError_InvalidHeightError ?x_InvalidFlagError_InvalidIndexError ?x_InvalidFlagError_InvalidNumberError ?x_InvalidFlagError_InvalidStartError ?x_InvalidFlagError_InvalidTopsError ?x_InvalidFlagError_InvalidWayError ?x_InvalidFlagError_TooLargeError ?x_InvalidFlagError_LowcolumnsError ?x_InvalidFlagError_ValueError ?en_InvalidFormatError ?ek_InvalidFormatError ?es_InvalidFormatError ?et_InvalidFormatError ?xg_InvalidFormatError ?xh_InvalidFormatError ?xd_InvalidFormatError ?xa_InvalidFormatError ?xo_InvalidFormatError ?xm_InvalidFormatError ?x_InvalidFormatError_DifferentColumnsError ?x_InvalidFormatError_EmptyHistoryError ?x_InvalidFormatError_FullError ?x_InvalidFormatError_InvalidCardsError ?x_InvalidFormatError_InvalidColumnError ?x_InvalidFormatError_InvalidColumnsError ?x_InvalidFormatError_InvalidFlagError ?x_InvalidFormatError_InvalidFormatError ?x_InvalidFormatError_InvalidHeightError ?x_InvalidFormatError_InvalidIndexError ?x_InvalidFormatError_InvalidNumberError ?x_InvalidFormatError_InvalidStartError ?x_InvalidFormatError_InvalidTopsError ?x_InvalidFormatError_InvalidWayError ?x_InvalidFormatError_TooLargeError ?x_InvalidFormatError_LowcolumnsError ?x_InvalidFormatError_ValueError ?en_InvalidHeightError ?ek_InvalidHeightError ?es_InvalidHeightError ?et_InvalidHeightError ?xg_InvalidHeightError ?xh_InvalidHeightError ?xd_InvalidHeightError ?xa_InvalidHeightError ?xo_InvalidHeightError ?xm_InvalidHeightError ?x_InvalidHeightError_DifferentColumnsError ?x_InvalidHeightError_EmptyHistoryError ?x_InvalidHeightError_FullError ?x_InvalidHeightError_InvalidCardsError ?x_InvalidHeightError_InvalidColumnError ?x_InvalidHeightError_InvalidColumnsError ?x_InvalidHeightError_InvalidFlagError ?x_InvalidHeightError_InvalidFormatError ?x_InvalidHeightError_InvalidHeightError ?x_InvalidHeightError_InvalidIndexError ?x_InvalidHeightError_InvalidNumberError ?x_InvalidHeightError_InvalidStartError ?x_InvalidHeightError_InvalidTopsError ?x_InvalidHeightError_InvalidWayError ?x_InvalidHeightError_TooLargeError ?x_InvalidHeightError_LowcolumnsError ?x_InvalidHeightError_ValueError ?en_InvalidIndexError ?ek_InvalidIndexError ?es_InvalidIndexError ?et_InvalidIndexError ?xg_InvalidIndexError ?xh_InvalidIndexError ?xd_InvalidIndexError ?xa_InvalidIndexError ?xo_InvalidIndexError ?xm_InvalidIndexError ?x_InvalidIndexError_DifferentColumnsError ?x_InvalidIndexError_EmptyHistoryError ?x_InvalidIndexError_FullError ?x_InvalidIndexError_InvalidCardsError ?x_InvalidIndexError_InvalidColumnError ?x_InvalidIndexError_InvalidColumnsError ?x_InvalidIndexError_InvalidFlagError ?x_InvalidIndexError_InvalidFormatError ?x_InvalidIndexError_InvalidHeightError ?x_InvalidIndexError_InvalidIndexError ?x_InvalidIndexError_InvalidNumberError ?x_InvalidIndexError_InvalidStartError ?x_InvalidIndexError_InvalidTopsError ?x_InvalidIndexError_InvalidWayError ?x_InvalidIndexError_TooLargeError ?x_InvalidIndexError_LowcolumnsError ?x_InvalidIndexError_ValueError ?en_InvalidNumberError ?ek_InvalidNumberError ?es_InvalidNumberError ?et_InvalidNumberError ?xg_InvalidNumberError ?xh_InvalidNumberError ?xd_InvalidNumberError ?xa_InvalidNumberError ?xo_InvalidNumberError ?xm_InvalidNumberError ?x_InvalidNumberError_DifferentColumnsError ?x_InvalidNumberError_EmptyHistoryError ?x_InvalidNumberError_FullError ?x_InvalidNumberError_InvalidCardsError ?x_InvalidNumberError_InvalidColumnError ?x_InvalidNumberError_InvalidColumnsError ?x_InvalidNumberError_InvalidFlagError ?x_InvalidNumberError_InvalidFormatError ?x_InvalidNumberError_InvalidHeightError ?x_InvalidNumberError_InvalidIndexError ?x_InvalidNumberError_InvalidNumberError ?x_InvalidNumberError_InvalidStartError ?x_InvalidNumberError_InvalidTopsError ?x_InvalidNumberError_InvalidWayError ?x_InvalidNumberError_TooLargeError ?x_InvalidNumberError_LowcolumnsError ?x_InvalidNumberError_ValueError ?en_InvalidStartError ?ek_InvalidStartError ?es_InvalidStartError ?et_InvalidStartError ?xg_InvalidStartError ?xh_InvalidStartError ?xd_InvalidStartError ?xa_InvalidStartError ?xo_InvalidStartError ?xm_InvalidStartError ?x_InvalidStartError_DifferentColumnsError ?x_InvalidStartError_EmptyHistoryError ?x_InvalidStartError_FullError ?x_InvalidStartError_InvalidCardsError ?x_InvalidStartError_InvalidColumnError ?x_InvalidStartError_InvalidColumnsError ?x_InvalidStartError_InvalidFlagError ?x_InvalidStartError_InvalidFormatError ?x_InvalidStartError_InvalidHeightError ?x_InvalidStartError_InvalidIndexError ?x_InvalidStartError_InvalidNumberError ?x_InvalidStartError_InvalidStartError ?x_InvalidStartError_InvalidTopsError ?x_InvalidStartError_InvalidWayError ?x_InvalidStartError_TooLargeError ?x_InvalidStartError_LowcolumnsError ?x_InvalidStartError_ValueError ?en_InvalidTopsError ?ek_InvalidTopsError ?es_InvalidTopsError ?et_InvalidTopsError ?xg_InvalidTopsError ?xh_InvalidTopsError ?xd_InvalidTopsError ?xa_InvalidTopsError ?xo_InvalidTopsError ?xm_InvalidTopsError ?x_InvalidTopsError_DifferentColumnsError ?x_InvalidTopsError_EmptyHistoryError ?x_InvalidTopsError_FullError ?x_InvalidTopsError_InvalidCardsError ?x_InvalidTopsError_InvalidColumnError ?x_InvalidTopsError_InvalidColumnsError ?x_InvalidTopsError_InvalidFlagError ?x_InvalidTopsError_InvalidFormatError ?x_InvalidTopsError_InvalidHeightError ?x_InvalidTopsError_InvalidIndexError ?x_InvalidTopsError_InvalidNumberError ?x_InvalidTopsError_InvalidStartError ?x_InvalidTopsError_InvalidTopsError ?x_InvalidTopsError_InvalidWayError ?x_InvalidTopsError_TooLargeError ?x_InvalidTopsError_LowcolumnsError ?x_InvalidTopsError_ValueError ?en_InvalidWayError ?ek_InvalidWayError ?es_InvalidWayError ?et_InvalidWayError ?xg_InvalidWayError ?xh_InvalidWayError ?xd_InvalidWayError ?xa_InvalidWayError ?xo_InvalidWayError ?xm_InvalidWayError ?x_InvalidWayError_DifferentColumnsError ?x_InvalidWayError_EmptyHistoryError ?x_InvalidWayError_FullError ?x_InvalidWayError_InvalidCardsError ?x_InvalidWayError_InvalidColumnError ?x_InvalidWayError_InvalidColumnsError ?x_InvalidWayError_InvalidFlagError ?x_InvalidWayError_InvalidFormatError ?x_InvalidWayError_InvalidHeightError ?x_InvalidWayError_InvalidIndexError ?x_InvalidWayError_InvalidNumberError ?x_InvalidWayError_InvalidStartError ?x_InvalidWayError_InvalidTopsError ?x_InvalidWayError_InvalidWayError ?x_InvalidWayError_TooLargeError ?x_InvalidWayError_LowcolumnsError ?x_InvalidWayError_ValueError ?en_TooLargeError ?ek_TooLargeError ?es_TooLargeError ?et_TooLargeError ?xg_TooLargeError ?xh_TooLargeError ?xd_TooLargeError ?xa_TooLargeError ?xo_TooLargeError ?xm_TooLargeError ?x_TooLargeError_DifferentColumnsError ?x_TooLargeError_EmptyHistoryError ?x_TooLargeError_FullError ?x_TooLargeError_InvalidCardsError ?x_TooLargeError_InvalidColumnError ?x_TooLargeError_InvalidColumnsError ?x_TooLargeError_InvalidFlagError ?x_TooLargeError_InvalidFormatError ?x_TooLargeError_InvalidHeightError ?x_TooLargeError_InvalidIndexError ?x_TooLargeError_InvalidNumberError ?x_TooLargeError_InvalidStartError ?x_TooLargeError_InvalidTopsError ?x_TooLargeError_InvalidWayError ?x_TooLargeError_TooLargeError ?x_TooLargeError_LowcolumnsError ?x_TooLargeError_ValueError ?en_LowcolumnsError ?ek_LowcolumnsError ?es_LowcolumnsError ?et_LowcolumnsError ?xg_LowcolumnsError ?xh_LowcolumnsError ?xd_LowcolumnsError ?xa_LowcolumnsError ?xo_LowcolumnsError ?xm_LowcolumnsError ?x_LowcolumnsError_DifferentColumnsError ?x_LowcolumnsError_EmptyHistoryError ?x_LowcolumnsError_FullError ?x_LowcolumnsError_InvalidCardsError ?x_LowcolumnsError_InvalidColumnError ?x_LowcolumnsError_InvalidColumnsError ?x_LowcolumnsError_InvalidFlagError ?x_LowcolumnsError_InvalidFormatError ?x_LowcolumnsError_InvalidHeightError ?x_LowcolumnsError_InvalidIndexError ?x_LowcolumnsError_InvalidNumberError ?x_LowcolumnsError_InvalidStartError ?x_LowcolumnsError_InvalidTopsError ?x_LowcolumnsError_InvalidWayError ?x_LowcolumnsError_TooLargeError ?x_LowcolumnsError_LowcolumnsError ?x_LowcolumnsError_ValueError ?xn_get ?xt_tak
    (case a_is_integer => k_is)
    (case l_is_integer => k_is)
    (case c_is_integer => k_is)
    (case k_is_integer => k_is)
    (case a_is_start => k_is)
    (case l_is_start => k_is)
    (case c_is_start => k_is)
    (case k_is_start => k_is)
    (case a_is_cards => k_is)
    (case l_is_cards => k_is)
    (case c_is_cards => k_is)
    (case k_is_cards => k_is)
    (case a_check_start => k_is)
    (case l_check_start => k_is)
    (case c_check_start => k_is)
    (case k_check_start => k_is)
    (case a_check_cards => k_is)
    (case l_check_cards => k_is)
    (case c_check_cards => k_is)
    (case k_check_cards => k_is)
    (case a_lowest_in => k_is)
    (case l_lowest_in => k_is)
    (case c_lowest_in => k_is)
    (case k_lowest_in => k_is)
    (case a_laid => k_is)
    (case l_laid => k_is)
    (case c_laid => k_is)
    (case k_laid => k_is)
    (case a_tops_in => k_is)
    (case l_tops_in => k_is)
    (case c_tops_in => k_is)
    (case k_tops_in => k_is)
    (case a_tops_of => k_is)
    (case l_tops_of => k_is)
    (case c_tops_of => k_is)
    (case k_tops_of => k_is)
    (case a__law_bag => k_is)
    (case l__law_bag => k_is)
    (case c__law_bag => k_is)
    (case k__law_bag => k_is)
    (case a__law_draw => k_is)
    (case l__law_draw => k_is)
    (case c__law_draw => k_is)
    (case k__law_draw => k_is)
    (case a__law_marks => k_is)
    (case l__law_marks => k_is)
    (case c__law_marks => k_is)
    (case k__law_marks => k_is)
    (case a__law_caught => k_is)
    (case l__law_caught => k_is)
    (case c__law_caught => k_is)
    (case k__law_caught => k_is)
    (case a__law_right => k_is)
    (case l__law_right => k_is)
    (case c__law_right => k_is)
    (case k__law_right => k_is)
    (case a_law => k_is)
    (case l_law => k_is)
    (case c_law => k_is)
    (case k_law => k_is)
    (case v_MOST_CARDS => k_is)
    (case v_MOST_COLUMNS => k_is)
    (case v_MOST_HEIGHT => k_is)
    (case z_ValueError => k_is)
    (case z_all => k_is)
    (case z_bool => k_is)
    (case z_enumerate => k_is)
    (case z_int => k_is)
    (case z_isinstance => k_is)
    (case z_len => k_is)
    (case z_list => k_is)
    (case z_min => k_is)
    (case z_range => k_is)
    (case aC_DifferentColumnsError => k_is)
    (case aC_EmptyHistoryError => k_is)
    (case aC_FullError => k_is)
    (case aC_InvalidCardsError => k_is)
    (case aC_InvalidColumnError => k_is)
    (case aC_InvalidColumnsError => k_is)
    (case aC_InvalidFlagError => k_is)
    (case aC_InvalidFormatError => k_is)
    (case aC_InvalidHeightError => k_is)
    (case aC_InvalidIndexError => k_is)
    (case aC_InvalidNumberError => k_is)
    (case aC_InvalidStartError => k_is)
    (case aC_InvalidTopsError => k_is)
    (case aC_InvalidWayError => k_is)
    (case aC_TooLargeError => k_is)
    (case aC_LowcolumnsError => k_is)
    (case en_DifferentColumnsError => kernel_rfl)
    (case ek_DifferentColumnsError => k_is)
    (case es_DifferentColumnsError => k_is)
    (case et_DifferentColumnsError => k_is)
    (case xg_DifferentColumnsError => k_is)
    (case xh_DifferentColumnsError => k_is)
    (case xd_DifferentColumnsError => k_is)
    (case xa_DifferentColumnsError => k_is)
    (case xo_DifferentColumnsError => k_is)
    (case xm_DifferentColumnsError => first | rfl | kernel_rfl)
    (case x_DifferentColumnsError_DifferentColumnsError => first | rfl | kernel_rfl)
    (case x_DifferentColumnsError_EmptyHistoryError => first | rfl | kernel_rfl)
    (case x_DifferentColumnsError_FullError => first | rfl | kernel_rfl)
    (case x_DifferentColumnsError_InvalidCardsError => first | rfl | kernel_rfl)
    (case x_DifferentColumnsError_InvalidColumnError => first | rfl | kernel_rfl)
    (case x_DifferentColumnsError_InvalidColumnsError => first | rfl | kernel_rfl)
    (case x_DifferentColumnsError_InvalidFlagError => first | rfl | kernel_rfl)
    (case x_DifferentColumnsError_InvalidFormatError => first | rfl | kernel_rfl)
    (case x_DifferentColumnsError_InvalidHeightError => first | rfl | kernel_rfl)
    (case x_DifferentColumnsError_InvalidIndexError => first | rfl | kernel_rfl)
    (case x_DifferentColumnsError_InvalidNumberError => first | rfl | kernel_rfl)
    (case x_DifferentColumnsError_InvalidStartError => first | rfl | kernel_rfl)
    (case x_DifferentColumnsError_InvalidTopsError => first | rfl | kernel_rfl)
    (case x_DifferentColumnsError_InvalidWayError => first | rfl | kernel_rfl)
    (case x_DifferentColumnsError_TooLargeError => first | rfl | kernel_rfl)
    (case x_DifferentColumnsError_LowcolumnsError => first | rfl | kernel_rfl)
    (case x_DifferentColumnsError_ValueError => first | rfl | kernel_rfl)
    (case en_EmptyHistoryError => kernel_rfl)
    (case ek_EmptyHistoryError => k_is)
    (case es_EmptyHistoryError => k_is)
    (case et_EmptyHistoryError => k_is)
    (case xg_EmptyHistoryError => k_is)
    (case xh_EmptyHistoryError => k_is)
    (case xd_EmptyHistoryError => k_is)
    (case xa_EmptyHistoryError => k_is)
    (case xo_EmptyHistoryError => k_is)
    (case xm_EmptyHistoryError => first | rfl | kernel_rfl)
    (case x_EmptyHistoryError_DifferentColumnsError => first | rfl | kernel_rfl)
    (case x_EmptyHistoryError_EmptyHistoryError => first | rfl | kernel_rfl)
    (case x_EmptyHistoryError_FullError => first | rfl | kernel_rfl)
    (case x_EmptyHistoryError_InvalidCardsError => first | rfl | kernel_rfl)
    (case x_EmptyHistoryError_InvalidColumnError => first | rfl | kernel_rfl)
    (case x_EmptyHistoryError_InvalidColumnsError => first | rfl | kernel_rfl)
    (case x_EmptyHistoryError_InvalidFlagError => first | rfl | kernel_rfl)
    (case x_EmptyHistoryError_InvalidFormatError => first | rfl | kernel_rfl)
    (case x_EmptyHistoryError_InvalidHeightError => first | rfl | kernel_rfl)
    (case x_EmptyHistoryError_InvalidIndexError => first | rfl | kernel_rfl)
    (case x_EmptyHistoryError_InvalidNumberError => first | rfl | kernel_rfl)
    (case x_EmptyHistoryError_InvalidStartError => first | rfl | kernel_rfl)
    (case x_EmptyHistoryError_InvalidTopsError => first | rfl | kernel_rfl)
    (case x_EmptyHistoryError_InvalidWayError => first | rfl | kernel_rfl)
    (case x_EmptyHistoryError_TooLargeError => first | rfl | kernel_rfl)
    (case x_EmptyHistoryError_LowcolumnsError => first | rfl | kernel_rfl)
    (case x_EmptyHistoryError_ValueError => first | rfl | kernel_rfl)
    (case en_FullError => kernel_rfl)
    (case ek_FullError => k_is)
    (case es_FullError => k_is)
    (case et_FullError => k_is)
    (case xg_FullError => k_is)
    (case xh_FullError => k_is)
    (case xd_FullError => k_is)
    (case xa_FullError => k_is)
    (case xo_FullError => k_is)
    (case xm_FullError => first | rfl | kernel_rfl)
    (case x_FullError_DifferentColumnsError => first | rfl | kernel_rfl)
    (case x_FullError_EmptyHistoryError => first | rfl | kernel_rfl)
    (case x_FullError_FullError => first | rfl | kernel_rfl)
    (case x_FullError_InvalidCardsError => first | rfl | kernel_rfl)
    (case x_FullError_InvalidColumnError => first | rfl | kernel_rfl)
    (case x_FullError_InvalidColumnsError => first | rfl | kernel_rfl)
    (case x_FullError_InvalidFlagError => first | rfl | kernel_rfl)
    (case x_FullError_InvalidFormatError => first | rfl | kernel_rfl)
    (case x_FullError_InvalidHeightError => first | rfl | kernel_rfl)
    (case x_FullError_InvalidIndexError => first | rfl | kernel_rfl)
    (case x_FullError_InvalidNumberError => first | rfl | kernel_rfl)
    (case x_FullError_InvalidStartError => first | rfl | kernel_rfl)
    (case x_FullError_InvalidTopsError => first | rfl | kernel_rfl)
    (case x_FullError_InvalidWayError => first | rfl | kernel_rfl)
    (case x_FullError_TooLargeError => first | rfl | kernel_rfl)
    (case x_FullError_LowcolumnsError => first | rfl | kernel_rfl)
    (case x_FullError_ValueError => first | rfl | kernel_rfl)
    (case en_InvalidCardsError => kernel_rfl)
    (case ek_InvalidCardsError => k_is)
    (case es_InvalidCardsError => k_is)
    (case et_InvalidCardsError => k_is)
    (case xg_InvalidCardsError => k_is)
    (case xh_InvalidCardsError => k_is)
    (case xd_InvalidCardsError => k_is)
    (case xa_InvalidCardsError => k_is)
    (case xo_InvalidCardsError => k_is)
    (case xm_InvalidCardsError => first | rfl | kernel_rfl)
    (case x_InvalidCardsError_DifferentColumnsError => first | rfl | kernel_rfl)
    (case x_InvalidCardsError_EmptyHistoryError => first | rfl | kernel_rfl)
    (case x_InvalidCardsError_FullError => first | rfl | kernel_rfl)
    (case x_InvalidCardsError_InvalidCardsError => first | rfl | kernel_rfl)
    (case x_InvalidCardsError_InvalidColumnError => first | rfl | kernel_rfl)
    (case x_InvalidCardsError_InvalidColumnsError => first | rfl | kernel_rfl)
    (case x_InvalidCardsError_InvalidFlagError => first | rfl | kernel_rfl)
    (case x_InvalidCardsError_InvalidFormatError => first | rfl | kernel_rfl)
    (case x_InvalidCardsError_InvalidHeightError => first | rfl | kernel_rfl)
    (case x_InvalidCardsError_InvalidIndexError => first | rfl | kernel_rfl)
    (case x_InvalidCardsError_InvalidNumberError => first | rfl | kernel_rfl)
    (case x_InvalidCardsError_InvalidStartError => first | rfl | kernel_rfl)
    (case x_InvalidCardsError_InvalidTopsError => first | rfl | kernel_rfl)
    (case x_InvalidCardsError_InvalidWayError => first | rfl | kernel_rfl)
    (case x_InvalidCardsError_TooLargeError => first | rfl | kernel_rfl)
    (case x_InvalidCardsError_LowcolumnsError => first | rfl | kernel_rfl)
    (case x_InvalidCardsError_ValueError => first | rfl | kernel_rfl)
    (case en_InvalidColumnError => kernel_rfl)
    (case ek_InvalidColumnError => k_is)
    (case es_InvalidColumnError => k_is)
    (case et_InvalidColumnError => k_is)
    (case xg_InvalidColumnError => k_is)
    (case xh_InvalidColumnError => k_is)
    (case xd_InvalidColumnError => k_is)
    (case xa_InvalidColumnError => k_is)
    (case xo_InvalidColumnError => k_is)
    (case xm_InvalidColumnError => first | rfl | kernel_rfl)
    (case x_InvalidColumnError_DifferentColumnsError => first | rfl | kernel_rfl)
    (case x_InvalidColumnError_EmptyHistoryError => first | rfl | kernel_rfl)
    (case x_InvalidColumnError_FullError => first | rfl | kernel_rfl)
    (case x_InvalidColumnError_InvalidCardsError => first | rfl | kernel_rfl)
    (case x_InvalidColumnError_InvalidColumnError => first | rfl | kernel_rfl)
    (case x_InvalidColumnError_InvalidColumnsError => first | rfl | kernel_rfl)
    (case x_InvalidColumnError_InvalidFlagError => first | rfl | kernel_rfl)
    (case x_InvalidColumnError_InvalidFormatError => first | rfl | kernel_rfl)
    (case x_InvalidColumnError_InvalidHeightError => first | rfl | kernel_rfl)
    (case x_InvalidColumnError_InvalidIndexError => first | rfl | kernel_rfl)
    (case x_InvalidColumnError_InvalidNumberError => first | rfl | kernel_rfl)
    (case x_InvalidColumnError_InvalidStartError => first | rfl | kernel_rfl)
    (case x_InvalidColumnError_InvalidTopsError => first | rfl | kernel_rfl)
    (case x_InvalidColumnError_InvalidWayError => first | rfl | kernel_rfl)
    (case x_InvalidColumnError_TooLargeError => first | rfl | kernel_rfl)
    (case x_InvalidColumnError_LowcolumnsError => first | rfl | kernel_rfl)
    (case x_InvalidColumnError_ValueError => first | rfl | kernel_rfl)
    (case en_InvalidColumnsError => kernel_rfl)
    (case ek_InvalidColumnsError => k_is)
    (case es_InvalidColumnsError => k_is)
    (case et_InvalidColumnsError => k_is)
    (case xg_InvalidColumnsError => k_is)
    (case xh_InvalidColumnsError => k_is)
    (case xd_InvalidColumnsError => k_is)
    (case xa_InvalidColumnsError => k_is)
    (case xo_InvalidColumnsError => k_is)
    (case xm_InvalidColumnsError => first | rfl | kernel_rfl)
    (case x_InvalidColumnsError_DifferentColumnsError => first | rfl | kernel_rfl)
    (case x_InvalidColumnsError_EmptyHistoryError => first | rfl | kernel_rfl)
    (case x_InvalidColumnsError_FullError => first | rfl | kernel_rfl)
    (case x_InvalidColumnsError_InvalidCardsError => first | rfl | kernel_rfl)
    (case x_InvalidColumnsError_InvalidColumnError => first | rfl | kernel_rfl)
    (case x_InvalidColumnsError_InvalidColumnsError => first | rfl | kernel_rfl)
    (case x_InvalidColumnsError_InvalidFlagError => first | rfl | kernel_rfl)
    (case x_InvalidColumnsError_InvalidFormatError => first | rfl | kernel_rfl)
    (case x_InvalidColumnsError_InvalidHeightError => first | rfl | kernel_rfl)
    (case x_InvalidColumnsError_InvalidIndexError => first | rfl | kernel_rfl)
    (case x_InvalidColumnsError_InvalidNumberError => first | rfl | kernel_rfl)
    (case x_InvalidColumnsError_InvalidStartError => first | rfl | kernel_rfl)
    (case x_InvalidColumnsError_InvalidTopsError => first | rfl | kernel_rfl)
    (case x_InvalidColumnsError_InvalidWayError => first | rfl | kernel_rfl)
    (case x_InvalidColumnsError_TooLargeError => first | rfl | kernel_rfl)
    (case x_InvalidColumnsError_LowcolumnsError => first | rfl | kernel_rfl)
    (case x_InvalidColumnsError_ValueError => first | rfl | kernel_rfl)
    (case en_InvalidFlagError => kernel_rfl)
    (case ek_InvalidFlagError => k_is)
    (case es_InvalidFlagError => k_is)
    (case et_InvalidFlagError => k_is)
    (case xg_InvalidFlagError => k_is)
    (case xh_InvalidFlagError => k_is)
    (case xd_InvalidFlagError => k_is)
    (case xa_InvalidFlagError => k_is)
    (case xo_InvalidFlagError => k_is)
    (case xm_InvalidFlagError => first | rfl | kernel_rfl)
    (case x_InvalidFlagError_DifferentColumnsError => first | rfl | kernel_rfl)
    (case x_InvalidFlagError_EmptyHistoryError => first | rfl | kernel_rfl)
    (case x_InvalidFlagError_FullError => first | rfl | kernel_rfl)
    (case x_InvalidFlagError_InvalidCardsError => first | rfl | kernel_rfl)
    (case x_InvalidFlagError_InvalidColumnError => first | rfl | kernel_rfl)
    (case x_InvalidFlagError_InvalidColumnsError => first | rfl | kernel_rfl)
    (case x_InvalidFlagError_InvalidFlagError => first | rfl | kernel_rfl)
    (case x_InvalidFlagError_InvalidFormatError => first | rfl | kernel_rfl)
    (case x_InvalidFlagError_InvalidHeightError => first | rfl | kernel_rfl)
    (case x_InvalidFlagError_InvalidIndexError => first | rfl | kernel_rfl)
    (case x_InvalidFlagError_InvalidNumberError => first | rfl | kernel_rfl)
    (case x_InvalidFlagError_InvalidStartError => first | rfl | kernel_rfl)
    (case x_InvalidFlagError_InvalidTopsError => first | rfl | kernel_rfl)
    (case x_InvalidFlagError_InvalidWayError => first | rfl | kernel_rfl)
    (case x_InvalidFlagError_TooLargeError => first | rfl | kernel_rfl)
    (case x_InvalidFlagError_LowcolumnsError => first | rfl | kernel_rfl)
    (case x_InvalidFlagError_ValueError => first | rfl | kernel_rfl)
    (case en_InvalidFormatError => kernel_rfl)
    (case ek_InvalidFormatError => k_is)
    (case es_InvalidFormatError => k_is)
    (case et_InvalidFormatError => k_is)
    (case xg_InvalidFormatError => k_is)
    (case xh_InvalidFormatError => k_is)
    (case xd_InvalidFormatError => k_is)
    (case xa_InvalidFormatError => k_is)
    (case xo_InvalidFormatError => k_is)
    (case xm_InvalidFormatError => first | rfl | kernel_rfl)
    (case x_InvalidFormatError_DifferentColumnsError => first | rfl | kernel_rfl)
    (case x_InvalidFormatError_EmptyHistoryError => first | rfl | kernel_rfl)
    (case x_InvalidFormatError_FullError => first | rfl | kernel_rfl)
    (case x_InvalidFormatError_InvalidCardsError => first | rfl | kernel_rfl)
    (case x_InvalidFormatError_InvalidColumnError => first | rfl | kernel_rfl)
    (case x_InvalidFormatError_InvalidColumnsError => first | rfl | kernel_rfl)
    (case x_InvalidFormatError_InvalidFlagError => first | rfl | kernel_rfl)
    (case x_InvalidFormatError_InvalidFormatError => first | rfl | kernel_rfl)
    (case x_InvalidFormatError_InvalidHeightError => first | rfl | kernel_rfl)
    (case x_InvalidFormatError_InvalidIndexError => first | rfl | kernel_rfl)
    (case x_InvalidFormatError_InvalidNumberError => first | rfl | kernel_rfl)
    (case x_InvalidFormatError_InvalidStartError => first | rfl | kernel_rfl)
    (case x_InvalidFormatError_InvalidTopsError => first | rfl | kernel_rfl)
    (case x_InvalidFormatError_InvalidWayError => first | rfl | kernel_rfl)
    (case x_InvalidFormatError_TooLargeError => first | rfl | kernel_rfl)
    (case x_InvalidFormatError_LowcolumnsError => first | rfl | kernel_rfl)
    (case x_InvalidFormatError_ValueError => first | rfl | kernel_rfl)
    (case en_InvalidHeightError => kernel_rfl)
    (case ek_InvalidHeightError => k_is)
    (case es_InvalidHeightError => k_is)
    (case et_InvalidHeightError => k_is)
    (case xg_InvalidHeightError => k_is)
    (case xh_InvalidHeightError => k_is)
    (case xd_InvalidHeightError => k_is)
    (case xa_InvalidHeightError => k_is)
    (case xo_InvalidHeightError => k_is)
    (case xm_InvalidHeightError => first | rfl | kernel_rfl)
    (case x_InvalidHeightError_DifferentColumnsError => first | rfl | kernel_rfl)
    (case x_InvalidHeightError_EmptyHistoryError => first | rfl | kernel_rfl)
    (case x_InvalidHeightError_FullError => first | rfl | kernel_rfl)
    (case x_InvalidHeightError_InvalidCardsError => first | rfl | kernel_rfl)
    (case x_InvalidHeightError_InvalidColumnError => first | rfl | kernel_rfl)
    (case x_InvalidHeightError_InvalidColumnsError => first | rfl | kernel_rfl)
    (case x_InvalidHeightError_InvalidFlagError => first | rfl | kernel_rfl)
    (case x_InvalidHeightError_InvalidFormatError => first | rfl | kernel_rfl)
    (case x_InvalidHeightError_InvalidHeightError => first | rfl | kernel_rfl)
    (case x_InvalidHeightError_InvalidIndexError => first | rfl | kernel_rfl)
    (case x_InvalidHeightError_InvalidNumberError => first | rfl | kernel_rfl)
    (case x_InvalidHeightError_InvalidStartError => first | rfl | kernel_rfl)
    (case x_InvalidHeightError_InvalidTopsError => first | rfl | kernel_rfl)
    (case x_InvalidHeightError_InvalidWayError => first | rfl | kernel_rfl)
    (case x_InvalidHeightError_TooLargeError => first | rfl | kernel_rfl)
    (case x_InvalidHeightError_LowcolumnsError => first | rfl | kernel_rfl)
    (case x_InvalidHeightError_ValueError => first | rfl | kernel_rfl)
    (case en_InvalidIndexError => kernel_rfl)
    (case ek_InvalidIndexError => k_is)
    (case es_InvalidIndexError => k_is)
    (case et_InvalidIndexError => k_is)
    (case xg_InvalidIndexError => k_is)
    (case xh_InvalidIndexError => k_is)
    (case xd_InvalidIndexError => k_is)
    (case xa_InvalidIndexError => k_is)
    (case xo_InvalidIndexError => k_is)
    (case xm_InvalidIndexError => first | rfl | kernel_rfl)
    (case x_InvalidIndexError_DifferentColumnsError => first | rfl | kernel_rfl)
    (case x_InvalidIndexError_EmptyHistoryError => first | rfl | kernel_rfl)
    (case x_InvalidIndexError_FullError => first | rfl | kernel_rfl)
    (case x_InvalidIndexError_InvalidCardsError => first | rfl | kernel_rfl)
    (case x_InvalidIndexError_InvalidColumnError => first | rfl | kernel_rfl)
    (case x_InvalidIndexError_InvalidColumnsError => first | rfl | kernel_rfl)
    (case x_InvalidIndexError_InvalidFlagError => first | rfl | kernel_rfl)
    (case x_InvalidIndexError_InvalidFormatError => first | rfl | kernel_rfl)
    (case x_InvalidIndexError_InvalidHeightError => first | rfl | kernel_rfl)
    (case x_InvalidIndexError_InvalidIndexError => first | rfl | kernel_rfl)
    (case x_InvalidIndexError_InvalidNumberError => first | rfl | kernel_rfl)
    (case x_InvalidIndexError_InvalidStartError => first | rfl | kernel_rfl)
    (case x_InvalidIndexError_InvalidTopsError => first | rfl | kernel_rfl)
    (case x_InvalidIndexError_InvalidWayError => first | rfl | kernel_rfl)
    (case x_InvalidIndexError_TooLargeError => first | rfl | kernel_rfl)
    (case x_InvalidIndexError_LowcolumnsError => first | rfl | kernel_rfl)
    (case x_InvalidIndexError_ValueError => first | rfl | kernel_rfl)
    (case en_InvalidNumberError => kernel_rfl)
    (case ek_InvalidNumberError => k_is)
    (case es_InvalidNumberError => k_is)
    (case et_InvalidNumberError => k_is)
    (case xg_InvalidNumberError => k_is)
    (case xh_InvalidNumberError => k_is)
    (case xd_InvalidNumberError => k_is)
    (case xa_InvalidNumberError => k_is)
    (case xo_InvalidNumberError => k_is)
    (case xm_InvalidNumberError => first | rfl | kernel_rfl)
    (case x_InvalidNumberError_DifferentColumnsError => first | rfl | kernel_rfl)
    (case x_InvalidNumberError_EmptyHistoryError => first | rfl | kernel_rfl)
    (case x_InvalidNumberError_FullError => first | rfl | kernel_rfl)
    (case x_InvalidNumberError_InvalidCardsError => first | rfl | kernel_rfl)
    (case x_InvalidNumberError_InvalidColumnError => first | rfl | kernel_rfl)
    (case x_InvalidNumberError_InvalidColumnsError => first | rfl | kernel_rfl)
    (case x_InvalidNumberError_InvalidFlagError => first | rfl | kernel_rfl)
    (case x_InvalidNumberError_InvalidFormatError => first | rfl | kernel_rfl)
    (case x_InvalidNumberError_InvalidHeightError => first | rfl | kernel_rfl)
    (case x_InvalidNumberError_InvalidIndexError => first | rfl | kernel_rfl)
    (case x_InvalidNumberError_InvalidNumberError => first | rfl | kernel_rfl)
    (case x_InvalidNumberError_InvalidStartError => first | rfl | kernel_rfl)
    (case x_InvalidNumberError_InvalidTopsError => first | rfl | kernel_rfl)
    (case x_InvalidNumberError_InvalidWayError => first | rfl | kernel_rfl)
    (case x_InvalidNumberError_TooLargeError => first | rfl | kernel_rfl)
    (case x_InvalidNumberError_LowcolumnsError => first | rfl | kernel_rfl)
    (case x_InvalidNumberError_ValueError => first | rfl | kernel_rfl)
    (case en_InvalidStartError => kernel_rfl)
    (case ek_InvalidStartError => k_is)
    (case es_InvalidStartError => k_is)
    (case et_InvalidStartError => k_is)
    (case xg_InvalidStartError => k_is)
    (case xh_InvalidStartError => k_is)
    (case xd_InvalidStartError => k_is)
    (case xa_InvalidStartError => k_is)
    (case xo_InvalidStartError => k_is)
    (case xm_InvalidStartError => first | rfl | kernel_rfl)
    (case x_InvalidStartError_DifferentColumnsError => first | rfl | kernel_rfl)
    (case x_InvalidStartError_EmptyHistoryError => first | rfl | kernel_rfl)
    (case x_InvalidStartError_FullError => first | rfl | kernel_rfl)
    (case x_InvalidStartError_InvalidCardsError => first | rfl | kernel_rfl)
    (case x_InvalidStartError_InvalidColumnError => first | rfl | kernel_rfl)
    (case x_InvalidStartError_InvalidColumnsError => first | rfl | kernel_rfl)
    (case x_InvalidStartError_InvalidFlagError => first | rfl | kernel_rfl)
    (case x_InvalidStartError_InvalidFormatError => first | rfl | kernel_rfl)
    (case x_InvalidStartError_InvalidHeightError => first | rfl | kernel_rfl)
    (case x_InvalidStartError_InvalidIndexError => first | rfl | kernel_rfl)
    (case x_InvalidStartError_InvalidNumberError => first | rfl | kernel_rfl)
    (case x_InvalidStartError_InvalidStartError => first | rfl | kernel_rfl)
    (case x_InvalidStartError_InvalidTopsError => first | rfl | kernel_rfl)
    (case x_InvalidStartError_InvalidWayError => first | rfl | kernel_rfl)
    (case x_InvalidStartError_TooLargeError => first | rfl | kernel_rfl)
    (case x_InvalidStartError_LowcolumnsError => first | rfl | kernel_rfl)
    (case x_InvalidStartError_ValueError => first | rfl | kernel_rfl)
    (case en_InvalidTopsError => kernel_rfl)
    (case ek_InvalidTopsError => k_is)
    (case es_InvalidTopsError => k_is)
    (case et_InvalidTopsError => k_is)
    (case xg_InvalidTopsError => k_is)
    (case xh_InvalidTopsError => k_is)
    (case xd_InvalidTopsError => k_is)
    (case xa_InvalidTopsError => k_is)
    (case xo_InvalidTopsError => k_is)
    (case xm_InvalidTopsError => first | rfl | kernel_rfl)
    (case x_InvalidTopsError_DifferentColumnsError => first | rfl | kernel_rfl)
    (case x_InvalidTopsError_EmptyHistoryError => first | rfl | kernel_rfl)
    (case x_InvalidTopsError_FullError => first | rfl | kernel_rfl)
    (case x_InvalidTopsError_InvalidCardsError => first | rfl | kernel_rfl)
    (case x_InvalidTopsError_InvalidColumnError => first | rfl | kernel_rfl)
    (case x_InvalidTopsError_InvalidColumnsError => first | rfl | kernel_rfl)
    (case x_InvalidTopsError_InvalidFlagError => first | rfl | kernel_rfl)
    (case x_InvalidTopsError_InvalidFormatError => first | rfl | kernel_rfl)
    (case x_InvalidTopsError_InvalidHeightError => first | rfl | kernel_rfl)
    (case x_InvalidTopsError_InvalidIndexError => first | rfl | kernel_rfl)
    (case x_InvalidTopsError_InvalidNumberError => first | rfl | kernel_rfl)
    (case x_InvalidTopsError_InvalidStartError => first | rfl | kernel_rfl)
    (case x_InvalidTopsError_InvalidTopsError => first | rfl | kernel_rfl)
    (case x_InvalidTopsError_InvalidWayError => first | rfl | kernel_rfl)
    (case x_InvalidTopsError_TooLargeError => first | rfl | kernel_rfl)
    (case x_InvalidTopsError_LowcolumnsError => first | rfl | kernel_rfl)
    (case x_InvalidTopsError_ValueError => first | rfl | kernel_rfl)
    (case en_InvalidWayError => kernel_rfl)
    (case ek_InvalidWayError => k_is)
    (case es_InvalidWayError => k_is)
    (case et_InvalidWayError => k_is)
    (case xg_InvalidWayError => k_is)
    (case xh_InvalidWayError => k_is)
    (case xd_InvalidWayError => k_is)
    (case xa_InvalidWayError => k_is)
    (case xo_InvalidWayError => k_is)
    (case xm_InvalidWayError => first | rfl | kernel_rfl)
    (case x_InvalidWayError_DifferentColumnsError => first | rfl | kernel_rfl)
    (case x_InvalidWayError_EmptyHistoryError => first | rfl | kernel_rfl)
    (case x_InvalidWayError_FullError => first | rfl | kernel_rfl)
    (case x_InvalidWayError_InvalidCardsError => first | rfl | kernel_rfl)
    (case x_InvalidWayError_InvalidColumnError => first | rfl | kernel_rfl)
    (case x_InvalidWayError_InvalidColumnsError => first | rfl | kernel_rfl)
    (case x_InvalidWayError_InvalidFlagError => first | rfl | kernel_rfl)
    (case x_InvalidWayError_InvalidFormatError => first | rfl | kernel_rfl)
    (case x_InvalidWayError_InvalidHeightError => first | rfl | kernel_rfl)
    (case x_InvalidWayError_InvalidIndexError => first | rfl | kernel_rfl)
    (case x_InvalidWayError_InvalidNumberError => first | rfl | kernel_rfl)
    (case x_InvalidWayError_InvalidStartError => first | rfl | kernel_rfl)
    (case x_InvalidWayError_InvalidTopsError => first | rfl | kernel_rfl)
    (case x_InvalidWayError_InvalidWayError => first | rfl | kernel_rfl)
    (case x_InvalidWayError_TooLargeError => first | rfl | kernel_rfl)
    (case x_InvalidWayError_LowcolumnsError => first | rfl | kernel_rfl)
    (case x_InvalidWayError_ValueError => first | rfl | kernel_rfl)
    (case en_TooLargeError => kernel_rfl)
    (case ek_TooLargeError => k_is)
    (case es_TooLargeError => k_is)
    (case et_TooLargeError => k_is)
    (case xg_TooLargeError => k_is)
    (case xh_TooLargeError => k_is)
    (case xd_TooLargeError => k_is)
    (case xa_TooLargeError => k_is)
    (case xo_TooLargeError => k_is)
    (case xm_TooLargeError => first | rfl | kernel_rfl)
    (case x_TooLargeError_DifferentColumnsError => first | rfl | kernel_rfl)
    (case x_TooLargeError_EmptyHistoryError => first | rfl | kernel_rfl)
    (case x_TooLargeError_FullError => first | rfl | kernel_rfl)
    (case x_TooLargeError_InvalidCardsError => first | rfl | kernel_rfl)
    (case x_TooLargeError_InvalidColumnError => first | rfl | kernel_rfl)
    (case x_TooLargeError_InvalidColumnsError => first | rfl | kernel_rfl)
    (case x_TooLargeError_InvalidFlagError => first | rfl | kernel_rfl)
    (case x_TooLargeError_InvalidFormatError => first | rfl | kernel_rfl)
    (case x_TooLargeError_InvalidHeightError => first | rfl | kernel_rfl)
    (case x_TooLargeError_InvalidIndexError => first | rfl | kernel_rfl)
    (case x_TooLargeError_InvalidNumberError => first | rfl | kernel_rfl)
    (case x_TooLargeError_InvalidStartError => first | rfl | kernel_rfl)
    (case x_TooLargeError_InvalidTopsError => first | rfl | kernel_rfl)
    (case x_TooLargeError_InvalidWayError => first | rfl | kernel_rfl)
    (case x_TooLargeError_TooLargeError => first | rfl | kernel_rfl)
    (case x_TooLargeError_LowcolumnsError => first | rfl | kernel_rfl)
    (case x_TooLargeError_ValueError => first | rfl | kernel_rfl)
    (case en_LowcolumnsError => kernel_rfl)
    (case ek_LowcolumnsError => k_is)
    (case es_LowcolumnsError => k_is)
    (case et_LowcolumnsError => k_is)
    (case xg_LowcolumnsError => k_is)
    (case xh_LowcolumnsError => k_is)
    (case xd_LowcolumnsError => k_is)
    (case xa_LowcolumnsError => k_is)
    (case xo_LowcolumnsError => k_is)
    (case xm_LowcolumnsError => first | rfl | kernel_rfl)
    (case x_LowcolumnsError_DifferentColumnsError => first | rfl | kernel_rfl)
    (case x_LowcolumnsError_EmptyHistoryError => first | rfl | kernel_rfl)
    (case x_LowcolumnsError_FullError => first | rfl | kernel_rfl)
    (case x_LowcolumnsError_InvalidCardsError => first | rfl | kernel_rfl)
    (case x_LowcolumnsError_InvalidColumnError => first | rfl | kernel_rfl)
    (case x_LowcolumnsError_InvalidColumnsError => first | rfl | kernel_rfl)
    (case x_LowcolumnsError_InvalidFlagError => first | rfl | kernel_rfl)
    (case x_LowcolumnsError_InvalidFormatError => first | rfl | kernel_rfl)
    (case x_LowcolumnsError_InvalidHeightError => first | rfl | kernel_rfl)
    (case x_LowcolumnsError_InvalidIndexError => first | rfl | kernel_rfl)
    (case x_LowcolumnsError_InvalidNumberError => first | rfl | kernel_rfl)
    (case x_LowcolumnsError_InvalidStartError => first | rfl | kernel_rfl)
    (case x_LowcolumnsError_InvalidTopsError => first | rfl | kernel_rfl)
    (case x_LowcolumnsError_InvalidWayError => first | rfl | kernel_rfl)
    (case x_LowcolumnsError_TooLargeError => first | rfl | kernel_rfl)
    (case x_LowcolumnsError_LowcolumnsError => first | rfl | kernel_rfl)
    (case x_LowcolumnsError_ValueError => first | rfl | kernel_rfl)
    (case xn_get => k_is)
    (case xt_tak => k_is)
#print axioms PySem.Challenge.cw_lowcolumns_k84_errors_are_distinct_holds
