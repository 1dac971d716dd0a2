import PyProof.Rows.All
import Wide.All
import OpenK.AllK
import Wide.FinOn
import HandS.ForMost
import HandS.Exc
import HandS.ExcOwn
import HandS.WordsExc
import HandS.CallSlots
import HandS.TryMany
import HandS.Deep
import HandS.TupAny
import HandS.IsInst
import HandS.Style
import HandS.Wide
import HandS.ExcInit
import HandS.ExcField
import HandS.ClsMeth
import HandS.Property
import HandS.FStr
import HandS.Star
import HandS.RaiseMore
import KE.KCallOwn
import KE.KFmtOwn
import PyProof.StrOps2
import HandS.SetFor
import PyProof.Rows.SortShellAny
import HandS.Strs
import HandS.Zip
import HandS.SetBool
import HandS.OwnEq
import PySem.Challenge.RW_tailpick_k31_costs_joined
set_option Elab.async false
set_option linter.all false
set_option maxRecDepth 100000
/-! Values as data: D stands for what a frozen value holds; a body's reading is a function on D. -/
namespace PD
open PySem PySem.Spec PyProof.Rows L2

inductive D where
  | non | bl (b : Bool) | int (i : Int) | str (s : Str)
  | tup (xs : List D) | lst (xs : List D)
  /-- a list that somebody owns and may change later: read only -/
  | bor (xs : List D)
  /-- a locked list (the script) -/
  | scr (xs : List D)
  | dct (kvs : List (D × D))
  | ins (C : Str) (fs : List (Str × D))
  /-- the law's state of draws -/
  | state
  /-- a class of the program -/
  | cls (n : Str)

structure Pm where
  K : PySem.W.Frag
  mg : Str → Option Value
  sa : Addr
  /-- in an __init__: the object that is made -/
  xa : Addr

def keyD : Key → D
  | .inl i => .int i
  | .inr s => .str s

mutual
def Rep (P : Pm) (F : Hp) : D → V → Prop
  | .non, v => v = .non
  | .bl b, v => v = .bl b
  | .int i, v => v = .int i
  | .str s, v => v = .str s
  | .tup xs, v => ∃ a vs, v = .ref a ∧ SqT P.K F a vs ∧ Reps P F xs vs
  | .lst xs, v => ∃ a vs, v = .ref a ∧ F a = some (.lst vs) ∧ Reps P F xs vs
  | .bor _, _ => False
  | .scr xs, v => ∃ a vs, v = .ref a ∧ SqL P.K F a vs ∧ Reps P F xs vs
  | .dct kvs, v => ∃ a, v = .ref a ∧ ((∃ ks, F a = some (.dK ks) ∧ RepK P F kvs ks) ∨ ∃ ks, F a = some (.dT ks) ∧ RepT P F kvs ks)
  | .ins C fs, v => ∃ a Ca dx vs, v = .ref a ∧ P.mg C = some (.ref Ca) ∧ F a = some (.ins Ca dx vs) ∧ RepF P F fs vs
  | .state, v => v = .ref P.sa
  | .cls n, v => ∃ a, v = .ref a ∧ P.mg n = some (.ref a)
def Reps (P : Pm) (F : Hp) : List D → List V → Prop
  | [], vs => vs = []
  | d :: ds, vs => ∃ v ws, vs = v :: ws ∧ Rep P F d v ∧ Reps P F ds ws
def RepK (P : Pm) (F : Hp) : List (D × D) → List (Key × V) → Prop
  | [], vs => vs = []
  | (k, d) :: ds, vs => ∃ k' v ws, vs = (k', v) :: ws ∧ k = keyD k' ∧ Rep P F d v ∧ RepK P F ds ws
def RepT (P : Pm) (F : Hp) : List (D × D) → List (List Key × V) → Prop
  | [], vs => vs = []
  | (k, d) :: ds, vs => ∃ k' v ws, vs = (k', v) :: ws ∧ k = .tup (k'.map keyD) ∧ Rep P F d v ∧ RepT P F ds ws
def RepF (P : Pm) (F : Hp) : List (Str × D) → List (Str × V) → Prop
  | [], vs => vs = []
  | (n, d) :: ds, vs => ∃ v ws, vs = (n, v) :: ws ∧ Rep P F d v ∧ RepF P F ds ws
end

mutual
theorem Rep.mono {P : Pm} {F F' : Hp} (h : Same F F') : ∀ (d : D) (v : V), Rep P F d v → Rep P F' d v
  | .non, v, r => by simpa only [Rep] using r
  | .bl b, v, r => by simpa only [Rep] using r
  | .int i, v, r => by simpa only [Rep] using r
  | .str s, v, r => by simpa only [Rep] using r
  | .tup xs, v, r => by
    simp only [Rep] at r ⊢
    obtain ⟨a, vs, e, q, rs⟩ := r
    refine ⟨a, vs, e, ?_, Reps.mono h xs vs rs⟩
    rcases q with (q | ⟨o, q⟩) | q
    · exact .inl (.inl (h _ _ q))
    · exact .inl (.inr ⟨o, h _ _ q⟩)
    · exact .inr q
  | .lst xs, v, r => by
    simp only [Rep] at r ⊢
    obtain ⟨a, vs, e, q, rs⟩ := r
    exact ⟨a, vs, e, h _ _ q, Reps.mono h xs vs rs⟩
  | .bor xs, v, r => by simp only [Rep] at r
  | .scr xs, v, r => by
    simp only [Rep] at r ⊢
    obtain ⟨a, vs, e, q, rs⟩ := r
    exact ⟨a, vs, e, h.seq q, Reps.mono h xs vs rs⟩
  | .dct kvs, v, r => by
    simp only [Rep] at r ⊢
    obtain ⟨a, e, q⟩ := r
    refine ⟨a, e, ?_⟩
    rcases q with ⟨ks, q, rs⟩ | ⟨ks, q, rs⟩
    · exact .inl ⟨ks, h _ _ q, RepK.mono h kvs ks rs⟩
    · exact .inr ⟨ks, h _ _ q, RepT.mono h kvs ks rs⟩
  | .ins C fs, v, r => by
    simp only [Rep] at r ⊢
    obtain ⟨a, Ca, dx, vs, e, m, q, rs⟩ := r
    exact ⟨a, Ca, dx, vs, e, m, h _ _ q, RepF.mono h fs vs rs⟩
  | .state, v, r => by simpa only [Rep] using r
  | .cls n, v, r => by simpa only [Rep] using r
theorem Reps.mono {P : Pm} {F F' : Hp} (h : Same F F') : ∀ (ds : List D) (vs : List V), Reps P F ds vs → Reps P F' ds vs
  | [], vs, r => by simpa only [Reps] using r
  | d :: ds, vs, r => by
    simp only [Reps] at r ⊢
    obtain ⟨v, ws, e, r, rs⟩ := r
    exact ⟨v, ws, e, Rep.mono h d v r, Reps.mono h ds ws rs⟩
theorem RepK.mono {P : Pm} {F F' : Hp} (h : Same F F') : ∀ (ds : List (D × D)) (vs : List (Key × V)), RepK P F ds vs → RepK P F' ds vs
  | [], vs, r => by simpa only [RepK] using r
  | (k, d) :: ds, vs, r => by
    simp only [RepK] at r ⊢
    obtain ⟨k', v, ws, e, ek, r, rs⟩ := r
    exact ⟨k', v, ws, e, ek, Rep.mono h d v r, RepK.mono h ds ws rs⟩
theorem RepT.mono {P : Pm} {F F' : Hp} (h : Same F F') : ∀ (ds : List (D × D)) (vs : List (List Key × V)), RepT P F ds vs → RepT P F' ds vs
  | [], vs, r => by simpa only [RepT] using r
  | (k, d) :: ds, vs, r => by
    simp only [RepT] at r ⊢
    obtain ⟨k', v, ws, e, ek, r, rs⟩ := r
    exact ⟨k', v, ws, e, ek, Rep.mono h d v r, RepT.mono h ds ws rs⟩
theorem RepF.mono {P : Pm} {F F' : Hp} (h : Same F F') : ∀ (ds : List (Str × D)) (vs : List (Str × V)), RepF P F ds vs → RepF P F' ds vs
  | [], vs, r => by simpa only [RepF] using r
  | (n, d) :: ds, vs, r => by
    simp only [RepF] at r ⊢
    obtain ⟨v, ws, e, r, rs⟩ := r
    exact ⟨v, ws, e, Rep.mono h d v r, RepF.mono h ds ws rs⟩
end

/-- a value that may be an owned list, read where it stands (B) -/
def RepB (P : Pm) (F B : Hp) : D → V → Prop
  | .bor xs, v => ∃ a vs, v = .ref a ∧ B a = some (.lst vs) ∧ Reps P F xs vs
  | d, v => Rep P F d v
def borFree : D → Bool
  | .bor _ => false
  | _ => true
theorem RepB.rep {P : Pm} {F B : Hp} {d : D} {v : V} (h : borFree d = true) (r : RepB P F B d v) : Rep P F d v := by
  cases d <;> first | exact r | cases h
theorem Rep.b {P : Pm} {F B : Hp} {d : D} {v : V} (r : Rep P F d v) : RepB P F B d v := by
  cases d <;> first | exact r | (simp only [Rep] at r)
theorem RepB.mono {P : Pm} {F F' B : Hp} (h : Same F F') {d : D} {v : V} (r : RepB P F B d v) : RepB P F' B d v := by
  cases d
  case bor xs =>
    obtain ⟨a, vs, e, q, rs⟩ := r
    exact ⟨a, vs, e, q, rs.mono h⟩
  all_goals exact Rep.mono h _ _ r

theorem Reps.length {P : Pm} {F : Hp} : ∀ {ds : List D} {vs : List V}, Reps P F ds vs → ds.length = vs.length
  | [], vs, r => by simp only [Reps] at r; subst r; rfl
  | d :: ds, vs, r => by
    simp only [Reps] at r
    obtain ⟨v, ws, e, _, rs⟩ := r
    subst e
    simp only [List.length_cons, rs.length]
theorem Reps.get {P : Pm} {F : Hp} : ∀ {ds : List D} {vs : List V} {i : Nat} {d : D}, Reps P F ds vs → ds[i]? = some d → ∃ v, vs[i]? = some v ∧ Rep P F d v
  | [], vs, i, d, r, e => by simp at e
  | x :: ds, vs, i, d, r, e => by
    simp only [Reps] at r
    obtain ⟨v, ws, ev, r, rs⟩ := r
    subst ev
    cases i with
    | zero => simp at e; subst e; exact ⟨v, rfl, r⟩
    | succ i => simpa using rs.get (i := i) (by simpa using e)
theorem Reps.getV {P : Pm} {F : Hp} {ds : List D} {vs : List V} {i : Nat} {v : V} (r : Reps P F ds vs) (e : vs[i]? = some v) : ∃ d, ds[i]? = some d ∧ Rep P F d v := by
  have hl := r.length
  obtain ⟨h, _⟩ := List.getElem?_eq_some_iff.mp e
  obtain ⟨w, e2, rr⟩ := r.get (i := i) (List.getElem?_eq_getElem (by omega))
  rw [e] at e2; cases e2
  exact ⟨_, List.getElem?_eq_getElem (by omega), rr⟩
theorem Reps.append {P : Pm} {F : Hp} : ∀ {ds es : List D} {vs ws : List V}, Reps P F ds vs → Reps P F es ws → Reps P F (ds ++ es) (vs ++ ws)
  | [], es, vs, ws, r, s => by simp only [Reps] at r; subst r; exact s
  | d :: ds, es, vs, ws, r, s => by
    simp only [Reps] at r
    obtain ⟨v, us, e, r, rs⟩ := r
    subst e
    simp only [List.cons_append, Reps]
    exact ⟨v, us ++ ws, rfl, r, rs.append s⟩
theorem Reps.one {P : Pm} {F : Hp} {d : D} {v : V} (r : Rep P F d v) : Reps P F [d] [v] := by
  simp only [Reps]
  exact ⟨v, [], rfl, r, rfl⟩
theorem Reps.cons {P : Pm} {F : Hp} {d : D} {v : V} {ds : List D} {vs : List V} (r : Rep P F d v) (rs : Reps P F ds vs) : Reps P F (d :: ds) (v :: vs) := by
  simp only [Reps]
  exact ⟨v, vs, rfl, r, rs⟩
theorem Reps.nil {P : Pm} {F : Hp} : Reps P F [] [] := by simp only [Reps]
theorem Reps.uncons {P : Pm} {F : Hp} {d : D} {ds : List D} {vs : List V} (r : Reps P F (d :: ds) vs) : ∃ v ws, vs = v :: ws ∧ Rep P F d v ∧ Reps P F ds ws := by
  simpa only [Reps] using r
theorem Reps.take {P : Pm} {F : Hp} : ∀ {ds : List D} {vs : List V} (n : Nat), Reps P F ds vs → Reps P F (ds.take n) (vs.take n)
  | _, _, 0, _ => by simp only [List.take_zero]; exact .nil
  | [], vs, n + 1, r => by simp only [Reps] at r; subst r; exact .nil
  | d :: ds, vs, n + 1, r => by
    obtain ⟨v, ws, e, r1, rs⟩ := r.uncons
    subst e
    exact .cons r1 (rs.take n)
theorem Reps.drop {P : Pm} {F : Hp} : ∀ {ds : List D} {vs : List V} (n : Nat), Reps P F ds vs → Reps P F (ds.drop n) (vs.drop n)
  | _, _, 0, r => r
  | [], vs, n + 1, r => by simp only [Reps] at r; subst r; exact .nil
  | d :: ds, vs, n + 1, r => by
    obtain ⟨v, ws, e, r1, rs⟩ := r.uncons
    subst e
    exact rs.drop n
theorem Reps.set {P : Pm} {F : Hp} {d : D} {v : V} (r : Rep P F d v) : ∀ {ds : List D} {vs : List V} (i : Nat), Reps P F ds vs → Reps P F (ds.set i d) (vs.set i v)
  | [], vs, i, rs => by simp only [Reps] at rs; subst rs; exact .nil
  | x :: ds, vs, 0, rs => by
    obtain ⟨w, ws, e, _, rs1⟩ := rs.uncons
    subst e
    exact .cons r rs1
  | x :: ds, vs, i + 1, rs => by
    obtain ⟨w, ws, e, rx, rs1⟩ := rs.uncons
    subst e
    exact .cons rx (rs1.set r i)
theorem Reps.eraseIdx {P : Pm} {F : Hp} : ∀ {ds : List D} {vs : List V} (i : Nat), Reps P F ds vs → Reps P F (ds.eraseIdx i) (vs.eraseIdx i)
  | [], vs, i, rs => by simp only [Reps] at rs; subst rs; exact .nil
  | x :: ds, vs, 0, rs => by
    obtain ⟨w, ws, e, _, rs1⟩ := rs.uncons
    subst e
    exact rs1
  | x :: ds, vs, i + 1, rs => by
    obtain ⟨w, ws, e, rx, rs1⟩ := rs.uncons
    subst e
    exact .cons rx (rs1.eraseIdx i)
theorem Reps.reverse {P : Pm} {F : Hp} : ∀ {ds : List D} {vs : List V}, Reps P F ds vs → Reps P F ds.reverse vs.reverse
  | [], vs, rs => by simp only [Reps] at rs; subst rs; exact .nil
  | x :: ds, vs, rs => by
    obtain ⟨w, ws, e, rx, rs1⟩ := rs.uncons
    subst e
    simp only [List.reverse_cons]
    exact rs1.reverse.append (.one rx)
theorem Reps.strs {P : Pm} {F : Hp} : ∀ (ss : List Str), Reps P F (ss.map D.str) (ss.map V.str)
  | [] => .nil
  | s :: ss => .cons (by simp only [Rep]) (Reps.strs ss)
theorem Reps.pyI {P : Pm} {F : Hp} : ∀ (ss : List Int), Reps P F (ss.map D.int) (ss.map V.int)
  | [] => .nil
  | s :: ss => .cons (by simp only [Rep]) (Reps.pyI ss)

/-! ### heaps -/
structure Pre (F B M H : Hp) : Prop where
  f : Same F H
  b : Same B H
  m : Same M H
  fb : ∀ a, F a = none ∨ B a = none
  fm : ∀ a, F a = none ∨ M a = none
  bm : ∀ a, B a = none ∨ M a = none
/-- behind an expression: F the frozen part, M the part of the state -/
structure Ext (F M H F' M' H' : Hp) : Prop where
  ff : Same F F'
  f : Same F' H'
  m : Same M' H'
  keep : ∀ a o, H a = some o → M a = none → H' a = some o
  there : ∀ a, H a ≠ none → H' a ≠ none
  newF : ∀ a, H a ≠ none → F a = none → F' a = none
  newM : ∀ a, H a ≠ none → M a = none → M' a = none
  fm : ∀ a, F' a = none ∨ M' a = none
theorem ne_some {α : Type} {x : Option α} {o : α} (h : x = some o) : x ≠ none := by rw [h]; exact nofun
theorem some_ne {α : Type} {x : Option α} (h : x ≠ none) : ∃ o, x = some o := by
  cases x with
  | none => exact absurd rfl h
  | some o => exact ⟨o, rfl⟩
theorem _root_.L2.Same.ne {A B : Hp} (h : Same A B) {a : Addr} (n : A a ≠ none) : B a ≠ none := by
  obtain ⟨o, e⟩ := some_ne n
  exact ne_some (h _ _ e)
theorem _root_.L2.Same.none {A B : Hp} (h : Same A B) {a : Addr} (n : B a = none) : A a = none := h.free n
theorem Ext.refl {F B M H : Hp} (p : Pre F B M H) : Ext F M H F M H :=
  ⟨Same.refl F, p.f, p.m, fun _ _ h _ => h, fun _ h => h, fun _ _ h => h, fun _ _ h => h, p.fm⟩
theorem Ext.trans {F M H F1 M1 H1 F2 M2 H2 : Hp} (a : Ext F M H F1 M1 H1) (b : Ext F1 M1 H1 F2 M2 H2) : Ext F M H F2 M2 H2 where
  ff := a.ff.trans b.ff
  f := b.f
  m := b.m
  keep := fun x o h n => b.keep x o (a.keep x o h n) (a.newM x (ne_some h) n)
  there := fun x h => b.there x (a.there x h)
  newF := fun x h n => b.newF x (a.there x h) (a.newF x h n)
  newM := fun x h n => b.newM x (a.there x h) (a.newM x h n)
  fm := b.fm
theorem Pre.ext {F B M H F' M' H' : Hp} (p : Pre F B M H) (e : Ext F M H F' M' H') : Pre F' B M' H' where
  f := e.f
  m := e.m
  fm := e.fm
  b := fun a o h => e.keep a o (p.b a o h) ((p.bm a).resolve_left (ne_some h))
  fb := fun a => by
    by_cases h : B a = none
    · exact .inr h
    · exact .inl (e.newF a (p.b.ne h) ((p.fb a).resolve_right h))
  bm := fun a => by
    by_cases h : B a = none
    · exact .inl h
    · exact .inr (e.newM a (p.b.ne h) ((p.bm a).resolve_left h))
theorem same_updP {H : Hp} {p : Addr} {o : HO} (h : H p = none) : Same H (upd H p o) := fun b x e => by
  rw [upd_ne (ne_of_none e h)]
  exact e
theorem upd_none {H : Hp} {p a : Addr} {o : HO} (h : upd H p o a = none) : H a = none ∧ a ≠ p := by
  by_cases e : a = p
  · subst e; rw [upd_same] at h; cases h
  · rw [upd_ne e] at h; exact ⟨h, e⟩
/-- a new object, frozen at once -/
theorem Ext.new {F B M H : Hp} (p : Pre F B M H) {x : Addr} {o : HO} (h : H x = none) : Ext F M H (upd F x o) M (upd H x o) where
  ff := same_updP (p.f.none h)
  f := fun a u e => by
    by_cases hx : a = x
    · subst hx; rw [upd_same] at e ⊢; exact e
    · rw [upd_ne hx] at e ⊢; exact p.f _ _ e
  m := p.m.trans (same_updP h)
  keep := fun a u e _ => same_updP h _ _ e
  there := fun a e => (same_updP h).ne e
  newF := fun a e n => by
    have hx : a ≠ x := fun z => e (by rw [z]; exact h)
    rw [upd_ne hx]; exact n
  newM := fun a _ n => n
  fm := fun a => by
    by_cases hx : a = x
    · subst hx; exact .inr (p.m.none h)
    · rw [upd_ne hx]; exact p.fm a
/-- a new object that is not frozen -/
theorem Ext.own {F B M H : Hp} (p : Pre F B M H) {x : Addr} {o : HO} (h : H x = none) : Ext F M H F M (upd H x o) where
  ff := Same.refl F
  f := p.f.trans (same_updP h)
  m := p.m.trans (same_updP h)
  keep := fun a u e _ => same_updP h _ _ e
  there := fun a e => (same_updP h).ne e
  newF := fun a _ n => n
  newM := fun a _ n => n
  fm := p.fm

/-! ### results -/
structure Exn where
  cls : Str
  fld : Str
  val : D
inductive Res (τ α : Type) where
  | ok (a : α) (st : τ)
  | err (x : Exn) (st : τ)
  | stuck
def Res.bind {τ α β : Type} (r : Res τ α) (f : α → τ → Res τ β) : Res τ β :=
  match r with
  | .ok a st => f a st
  | .err x st => .err x st
  | .stuck => .stuck
def Res.of {τ α : Type} (o : Option α) (st : τ) : Res τ α :=
  match o with
  | some a => .ok a st
  | none => .stuck

/-- what a slot holds -/
inductive SV where
  | un
  | val (d : D)
  | own (xs : List D)
  | bor (xs : List D)
  /-- self in an __init__: an object that nobody else knows -/
  | obj (C : Str) (fs : List (Str × D))
abbrev Sl : Type := List SV

def SlotOk (P : Pm) (F B : Hp) : SV → Option V → Prop
  | .un, _ => True
  | .val d, o => ∃ v, o = some v ∧ Rep P F d v
  | .own xs, o => ∃ a vs, o = some (.ref a) ∧ B a = some (.lst vs) ∧ Reps P F xs vs
  | .bor xs, o => ∃ a vs, o = some (.ref a) ∧ B a = some (.lst vs) ∧ Reps P F xs vs
  | .obj C fs, o => o = some (.ref P.xa) ∧ ∃ Ca dx vs, P.mg C = some (.ref Ca) ∧ B P.xa = some (.ins Ca dx vs) ∧ RepF P F fs vs
theorem SlotOk.mono {P : Pm} {F F' B : Hp} (h : Same F F') {s : SV} {o : Option V} (r : SlotOk P F B s o) : SlotOk P F' B s o := by
  cases s with
  | un => trivial
  | val d => obtain ⟨v, e, r⟩ := r; exact ⟨v, e, r.mono h⟩
  | own xs => obtain ⟨a, vs, e, q, r⟩ := r; exact ⟨a, vs, e, q, r.mono h⟩
  | bor xs => obtain ⟨a, vs, e, q, r⟩ := r; exact ⟨a, vs, e, q, r.mono h⟩
  | obj C fs => obtain ⟨e, Ca, dx, vs, m, q, r⟩ := r; exact ⟨e, Ca, dx, vs, m, q, r.mono h⟩
def SV.isOwn : SV → Bool
  | .own _ => true
  | .obj _ _ => true
  | _ => false
def SV.isRef : SV → Bool
  | .own _ => true
  | .obj _ _ => true
  | .bor _ => true
  | _ => false
/-- a def's body as it stands: the slots and the state -/
structure WI {τ : Type} (P : Pm) (R : τ → Hp → Prop) (F B M H : Hp) (σ : L2.St) (ρ : Sl) (st : τ) : Prop where
  pre : Pre F B M H
  r : R st M
  len : ρ.length = σ.length
  sl : ∀ (i : Nat) (s : SV) (o : Option V), ρ[i]? = some s → σ[i]? = some o → SlotOk P F B s o
  dj : ∀ (i j : Nat) (s t : SV) (a : Addr), i ≠ j → ρ[i]? = some s → ρ[j]? = some t → s.isOwn = true → t.isRef = true → σ[i]? = some (some (.ref a)) → σ[j]? ≠ some (some (.ref a))
theorem WI.ext {τ : Type} {P : Pm} {R : τ → Hp → Prop} {F B M H F' M' H' : Hp} {σ : L2.St} {ρ : Sl} {st st' : τ} (w : WI P R F B M H σ ρ st) (e : Ext F M H F' M' H') (r : R st' M') : WI P R F' B M' H' σ ρ st' :=
  ⟨w.pre.ext e, r, w.len, fun i s o h1 h2 => (w.sl i s o h1 h2).mono e.ff, w.dj⟩
theorem WI.slot {τ : Type} {P : Pm} {R : τ → Hp → Prop} {F B M H : Hp} {σ : L2.St} {ρ : Sl} {st : τ} (w : WI P R F B M H σ ρ st) {i : Nat} {s : SV} (h : ρ[i]? = some s) : ∃ o, σ[i]? = some o ∧ SlotOk P F B s o := by
  obtain ⟨hi, _⟩ := List.getElem?_eq_some_iff.mp h
  have h2 : i < σ.length := by rw [← w.len]; exact hi
  exact ⟨σ[i], List.getElem?_eq_getElem h2, w.sl i s _ h (List.getElem?_eq_getElem h2)⟩

/-- how an exception of a mirror stands in the heap: its class, its own dict -/
def XRep (P : Pm) (F : Hp) (x : Exn) (c : Value) (d : Option Addr) (H : Hp) : Prop :=
  ∃ (C dd : Addr) (v : V), P.mg x.cls = some (.ref C) ∧ c = .ref C ∧ d = some dd ∧ H dd = some (.xd [(x.fld, v)]) ∧ Rep P F x.val v

/-- r comes to an end of which ok (er) holds -/
def Sat {τ α : Type} (r : Res τ α) (ok : α → τ → Prop) (er : Exn → τ → Prop) : Prop :=
  match r with
  | .ok a st => ok a st
  | .err x st => er x st
  | .stuck => False
theorem Sat.bind {τ α β : Type} {r : Res τ α} {f : α → τ → Res τ β} {ok : β → τ → Prop} {er : Exn → τ → Prop} (h : Sat (r.bind f) ok er) : Sat r (fun a st => Sat (f a st) ok er) er := by
  cases r <;> exact h
theorem Sat.mono {τ α : Type} {r : Res τ α} {ok ok' : α → τ → Prop} {er er' : Exn → τ → Prop} (h : Sat r ok er) (h1 : ∀ a st, ok a st → ok' a st) (h2 : ∀ x st, er x st → er' x st) : Sat r ok' er' := by
  cases r with
  | ok a st => exact h1 _ _ h
  | err x st => exact h2 _ _ h
  | stuck => exact h
theorem Sat.of {τ α : Type} {o : Option α} {st : τ} {ok : α → τ → Prop} {er : Exn → τ → Prop} (h : Sat (Res.of o st) ok er) : ∃ a, o = some a ∧ ok a st := by
  cases o with
  | none => exact h.elim
  | some a => exact ⟨a, rfl, h⟩

section
variable {τ : Type} (P : Pm) (R : τ → Hp → Prop)
abbrev GE (τ : Type) := Sl → τ → Res τ D
abbrev GA (τ : Type) := Sl → τ → Res τ (List D)
abbrev GT (τ : Type) := Sl → τ → Res τ Bool
/-- an exception's wish -/
def KX (W : WX) (F M H : Hp) (σ : L2.St) : Exn → τ → Prop := fun x st' => ∀ F' M' H' c dd, Ext F M H F' M' H' → R st' M' → XRep P F' x c dd H' → W c dd σ H'
/-- what an expression's reading te comes to is what g says -/
def EvD (W : WX) (te : TE) (g : GE τ) : Prop := ∀ F B M H σ ρ st, WI P R F B M H σ ρ st → ∀ Q : VK,
  Sat (g ρ st) (fun d st' => ∀ F' M' H' v, Ext F M H F' M' H' → R st' M' → RepB P F' B d v → Q v H') (KX P R W F M H σ) → te σ H Q
def EvT (W : WX) (tt : TT) (g : GT τ) : Prop := ∀ F B M H σ ρ st, WI P R F B M H σ ρ st → ∀ Q : Bool → Hp → Prop,
  Sat (g ρ st) (fun b st' => ∀ F' M' H', Ext F M H F' M' H' → R st' M' → Q b H') (KX P R W F M H σ) → tt σ H Q
def RepBs (F B : Hp) : List D → List V → Prop
  | [], vs => vs = []
  | d :: ds, vs => ∃ v ws, vs = v :: ws ∧ RepB P F B d v ∧ RepBs F B ds ws
def EvA (W : WX) (ta : TA) (g : GA τ) : Prop := ∀ F B M H σ ρ st, WI P R F B M H σ ρ st → ∀ Q : List V → Hp → Prop,
  Sat (g ρ st) (fun ds st' => ∀ F' M' H' vs, Ext F M H F' M' H' → R st' M' → RepBs P F' B ds vs → Q vs H') (KX P R W F M H σ) → ta σ H Q
theorem KX.ext {W : WX} {F M H F1 M1 H1 : Hp} {σ : L2.St} {x : Exn} {st : τ} (h : KX P R W F M H σ x st) (e : Ext F M H F1 M1 H1) : KX P R W F1 M1 H1 σ x st :=
  fun F' M' H' c dd E r q => h F' M' H' c dd (e.trans E) r q
end
end PD

namespace PD
open PySem PySem.Spec PyProof.Rows L2
section
variable {τ : Type} {P : Pm} {R : τ → Hp → Prop} {W : WX}

theorem RepBs.mono {F F' B : Hp} (h : Same F F') : ∀ {ds : List D} {vs : List V}, RepBs P F B ds vs → RepBs P F' B ds vs
  | [], vs, r => r
  | d :: ds, vs, ⟨v, ws, e, r, rs⟩ => ⟨v, ws, e, r.mono h, RepBs.mono h rs⟩

/-! ### names, constants -/
def slotD : SV → Option D
  | .val d => some d
  | .own xs => some (.bor xs)
  | .bor xs => some (.bor xs)
  | .un => none
  | .obj _ _ => none
def gVar (i : Nat) : GE τ := fun ρ st => .of (ρ[i]?.bind slotD) st
theorem ev_var (i : Nat) : EvD P R W (tVar i) (gVar i) := by
  intro F B M H σ ρ st w Q h
  obtain ⟨d, e, q⟩ := Sat.of h
  cases e1 : ρ[i]? with
  | none => rw [e1] at e; cases e
  | some s =>
    rw [e1] at e
    obtain ⟨o, e2, so⟩ := w.slot e1
    cases s with
    | un => cases e
    | obj C fs => cases e
    | val d' =>
      cases e
      obtain ⟨v, rfl, r⟩ := so
      exact ⟨v, e2, q F M H v (.refl w.pre) w.r r.b⟩
    | own xs =>
      cases e
      obtain ⟨a, vs, rfl, eb, r⟩ := so
      exact ⟨.ref a, e2, q F M H _ (.refl w.pre) w.r ⟨a, vs, rfl, eb, r⟩⟩
    | bor xs =>
      cases e
      obtain ⟨a, vs, rfl, eb, r⟩ := so
      exact ⟨.ref a, e2, q F M H _ (.refl w.pre) w.r ⟨a, vs, rfl, eb, r⟩⟩
def gC (d : D) : GE τ := fun _ st => .ok d st
theorem ev_int {i : Int} : EvD P R W (tC (.int i)) (gC (.int i)) := fun F B M H σ ρ st w Q q => q F M H _ (.refl w.pre) w.r rfl
theorem ev_bl {b : Bool} : EvD P R W (tC (.bl b)) (gC (.bl b)) := fun F B M H σ ρ st w Q q => q F M H _ (.refl w.pre) w.r rfl
theorem ev_non : EvD P R W (tC .non) (gC .non) := fun F B M H σ ρ st w Q q => q F M H _ (.refl w.pre) w.r rfl
theorem ev_str {x : Str} : EvD P R W (tC (.str x)) (gC (.str x)) := fun F B M H σ ρ st w Q q => q F M H _ (.refl w.pre) w.r rfl

/-! ### operators of two values -/
def OpD (P : Pm) (r : R2) (op : D → D → Option D) : Prop := ∀ F B M H x y dx dy d, Pre F B M H → RepB P F B dx x → RepB P F B dy y → op dx dy = some d →
  ∀ Q : VK, (∀ F' H' v, Ext F M H F' M H' → RepB P F' B d v → Q v H') → r x y H Q
def gBin (op : D → D → Option D) (a b : GE τ) : GE τ := fun ρ st => (a ρ st).bind fun x st => (b ρ st).bind fun y st => .of (op x y) st
theorem ev_op {r : R2} {op : D → D → Option D} {ta tb : TE} {ga gb : GE τ} (ho : OpD P r op) (ha : EvD P R W ta ga) (hb : EvD P R W tb gb) : EvD P R W (tOp r ta tb) (gBin op ga gb) := by
  intro F B M H σ ρ st w Q h
  refine ha F B M H σ ρ st w _ (h.bind.mono (fun x st1 h1 F1 M1 H1 v1 E1 R1 r1 => ?_) fun _ _ z => z)
  have w1 := w.ext E1 R1
  refine hb F1 B M1 H1 σ ρ st1 w1 _ (h1.bind.mono (fun y st2 h2 F2 M2 H2 v2 E2 R2 r2 => ?_) fun _ _ z => KX.ext P R z E1)
  obtain ⟨d, e, q⟩ := Sat.of h2
  exact ho F2 B M2 H2 v1 v2 x y d (w1.pre.ext E2) (r1.mono E2.ff) r2 e Q fun F' H' v E r => q F' M2 H' v ((E1.trans E2).trans E) R2 r
theorem OpD.or {r r' : R2} {op op' : D → D → Option D} (h : OpD P r op) (h' : OpD P r' op') : OpD P (fun x y H Q => r x y H Q ∨ r' x y H Q) (fun x y => (op x y).or (op' x y)) := by
  intro F B M H x y dx dy d p rx ry e Q q
  have e : (op dx dy).or (op' dx dy) = some d := e
  cases e1 : op dx dy with
  | some d1 =>
    rw [e1] at e
    exact .inl (h F B M H x y dx dy d p rx ry (e1.trans e) Q q)
  | none =>
    rw [e1] at e
    exact .inr (h' F B M H x y dx dy d p rx ry e Q q)
theorem OpR.or {X : Cx} {f : Value → Value → Sem Value} {r r' : R2} (h : OpR X f r) (h' : OpR X f r') : OpR X f (fun x y H Q => r x y H Q ∨ r' x y H Q) := by
  intro pins s σ H x y v u Q I rx ry q
  rcases q with q | q
  · exact h pins s σ H x y v u Q I rx ry q
  · exact h' pins s σ H x y v u Q I rx ry q
/-- of ints, scalars alone -/
def oI (f : Int → Int → Option D) : D → D → Option D
  | .int i, .int j => f i j
  | _, _ => none
def oS (f : Str → Str → Option D) : D → D → Option D
  | .str i, .str j => f i j
  | _, _ => none
theorem RepB.int {F B : Hp} {i : Int} {v : V} (r : RepB P F B (.int i) v) : v = .int i := r
theorem RepB.str {F B : Hp} {i : Str} {v : V} (r : RepB P F B (.str i) v) : v = .str i := r
theorem oI_some {f : Int → Int → Option D} {x y d : D} (h : oI f x y = some d) : ∃ i j, x = .int i ∧ y = .int j ∧ f i j = some d := by
  cases x <;> cases y <;> first | exact ⟨_, _, rfl, rfl, h⟩ | cases h
theorem oS_some {f : Str → Str → Option D} {x y d : D} (h : oS f x y = some d) : ∃ i j, x = .str i ∧ y = .str j ∧ f i j = some d := by
  cases x <;> cases y <;> first | exact ⟨_, _, rfl, rfl, h⟩ | cases h
theorem opd_I0 {g : Int → Int → V} {f : Int → Int → D} (h : ∀ F B i j, RepB P F B (f i j) (g i j)) : OpD P (rI0 g) (oI fun i j => some (f i j)) := by
  intro F B M H x y dx dy d p rx ry e Q q
  obtain ⟨i, j, rfl, rfl, e⟩ := oI_some e
  cases e
  exact ⟨i, j, rx, ry, q F H _ (.refl p) (h F B i j)⟩
theorem opd_I {C : Int → Int → Prop} {g : Int → Int → V} {f : Int → Int → D} {c : Int → Int → Bool} (hc : ∀ i j, c i j = true → C i j) (h : ∀ F B i j, RepB P F B (f i j) (g i j)) : OpD P (rI C g) (oI fun i j => if c i j = true then some (f i j) else none) := by
  intro F B M H x y dx dy d p rx ry e Q q
  obtain ⟨i, j, rfl, rfl, e'⟩ := oI_some e
  clear e
  have e := e'
  by_cases hcc : c i j = true
  · rw [if_pos hcc] at e
    cases e
    exact ⟨i, j, rx, ry, hc i j hcc, q F H _ (.refl p) (h F B i j)⟩
  · rw [if_neg hcc] at e; cases e

/-! ### what a value holds one after the other -/
def items : D → Option (List D)
  | .tup xs => some xs
  | .lst xs => some xs
  | .bor xs => some xs
  | .scr xs => some xs
  | _ => none
def litems : D → Option (List D)
  | .lst xs => some xs
  | .bor xs => some xs
  | _ => none
theorem RepB.seq {F B M H : Hp} {d : D} {v : V} {ds : List D} (p : Pre F B M H) (r : RepB P F B d v) (e : items d = some ds) :
    ∃ a vs, v = .ref a ∧ (SqL P.K H a vs ∨ SqT P.K H a vs) ∧ Reps P F ds vs := by
  cases d <;> try cases e
  case tup => obtain ⟨a, vs, e, q, rs⟩ := (by simpa only [RepB, Rep] using r); exact ⟨a, vs, e, .inr (by
    rcases q with (q | ⟨o, q⟩) | q
    · exact .inl (.inl (p.f _ _ q))
    · exact .inl (.inr ⟨o, p.f _ _ q⟩)
    · exact .inr q), rs⟩
  case lst => obtain ⟨a, vs, e, q, rs⟩ := (by simpa only [RepB, Rep] using r); exact ⟨a, vs, e, .inl (.of (p.f _ _ q)), rs⟩
  case bor => obtain ⟨a, vs, e, q, rs⟩ := r; exact ⟨a, vs, e, .inl (.of (p.b _ _ q)), rs⟩
  case scr => obtain ⟨a, vs, e, q, rs⟩ := (by simpa only [RepB, Rep] using r); exact ⟨a, vs, e, .inl (p.f.seq q), rs⟩
theorem RepB.list {F B M H : Hp} {d : D} {v : V} {ds : List D} (p : Pre F B M H) (r : RepB P F B d v) (e : litems d = some ds) :
    ∃ a vs, v = .ref a ∧ H a = some (.lst vs) ∧ Reps P F ds vs := by
  cases d <;> try cases e
  case lst => obtain ⟨a, vs, e, q, rs⟩ := (by simpa only [RepB, Rep] using r); exact ⟨a, vs, e, p.f _ _ q, rs⟩
  case bor => obtain ⟨a, vs, e, q, rs⟩ := r; exact ⟨a, vs, e, p.b _ _ q, rs⟩
theorem RepB.tupl {F B M H : Hp} {v : V} {ds : List D} (p : Pre F B M H) (r : RepB P F B (.tup ds) v) :
    ∃ a vs, v = .ref a ∧ SqT P.K H a vs ∧ Reps P F ds vs := by
  obtain ⟨a, vs, e, q, rs⟩ := (by simpa only [RepB, Rep] using r)
  exact ⟨a, vs, e, by
    rcases q with (q | ⟨o, q⟩) | q
    · exact .inl (.inl (p.f _ _ q))
    · exact .inl (.inr ⟨o, p.f _ _ q⟩)
    · exact .inr q, rs⟩
/-- a new list, a new tuple, frozen at once -/
theorem new_lst {F B M H : Hp} {xs : List V} {ds : List D} (p : Pre F B M H) (rs : Reps P F ds xs) {Q : VK} (q : ∀ F' H' v, Ext F M H F' M H' → Rep P F' (.lst ds) v → Q v H') :
    ∀ a, H a = none → Q (.ref a) (upd H a (.lst xs)) := fun a ha =>
  q _ _ _ (.new p ha) (by simp only [Rep]; exact ⟨a, xs, rfl, upd_same, rs.mono (same_updP (p.f.none ha))⟩)
theorem new_tup {F B M H : Hp} {xs : List V} {ds : List D} (p : Pre F B M H) (rs : Reps P F ds xs) {Q : VK} (q : ∀ F' H' v, Ext F M H F' M H' → Rep P F' (.tup ds) v → Q v H') :
    ∀ a, H a = none → Q (.ref a) (upd H a (.tup xs)) := fun a ha =>
  q _ _ _ (.new p ha) (by simp only [Rep]; exact ⟨a, xs, rfl, .of upd_same, rs.mono (same_updP (p.f.none ha))⟩)

/-! ### + -/
def line : Nat := 16777216
theorem line_eq : sizeLine = line := sizeLine_eq
def oL (f : List D → List D → Option D) (x y : D) : Option D :=
  match litems x, litems y with
  | some a, some b => f a b
  | _, _ => none
def oT (f : List D → List D → Option D) : D → D → Option D
  | .tup a, .tup b => f a b
  | _, _ => none
theorem oL_some {f : List D → List D → Option D} {x y d : D} (h : oL f x y = some d) : ∃ a b, litems x = some a ∧ litems y = some b ∧ f a b = some d := by
  unfold oL at h
  split at h
  · rename_i a b e1 e2; exact ⟨a, b, e1, e2, h⟩
  · cases h
theorem oT_some {f : List D → List D → Option D} {x y d : D} (h : oT f x y = some d) : ∃ i j, x = .tup i ∧ y = .tup j ∧ f i j = some d := by
  cases x <;> cases y <;> first | exact ⟨_, _, rfl, rfl, h⟩ | cases h
theorem if_some {c : Prop} [Decidable c] {α : Type} {a b : α} (h : (if c then some a else none) = some b) : c ∧ a = b := by
  by_cases hc : c
  · rw [if_pos hc] at h; exact ⟨hc, Option.some.inj h⟩
  · rw [if_neg hc] at h; cases h
def dAddS : D → D → Option D := oS fun i j => if i.length + j.length ≤ line then some (.str (i ++ j)) else none
def dAddL : D → D → Option D := oL fun a b => if a.length + b.length ≤ line then some (.lst (a ++ b)) else none
def dAddT : D → D → Option D := oT fun a b => if a.length + b.length ≤ line then some (.tup (a ++ b)) else none
def dAdd : D → D → Option D := fun x y => ((oI fun i j => some (.int (i + j))) x y).or ((dAddS x y).or ((dAddL x y).or (dAddT x y)))
def rAddA (K : PySem.W.Frag) : R2 := fun x y H Q => rI0 (fun i j => .int (i + j)) x y H Q ∨ ((∃ i j, x = .str i ∧ y = .str j ∧ i.length + j.length ≤ sizeLine ∧ Q (.str (i ++ j)) H) ∨ (rCat x y H Q ∨ rCatA K x y H Q))
theorem op_addA {X : Cx} : OpR X (binaryOp .Add) (rAddA X.K) := OpR.or op_add (OpR.or op_add_str (OpR.or op_cat op_catA))
theorem opd_add : OpD P (rAddA P.K) dAdd := by
  refine OpD.or (opd_I0 fun _ _ _ _ => rfl) (OpD.or ?_ (OpD.or ?_ ?_))
  · intro F B M H x y dx dy d p rx ry e Q q
    obtain ⟨i, j, rfl, rfl, e1⟩ := oS_some e
    obtain ⟨hl, rfl⟩ := if_some e1
    exact ⟨i, j, rx, ry, by rw [line_eq]; exact hl, q F H _ (.refl p) rfl⟩
  · intro F B M H x y dx dy d p rx ry e Q q
    obtain ⟨a, b, e1, e2, e3⟩ := oL_some e
    obtain ⟨hl, rfl⟩ := if_some e3
    obtain ⟨l, xs, rfl, hx, rxs⟩ := rx.list p e1
    obtain ⟨b', ys, rfl, hy, rys⟩ := ry.list p e2
    exact ⟨l, b', xs, ys, rfl, rfl, hx, hy, by rw [line_eq, ← rxs.length, ← rys.length]; exact hl, new_lst p (rxs.append rys) fun F' H' v E r => q F' H' v E r.b⟩
  · intro F B M H x y dx dy d p rx ry e Q q
    obtain ⟨a, b, rfl, rfl, e3⟩ := oT_some e
    obtain ⟨hl, rfl⟩ := if_some e3
    have rx' := rx
    have ry' := ry
    obtain ⟨l, xs, rfl, hx, rxs⟩ := rx.tupl p
    obtain ⟨b', ys, rfl, hy, rys⟩ := ry.tupl p
    have nil : ∀ {ds : List D} {vs : List V}, Reps P F ds vs → vs = [] → ds = [] := fun r z => by
      have := r.length
      rw [z] at this
      exact List.eq_nil_of_length_eq_zero this
    refine ⟨l, b', xs, ys, rfl, rfl, hx, hy, by rw [line_eq, ← rxs.length, ← rys.length]; exact hl, fun z => ?_, fun _ z => ?_, fun _ _ => new_tup p (rxs.append rys) fun F' H' v E r => q F' H' v E r.b⟩
    · rw [nil rxs z] at q
      exact q F H _ (.refl p) ry'
    · rw [nil rys z, List.append_nil] at q
      exact q F H _ (.refl p) rx'
/-! ### - * // % ** -/
def dSub : D → D → Option D := oI fun i j => some (.int (i - j))
theorem opd_sub : OpD P (rI0 fun i j => .int (i - j)) dSub := opd_I0 fun _ _ _ _ => rfl
/-- a factor between -2^64 and 2^64 -/
def smallI (i : Int) : Bool := decide (-(2 ^ 64) < i) && decide (i < 2 ^ 64)
def dMul : D → D → Option D := oI fun i j => if (smallI i || smallI j) = true then some (.int (i * j)) else none
theorem smallI_iff {i : Int} (h : smallI i = true) : -(2 ^ 64) < i ∧ i < 2 ^ 64 := by
  obtain ⟨h1, h2⟩ := Bool.and_eq_true_iff.mp h
  exact ⟨of_decide_eq_true h1, of_decide_eq_true h2⟩
theorem opd_mul : OpD P (rI CMul fun i j => .int (i * j)) dMul := opd_I (c := fun i j => smallI i || smallI j) (fun i j h => by
  rcases Bool.or_eq_true_iff.mp h with h | h
  · exact .inl (smallI_iff h)
  · exact .inr (smallI_iff h)) fun _ _ _ _ => rfl
def dDiv : D → D → Option D := oI fun i j => if (decide (j ≠ 0) && decide (j.natAbs < 1073741824)) = true then some (.int (i.fdiv j)) else none
theorem opd_div : OpD P (rI CDivN fun i j => .int (i.fdiv j)) dDiv := opd_I (c := fun i j => decide (j ≠ 0) && decide (j.natAbs < 1073741824)) (fun i j h => by
  obtain ⟨h1, h2⟩ := Bool.and_eq_true_iff.mp h
  exact ⟨of_decide_eq_true h1, of_decide_eq_true h2⟩) fun _ _ _ _ => rfl
def dMod : D → D → Option D := oI fun i j => if (decide (j ≠ 0)) = true then some (.int (i.fmod j)) else none
theorem opd_mod : OpD P (rI (fun _ j => j ≠ 0) fun i j => .int (i.fmod j)) dMod := opd_I (c := fun i j => decide (j ≠ 0)) (fun i j h => of_decide_eq_true h) fun _ _ _ _ => rfl
def dPow : D → D → Option D := oI fun i j => if (decide (0 ≤ j) && (decide (j ≤ 1000000) && decide (i.natAbs < 2 ^ 64))) = true then some (.int (i ^ j.toNat)) else none
theorem opd_pow : OpD P (rI CPow fun i j => .int (i ^ j.toNat)) dPow := opd_I (c := fun i j => decide (0 ≤ j) && (decide (j ≤ 1000000) && decide (i.natAbs < 2 ^ 64))) (fun i j h => by
  obtain ⟨h1, h2⟩ := Bool.and_eq_true_iff.mp h
  obtain ⟨h2, h3⟩ := Bool.and_eq_true_iff.mp h2
  exact ⟨of_decide_eq_true h1, of_decide_eq_true h2, of_decide_eq_true h3⟩) fun _ _ _ _ => rfl

/-! ### data that may be compared -/
mutual
def toPy : D → Option PyData
  | .non => some .none
  | .bl b => some (.bool b)
  | .int i => some (.int i)
  | .str s => some (.str s)
  | .tup xs => (toPys xs).map .tuple
  | .lst xs => (toPys xs).map .list
  | .bor xs => (toPys xs).map .list
  | .scr xs => (toPys xs).map .list
  | _ => none
def toPys : List D → Option (List PyData)
  | [] => some []
  | d :: ds => match toPy d, toPys ds with
    | some a, some r => some (a :: r)
    | _, _ => none
end
mutual
theorem toPy_dp {F H : Hp} (h : Same F H) : ∀ (d : D) (v : V) (e : PyData), Rep P F d v → toPy d = some e → Dp P.K H v e
  | .non, v, e, r, q => by simp only [Rep] at r; simp only [toPy] at q; cases q; subst r; exact .non
  | .bl b, v, e, r, q => by simp only [Rep] at r; simp only [toPy] at q; cases q; subst r; exact .bl b
  | .int i, v, e, r, q => by simp only [Rep] at r; simp only [toPy] at q; cases q; subst r; exact .int i
  | .str i, v, e, r, q => by simp only [Rep] at r; simp only [toPy] at q; cases q; subst r; exact .str i
  | .tup xs, v, e, r, q => by
    simp only [Rep] at r; simp only [toPy] at q
    obtain ⟨a, vs, rfl, hs, rs⟩ := r
    obtain ⟨es, e1, rfl⟩ := Option.map_eq_some_iff.mp q
    refine .tup ?_ (toPys_dp h xs vs es rs e1)
    rcases hs with (q | ⟨o, q⟩) | q
    · exact .inl (.inl (h _ _ q))
    · exact .inl (.inr ⟨o, h _ _ q⟩)
    · exact .inr q
  | .lst xs, v, e, r, q => by
    simp only [Rep] at r; simp only [toPy] at q
    obtain ⟨a, vs, rfl, hs, rs⟩ := r
    obtain ⟨es, e1, rfl⟩ := Option.map_eq_some_iff.mp q
    exact .lst (.of (h _ _ hs)) (toPys_dp h xs vs es rs e1)
  | .bor xs, v, e, r, q => by simp only [Rep] at r
  | .scr xs, v, e, r, q => by
    simp only [Rep] at r; simp only [toPy] at q
    obtain ⟨a, vs, rfl, hs, rs⟩ := r
    obtain ⟨es, e1, rfl⟩ := Option.map_eq_some_iff.mp q
    exact .lst (h.seq hs) (toPys_dp h xs vs es rs e1)
  | .dct _, v, e, r, q => by simp only [toPy] at q; cases q
  | .ins _ _, v, e, r, q => by simp only [toPy] at q; cases q
  | .state, v, e, r, q => by simp only [toPy] at q; cases q
  | .cls _, v, e, r, q => by simp only [toPy] at q; cases q
theorem toPys_dp {F H : Hp} (h : Same F H) : ∀ (ds : List D) (vs : List V) (es : List PyData), Reps P F ds vs → toPys ds = some es → DpAll P.K H vs es
  | [], vs, es, r, q => by simp only [Reps] at r; simp only [toPys] at q; cases q; subst r; exact .nil
  | d :: ds, vs, es, r, q => by
    obtain ⟨v, ws, rfl, r1, rs⟩ := r.uncons
    simp only [toPys] at q
    split at q
    · rename_i a r2 e1 e2
      cases q
      exact .cons (toPy_dp h d v a r1 e1) (toPys_dp h ds ws r2 rs e2)
    · cases q
end
theorem toPy_dpB {F B M H : Hp} (p : Pre F B M H) {d : D} {v : V} {e : PyData} (r : RepB P F B d v) (q : toPy d = some e) : Dp P.K H v e := by
  cases d
  case bor xs =>
    obtain ⟨a, vs, rfl, hs, rs⟩ := r
    simp only [toPy] at q
    obtain ⟨es, e1, rfl⟩ := Option.map_eq_some_iff.mp q
    exact .lst (.of (p.b _ _ hs)) (toPys_dp p.f xs vs es rs e1)
  all_goals exact toPy_dp p.f _ v e r q
/-- x == y of data -/
def dEqB (x y : D) : Option Bool :=
  match toPy x, toPy y with
  | some a, some b => if SeqAt.shaped a = true ∧ SeqAt.shaped b = true then some (PyData.eqv a b) else none
  | _, _ => none
def dEq (x y : D) : Option D := (dEqB x y).map .bl
def dNe (x y : D) : Option D := (dEqB x y).map fun b => .bl (!b)
theorem dEqB_some {x y : D} {b : Bool} (h : dEqB x y = some b) : ∃ a c, toPy x = some a ∧ toPy y = some c ∧ SeqAt.shaped a = true ∧ SeqAt.shaped c = true ∧ PyData.eqv a c = b := by
  unfold dEqB at h
  split at h
  · rename_i a c e1 e2
    obtain ⟨⟨h1, h2⟩, h3⟩ := if_some h
    exact ⟨a, c, e1, e2, h1, h2, h3⟩
  · cases h
theorem opd_eq : OpD P (rEqD P.K) dEq := by
  intro F B M H x y dx dy d p rx ry e Q q
  obtain ⟨b, e1, rfl⟩ := Option.map_eq_some_iff.mp e
  obtain ⟨a, c, h1, h2, h3, h4, rfl⟩ := dEqB_some e1
  exact ⟨a, c, toPy_dpB p rx h1, toPy_dpB p ry h2, h3, h4, q F H _ (.refl p) rfl⟩
theorem opd_ne : OpD P (rNeD P.K) dNe := by
  intro F B M H x y dx dy d p rx ry e Q q
  obtain ⟨b, e1, rfl⟩ := Option.map_eq_some_iff.mp e
  obtain ⟨a, c, h1, h2, h3, h4, rfl⟩ := dEqB_some e1
  exact ⟨a, c, toPy_dpB p rx h1, toPy_dpB p ry h2, h3, h4, q F H _ (.refl p) rfl⟩
def dLt : D → D → Option D := fun x y => ((oI fun i j => some (.bl (decide (i < j)))) x y).or ((oS fun i j => some (.bl (decide (i.cps.toList < j.cps.toList)))) x y)
def rLtA : R2 := fun x y H Q => rI0 (fun i j => .bl (decide (i < j))) x y H Q ∨ ∃ i j, x = .str i ∧ y = .str j ∧ Q (.bl (decide (i.cps.toList < j.cps.toList))) H
theorem op_ltA {X : Cx} : OpR X (compareOp .Lt) rLtA := OpR.or op_lt op_lt_str
theorem opd_lt : OpD P rLtA dLt := by
  refine OpD.or (opd_I0 fun _ _ _ _ => rfl) ?_
  intro F B M H x y dx dy d p rx ry e Q q
  obtain ⟨i, j, rfl, rfl, e1⟩ := oS_some e
  cases e1
  exact ⟨i, j, rx, ry, q F H _ (.refl p) rfl⟩
def dLe : D → D → Option D := oI fun i j => some (.bl (decide (i ≤ j)))
def dGt : D → D → Option D := oI fun i j => some (.bl (decide (j < i)))
def dGe : D → D → Option D := oI fun i j => some (.bl (decide (j ≤ i)))
theorem opd_le : OpD P (rI0 fun i j => .bl (decide (i ≤ j))) dLe := opd_I0 fun _ _ _ _ => rfl
theorem opd_gt : OpD P (rI0 fun i j => .bl (decide (j < i))) dGt := opd_I0 fun _ _ _ _ => rfl
theorem opd_ge : OpD P (rI0 fun i j => .bl (decide (j ≤ i))) dGe := opd_I0 fun _ _ _ _ => rfl
/-- x is None -/
def isNon : D → Bool
  | .non => true
  | _ => false
def dIsN : D → D → Option D := fun x y => if isNon y = true then some (.bl (isNon x)) else none
def dNotN : D → D → Option D := fun x y => if isNon y = true then some (.bl (!isNon x)) else none
theorem isNon_rep {F B : Hp} {d : D} {v : V} (r : RepB P F B d v) : decide (v = .non) = isNon d := by
  cases d
  case bor xs => obtain ⟨a, vs, rfl, _⟩ := r; rfl
  all_goals simp only [RepB, Rep] at r
  case tup xs => obtain ⟨a, vs, rfl, _⟩ := r; rfl
  case lst xs => obtain ⟨a, vs, rfl, _⟩ := r; rfl
  case scr xs => obtain ⟨a, vs, rfl, _⟩ := r; rfl
  case dct xs => obtain ⟨a, rfl, _⟩ := r; rfl
  case ins xs => obtain ⟨a, _, _, _, rfl, _⟩ := r; rfl
  case cls n => obtain ⟨a, rfl, _⟩ := r; rfl
  all_goals subst r; rfl
theorem isNon_val {F B : Hp} {d : D} {v : V} (r : RepB P F B d v) (h : isNon d = true) : v = .non := of_decide_eq_true ((isNon_rep r).trans h)
theorem opd_isN : OpD P (fun x y H Q => y = .non ∧ Q (.bl (decide (x = .non))) H) dIsN := by
  intro F B M H x y dx dy d p rx ry e Q q
  obtain ⟨h, rfl⟩ := if_some e
  refine ⟨isNon_val ry h, ?_⟩
  rw [isNon_rep rx]
  exact q F H _ (.refl p) rfl
theorem opd_notN : OpD P (fun x y H Q => y = .non ∧ Q (.bl (!decide (x = .non))) H) dNotN := by
  intro F B M H x y dx dy d p rx ry e Q q
  obtain ⟨h, rfl⟩ := if_some e
  refine ⟨isNon_val ry h, ?_⟩
  rw [isNon_rep rx]
  exact q F H _ (.refl p) rfl
/-! ### x in y -/
def dInB (x y : D) : Option Bool :=
  match y with
  | .str j => match x with
    | .str i => some (!(Builtin.Str.occurrences j i 0 j.length 1).isEmpty)
    | _ => none
  | .lst ys | .bor ys | .scr ys => match toPy x, toPys ys with
    | some a, some bs => if SeqAt.shaped a = true ∧ SeqAt.shaped (.list bs) = true then some (bs.any fun z => PyData.eqv z a) else none
    | _, _ => none
  | _ => none
/-- a flat value: what is compared without a look into it -/
def flatD : D → Option V
  | .non => some .non
  | .bl b => some (.bl b)
  | .int i => some (.int i)
  | .str s => some (.str s)
  | _ => none
def flatDs : List D → Option (List V)
  | [] => some []
  | d :: ds => match flatD d, flatDs ds with
    | some v, some vs => some (v :: vs)
    | _, _ => none
theorem flatD_rep {F : Hp} {d : D} {v w : V} (r : Rep P F d v) (h : flatD d = some w) : v = w ∧ flatV w = true := by
  cases d <;> simp only [flatD] at h <;> cases h <;> simp only [Rep] at r <;> exact ⟨r, rfl⟩
theorem flatDs_rep {F : Hp} : ∀ {ds : List D} {vs ws : List V}, Reps P F ds vs → flatDs ds = some ws → vs = ws ∧ ws.all flatV = true
  | [], vs, ws, r, h => by simp only [Reps] at r; simp only [flatDs] at h; cases h; exact ⟨r, rfl⟩
  | d :: ds, vs, ws, r, h => by
    obtain ⟨v, us, rfl, r1, rs⟩ := r.uncons
    simp only [flatDs] at h
    split at h
    · rename_i w ws' e1 e2
      cases h
      obtain ⟨rfl, f1⟩ := flatD_rep r1 e1
      obtain ⟨rfl, f2⟩ := flatDs_rep rs e2
      exact ⟨rfl, by simp only [List.all_cons, f1, f2, Bool.and_self]⟩
    · cases h
end
end PD

namespace PD
open PySem PySem.Spec PyProof.Rows L2
/-! ### the kit's rules, joined -/
section
variable {X : Cx}
theorem PE.or {e : Expr} {t u : TE} (h : PE X e t) (h' : PE X e u) : PE X e (fun σ H Q => t σ H Q ∨ u σ H Q) :=
  ⟨fun pins s σ H Q I q => by
    rcases q with q | q
    · exact h.run pins s σ H Q I q
    · exact h'.run pins s σ H Q I q⟩
theorem PT.or {e : Expr} {t u : TT} (h : PT X e t) (h' : PT X e u) : PT X e (fun σ H Q => t σ H Q ∨ u σ H Q) :=
  ⟨fun pins s σ H Q I q => by
    rcases q with q | q
    · exact h.run pins s σ H Q I q
    · exact h'.run pins s σ H Q I q⟩
theorem PI.or {tg e : Expr} {t u : TI} (h : PI X tg e t) (h' : PI X tg e u) : PI X tg e (fun σ H Q => t σ H Q ∨ u σ H Q) :=
  ⟨fun pins s σ H Q I q => by
    rcases q with q | q
    · exact h.run pins s σ H Q I q
    · exact h'.run pins s σ H Q I q⟩
theorem CallR.or {f : Value} {r r' : List V → Hp → VK → Prop} (h : CallR X f r) (h' : CallR X f r') : CallR X f (fun xs H Q => r xs H Q ∨ r' xs H Q) := by
  intro pins s σ H xs us Q I rx q
  rcases q with q | q
  · exact h pins s σ H xs us Q I rx q
  · exact h' pins s σ H xs us Q I rx q
def rInT (K : PySem.W.Frag) : R2 := fun x y H Q => ∃ d ds, Dp K H x d ∧ Dp K H y (.tuple ds) ∧ SeqAt.shaped d = true ∧ SeqAt.shaped (.list ds) = true ∧ Q (.bl (ds.any fun z => PyData.eqv z d)) H
def rNotInT (K : PySem.W.Frag) : R2 := fun x y H Q => ∃ d ds, Dp K H x d ∧ Dp K H y (.tuple ds) ∧ SeqAt.shaped d = true ∧ SeqAt.shaped (.list ds) = true ∧ Q (.bl (!ds.any fun z => PyData.eqv z d)) H
theorem op_inT (hu : X.A.units + 65 < cLine) : OpR X (compareOp .In) (rInT X.K) := by
  intro pins s σ H x y v u Q I rx ry h
  obtain ⟨d, ds, hd, he, sd, se, q⟩ := h
  obtain ⟨as, r1⟩ := Dp.reads I d x v hd rx
  obtain ⟨bs, r2⟩ := Dp.reads I (.tuple ds) y u he ry
  exact SeqAt.in_tuple_reads r2 r1 (SeqAt.canLay_of_shaped se) (SeqAt.canLay_of_shaped sd) (room_in_shaped sd hu) ⟨.bl _, H, I, rfl, q⟩
theorem op_notInT (hu : X.A.units + 65 < cLine) : OpR X (compareOp .NotIn) (rNotInT X.K) := by
  intro pins s σ H x y v u Q I rx ry h
  obtain ⟨d, ds, hd, he, sd, se, q⟩ := h
  obtain ⟨as, r1⟩ := Dp.reads I d x v hd rx
  obtain ⟨bs, r2⟩ := Dp.reads I (.tuple ds) y u he ry
  exact SeqAt.notIn_tuple_reads r2 r1 (SeqAt.canLay_of_shaped se) (SeqAt.canLay_of_shaped sd) (room_in_shaped sd hu) ⟨.bl _, H, I, rfl, q⟩
def rInA (K : PySem.W.Frag) : R2 := fun x y H Q => (∃ i j, x = .str i ∧ y = .str j ∧ Q (.bl (!(Builtin.Str.occurrences j i 0 j.length 1).isEmpty)) H) ∨ (rInD K x y H Q ∨ rInT K x y H Q)
def rNotInA (K : PySem.W.Frag) : R2 := fun x y H Q => (∃ i j, x = .str i ∧ y = .str j ∧ Q (.bl (!(!(Builtin.Str.occurrences j i 0 j.length 1).isEmpty))) H) ∨ (rNotInD K x y H Q ∨ rNotInT K x y H Q)
theorem op_inA (hu : X.A.units + 65 < cLine) : OpR X (compareOp .In) (rInA X.K) := OpR.or op_in_str (OpR.or (op_inD hu) (op_inT hu))
theorem op_notInA (hu : X.A.units + 65 < cLine) : OpR X (compareOp .NotIn) (rNotInA X.K) := OpR.or op_notin_str (OpR.or (op_notInD hu) (op_notInT hu))
end

section
variable {τ : Type} {P : Pm} {R : τ → Hp → Prop} {W : WX}
/-! ### in -/
def memD (x : D) (ys : List D) : Option Bool :=
  match toPy x, toPys ys with
  | some a, some bs => if SeqAt.shaped a = true ∧ SeqAt.shaped (.list bs) = true then some (bs.any fun z => PyData.eqv z a) else none
  | _, _ => none
def inD (x y : D) : Option Bool :=
  match y with
  | .str j => match x with
    | .str i => some (!(Builtin.Str.occurrences j i 0 j.length 1).isEmpty)
    | _ => none
  | _ => (items y).bind (memD x)
theorem memD_some {x : D} {ys : List D} {b : Bool} (h : memD x ys = some b) : ∃ a bs, toPy x = some a ∧ toPys ys = some bs ∧ SeqAt.shaped a = true ∧ SeqAt.shaped (.list bs) = true ∧ (bs.any fun z => PyData.eqv z a) = b := by
  unfold memD at h
  split at h
  · rename_i a bs e1 e2
    obtain ⟨⟨h1, h2⟩, h3⟩ := if_some h
    exact ⟨a, bs, e1, e2, h1, h2, h3⟩
  · cases h
theorem inD_some {F B M H : Hp} {dx dy : D} {x y : V} {b : Bool} (p : Pre F B M H) (rx : RepB P F B dx x) (ry : RepB P F B dy y) (h : inD dx dy = some b) :
    (∃ i j, x = .str i ∧ y = .str j ∧ (!(Builtin.Str.occurrences j i 0 j.length 1).isEmpty) = b) ∨
    (∃ d ds, Dp P.K H x d ∧ Dp P.K H y (.list ds) ∧ SeqAt.shaped d = true ∧ SeqAt.shaped (.list ds) = true ∧ (ds.any fun z => PyData.eqv z d) = b) ∨
    (∃ d ds, Dp P.K H x d ∧ Dp P.K H y (.tuple ds) ∧ SeqAt.shaped d = true ∧ SeqAt.shaped (.list ds) = true ∧ (ds.any fun z => PyData.eqv z d) = b) := by
  cases dy <;> try (simp only [inD, items, Option.bind_none] at h; cases h)
  case str j =>
    simp only [inD] at h
    split at h
    · cases h; exact .inl ⟨_, j, rx, ry, rfl⟩
    · cases h
  case tup ys =>
    simp only [inD, items, Option.bind_some] at h
    obtain ⟨a, bs, h1, h2, h3, h4, h5⟩ := memD_some h
    have := toPy_dpB (e := .tuple bs) p ry (by simp only [toPy, h2, Option.map_some])
    exact .inr (.inr ⟨a, bs, toPy_dpB p rx h1, this, h3, h4, h5⟩)
  all_goals
    rename_i ys
    simp only [inD, items, Option.bind_some] at h
    obtain ⟨a, bs, h1, h2, h3, h4, h5⟩ := memD_some h
    have := toPy_dpB (e := .list bs) p ry (by simp only [toPy, h2, Option.map_some])
    exact .inr (.inl ⟨a, bs, toPy_dpB p rx h1, this, h3, h4, h5⟩)
def dIn (x y : D) : Option D := (inD x y).map .bl
def dNotIn (x y : D) : Option D := (inD x y).map fun b => .bl (!b)
theorem opd_in : OpD P (rInA P.K) dIn := by
  intro F B M H x y dx dy d p rx ry e Q q
  obtain ⟨b, e1, rfl⟩ := Option.map_eq_some_iff.mp e
  have q' := q F H _ (.refl p) rfl
  rcases inD_some p rx ry e1 with ⟨i, j, rfl, rfl, rfl⟩ | ⟨a, bs, h1, h2, h3, h4, rfl⟩ | ⟨a, bs, h1, h2, h3, h4, rfl⟩
  · exact .inl ⟨i, j, rfl, rfl, q'⟩
  · exact .inr (.inl ⟨a, bs, h1, h2, h3, h4, q'⟩)
  · exact .inr (.inr ⟨a, bs, h1, h2, h3, h4, q'⟩)
theorem opd_notIn : OpD P (rNotInA P.K) dNotIn := by
  intro F B M H x y dx dy d p rx ry e Q q
  obtain ⟨b, e1, rfl⟩ := Option.map_eq_some_iff.mp e
  have q' := q F H _ (.refl p) rfl
  rcases inD_some p rx ry e1 with ⟨i, j, rfl, rfl, rfl⟩ | ⟨a, bs, h1, h2, h3, h4, rfl⟩ | ⟨a, bs, h1, h2, h3, h4, rfl⟩
  · exact .inl ⟨i, j, rfl, rfl, q'⟩
  · exact .inr (.inl ⟨a, bs, h1, h2, h3, h4, q'⟩)
  · exact .inr (.inr ⟨a, bs, h1, h2, h3, h4, q'⟩)

theorem Sat.tt {α : Type} {a b : Res τ α} {ok : α → τ → Prop} {er : Exn → τ → Prop} (h : Sat (if true = true then a else b) ok er) : Sat a ok er := by
  rwa [if_pos rfl] at h
theorem Sat.ff {α : Type} {a b : Res τ α} {ok : α → τ → Prop} {er : Exn → τ → Prop} (h : Sat (if false = true then a else b) ok er) : Sat b ok er := by
  rwa [if_neg Bool.false_ne_true] at h
/-! ### one operand -/
def gUn (op : D → Option D) (a : GE τ) : GE τ := fun ρ st => (a ρ st).bind fun x st => .of (op x) st
def UnD (P : Pm) (r : V → Hp → VK → Prop) (op : D → Option D) : Prop := ∀ F B M H x dx d, Pre F B M H → RepB P F B dx x → op dx = some d →
  ∀ Q : VK, (∀ F' H' v, Ext F M H F' M H' → RepB P F' B d v → Q v H') → r x H Q
theorem ev_un {r : V → Hp → VK → Prop} {op : D → Option D} {ta : TE} {ga : GE τ} (ho : UnD P r op) (ha : EvD P R W ta ga) : EvD P R W (tUn r ta) (gUn op ga) := by
  intro F B M H σ ρ st w Q h
  refine ha F B M H σ ρ st w _ (h.bind.mono (fun x st1 h1 F1 M1 H1 v1 E1 R1 r1 => ?_) fun _ _ z => z)
  obtain ⟨d, e, q⟩ := Sat.of h1
  exact ho F1 B M1 H1 v1 x d (w.pre.ext E1) r1 e Q fun F' H' v E r => q F' M1 H' v (E1.trans E) R1 r
def dNeg : D → Option D
  | .int i => some (.int (-i))
  | _ => none
theorem und_neg : UnD P (rU fun i => .int (-i)) dNeg := by
  intro F B M H x dx d p rx e Q q
  cases dx <;> cases e
  exact ⟨_, rx, q F H _ (.refl p) rfl⟩

/-! ### tests -/
def blOf : D → Option Bool
  | .bl b => some b
  | _ => none
def gB (g : GE τ) : GT τ := fun ρ st => (g ρ st).bind fun d st => .of (blOf d) st
theorem blOf_some {d : D} {b : Bool} (h : blOf d = some b) : d = .bl b := by cases d <;> cases h; rfl
theorem evt_B {te : TE} {g : GE τ} (h : EvD P R W te g) : EvT P R W (tB te) (gB g) := by
  intro F B M H σ ρ st w Q hs
  refine h F B M H σ ρ st w _ (hs.bind.mono (fun d st1 h1 F1 M1 H1 v1 E1 R1 r1 => ?_) fun _ _ z => z)
  obtain ⟨b, e, q⟩ := Sat.of h1
  have := blOf_some e
  subst this
  exact ⟨b, r1, q F1 M1 H1 E1 R1⟩
theorem evt_test {te : TE} {g : GE τ} (h : EvD P R W te g) : EvT P R W (tTest te) (gB g) := evt_B h
def gNot (t : GT τ) : GT τ := fun ρ st => (t ρ st).bind fun b st => .ok (!b) st
theorem evt_not {t : TT} {g : GT τ} (h : EvT P R W t g) : EvT P R W (tNot t) (gNot g) := by
  intro F B M H σ ρ st w Q hs
  exact h F B M H σ ρ st w _ (hs.bind.mono (fun b st1 h1 F1 M1 H1 E1 R1 => h1 F1 M1 H1 E1 R1) fun _ _ z => z)
def gAnd (t u : GT τ) : GT τ := fun ρ st => (t ρ st).bind fun b st => if b = true then u ρ st else .ok false st
def gOr (t u : GT τ) : GT τ := fun ρ st => (t ρ st).bind fun b st => if b = true then .ok true st else u ρ st
theorem evt_and {t u : TT} {g k : GT τ} (h : EvT P R W t g) (h' : EvT P R W u k) : EvT P R W (tAnd t u) (gAnd g k) := by
  intro F B M H σ ρ st w Q hs
  refine h F B M H σ ρ st w _ (hs.bind.mono (fun b st1 h1 F1 M1 H1 E1 R1 => ?_) fun _ _ z => z)
  cases b with
  | true => exact iteT (h' F1 B M1 H1 σ ρ st1 (w.ext E1 R1) _ (Sat.mono (Sat.tt h1) (fun b2 st2 h2 F2 M2 H2 E2 R2 => h2 F2 M2 H2 (E1.trans E2) R2) fun _ _ z => KX.ext P R z E1))
  | false => exact iteF ((Sat.ff h1) F1 M1 H1 E1 R1)
theorem evt_or {t u : TT} {g k : GT τ} (h : EvT P R W t g) (h' : EvT P R W u k) : EvT P R W (tOr t u) (gOr g k) := by
  intro F B M H σ ρ st w Q hs
  refine h F B M H σ ρ st w _ (hs.bind.mono (fun b st1 h1 F1 M1 H1 E1 R1 => ?_) fun _ _ z => z)
  cases b with
  | false => exact iteF (h' F1 B M1 H1 σ ρ st1 (w.ext E1 R1) _ (Sat.mono (Sat.ff h1) (fun b2 st2 h2 F2 M2 H2 E2 R2 => h2 F2 M2 H2 (E1.trans E2) R2) fun _ _ z => KX.ext P R z E1))
  | true => exact iteT ((Sat.tt h1) F1 M1 H1 E1 R1)
/-- and, or, not as values of truths -/
def gAndV (a b : GE τ) : GE τ := fun ρ st => (a ρ st).bind fun d st => (Res.of (blOf d) st).bind fun c st => if c = true then b ρ st else .ok (.bl false) st
def gOrV (a b : GE τ) : GE τ := fun ρ st => (a ρ st).bind fun d st => (Res.of (blOf d) st).bind fun c st => if c = true then .ok (.bl true) st else b ρ st
def dNot : D → Option D
  | .bl b => some (.bl (!b))
  | _ => none
theorem ev_andV {ta tb : TE} {ga gb : GE τ} (ha : EvD P R W ta ga) (hb : EvD P R W tb gb) : EvD P R W (tAndV ta tb) (gAndV ga gb) := by
  intro F B M H σ ρ st w Q hs
  refine ha F B M H σ ρ st w _ (hs.bind.mono (fun d st1 h1 F1 M1 H1 v1 E1 R1 r1 => ?_) fun _ _ z => z)
  obtain ⟨c, e, q⟩ := Sat.of h1.bind
  have := blOf_some e
  subst this
  refine ⟨c, r1, ?_⟩
  cases c with
  | true => exact iteT (hb F1 B M1 H1 σ ρ st1 (w.ext E1 R1) _ (Sat.mono (Sat.tt q) (fun d2 st2 h2 F2 M2 H2 v2 E2 R2 r2 => h2 F2 M2 H2 v2 (E1.trans E2) R2 r2) fun _ _ z => KX.ext P R z E1))
  | false => exact iteF ((Sat.ff q) F1 M1 H1 _ E1 R1 rfl)
theorem ev_orV {ta tb : TE} {ga gb : GE τ} (ha : EvD P R W ta ga) (hb : EvD P R W tb gb) : EvD P R W (tOrV ta tb) (gOrV ga gb) := by
  intro F B M H σ ρ st w Q hs
  refine ha F B M H σ ρ st w _ (hs.bind.mono (fun d st1 h1 F1 M1 H1 v1 E1 R1 r1 => ?_) fun _ _ z => z)
  obtain ⟨c, e, q⟩ := Sat.of h1.bind
  have := blOf_some e
  subst this
  refine ⟨c, r1, ?_⟩
  cases c with
  | false => exact iteF (hb F1 B M1 H1 σ ρ st1 (w.ext E1 R1) _ (Sat.mono (Sat.ff q) (fun d2 st2 h2 F2 M2 H2 v2 E2 R2 r2 => h2 F2 M2 H2 v2 (E1.trans E2) R2 r2) fun _ _ z => KX.ext P R z E1))
  | true => exact iteT ((Sat.tt q) F1 M1 H1 _ E1 R1 rfl)
theorem ev_notV {ta : TE} {ga : GE τ} (ha : EvD P R W ta ga) : EvD P R W (tNotV ta) (gUn dNot ga) := by
  intro F B M H σ ρ st w Q hs
  refine ha F B M H σ ρ st w _ (hs.bind.mono (fun d st1 h1 F1 M1 H1 v1 E1 R1 r1 => ?_) fun _ _ z => z)
  obtain ⟨c, e, q⟩ := Sat.of h1
  cases d <;> cases e
  exact ⟨_, r1, q F1 M1 H1 _ E1 R1 rfl⟩
def gIf (t : GT τ) (a b : GE τ) : GE τ := fun ρ st => (t ρ st).bind fun c st => if c = true then a ρ st else b ρ st
theorem ev_if {t : TT} {ta tb : TE} {g : GT τ} {ga gb : GE τ} (h : EvT P R W t g) (ha : EvD P R W ta ga) (hb : EvD P R W tb gb) : EvD P R W (tIf t ta tb) (gIf g ga gb) := by
  intro F B M H σ ρ st w Q hs
  refine h F B M H σ ρ st w _ (hs.bind.mono (fun b st1 h1 F1 M1 H1 E1 R1 => ?_) fun _ _ z => z)
  cases b with
  | true => exact iteT (ha F1 B M1 H1 σ ρ st1 (w.ext E1 R1) _ (Sat.mono (Sat.tt h1) (fun d2 st2 h2 F2 M2 H2 v2 E2 R2 r2 => h2 F2 M2 H2 v2 (E1.trans E2) R2 r2) fun _ _ z => KX.ext P R z E1))
  | false => exact iteF (hb F1 B M1 H1 σ ρ st1 (w.ext E1 R1) _ (Sat.mono (Sat.ff h1) (fun d2 st2 h2 F2 M2 H2 v2 E2 R2 r2 => h2 F2 M2 H2 v2 (E1.trans E2) R2 r2) fun _ _ z => KX.ext P R z E1))
/-- a op b op' c -/
def gChain (op op' : D → D → Option D) (a b c : GE τ) : GE τ := fun ρ st => (a ρ st).bind fun x st => (b ρ st).bind fun y st => (Res.of ((op x y).bind blOf) st).bind fun k st =>
  if k = true then (c ρ st).bind fun z st => .of (op' y z) st else .ok (.bl false) st

/-! ### arguments, displays -/
def gNil : GA τ := fun _ st => .ok [] st
def gCons (a : GE τ) (r : GA τ) : GA τ := fun ρ st => (a ρ st).bind fun d st => (r ρ st).bind fun ds st => .ok (d :: ds) st
theorem eva_nil : EvA P R W tNil gNil := fun F B M H σ ρ st w Q q => q F M H [] (.refl w.pre) w.r rfl
theorem eva_cons {te : TE} {t : TA} {g : GE τ} {r : GA τ} (h : EvD P R W te g) (hr : EvA P R W t r) : EvA P R W (tCons te t) (gCons g r) := by
  intro F B M H σ ρ st w Q hs
  refine h F B M H σ ρ st w _ (hs.bind.mono (fun d st1 h1 F1 M1 H1 v1 E1 R1 r1 => ?_) fun _ _ z => z)
  refine hr F1 B M1 H1 σ ρ st1 (w.ext E1 R1) _ (h1.bind.mono (fun ds st2 h2 F2 M2 H2 vs E2 R2 rs => ?_) fun _ _ z => KX.ext P R z E1)
  exact h2 F2 M2 H2 (v1 :: vs) (E1.trans E2) R2 ⟨v1, vs, rfl, r1.mono E2.ff, rs⟩
theorem RepBs.reps {F B : Hp} : ∀ {ds : List D} {vs : List V}, RepBs P F B ds vs → ds.all borFree = true → Reps P F ds vs
  | [], vs, r, _ => by simp only [Reps]; exact r
  | d :: ds, vs, ⟨v, ws, e, r, rs⟩, h => by
    obtain ⟨h1, h2⟩ := Bool.and_eq_true_iff.mp (by simpa only [List.all_cons] using h)
    subst e
    exact .cons (r.rep h1) (rs.reps h2)
theorem RepBs.length {F B : Hp} : ∀ {ds : List D} {vs : List V}, RepBs P F B ds vs → ds.length = vs.length
  | [], vs, r => by subst r; rfl
  | d :: ds, vs, ⟨v, ws, e, r, rs⟩ => by subst e; simp only [List.length_cons, rs.length]
/-- what may stand in a list, a tuple, a field -/
def freeL (ds : List D) : Bool := ds.all borFree && decide (ds.length ≤ line)
def gTup (a : GA τ) : GE τ := fun ρ st => (a ρ st).bind fun ds st => if freeL ds = true then .ok (.tup ds) st else .stuck
def gLst (a : GA τ) : GE τ := fun ρ st => (a ρ st).bind fun ds st => if freeL ds = true then .ok (.lst ds) st else .stuck
theorem Sat.ite {α : Type} {c : Prop} [Decidable c] {r : Res τ α} {ok : α → τ → Prop} {er : Exn → τ → Prop} (h : Sat (if c then r else .stuck) ok er) : c ∧ Sat r ok er := by
  by_cases hc : c
  · rw [if_pos hc] at h; exact ⟨hc, h⟩
  · rw [if_neg hc] at h; exact h.elim
theorem ev_tup {ta : TA} {ga : GA τ} (ha : EvA P R W ta ga) : EvD P R W (tTup ta) (gTup ga) := by
  intro F B M H σ ρ st w Q hs
  refine ha F B M H σ ρ st w _ (hs.bind.mono (fun ds st1 h1 F1 M1 H1 vs E1 R1 rs => ?_) fun _ _ z => z)
  obtain ⟨hf, q⟩ := Sat.ite h1
  obtain ⟨h1, h2⟩ := Bool.and_eq_true_iff.mp hf
  refine ⟨by rw [line_eq, ← rs.length]; exact of_decide_eq_true h2, new_tup (w.pre.ext E1) (rs.reps h1) fun F' H' v E r => q F' M1 H' v (E1.trans E) R1 r.b⟩
theorem ev_lst {ta : TA} {ga : GA τ} (ha : EvA P R W ta ga) : EvD P R W (tLst ta) (gLst ga) := by
  intro F B M H σ ρ st w Q hs
  refine ha F B M H σ ρ st w _ (hs.bind.mono (fun ds st1 h1 F1 M1 H1 vs E1 R1 rs => ?_) fun _ _ z => z)
  obtain ⟨hf, q⟩ := Sat.ite h1
  obtain ⟨h1, h2⟩ := Bool.and_eq_true_iff.mp hf
  refine ⟨by rw [line_eq, ← rs.length]; exact of_decide_eq_true h2, new_lst (w.pre.ext E1) (rs.reps h1) fun F' H' v E r => q F' M1 H' v (E1.trans E) R1 r.b⟩

/-! ### built-in functions -/
def CallD (P : Pm) (r : List V → Hp → VK → Prop) (op : List D → Option D) : Prop := ∀ F B M H xs ds d, Pre F B M H → RepBs P F B ds xs → op ds = some d →
  ∀ Q : VK, (∀ F' H' v, Ext F M H F' M H' → RepB P F' B d v → Q v H') → r xs H Q
def gCB (op : List D → Option D) (a : GA τ) : GE τ := fun ρ st => (a ρ st).bind fun ds st => .of (op ds) st
theorem ev_cb {r : List V → Hp → VK → Prop} {op : List D → Option D} {ta : TA} {ga : GA τ} (ho : CallD P r op) (ha : EvA P R W ta ga) : EvD P R W (tCB r ta) (gCB op ga) := by
  intro F B M H σ ρ st w Q h
  refine ha F B M H σ ρ st w _ (h.bind.mono (fun x st1 h1 F1 M1 H1 v1 E1 R1 r1 => ?_) fun _ _ z => z)
  obtain ⟨d, e, q⟩ := Sat.of h1
  exact ho F1 B M1 H1 v1 x d (w.pre.ext E1) r1 e Q fun F' H' v E r => q F' M1 H' v (E1.trans E) R1 r
theorem CallD.or {r r' : List V → Hp → VK → Prop} {op op' : List D → Option D} (h : CallD P r op) (h' : CallD P r' op') : CallD P (fun xs H Q => r xs H Q ∨ r' xs H Q) (fun ds => (op ds).or (op' ds)) := by
  intro F B M H xs ds d p rx e Q q
  have e : (op ds).or (op' ds) = some d := e
  cases e1 : op ds with
  | some d1 => rw [e1] at e; exact .inl (h F B M H xs ds d p rx (e1.trans e) Q q)
  | none => rw [e1] at e; exact .inr (h' F B M H xs ds d p rx e Q q)
/-- of one value -/
def o1 (f : D → Option D) : List D → Option D
  | [d] => f d
  | _ => none
theorem o1_some {f : D → Option D} {ds : List D} {d : D} (h : o1 f ds = some d) : ∃ x, ds = [x] ∧ f x = some d := by
  match ds, h with
  | [x], h => exact ⟨x, rfl, h⟩
theorem RepBs.one {F B : Hp} {d : D} {xs : List V} (r : RepBs P F B [d] xs) : ∃ v, xs = [v] ∧ RepB P F B d v := by
  obtain ⟨v, ws, e, r, rs⟩ := r
  have : ws = [] := rs
  subst this
  exact ⟨v, e, r⟩
theorem CallD.one {r : List V → Hp → VK → Prop} {f : D → Option D} (h : ∀ F B M H v x d, Pre F B M H → RepB P F B x v → f x = some d → ∀ Q : VK, (∀ F' H' v, Ext F M H F' M H' → RepB P F' B d v → Q v H') → r [v] H Q) : CallD P r (o1 f) := by
  intro F B M H xs ds d p rx e Q q
  obtain ⟨x, rfl, e'⟩ := o1_some e
  obtain ⟨v, rfl, r⟩ := rx.one
  exact h F B M H v x d p r e' Q q
def lenD (d : D) : Option D :=
  match d with
  | .str s => if s.length ≤ line then some (.int s.length) else none
  | _ => (items d).map fun ds => .int ds.length
theorem calld_len : CallD P (fun xs H Q => (∃ p ys, xs = [.ref p] ∧ (SqL P.K H p ys ∨ SqT P.K H p ys) ∧ Q (.int ys.length) H) ∨ (∃ z, xs = [.str z] ∧ z.length ≤ sizeLine ∧ Q (.int z.length) H)) (o1 lenD) := by
  refine CallD.one fun F B M H v x d p r e Q q => ?_
  unfold lenD at e
  split at e
  · rename_i s
    obtain ⟨h1, h2⟩ := if_some e
    subst h2
    have : v = .str s := r
    subst this
    exact .inr ⟨s, rfl, by rw [line_eq]; exact h1, q F H _ (.refl p) rfl⟩
  · obtain ⟨ds, e1, rfl⟩ := Option.map_eq_some_iff.mp e
    obtain ⟨a, vs, rfl, hs, rs⟩ := r.seq p e1
    exact .inl ⟨a, vs, rfl, hs, by rw [← rs.length]; exact q F H _ (.refl p) rfl⟩
theorem call_lenA {X : Cx} : CallR X (.builtin "len") (fun xs H Q => (∃ p ys, xs = [.ref p] ∧ (SqL X.K H p ys ∨ SqT X.K H p ys) ∧ Q (.int ys.length) H) ∨ (∃ z, xs = [.str z] ∧ z.length ≤ sizeLine ∧ Q (.int z.length) H)) :=
  CallR.or call_len_seq call_len_str
def absD : D → Option D
  | .int i => some (.int (if i < 0 then -i else i))
  | _ => none
theorem calld_abs : CallD P (fun xs H Q => ∃ i, xs = [.int i] ∧ Q (.int (if i < 0 then -i else i)) H) (o1 absD) := by
  refine CallD.one fun F B M H v x d p r e Q q => ?_
  cases x <;> cases e
  have : v = .int _ := r
  subst this
  exact ⟨_, rfl, q F H _ (.refl p) rfl⟩
/-- int(x) of an int, a truth, a text -/
def intD : D → Option D
  | .int i => some (.int i)
  | .bl b => some (.int (if b then 1 else 0))
  | .str a => if a.length ≤ 640 then (PySem.intText? a).map .int else none
  | _ => none
def rInt : List V → Hp → VK → Prop := fun xs H Q => ((∃ i, xs = [.int i] ∧ Q (.int i) H) ∨ ∃ k, xs = [.bl k] ∧ Q (.int (if k then 1 else 0)) H) ∨ (∃ a n, xs = [.str a] ∧ PySem.intText? a = some n ∧ a.length ≤ 640 ∧ Q (.int n) H)
theorem call_intA {X : Cx} : CallR X (.type "int") rInt := CallR.or call_int1 call_int_str
theorem calld_int : CallD P rInt (o1 intD) := by
  refine CallD.one fun F B M H v x d p r e Q q => ?_
  cases x <;> simp only [intD] at e
  case int i => cases e; have : v = .int i := r; subst this; exact .inl (.inl ⟨i, rfl, q F H _ (.refl p) rfl⟩)
  case bl b => cases e; have : v = .bl b := r; subst this; exact .inl (.inr ⟨b, rfl, q F H _ (.refl p) rfl⟩)
  case str a =>
    have : v = .str a := r
    subst this
    by_cases hl : a.length ≤ 640
    · rw [if_pos hl] at e
      obtain ⟨n, e1, rfl⟩ := Option.map_eq_some_iff.mp e
      exact .inr ⟨a, n, rfl, e1, hl, q F H _ (.refl p) rfl⟩
    · rw [if_neg hl] at e; cases e
  all_goals cases e
/-- list(x), tuple(x) of lists and tuples -/
def listD (d : D) : Option D := (items d).map .lst
theorem calld_list : CallD P (fun xs H Q => ∃ p ys, xs = [.ref p] ∧ (SqL P.K H p ys ∨ SqT P.K H p ys) ∧ ∀ l, H l = none → Q (.ref l) (upd H l (.lst ys))) (o1 listD) := by
  refine CallD.one fun F B M H v x d p r e Q q => ?_
  obtain ⟨ds, e1, rfl⟩ := Option.map_eq_some_iff.mp e
  obtain ⟨a, vs, rfl, hs, rs⟩ := r.seq p e1
  exact ⟨a, vs, rfl, hs, new_lst p rs fun F' H' v E r => q F' H' v E r.b⟩
def tupleD (d : D) : Option D := (items d).map .tup
theorem calld_tuple : CallD P (fun xs H Q => ∃ p ys, xs = [.ref p] ∧ ((SqL P.K H p ys ∧ ∀ l, H l = none → Q (.ref l) (upd H l (.tup ys))) ∨ (SqT P.K H p ys ∧ Q (.ref p) H))) (o1 tupleD) := by
  refine CallD.one fun F B M H v x d p r e Q q => ?_
  obtain ⟨ds, e1, rfl⟩ := Option.map_eq_some_iff.mp e
  have r0 := r
  cases x <;> try cases e1
  case tup =>
    obtain ⟨a', vs', e2, hs', rs'⟩ := r0.tupl p
    subst e2
    exact ⟨a', vs', rfl, .inr ⟨hs', q F H _ (.refl p) r0⟩⟩
  case lst => obtain ⟨a', vs', e2, q2, rs'⟩ := (by simpa only [RepB, Rep] using r0); exact ⟨a', vs', by rw [e2], .inl ⟨.of (p.f _ _ q2), new_tup p rs' fun F' H' v E r => q F' H' v E r.b⟩⟩
  case bor => obtain ⟨a', vs', e2, q2, rs'⟩ := r0; exact ⟨a', vs', by rw [e2], .inl ⟨.of (p.b _ _ q2), new_tup p rs' fun F' H' v E r => q F' H' v E r.b⟩⟩
  case scr => obtain ⟨a', vs', e2, q2, rs'⟩ := (by simpa only [RepB, Rep] using r0); exact ⟨a', vs', by rw [e2], .inl ⟨p.f.seq q2, new_tup p rs' fun F' H' v E r => q F' H' v E r.b⟩⟩
/-- all, any of a list of truths -/
def blsOf : List D → Option (List Bool)
  | [] => some []
  | d :: ds => match blOf d, blsOf ds with
    | some b, some bs => some (b :: bs)
    | _, _ => none
theorem blsOf_rep {F : Hp} : ∀ {ds : List D} {vs : List V} {bs : List Bool}, Reps P F ds vs → blsOf ds = some bs → vs = bs.map V.bl
  | [], vs, bs, r, h => by simp only [Reps] at r; simp only [blsOf] at h; cases h; exact r
  | d :: ds, vs, bs, r, h => by
    obtain ⟨v, us, rfl, r1, rs⟩ := r.uncons
    simp only [blsOf] at h
    split at h
    · rename_i b bs' e1 e2
      cases h
      have := blOf_some e1
      subst this
      simp only [Rep] at r1
      rw [r1, blsOf_rep rs e2]; rfl
    · cases h
def anyD (d : D) : Option D := ((litems d).bind blsOf).map fun bs => .bl (bs.any id)
def allD (d : D) : Option D := ((litems d).bind blsOf).map fun bs => .bl (bs.all id)
theorem calld_any : CallD P (rAny P.K) (o1 anyD) := by
  refine CallD.one fun F B M H v x d p r e Q q => ?_
  obtain ⟨bs, e1, rfl⟩ := Option.map_eq_some_iff.mp e
  obtain ⟨l, e2, e3⟩ := Option.bind_eq_some_iff.mp e1
  obtain ⟨a, vs, rfl, hs, rs⟩ := r.list p e2
  exact ⟨a, bs, rfl, .of (by rw [← blsOf_rep rs e3]; exact hs), q F H _ (.refl p) rfl⟩
theorem calld_all : CallD P (rAll P.K) (o1 allD) := by
  refine CallD.one fun F B M H v x d p r e Q q => ?_
  obtain ⟨bs, e1, rfl⟩ := Option.map_eq_some_iff.mp e
  obtain ⟨l, e2, e3⟩ := Option.bind_eq_some_iff.mp e1
  obtain ⟨a, vs, rfl, hs, rs⟩ := r.list p e2
  exact ⟨a, bs, rfl, .of (by rw [← blsOf_rep rs e3]; exact hs), q F H _ (.refl p) rfl⟩
/-- sep.join(texts) -/
def strsOf : List D → Option (List Str)
  | [] => some []
  | d :: ds => match d, strsOf ds with
    | .str b, some bs => some (b :: bs)
    | _, _ => none
theorem strsOf_rep {F : Hp} : ∀ {ds : List D} {vs : List V} {bs : List Str}, Reps P F ds vs → strsOf ds = some bs → vs = bs.map V.str
  | [], vs, bs, r, h => by simp only [Reps] at r; simp only [strsOf] at h; cases h; exact r
  | d :: ds, vs, bs, r, h => by
    obtain ⟨v, us, rfl, r1, rs⟩ := r.uncons
    simp only [strsOf] at h
    split at h
    · rename_i b bs' e2
      cases h
      simp only [Rep] at r1
      rw [r1, strsOf_rep rs e2]; rfl
    · cases h
/-- a text's method of one argument -/
def gM1 (op : Str → D → Option D) (a b : GE τ) : GE τ := fun ρ st => (a ρ st).bind fun x st => match x with
  | .str s => (b ρ st).bind fun y st => .of (op s y) st
  | _ => .stuck
def M1D (P : Pm) (r : V → List V → Hp → VK → Prop) (op : Str → D → Option D) : Prop := ∀ F B M H s y dy d, Pre F B M H → RepB P F B dy y → op s dy = some d →
  ∀ Q : VK, (∀ F' H' v, Ext F M H F' M H' → RepB P F' B d v → Q v H') → r (.str s) [y] H Q
theorem ev_m1 {r : V → List V → Hp → VK → Prop} {op : Str → D → Option D} {to te : TE} {go ge : GE τ} (hr : M1D P r op) (ho : EvD P R W to go) (he : EvD P R W te ge) :
    EvD P R W (tM1 r to te) (gM1 op go ge) := by
  intro F B M H σ ρ st w Q h
  refine ho F B M H σ ρ st w _ (h.bind.mono (fun x st1 h1 F1 M1 H1 v1 E1 R1 r1 => ?_) fun _ _ z => z)
  have w1 := w.ext E1 R1
  cases x
  case str a =>
    have : v1 = .str a := r1
    subst this
    refine ⟨⟨a, rfl⟩, he F1 B M1 H1 σ ρ st1 w1 _ ((Sat.bind h1).mono (fun y st2 h2 F2 M2 H2 v2 E2 R2 r2 => ?_) fun _ _ z => KX.ext P R z E1)⟩
    obtain ⟨d, e, q⟩ := Sat.of h2
    exact hr F2 B M2 H2 a v2 y d (w1.pre.ext E2) r2 e Q fun F' H' v E r => q F' M2 H' v ((E1.trans E2).trans E) R2 r
  all_goals exact (show False from h1).elim
def joinD (a : Str) (y : D) : Option D :=
  ((items y).bind strsOf).bind fun ys => if (ys.map (·.length)).sum + ys.length * a.length ≤ 16777216 then some (.str (Txt.join a ys)) else none
theorem m1d_join : M1D P (fun x xs H Q => ∃ a p, ∃ ys : List Str, x = .str a ∧ xs = [.ref p] ∧ (SqL P.K H p (ys.map V.str) ∨ SqT P.K H p (ys.map V.str)) ∧
      (ys.map (·.length)).sum + ys.length * a.length ≤ 16777216 ∧ Q (.str (Txt.join a ys)) H) joinD := by
  intro F B M H a y dy d p r e Q q
  obtain ⟨ys, e1, e2⟩ := Option.bind_eq_some_iff.mp e
  obtain ⟨l, e3, e4⟩ := Option.bind_eq_some_iff.mp e1
  obtain ⟨hl, rfl⟩ := if_some e2
  obtain ⟨b, vs, rfl, hs, rs⟩ := r.seq p e3
  exact ⟨a, b, ys, rfl, rfl, by rw [← strsOf_rep rs e4]; exact hs, hl, q F H _ (.refl p) rfl⟩
def splitD (a : Str) (y : D) : Option D :=
  match y with
  | .str b => if (b.length == 0) = false ∧ a.length + 2 ≤ line then some (.lst ((Txt.split a b).map .str)) else none
  | _ => none
theorem m1d_split : M1D P (fun x xs H Q => ∃ a b, x = .str a ∧ xs = [.str b] ∧ (b.length == 0) = false ∧ a.length + 2 ≤ sizeLine ∧ rNewStrs (Txt.split a b) H Q) splitD := by
  intro F B M H a y dy d p r e Q q
  unfold splitD at e
  split at e
  · rename_i b
    obtain ⟨⟨h1, h2⟩, rfl⟩ := if_some e
    have : y = .str b := r
    subst this
    exact ⟨a, b, rfl, rfl, h1, by rw [line_eq]; exact h2, new_lst p (.strs _) fun F' H' v E r => q F' H' v E r.b⟩
  · cases e

/-! ### subscripts, slices -/
def ixD (x y : D) : Option D :=
  match y with
  | .int i => match x with
    | .str z => if z.length ≤ line then (atI z.cps.toList i).map fun c => .str ⟨#[c]⟩ else none
    | _ => (items x).bind fun ds => atI ds i
  | _ => none
theorem Reps.atI {F : Hp} {ds : List D} {vs : List V} {i : Int} {d : D} (rs : Reps P F ds vs) (h : L2.atI ds i = some d) : ∃ v, L2.atI vs i = some v ∧ Rep P F d v := by
  unfold L2.atI at h ⊢
  rw [← rs.length]
  cases e : ixN ds.length i with
  | none => rw [e] at h; cases h
  | some j => rw [e] at h; exact rs.get h
theorem opd_ix : OpD P (rIx P.K) ixD := by
  intro F B M H x y dx dy d p rx ry e Q q
  cases dy <;> try cases e
  case int i =>
    have : y = .int i := ry
    subst this
    by_cases hz : ∃ z, dx = .str z
    · obtain ⟨z, rfl⟩ := hz
      simp only [ixD] at e
      have : x = .str z := rx
      subst this
      by_cases hl : z.length ≤ line
      · rw [if_pos hl] at e
        obtain ⟨c, e1, rfl⟩ := Option.map_eq_some_iff.mp e
        exact .inr (.inr ⟨z, i, c, rfl, rfl, by rw [line_eq]; exact hl, e1, q F H _ (.refl p) rfl⟩)
      · rw [if_neg hl] at e; cases e
    · have e' : (items dx).bind (fun ds => L2.atI ds i) = some d := by
        cases dx <;> first | exact e | exact absurd ⟨_, rfl⟩ hz
      obtain ⟨ds, e1, e2⟩ := Option.bind_eq_some_iff.mp e'
      obtain ⟨a, vs, rfl, hs, rs⟩ := rx.seq p e1
      obtain ⟨v, hv, r⟩ := rs.atI e2
      rcases hs with hs | hs
      · exact .inl ⟨a, vs, i, v, rfl, rfl, hs, hv, q F H _ (.refl p) r.b⟩
      · exact .inr (.inl ⟨a, vs, i, v, rfl, rfl, hs, hv, q F H _ (.refl p) r.b⟩)
abbrev GO (τ : Type) := Sl → τ → Res τ (Option Int)
def EvO (P : Pm) (R : τ → Hp → Prop) (W : WX) (tt : TO) (g : GO τ) : Prop := ∀ F B M H σ ρ st, WI P R F B M H σ ρ st → ∀ Q : Option Int → Hp → Prop,
  Sat (g ρ st) (fun b st' => ∀ F' M' H', Ext F M H F' M' H' → R st' M' → Q b H') (KX P R W F M H σ) → tt σ H Q
def gNoPart : GO τ := fun _ st => .ok none st
def intOf : D → Option Int
  | .int i => some i
  | _ => none
def gPart (g : GE τ) : GO τ := fun ρ st => (g ρ st).bind fun d st => (Res.of (intOf d) st).bind fun i st => .ok (some i) st
theorem evo_none : EvO P R W tNoPart gNoPart := fun F B M H σ ρ st w Q q => q F M H (.refl w.pre) w.r
theorem evo_some {te : TE} {g : GE τ} (h : EvD P R W te g) : EvO P R W (tPart te) (gPart g) := by
  intro F B M H σ ρ st w Q hs
  refine h F B M H σ ρ st w _ (hs.bind.mono (fun d st1 h1 F1 M1 H1 v1 E1 R1 r1 => ?_) fun _ _ z => z)
  obtain ⟨i, e, q⟩ := Sat.of (Sat.bind h1)
  cases d <;> cases e
  exact ⟨_, r1, q F1 M1 H1 E1 R1⟩
def SlD (P : Pm) (r : V → Option Int → Option Int → Hp → VK → Prop) (op : D → Option Int → Option Int → Option D) : Prop := ∀ F B M H x dx lo hi d, Pre F B M H → RepB P F B dx x → op dx lo hi = some d →
  ∀ Q : VK, (∀ F' H' v, Ext F M H F' M H' → RepB P F' B d v → Q v H') → r x lo hi H Q
def gSl (op : D → Option Int → Option Int → Option D) (a : GE τ) (l h : GO τ) : GE τ := fun ρ st => (a ρ st).bind fun x st => (l ρ st).bind fun lo st => (h ρ st).bind fun hi st => .of (op x lo hi) st
theorem ev_sl {r : V → Option Int → Option Int → Hp → VK → Prop} {op : D → Option Int → Option Int → Option D} {te : TE} {tl th : TO} {g : GE τ} {gl gh : GO τ} (hr : SlD P r op) (he : EvD P R W te g) (hl : EvO P R W tl gl) (hh : EvO P R W th gh) :
    EvD P R W (tSl r te tl th) (gSl op g gl gh) := by
  intro F B M H σ ρ st w Q h
  refine he F B M H σ ρ st w _ (h.bind.mono (fun x st1 h1 F1 M1 H1 v1 E1 R1 r1 => ?_) fun _ _ z => z)
  have w1 := w.ext E1 R1
  refine hl F1 B M1 H1 σ ρ st1 w1 _ (h1.bind.mono (fun lo st2 h2 F2 M2 H2 E2 R2 => ?_) fun _ _ z => KX.ext P R z E1)
  have w2 := w1.ext E2 R2
  refine hh F2 B M2 H2 σ ρ st2 w2 _ (h2.bind.mono (fun hi st3 h3 F3 M3 H3 E3 R3 => ?_) fun _ _ z => KX.ext P R z (E1.trans E2))
  obtain ⟨d, e, q⟩ := Sat.of h3
  exact hr F3 B M3 H3 v1 x lo hi d (w2.pre.ext E3) ((r1.mono E2.ff).mono E3.ff) e Q fun F' H' v E r => q F' M3 H' v (((E1.trans E2).trans E3).trans E) R3 r
/-- xs[lo:hi] -/
def cutL {α : Type} (xs : List α) (lo hi : Option Int) : List α := (xs.drop (HT.sIx xs.length 0 lo)).take (HT.sIx xs.length xs.length hi - HT.sIx xs.length 0 lo)
theorem Reps.cut {F : Hp} {ds : List D} {vs : List V} (rs : Reps P F ds vs) (lo hi : Option Int) : Reps P F (cutL ds lo hi) (cutV vs lo hi) := by
  unfold cutL cutV
  rw [rs.length]
  exact (rs.drop _).take _
def slD (x : D) (lo hi : Option Int) : Option D :=
  match x with
  | .str z => if z.length ≤ line then some (.str (cutS z lo hi)) else none
  | .tup ds => some (.tup (cutL ds lo hi))
  | _ => (items x).map fun ds => .lst (cutL ds lo hi)
def rSlAll (K : PySem.W.Frag) : V → Option Int → Option Int → Hp → VK → Prop := fun x lo hi H Q => rSlS x lo hi H Q ∨ (rSlA K x lo hi H Q ∨ rSlL K x lo hi H Q)
theorem sl_all {X : Cx} : SlR X (rSlAll X.K) := SlR.or sl_str (SlR.or sl_tupA sl_list)
theorem sld_all : SlD P (rSlAll P.K) slD := by
  intro F B M H x dx lo hi d p rx e Q q
  cases dx <;> try (simp only [slD, items, Option.map_none, Option.map_some] at e; cases e)
  case str z =>
    simp only [slD] at e
    obtain ⟨h, rfl⟩ := if_some e
    have : x = .str z := rx
    subst this
    exact .inl ⟨z, rfl, by rw [line_eq]; exact h, q F H _ (.refl p) rfl⟩
  case tup ds =>
    have rx0 := rx
    obtain ⟨a, vs, rfl, hs, rs⟩ := rx.tupl p
    refine .inr (.inl ⟨a, vs, rfl, hs, fun ⟨h1, h2⟩ => ?_, fun _ => new_tup p (rs.cut lo hi) fun F' H' v E r => q F' H' v E r.b⟩)
    have e : cutL ds lo hi = ds := by
      unfold cutL
      rw [rs.length, h1, h2, Nat.sub_zero, List.drop_zero, ← rs.length, List.take_length]
    rw [e] at q
    exact q F H _ (.refl p) rx0
  case lst => obtain ⟨a', vs', e2, q2, rs'⟩ := (by simpa only [RepB, Rep] using rx); exact .inr (.inr ⟨a', vs', e2, .of (p.f _ _ q2), new_lst p (rs'.cut lo hi) fun F' H' v E r => q F' H' v E r.b⟩)
  case bor => obtain ⟨a', vs', e2, q2, rs'⟩ := rx; exact .inr (.inr ⟨a', vs', e2, .of (p.b _ _ q2), new_lst p (rs'.cut lo hi) fun F' H' v E r => q F' H' v E r.b⟩)
  case scr => obtain ⟨a', vs', e2, q2, rs'⟩ := (by simpa only [RepB, Rep] using rx); exact .inr (.inr ⟨a', vs', e2, p.f.seq q2, new_lst p (rs'.cut lo hi) fun F' H' v E r => q F' H' v E r.b⟩)
end
end PD

namespace PD
open PySem PySem.Spec PyProof.Rows L2
section
variable {τ : Type} {P : Pm} {R : τ → Hp → Prop} {W : WX}

/-! ### what a loop walks -/
structure ItOk (P : Pm) (F Bo : Hp) (J : It) (ds : List D) : Prop where
  stop : ∀ i H, Same F H → Same Bo H → ds.length ≤ i → J.stop i H
  go : ∀ i H, Same F H → Same Bo H → i < ds.length → J.go i H
  yld : ∀ i F1 B1 M1 H1 x H', i < ds.length → Pre F1 B1 M1 H1 → Same F F1 → Same Bo H1 → J.yld i H1 x H' → ∃ d F2, ds[i]? = some d ∧ Ext F1 M1 H1 F2 M1 H' ∧ Rep P F2 d x
abbrev GI (τ : Type) := Sl → τ → Res τ (List D)
def EvI (P : Pm) (R : τ → Hp → Prop) (W : WX) (wi : TI) (g : GI τ) : Prop := ∀ F B M H σ ρ st, WI P R F B M H σ ρ st → ∀ Rk : It → Hp → Prop,
  Sat (g ρ st) (fun ds st' => ∀ F' M' H' J, Ext F M H F' M' H' → R st' M' → ItOk P F' B J ds → Rk J H') (KX P R W F M H σ) → wi σ H Rk
/-- nothing borrowed is walked -/
def EvJ (P : Pm) (R : τ → Hp → Prop) (W : WX) (wi : TI) (g : GI τ) : Prop := ∀ F B M H σ ρ st, WI P R F B M H σ ρ st → ∀ Rk : It → Hp → Prop,
  Sat (g ρ st) (fun ds st' => ∀ F' M' H' J, Ext F M H F' M' H' → R st' M' → ItOk P F' (fun _ => none) J ds → Rk J H') (KX P R W F M H σ) → wi σ H Rk
theorem ItOk.bor {F Bo : Hp} {J : It} {ds : List D} (h : ItOk P F (fun _ => none) J ds) : ItOk P F Bo J ds :=
  ⟨fun i H a _ l => h.stop i H a (fun _ _ z => nomatch z) l, fun i H a _ l => h.go i H a (fun _ _ z => nomatch z) l, fun i F1 B1 M1 H1 x H' l p a _ y => h.yld i F1 B1 M1 H1 x H' l p a (fun _ _ z => nomatch z) y⟩
theorem EvJ.evi {wi : TI} {g : GI τ} (h : EvJ P R W wi g) : EvI P R W wi g := fun F B M H σ ρ st w Rk hs =>
  h F B M H σ ρ st w Rk (hs.mono (fun ds st' q F' M' H' J E r ok => q F' M' H' J E r ok.bor) fun _ _ z => z)
theorem itok_list {F Bo : Hp} {a : Addr} {vs : List V} {ds : List D} (h : ∀ H, Same F H → Same Bo H → SqL P.K H a vs) (rs : Reps P F ds vs) : ItOk P F Bo (Itl P.K a) ds := by
  refine ⟨fun i H f b l => ⟨vs, h H f b, by rw [← rs.length]; exact l⟩, fun i H f b l => ?_, fun i F1 B1 M1 H1 x H' l p f b y => ?_⟩
  · obtain ⟨v, e, _⟩ := rs.get (List.getElem?_eq_getElem l)
    exact ⟨vs, v, h H f b, e⟩
  · obtain ⟨rfl, y⟩ := y
    obtain ⟨d, e, r⟩ := rs.getV (y vs (h H' (f.trans p.f) b))
    exact ⟨d, F1, e, .refl p, r.mono f⟩
theorem itok_tup {F Bo : Hp} {a : Addr} {vs : List V} {ds : List D} (h : ∀ H, Same F H → SqT P.K H a vs) (rs : Reps P F ds vs) : ItOk P F Bo (Itt P.K a) ds := by
  refine ⟨fun i H f b l => ⟨vs, h H f, by rw [← rs.length]; exact l⟩, fun i H f b l => ?_, fun i F1 B1 M1 H1 x H' l p f b y => ?_⟩
  · obtain ⟨v, e, _⟩ := rs.get (List.getElem?_eq_getElem l)
    exact ⟨vs, v, h H f, e⟩
  · obtain ⟨rfl, y⟩ := y
    obtain ⟨d, e, r⟩ := rs.getV (y vs (h H' (f.trans p.f)))
    exact ⟨d, F1, e, .refl p, r.mono f⟩
def charsOf (z : Str) : List D := z.cps.toList.map fun c => .str ⟨#[c]⟩
theorem itok_str {F Bo : Hp} {z : Str} : ItOk P F Bo (Its z) (charsOf z) := by
  have hl : (charsOf z).length = z.cps.size := by simp only [charsOf, List.length_map, Array.length_toList]
  refine ⟨fun i H f b l => by rw [hl] at l; exact l, fun i H f b l => by rw [hl] at l; exact l, fun i F1 B1 M1 H1 x H' l p f b y => ?_⟩
  obtain ⟨rfl, c, e, rfl⟩ := y
  refine ⟨.str ⟨#[c]⟩, F1, ?_, .refl p, by simp only [Rep]⟩
  simp only [charsOf, List.getElem?_map, Array.getElem?_toList, e, Option.map_some]
def rangeD (lo : Int) (n : Nat) : List D := (List.range n).map fun i => .int (lo + (i : Nat))
theorem itok_range {F Bo : Hp} {lo : Int} {n : Nat} : ItOk P F Bo (Itr lo n) (rangeD lo n) := by
  have hl : (rangeD lo n).length = n := by simp only [rangeD, List.length_map, List.length_range]
  refine ⟨fun i H f b l => by rw [hl] at l; exact l, fun i H f b l => by rw [hl] at l; exact l, fun i F1 B1 M1 H1 x H' l p f b y => ?_⟩
  obtain ⟨rfl, rfl⟩ := y
  refine ⟨.int (lo + (i : Nat)), F1, ?_, .refl p, by simp only [Rep]⟩
  rw [hl] at l
  simp only [rangeD, List.getElem?_map, List.getElem?_range l, Option.map_some]
def iterD (d : D) : Option (List D) :=
  match d with
  | .str z => some (charsOf z)
  | _ => items d
/-- for x in e: a list, a tuple, a text -/
def iAll (K : PySem.W.Frag) (te : TE) : TI := fun σ H R => iList K te σ H R ∨ (iTup K te σ H R ∨ iStr te σ H R)
theorem pi_all {X : Cx} {tg e : Expr} {te : TE} (h : PE X e te) : PI X tg e (iAll X.K te) := PI.or (pi_list h) (PI.or (pi_tup h) (pi_str h))
def gIt (g : GE τ) : GI τ := fun ρ st => (g ρ st).bind fun d st => .of (iterD d) st
/-- nothing borrowed -/
def gItF (g : GE τ) : GI τ := fun ρ st => (g ρ st).bind fun d st => if borFree d = true then .of (iterD d) st else .stuck
theorem evi_all {K : PySem.W.Frag} (hK : K = P.K) {te : TE} {g : GE τ} (h : EvD P R W te g) : EvI P R W (iAll K te) (gIt g) := by
  subst hK
  intro F B M H σ ρ st w Rk hs
  have hd := h F B M H σ ρ st w
  have hs := Sat.bind hs
  cases e : g ρ st with
  | stuck => rw [e] at hs; exact hs.elim
  | err x st1 => rw [e] at hs hd; exact .inl (hd _ hs)
  | ok d st1 =>
    rw [e] at hs hd
    obtain ⟨ds, e1, q⟩ := Sat.of (show Sat (Res.of (iterD d) st1) _ _ from hs)
    cases d <;> try (cases e1; done)
    case str => cases e1; exact .inr (.inr (hd _ fun F1 M1 H1 v E1 R1 r1 => ⟨_, r1, q F1 M1 H1 _ E1 R1 itok_str⟩))
    case tup => cases e1; exact .inr (.inl (hd _ fun F1 M1 H1 v E1 R1 r1 => by
      obtain ⟨a, vs, rfl, hs, rs⟩ := (by simpa only [RepB, Rep] using r1)
      have hh : ∀ H, Same F1 H → SqT P.K H a vs := fun H f => by
        rcases hs with (q | ⟨o, q⟩) | q
        · exact .inl (.inl (f _ _ q))
        · exact .inl (.inr ⟨o, f _ _ q⟩)
        · exact .inr q
      exact ⟨a, rfl, ⟨vs, hh H1 E1.f⟩, q F1 M1 H1 _ E1 R1 (itok_tup hh rs)⟩))
    case lst => cases e1; exact .inl (hd _ fun F1 M1 H1 v E1 R1 r1 => by
      obtain ⟨a, vs, rfl, hs, rs⟩ := (by simpa only [RepB, Rep] using r1)
      exact ⟨a, rfl, ⟨vs, .of (E1.f _ _ hs)⟩, q F1 M1 H1 _ E1 R1 (itok_list (fun H f _ => .of (f _ _ hs)) rs)⟩)
    case scr => cases e1; exact .inl (hd _ fun F1 M1 H1 v E1 R1 r1 => by
      obtain ⟨a, vs, rfl, hs, rs⟩ := (by simpa only [RepB, Rep] using r1)
      exact ⟨a, rfl, ⟨vs, E1.f.seq hs⟩, q F1 M1 H1 _ E1 R1 (itok_list (fun H f _ => f.seq hs) rs)⟩)
    case bor => cases e1; exact .inl (hd _ fun F1 M1 H1 v E1 R1 r1 => by
      obtain ⟨a, vs, rfl, hs, rs⟩ := r1
      exact ⟨a, rfl, ⟨vs, .of ((w.pre.ext E1).b _ _ hs)⟩, q F1 M1 H1 _ E1 R1 (itok_list (fun H _ b => .of (b _ _ hs)) rs)⟩)
theorem evj_all {K : PySem.W.Frag} (hK : K = P.K) {te : TE} {g : GE τ} (h : EvD P R W te g) : EvJ P R W (iAll K te) (gItF g) := by
  subst hK
  intro F B M H σ ρ st w Rk hs
  have hd := h F B M H σ ρ st w
  have hs := Sat.bind hs
  cases e : g ρ st with
  | stuck => rw [e] at hs; exact hs.elim
  | err x st1 => rw [e] at hs hd; exact .inl (hd _ hs)
  | ok d st1 =>
    rw [e] at hs hd
    obtain ⟨hb, hs⟩ := Sat.ite (show Sat (if borFree d = true then Res.of (iterD d) st1 else .stuck) _ _ from hs)
    obtain ⟨ds, e1, q⟩ := Sat.of (show Sat (Res.of (iterD d) st1) _ _ from hs)
    cases d <;> try (cases e1; done)
    case bor => cases hb
    case str => cases e1; exact .inr (.inr (hd _ fun F1 M1 H1 v E1 R1 r1 => ⟨_, r1, q F1 M1 H1 _ E1 R1 itok_str⟩))
    case tup => cases e1; exact .inr (.inl (hd _ fun F1 M1 H1 v E1 R1 r1 => by
      obtain ⟨a, vs, rfl, hs, rs⟩ := (by simpa only [RepB, Rep] using r1)
      have hh : ∀ H, Same F1 H → SqT P.K H a vs := fun H f => by
        rcases hs with (q | ⟨o, q⟩) | q
        · exact .inl (.inl (f _ _ q))
        · exact .inl (.inr ⟨o, f _ _ q⟩)
        · exact .inr q
      exact ⟨a, rfl, ⟨vs, hh H1 E1.f⟩, q F1 M1 H1 _ E1 R1 (itok_tup hh rs)⟩))
    case lst => cases e1; exact .inl (hd _ fun F1 M1 H1 v E1 R1 r1 => by
      obtain ⟨a, vs, rfl, hs, rs⟩ := (by simpa only [RepB, Rep] using r1)
      exact ⟨a, rfl, ⟨vs, .of (E1.f _ _ hs)⟩, q F1 M1 H1 _ E1 R1 (itok_list (fun H f _ => .of (f _ _ hs)) rs)⟩)
    case scr => cases e1; exact .inl (hd _ fun F1 M1 H1 v E1 R1 r1 => by
      obtain ⟨a, vs, rfl, hs, rs⟩ := (by simpa only [RepB, Rep] using r1)
      exact ⟨a, rfl, ⟨vs, E1.f.seq hs⟩, q F1 M1 H1 _ E1 R1 (itok_list (fun H f _ => f.seq hs) rs)⟩)
/-- range(n), range(a, b) -/
def rng1 : List D → Option (List D)
  | [.int j] => if -(2 ^ 62) ≤ j ∧ j < 2 ^ 62 then some (rangeD 0 j.toNat) else none
  | _ => none
def gRng1 (a : GA τ) : GI τ := fun ρ st => (a ρ st).bind fun ds st => .of (rng1 ds) st
theorem evj_rng1 {ta : TA} {a : GA τ} (h : EvA P R W ta a) : EvJ P R W (iRng1 ta) (gRng1 a) := by
  intro F B M H σ ρ st w Rk hs
  refine h F B M H σ ρ st w _ ((Sat.bind hs).mono (fun ds st1 h1 F1 M1 H1 vs E1 R1 rs => ?_) fun _ _ z => z)
  obtain ⟨l, e, q⟩ := Sat.of h1
  unfold rng1 at e
  split at e
  · rename_i j
    obtain ⟨⟨h1, h2⟩, rfl⟩ := if_some e
    obtain ⟨v, rfl, r⟩ := rs.one
    have : v = .int j := r
    subst this
    exact ⟨j, rfl, h1, h2, q F1 M1 H1 _ E1 R1 itok_range⟩
  · cases e
def rng2 : List D → Option (List D)
  | [.int i, .int j] => if -(2 ^ 62) ≤ i ∧ i < 2 ^ 62 ∧ -(2 ^ 62) ≤ j ∧ j < 2 ^ 62 then some (rangeD i (j - i).toNat) else none
  | _ => none
def gRng2 (a : GA τ) : GI τ := fun ρ st => (a ρ st).bind fun ds st => .of (rng2 ds) st
theorem evj_rng2 {ta : TA} {a : GA τ} (h : EvA P R W ta a) : EvJ P R W (iRng2 ta) (gRng2 a) := by
  intro F B M H σ ρ st w Rk hs
  refine h F B M H σ ρ st w _ ((Sat.bind hs).mono (fun ds st1 h1 F1 M1 H1 vs E1 R1 rs => ?_) fun _ _ z => z)
  obtain ⟨l, e, q⟩ := Sat.of h1
  unfold rng2 at e
  split at e
  · rename_i i j
    obtain ⟨hh, rfl⟩ := if_some e
    obtain ⟨v, ws, rfl, r, rs⟩ := rs
    obtain ⟨v2, rfl, r2⟩ := RepBs.one rs
    have : v = .int i := r
    subst this
    have : v2 = .int j := r2
    subst this
    exact ⟨i, j, rfl, hh, q F1 M1 H1 _ E1 R1 itok_range⟩
  · cases e

/-! ### targets -/
def Own (ρ : Sl) (σ : L2.St) (a : Addr) : Prop := ∃ (i : Nat) (s : SV), ρ[i]? = some s ∧ s.isOwn = true ∧ σ[i]? = some (some (V.ref a))
/-- σ with the slots of vs changed to what ρ says -/
structure Tg (P : Pm) (F B : Hp) (vs : List Nat) (σ σ' : L2.St) (ρ' : Sl) : Prop where
  len : σ'.length = σ.length
  out : ∀ i, i ∉ vs → σ'[i]? = σ[i]?
def TgD (P : Pm) (R : τ → Hp → Prop) (vs : List Nat) (g : TG) (t : D → Sl → Option Sl) : Prop := ∀ F B M H σ ρ st d x ρ', WI P R F B M H σ ρ st → Rep P F d x → t d ρ = some ρ' →
  ∀ Q : L2.St → Hp → Prop, (∀ σ', WI P R F B M H σ' ρ' st → σ'.length = σ.length → (∀ i, i ∉ vs → σ'[i]? = σ[i]? ∧ ρ'[i]? = ρ[i]?) → (∀ a, Own ρ' σ' a → Own ρ σ a) → Q σ' H) → g x σ H Q
def tgName (i : Nat) (d : D) (ρ : Sl) : Option Sl := if i < ρ.length then some (ρ.set i (.val d)) else none
theorem WI.set {F B M H : Hp} {σ : L2.St} {ρ : Sl} {st : τ} (w : WI P R F B M H σ ρ st) {i : Nat} {d : D} {v : V} (r : Rep P F d v) : WI P R F B M H (σ.set i (some v)) (ρ.set i (.val d)) st := by
  refine ⟨w.pre, w.r, by rw [List.length_set, List.length_set]; exact w.len, fun j s o h1 h2 => ?_, fun j k s t a hjk h1 h2 ho hr e => ?_⟩
  · by_cases hj : i = j
    · subst hj
      rw [List.getElem?_set] at h1 h2
      simp only [if_true] at h1 h2
      split at h1
      · cases h1
        split at h2
        · cases h2; exact ⟨v, rfl, r⟩
        · cases h2
      · cases h1
    · rw [List.getElem?_set_ne hj] at h1 h2
      exact w.sl j s o h1 h2
  · have hj : i ≠ j := fun z => by
      subst z
      rw [List.getElem?_set] at h1
      simp only [if_true] at h1
      split at h1
      · cases h1; cases ho
      · cases h1
    have hk : i ≠ k := fun z => by
      subst z
      rw [List.getElem?_set] at h2
      simp only [if_true] at h2
      split at h2
      · cases h2; cases hr
      · cases h2
    rw [List.getElem?_set_ne hj] at h1 e
    rw [List.getElem?_set_ne hk] at h2 ⊢
    exact w.dj j k s t a hjk h1 h2 ho hr e
theorem tgd_name {vs : List Nat} {i : Nat} (hi : i ∈ vs) : TgD P R vs (gName i) (tgName i) := by
  intro F B M H σ ρ st d x ρ' w r e Q q
  obtain ⟨h, rfl⟩ := if_some e
  refine q _ (w.set r) (List.length_set ..) (fun j hj => ?_) fun a ⟨j, xs, h1, h0, h2⟩ => ?_
  · have : i ≠ j := fun z => hj (z ▸ hi)
    exact ⟨List.getElem?_set_ne this, List.getElem?_set_ne this⟩
  · by_cases hj : i = j
    · subst hj
      rw [List.getElem?_set_self h] at h1
      cases h1
      cases h0
    · rw [List.getElem?_set_ne hj] at h1 h2
      exact ⟨j, xs, h1, h0, h2⟩
/-- several targets, one item each -/
def TgsD (P : Pm) (R : τ → Hp → Prop) (vs : List Nat) (g : TGs) (t : List D → Sl → Option Sl) : Prop := ∀ F B M H σ ρ st ds xs ρ', WI P R F B M H σ ρ st → Reps P F ds xs → t ds ρ = some ρ' →
  ∀ Q : L2.St → Hp → Prop, (∀ σ', WI P R F B M H σ' ρ' st → σ'.length = σ.length → (∀ i, i ∉ vs → σ'[i]? = σ[i]? ∧ ρ'[i]? = ρ[i]?) → (∀ a, Own ρ' σ' a → Own ρ σ a) → Q σ' H) → g xs σ H Q
def tgNil : List D → Sl → Option Sl
  | [], ρ => some ρ
  | _, _ => none
def tgCons (t : D → Sl → Option Sl) (u : List D → Sl → Option Sl) : List D → Sl → Option Sl
  | d :: ds, ρ => (t d ρ).bind (u ds)
  | _, _ => none
theorem tgsd_nil {vs : List Nat} : TgsD P R vs L2.gNil tgNil := by
  intro F B M H σ ρ st ds xs ρ' w rs e Q q
  cases ds with
  | cons d ds => cases e
  | nil =>
    cases e
    exact ⟨by simpa only [Reps] using rs, q σ w rfl (fun _ _ => ⟨rfl, rfl⟩) fun _ z => z⟩
theorem tgsd_cons {vs : List Nat} {g : TG} {gs : TGs} {t : D → Sl → Option Sl} {u : List D → Sl → Option Sl} (h : TgD P R vs g t) (h' : TgsD P R vs gs u) : TgsD P R vs (L2.gCons g gs) (tgCons t u) := by
  intro F B M H σ ρ st ds xs ρ' w rs e Q q
  cases ds with
  | nil => cases e
  | cons d ds =>
    obtain ⟨ρ1, e1, e2⟩ := Option.bind_eq_some_iff.mp e
    obtain ⟨v, ws, rfl, r, rs⟩ := rs.uncons
    refine ⟨v, ws, rfl, h F B M H σ ρ st d v ρ1 w r e1 _ fun σ1 w1 l1 o1 p1 => ?_⟩
    exact h' F B M H σ1 ρ1 st ds ws ρ' w1 rs e2 _ fun σ2 w2 l2 o2 p2 => q σ2 w2 (l2.trans l1) (fun i hi => ⟨(o2 i hi).1.trans (o1 i hi).1, (o2 i hi).2.trans (o1 i hi).2⟩) fun a z => p1 a (p2 a z)
/-- a, b, .. = a tuple -/
def tgTup (n : Nat) (u : List D → Sl → Option Sl) : D → Sl → Option Sl
  | .tup ds, ρ => if ds.length = n then u ds ρ else none
  | _, _ => none
theorem tgd_tup {K : PySem.W.Frag} (hK : K = P.K) {vs : List Nat} {n : Nat} {gs : TGs} {u : List D → Sl → Option Sl} (h : TgsD P R vs gs u) : TgD P R vs (L2.gTup K n gs) (tgTup n u) := by
  subst hK
  intro F B M H σ ρ st d x ρ' w r e Q q
  cases d <;> try cases e
  case tup ds =>
    have e : (if ds.length = n then u ds ρ else none) = some ρ' := e
    by_cases hn : ds.length = n
    · rw [if_pos hn] at e
      obtain ⟨a, ws, rfl, hs, rs⟩ := RepB.tupl w.pre (Rep.b (B := B) r)
      exact ⟨a, ws, rfl, hs, by rw [← rs.length]; exact hn, h F B M H σ ρ st ds ws ρ' w rs e Q q⟩
    · rw [if_neg hn] at e; cases e

/-! ### comprehensions -/
def wipeS (ρ : Sl) : List Nat → Sl
  | [] => ρ
  | v :: vs => (wipeS ρ vs).set v .un
theorem WI.un {F B M H : Hp} {σ : L2.St} {ρ : Sl} {st : τ} (w : WI P R F B M H σ ρ st) {i : Nat} {o : Option V} : WI P R F B M H (σ.set i o) (ρ.set i .un) st := by
  refine ⟨w.pre, w.r, by rw [List.length_set, List.length_set]; exact w.len, fun j s o h1 h2 => ?_, fun j k s t a hjk h1 h2 ho hr e => ?_⟩
  · by_cases hj : i = j
    · subst hj
      rw [List.getElem?_set] at h1
      simp only [if_true] at h1
      split at h1
      · cases h1; trivial
      · cases h1
    · rw [List.getElem?_set_ne hj] at h1 h2
      exact w.sl j s o h1 h2
  · have hj : i ≠ j := fun z => by
      subst z
      rw [List.getElem?_set] at h1
      simp only [if_true] at h1
      split at h1
      · cases h1; cases ho
      · cases h1
    have hk : i ≠ k := fun z => by
      subst z
      rw [List.getElem?_set] at h2
      simp only [if_true] at h2
      split at h2
      · cases h2; cases hr
      · cases h2
    rw [List.getElem?_set_ne hj] at h1 e
    rw [List.getElem?_set_ne hk] at h2 ⊢
    exact w.dj j k s t a hjk h1 h2 ho hr e
theorem WI.wipe {F B M H : Hp} {σ : L2.St} {ρ : Sl} {st : τ} (w : WI P R F B M H σ ρ st) : ∀ vs : List Nat, WI P R F B M H (L2.wipe σ vs) (wipeS ρ vs) st
  | [] => w
  | v :: vs => (WI.wipe w vs).un
theorem wipe_get (σ : L2.St) : ∀ (vs : List Nat) (i : Nat), (L2.wipe σ vs)[i]? = if i ∈ vs then (if i < σ.length then some none else none) else σ[i]?
  | [], i => by simp [L2.wipe]
  | v :: vs, i => by
    unfold L2.wipe
    rw [List.getElem?_set, wipe_get σ vs i, L2.wipe_length]
    by_cases h : v = i
    · subst h; simp
    · have h' : ¬ i = v := fun z => h z.symm
      simp [h, h']
theorem wipe_eq {σ σ' : L2.St} (hl : σ'.length = σ.length) {vs : List Nat} (h : ∀ i, i ∉ vs → σ'[i]? = σ[i]?) : L2.wipe σ' vs = L2.wipe σ vs := by
  apply List.ext_getElem?
  intro i
  rw [wipe_get, wipe_get, hl]
  by_cases hi : i ∈ vs
  · rw [if_pos hi, if_pos hi]
  · rw [if_neg hi, if_neg hi, h i hi]
/-- a new list that nobody else knows -/
def EvN (P : Pm) (R : τ → Hp → Prop) (W : WX) (te : TE) (g : GI τ) : Prop := ∀ F B M H σ ρ st, WI P R F B M H σ ρ st → ∀ Q : VK,
  Sat (g ρ st) (fun ds st' => ∀ F' M' H' a vs, Ext F M H F' M' H' → R st' M' → H a = none → F' a = none → M' a = none → H' a = some (.lst vs) → Reps P F' ds vs → Q (.ref a) H') (KX P R W F M H σ) → te σ H Q
def gFz (g : GI τ) : GE τ := fun ρ st => (g ρ st).bind fun ds st => .ok (.lst ds) st
theorem Ext.freeze {F M H F' M' H' : Hp} (e : Ext F M H F' M' H') {a : Addr} {o : HO} (h : H a = none) (hm : M' a = none) (ho : H' a = some o) (hf : F' a = none) : Ext F M H (upd F' a o) M' H' where
  ff := e.ff.trans (same_updP hf)
  f := fun b u q => by
    by_cases hb : b = a
    · subst hb; rw [upd_same] at q; cases q; exact ho
    · rw [upd_ne hb] at q; exact e.f _ _ q
  m := e.m
  keep := e.keep
  there := e.there
  newF := fun b q n => by
    have hb : b ≠ a := fun z => q (by rw [z]; exact h)
    rw [upd_ne hb]; exact e.newF b q n
  newM := e.newM
  fm := fun b => by
    by_cases hb : b = a
    · subst hb; exact .inr hm
    · rw [upd_ne hb]; exact e.fm b
/-- a change outside -/
theorem Ext.out {F M H F' M' H' : Hp} (e : Ext F M H F' M' H') {a : Addr} {o : HO} (h : H a = none) (hf : F' a = none) (hm : M' a = none) : Ext F M H F' M' (upd H' a o) where
  ff := e.ff
  f := fun b u q => by rw [upd_ne (ne_of_none q hf)]; exact e.f _ _ q
  m := fun b u q => by rw [upd_ne (ne_of_none q hm)]; exact e.m _ _ q
  keep := fun b u q n => by rw [upd_ne (ne_of_none q h)]; exact e.keep b u q n
  there := fun b q => by
    have hb : b ≠ a := fun z => q (by rw [z]; exact h)
    rw [upd_ne hb]; exact e.there b q
  newF := e.newF
  newM := e.newM
  fm := e.fm
theorem EvN.evd {te : TE} {g : GI τ} (h : EvN P R W te g) : EvD P R W te (gFz g) := by
  intro F B M H σ ρ st w Q hs
  refine h F B M H σ ρ st w Q ((Sat.bind hs).mono (fun ds st1 q F1 M1 H1 a vs E1 R1 ha hf hm ho rs => ?_) fun _ _ z => z)
  exact q _ M1 H1 _ (E1.freeze ha hm ho hf) R1 (Rep.b (by simp only [Rep]; exact ⟨a, vs, rfl, upd_same, rs.mono (same_updP hf)⟩))
/-- no exception -/
def W0 : WX := fun _ _ _ _ => False
def noErr {α : Type} : Res τ α → Res τ α
  | .err _ _ => .stuck
  | r => r
theorem Sat.noErr {α : Type} {r : Res τ α} {ok : α → τ → Prop} {er er' : Exn → τ → Prop} (h : Sat (PD.noErr r) ok er) : Sat r ok er' := by
  cases r with
  | ok a st => exact h
  | err x st => exact (show False from h).elim
  | stuck => exact h
def lcGo (tg : D → Sl → Option Sl) (c : GT τ) (e : GE τ) (ρ : Sl) : List D → τ → Res τ (List D)
  | [], st => .ok [] st
  | d :: ds, st => (Res.of (tg d ρ) st).bind fun ρ1 st => (noErr (c ρ1 st)).bind fun b st =>
      if b = true then (noErr (e ρ1 st)).bind fun y st => if borFree y = true then (lcGo tg c e ρ ds st).bind fun ys st => .ok (y :: ys) st else .stuck
      else lcGo tg c e ρ ds st
def gLc (gi : GI τ) (tg : D → Sl → Option Sl) (c : GT τ) (e : GE τ) (vs : List Nat) : GI τ := fun ρ st => (gi ρ st).bind fun ds st =>
  if ds.length ≤ line then lcGo tg c e (wipeS ρ vs) ds st else .stuck
def gYes : GT τ := fun _ st => .ok true st
theorem evt_yes : EvT P R W tYes gYes := fun F B M H σ ρ st w Q q => q F M H (.refl w.pre) w.r
theorem evn_lc {wi : TI} {g : TG} {tt : TT} {te : TE} {vs : List Nat} {gi : GI τ} {tg : D → Sl → Option Sl} {c : GT τ} {e : GE τ} (hi : EvI P R W wi gi) (hg : TgD P R vs g tg) (ht : EvT P R W0 tt c) (he : EvD P R W0 te e) :
    EvN P R W (tLc wi g tt te vs) (gLc gi tg c e vs) := by
  intro F B M H σ ρ st w Q hs
  refine hi F B M H σ ρ st w _ ((Sat.bind hs).mono (fun ds st1 h1 F1 M1 H1 J E1 R1 ok => ?_) fun _ _ z => z)
  obtain ⟨hline, h1⟩ := Sat.ite h1
  intro Dd hD
  have w1 := w.ext E1 R1
  have hDH : H Dd = none := by
    cases e : H Dd with
    | none => rfl
    | some o => exact absurd hD (E1.there Dd (ne_some e))
  refine ⟨fun i m H2 => ∃ F2 M2 st2 acc accd, m = ds.length - i ∧ i ≤ ds.length ∧ Ext F1 M1 H1 F2 M2 H2 ∧ F2 Dd = none ∧ M2 Dd = none ∧ H2 Dd = some (.lst acc) ∧ Reps P F2 accd acc ∧ acc.length ≤ i ∧ R st2 M2 ∧
    Sat (lcGo tg c e (wipeS ρ vs) (ds.drop i) st2) (fun ys st3 => ∀ F' M' H' a vs, Ext F M H F' M' H' → R st3 M' → H a = none → F' a = none → M' a = none → H' a = some (.lst vs) → Reps P F' (accd ++ ys) vs → Q (.ref a) H') (fun _ _ => True), ?_, ?_⟩
  · refine ⟨_, F1, M1, st1, [], [], rfl, Nat.zero_le _, (Ext.own w1.pre hD), w1.pre.f.none hD, w1.pre.m.none hD, upd_same, .nil, Nat.le_refl _, R1, ?_⟩
    exact h1.mono (fun _ _ z => z) fun _ _ _ => trivial
  · rintro i m H2 ⟨F2, M2, st2, acc, accd, rfl, hi, E2, fD, mD, hD2, rs, hl, R2, sat⟩
    have w2 : WI P R F2 B M2 H2 (L2.wipe σ vs) (wipeS ρ vs) st2 := (w1.ext E2 R2).wipe vs
    by_cases hlt : i < ds.length
    · refine .inr ⟨ok.go i H2 (E2.ff.trans E2.f) w2.pre.b hlt, _, fun H' q => ⟨ds.length - (i + 1), by omega, q⟩, fun x H' y => ?_⟩
      obtain ⟨d, F3, hd, E3, r3⟩ := ok.yld i F2 B M2 H2 x H' hlt w2.pre E2.ff w2.pre.b y
      have hdrop : ds.drop i = d :: ds.drop (i + 1) := by
        have h := List.drop_eq_getElem_cons hlt
        rw [List.getElem?_eq_getElem hlt] at hd
        cases hd
        exact h
      rw [hdrop] at sat
      obtain ⟨ρ1, e1, sat⟩ := Sat.of (Sat.bind sat)
      have w3 := w2.ext E3 R2
      have hD3 : H' Dd = some (.lst acc) := E3.keep _ _ hD2 mD
      have fD3 : F3 Dd = none := E3.newF _ (ne_some hD2) fD
      refine hg F3 B M2 H' _ _ st2 d x ρ1 w3 r3 e1 _ fun σ4 w4 l4 o4 _ => ⟨?_, ?_⟩
      · apply List.ext_getElem?
        intro j
        rw [wipe_get, wipe_get, l4, L2.wipe_length]
        by_cases hj : j ∈ vs
        · rw [if_pos hj, if_pos hj]
        · rw [if_neg hj, if_neg hj, (o4 j hj).1, wipe_get, if_neg hj]
      · refine ht F3 B M2 H' σ4 ρ1 st2 w4 _ (Sat.noErr (Sat.bind sat) |>.mono (fun b st5 h5 F5 M5 H5 E5 R5 => ?_) fun _ _ z => z)
        have w5 := w4.ext E5 R5
        have hD5 : H5 Dd = some (.lst acc) := E5.keep _ _ hD3 mD
        have fD5 : F5 Dd = none := E5.newF _ (ne_some hD3) fD3
        have mD5 : M5 Dd = none := E5.newM _ (ne_some hD3) mD
        cases b with
        | false =>
          refine iteF ⟨F5, M5, st5, acc, accd, rfl, hlt, (E2.trans E3).trans E5, fD5, mD5, hD5, (rs.mono E3.ff).mono E5.ff, Nat.le_succ_of_le hl, R5, Sat.ff h5⟩
        | true =>
          refine iteT (he F5 B M5 H5 σ4 ρ1 st5 w5 _ (Sat.noErr (Sat.bind (Sat.tt h5)) |>.mono (fun y st6 h6 F6 M6 H6 v E6 R6 r6 => ?_) fun _ _ z => z))
          obtain ⟨bf, h6⟩ := Sat.ite h6
          have hD6 : H6 Dd = some (.lst acc) := E6.keep _ _ hD5 mD5
          have fD6 : F6 Dd = none := E6.newF _ (ne_some hD5) fD5
          have mD6 : M6 Dd = none := E6.newM _ (ne_some hD5) mD5
          refine ⟨acc, hD6, ?_, F6, M6, st6, acc ++ [v], accd ++ [y], rfl, hlt, (((E2.trans E3).trans E5).trans E6).out hD fD6 mD6, fD6, mD6, upd_same, (((rs.mono E3.ff).mono E5.ff).mono E6.ff).append (.one (r6.rep bf)), ?_, R6, ?_⟩
          · rw [line_eq]; omega
          · rw [List.length_append, List.length_singleton]; omega
          · refine (Sat.bind h6).mono (fun ys st7 h7 => ?_) fun _ _ z => z
            have e : accd ++ [y] ++ ys = accd ++ (y :: ys) := by rw [List.append_assoc]; rfl
            rw [e]; exact h7
    · have hn : ds.drop i = [] := List.drop_eq_nil_of_le (by omega)
      rw [hn] at sat
      refine .inl ⟨ok.stop i H2 (E2.ff.trans E2.f) w2.pre.b (by omega), ?_⟩
      have q := show _ from sat
      have q' : ∀ F' M' H' a vs, Ext F M H F' M' H' → R st2 M' → H a = none → F' a = none → M' a = none → H' a = some (.lst vs) → Reps P F' (accd ++ []) vs → Q (.ref a) H' := sat
      rw [List.append_nil] at q'
      exact q' F2 M2 H2 Dd acc (E1.trans E2) R2 hDH fD mD hD2 rs
theorem evn_lst {ta : TA} {ga : GA τ} (ha : EvA P R W ta ga) : EvN P R W (tLst ta) (fun ρ st => (ga ρ st).bind fun ds st => if freeL ds = true then .ok ds st else .stuck) := by
  intro F B M H σ ρ st w Q hs
  refine ha F B M H σ ρ st w _ (hs.bind.mono (fun ds st1 h1 F1 M1 H1 vs E1 R1 rs => ?_) fun _ _ z => z)
  obtain ⟨hf, q⟩ := Sat.ite h1
  obtain ⟨h1, h2⟩ := Bool.and_eq_true_iff.mp hf
  have p := w.pre.ext E1
  refine ⟨by rw [line_eq, ← rs.length]; exact of_decide_eq_true h2, fun a ha => ?_⟩
  have hH : H a = none := by
    cases e : H a with
    | none => rfl
    | some o => exact absurd ha (E1.there a (ne_some e))
  exact q F1 M1 _ a vs (E1.trans (.own p ha)) R1 hH (p.f.none ha) (p.m.none ha) upd_same (rs.reps h1)
end
end PD

namespace PD
open PySem PySem.Spec PyProof.Rows L2

inductive Fl where
  | nx (ρ : Sl)
  | rt (d : D)
  /-- a new list that nobody else knows is handed back -/
  | rn (ds : List D)
  | bk (ρ : Sl)
  | ct (ρ : Sl)
  | ex (x : Exn) (ρ : Sl)
abbrev RS (τ : Type) := Option (Fl × τ)
abbrev GS (τ : Type) := Sl → τ → RS τ
structure ExtS (F M H : Hp) (O : Addr → Prop) (F' M' H' : Hp) (O' : Addr → Prop) : Prop where
  ff : Same F F'
  f : Same F' H'
  m : Same M' H'
  fm : ∀ a, F' a = none ∨ M' a = none
  keep : ∀ a o, H a = some o → M a = none → ¬ O a → H' a = some o
  there : ∀ a, H a ≠ none → H' a ≠ none
  newF : ∀ a, H a ≠ none → F a = none → ¬ O a → F' a = none
  newM : ∀ a, H a ≠ none → M a = none → M' a = none
  newO : ∀ a, O' a → H a ≠ none → O a
theorem ExtS.of {F M H F' M' H' : Hp} {O : Addr → Prop} (e : Ext F M H F' M' H') : ExtS F M H O F' M' H' O :=
  ⟨e.ff, e.f, e.m, e.fm, fun a o h n _ => e.keep a o h n, e.there, fun a h n _ => e.newF a h n, e.newM, fun _ h _ => h⟩
theorem ExtS.trans {F M H F1 M1 H1 F2 M2 H2 : Hp} {O O1 O2 : Addr → Prop} (a : ExtS F M H O F1 M1 H1 O1) (b : ExtS F1 M1 H1 O1 F2 M2 H2 O2) : ExtS F M H O F2 M2 H2 O2 where
  ff := a.ff.trans b.ff
  f := b.f
  m := b.m
  fm := b.fm
  keep := fun x o h n z => b.keep x o (a.keep x o h n z) (a.newM x (ne_some h) n) fun z1 => z (a.newO x z1 (ne_some h))
  there := fun x h => b.there x (a.there x h)
  newF := fun x h n z => b.newF x (a.there x h) (a.newF x h n z) fun z1 => z (a.newO x z1 h)
  newM := fun x h n => b.newM x (a.there x h) (a.newM x h n)
  newO := fun x h n => a.newO x (b.newO x h (a.there x n)) n
theorem ExtS.sub {F M H F' M' H' : Hp} {O O' O2 : Addr → Prop} (e : ExtS F M H O F' M' H' O') (h : ∀ a, O2 a → O' a) : ExtS F M H O F' M' H' O2 :=
  ⟨e.ff, e.f, e.m, e.fm, e.keep, e.there, e.newF, e.newM, fun a q n => e.newO a (h a q) n⟩
def SatS {τ : Type} (r : RS τ) (k : Fl → τ → Prop) : Prop :=
  match r with
  | some (f, st) => k f st
  | none => False
theorem SatS.mono {τ : Type} {r : RS τ} {k k' : Fl → τ → Prop} (h : SatS r k) (hk : ∀ f st, k f st → k' f st) : SatS r k' := by
  cases r with
  | none => exact h
  | some p => exact hk _ _ h
def thenE {τ α : Type} (r : Res τ α) (ρ : Sl) (f : α → τ → RS τ) : RS τ :=
  match r with
  | .ok a st => f a st
  | .err x st => some (.ex x ρ, st)
  | .stuck => none
theorem SatS.thenE {τ α : Type} {r : Res τ α} {ρ : Sl} {f : α → τ → RS τ} {k : Fl → τ → Prop} (h : SatS (PD.thenE r ρ f) k) : Sat r (fun a st => SatS (f a st) k) (fun x st => k (.ex x ρ) st) := by
  cases r <;> exact h
theorem SatS.ite {τ : Type} {c : Prop} [Decidable c] {r : RS τ} {k : Fl → τ → Prop} (h : SatS (if c then r else none) k) : c ∧ SatS r k := by
  by_cases hc : c
  · rw [if_pos hc] at h; exact ⟨hc, h⟩
  · rw [if_neg hc] at h; exact h.elim

section
variable {τ : Type} (P : Pm) (R : τ → Hp → Prop) (W : WX)
def EndK (F M H : Hp) (O : Addr → Prop) (D : Ends) : Fl → τ → Prop
  | .nx ρ', st' => ∀ F' B' M' H' σ', ExtS F M H O F' M' H' (Own ρ' σ') → WI P R F' B' M' H' σ' ρ' st' → D.nx σ' H'
  | .bk ρ', st' => ∀ F' B' M' H' σ', ExtS F M H O F' M' H' (Own ρ' σ') → WI P R F' B' M' H' σ' ρ' st' → D.bk σ' H'
  | .ct ρ', st' => ∀ F' B' M' H' σ', ExtS F M H O F' M' H' (Own ρ' σ') → WI P R F' B' M' H' σ' ρ' st' → D.ct σ' H'
  | .rt d, st' => ∀ F' M' H' v, ExtS F M H O F' M' H' (fun _ => False) → R st' M' → Rep P F' d v → D.rt v H'
  | .rn ds, st' => ∀ F' M' H' a vs, ExtS F M H O F' M' H' (fun _ => False) → R st' M' → (H a = none ∨ O a) → F' a = none → M' a = none → H' a = some (.lst vs) → Reps P F' ds vs → D.rt (.ref a) H'
  | .ex x ρ', st' => ∀ F' B' M' H' σ' c dd, ExtS F M H O F' M' H' (Own ρ' σ') → WI P R F' B' M' H' σ' ρ' st' → XRep P F' x c dd H' → W c dd σ' H'
def EvS (ts : TS) (g : GS τ) : Prop := ∀ F B M H σ ρ st, WI P R F B M H σ ρ st → ∀ D : Ends, SatS (g ρ st) (EndK P R W F M H (Own ρ σ) D) → ts D σ H
end
section
variable {τ : Type} {P : Pm} {R : τ → Hp → Prop} {W : WX}
theorem EndK.kx {F B M H : Hp} {σ : L2.St} {ρ : Sl} {st st' : τ} {D : Ends} {x : Exn} (w : WI P R F B M H σ ρ st) (h : EndK P R W F M H (Own ρ σ) D (.ex x ρ) st') : KX P R W F M H σ x st' :=
  fun F' M' H' c dd e r q => h F' B M' H' σ c dd (.of e) (w.ext e r) q
theorem EndK.trans {F M H F1 M1 H1 : Hp} {O O1 : Addr → Prop} {D : Ends} {f : Fl} {st : τ} (h : EndK P R W F M H O D f st) (e : ExtS F M H O F1 M1 H1 O1) : EndK P R W F1 M1 H1 O1 D f st := by
  cases f with
  | nx ρ' => exact fun F' B' M' H' σ' e2 w => h F' B' M' H' σ' (e.trans e2) w
  | bk ρ' => exact fun F' B' M' H' σ' e2 w => h F' B' M' H' σ' (e.trans e2) w
  | ct ρ' => exact fun F' B' M' H' σ' e2 w => h F' B' M' H' σ' (e.trans e2) w
  | rt d => exact fun F' M' H' v e2 r q => h F' M' H' v (e.trans e2) r q
  | rn ds => exact fun F' M' H' a vs e2 r ha => h F' M' H' a vs (e.trans e2) r (by
      rcases ha with ha | ha
      · left
        cases q : H a with
        | none => rfl
        | some o => exact absurd ha (e.there a (ne_some q))
      · by_cases hn : H a = none
        · exact .inl hn
        · exact .inr (e.newO a ha hn))
  | ex x ρ' => exact fun F' B' M' H' σ' c dd e2 w q => h F' B' M' H' σ' c dd (e.trans e2) w q

/-! ### blocks -/
def sNext : GS τ := fun ρ st => some (.nx ρ, st)
theorem evs_next : EvS P R W tNext sNext := fun F B M H σ ρ st w D h => h F B M H σ (.of (.refl w.pre)) w
def sBreak : GS τ := fun ρ st => some (.bk ρ, st)
theorem evs_break : EvS P R W tBreak sBreak := fun F B M H σ ρ st w D h => h F B M H σ (.of (.refl w.pre)) w
def sCont : GS τ := fun ρ st => some (.ct ρ, st)
theorem evs_cont : EvS P R W tCont sCont := fun F B M H σ ρ st w D h => h F B M H σ (.of (.refl w.pre)) w
def sSeq (a b : GS τ) : GS τ := fun ρ st =>
  match a ρ st with
  | some (.nx ρ1, st1) => b ρ1 st1
  | r => r
theorem evs_seq {t u : TS} {a b : GS τ} (ha : EvS P R W t a) (hb : EvS P R W u b) : EvS P R W (tSeq t u) (sSeq a b) := by
  intro F B M H σ ρ st w D h
  refine ha F B M H σ ρ st w { D with nx := u D } ?_
  unfold sSeq at h
  cases e : a ρ st with
  | none => rw [e] at h; exact h.elim
  | some p =>
    obtain ⟨f, st1⟩ := p
    rw [e] at h
    cases f with
    | nx ρ1 => exact fun F1 B1 M1 H1 σ1 e1 w1 => hb F1 B1 M1 H1 σ1 ρ1 st1 w1 D (SatS.mono (r := b ρ1 st1) h fun f st2 q => q.trans e1)
    | bk ρ1 => exact h
    | ct ρ1 => exact h
    | rt d => exact h
    | rn ds => exact h
    | ex x ρ1 => exact h
def sIf (t : GT τ) (a b : GS τ) : GS τ := fun ρ st => thenE (t ρ st) ρ fun c st => if c = true then a ρ st else b ρ st
theorem evs_if {tc : TT} {t u : TS} {g : GT τ} {a b : GS τ} (hc : EvT P R W tc g) (ha : EvS P R W t a) (hb : EvS P R W u b) : EvS P R W (tIfS tc t u) (sIf g a b) := by
  intro F B M H σ ρ st w D h
  refine hc F B M H σ ρ st w _ (h.thenE.mono (fun c st1 h1 F1 M1 H1 E1 R1 => ?_) fun x st1 z => EndK.kx w z)
  cases c with
  | true => exact iteT (ha F1 B M1 H1 σ ρ st1 (w.ext E1 R1) D (SatS.mono (r := a ρ st1) (by rwa [if_pos rfl] at h1) fun f st2 q => EndK.trans q (.of E1)))
  | false => exact iteF (hb F1 B M1 H1 σ ρ st1 (w.ext E1 R1) D (SatS.mono (r := b ρ st1) (by rwa [if_neg Bool.false_ne_true] at h1) fun f st2 q => EndK.trans q (.of E1)))
def sRet (g : GE τ) : GS τ := fun ρ st => thenE (g ρ st) ρ fun d st => if borFree d = true then some (.rt d, st) else none
theorem evs_ret {te : TE} {g : GE τ} (h : EvD P R W te g) : EvS P R W (tRet te) (sRet g) := by
  intro F B M H σ ρ st w D hs
  refine h F B M H σ ρ st w _ (hs.thenE.mono (fun d st1 h1 F1 M1 H1 v E1 R1 r1 => ?_) fun x st1 z => EndK.kx w z)
  obtain ⟨hb, h1⟩ := SatS.ite h1
  exact h1 F1 M1 H1 v ((ExtS.of E1).sub fun _ z => z.elim) R1 (r1.rep hb)
/-- return of a list that is new -/
def sRetN (g : GI τ) : GS τ := fun ρ st => thenE (g ρ st) ρ fun ds st => some (.rn ds, st)
theorem evs_retN {te : TE} {g : GI τ} (h : EvN P R W te g) : EvS P R W (tRet te) (sRetN g) := by
  intro F B M H σ ρ st w D hs
  refine h F B M H σ ρ st w _ (hs.thenE.mono (fun ds st1 h1 F1 M1 H1 a vs E1 R1 ha hf hm ho rs => ?_) fun x st1 z => EndK.kx w z)
  exact (show EndK P R W F M H (Own ρ σ) D (.rn ds) st1 from h1) F1 M1 H1 a vs ((ExtS.of E1).sub fun _ z => z.elim) R1 (.inl ha) hf hm ho rs
/-- return of an owned list -/
def sRetO (i : Nat) : GS τ := fun ρ st =>
  match ρ[i]? with
  | some (.own xs) => some (.rn xs, st)
  | _ => none
theorem evs_retO (i : Nat) : EvS P R W (tRet (tVar i)) (sRetO i) := by
  intro F B M H σ ρ st w D hs
  unfold sRetO at hs
  cases e : ρ[i]? with
  | none => rw [e] at hs; exact hs.elim
  | some s =>
    rw [e] at hs
    obtain ⟨o, e2, so⟩ := w.slot e
    cases s with
    | own xs =>
      obtain ⟨a, vs, rfl, eb, rs⟩ := so
      have hn : F a = none := (w.pre.fb a).resolve_right (ne_some eb)
      have hm : M a = none := (w.pre.bm a).resolve_left (ne_some eb)
      exact ⟨.ref a, e2, (show EndK P R W F M H (Own ρ σ) D (.rn xs) st from hs) F M H a vs ((ExtS.of (.refl w.pre)).sub fun _ z => z.elim) w.r (.inr ⟨i, _, e, rfl, e2⟩) hn hm (w.pre.b _ _ eb) rs⟩
    | un => exact hs.elim
    | val d => exact hs.elim
    | bor d => exact hs.elim
    | obj C fs => exact hs.elim
def sRetV : GS τ := fun ρ st => some (.rt .non, st)
theorem evs_retV : EvS P R W L2.tRetN sRetV := fun F B M H σ ρ st w D h =>
  (show EndK P R W F M H (Own ρ σ) D (.rt .non) st from h) F M H .non ((ExtS.of (.refl w.pre)).sub fun _ z => z.elim) w.r (by simp only [Rep])
def sDrop (g : GE τ) : GS τ := fun ρ st => thenE (g ρ st) ρ fun _ st => some (.nx ρ, st)
theorem evs_drop {te : TE} {g : GE τ} (h : EvD P R W te g) : EvS P R W (tDrop te) (sDrop g) := by
  intro F B M H σ ρ st w D hs
  refine h F B M H σ ρ st w _ (hs.thenE.mono (fun d st1 h1 F1 M1 H1 v E1 R1 r1 => ?_) fun x st1 z => EndK.kx w z)
  exact (show EndK P R W F M H (Own ρ σ) D (.nx ρ) st1 from h1) F1 B M1 H1 σ (.of E1) (w.ext E1 R1)
/-- target = e -/
def sAsg (t : D → Sl → Option Sl) (g : GE τ) : GS τ := fun ρ st => thenE (g ρ st) ρ fun d st => if borFree d = true then (t d ρ).map fun ρ' => (.nx ρ', st) else none
theorem evs_asg {vs : List Nat} {te : TE} {tg : TG} {t : D → Sl → Option Sl} {g : GE τ} (h : EvD P R W te g) (ht : TgD P R vs tg t) : EvS P R W (tAsg te tg) (sAsg t g) := by
  intro F B M H σ ρ st w D hs
  refine h F B M H σ ρ st w _ (hs.thenE.mono (fun d st1 h1 F1 M1 H1 v E1 R1 r1 => ?_) fun x st1 z => EndK.kx w z)
  obtain ⟨hb, h1⟩ := SatS.ite h1
  cases e : t d ρ with
  | none => rw [e] at h1; exact h1.elim
  | some ρ' =>
    rw [e] at h1
    exact ht F1 B M1 H1 σ ρ st1 d v ρ' (w.ext E1 R1) (r1.rep hb) e _ fun σ' w' _ _ ho =>
      (show EndK P R W F M H (Own ρ σ) D (.nx ρ') st1 from h1) F1 B M1 H1 σ' ((ExtS.of E1).sub ho) w'
/-- name = a new list that is owned from here on -/
def sOwn (i : Nat) (g : GI τ) : GS τ := fun ρ st => thenE (g ρ st) ρ fun ds st => if i < ρ.length then some (.nx (ρ.set i (.own ds)), st) else none
theorem evs_own {i : Nat} {te : TE} {g : GI τ} (h : EvN P R W te g) : EvS P R W (tAsg te (gName i)) (sOwn i g) := by
  intro F B M H σ ρ st w D hs
  refine h F B M H σ ρ st w _ (hs.thenE.mono (fun ds st1 h1 F1 M1 H1 a vs E1 R1 ha hf hm ho rs => ?_) fun x st1 z => EndK.kx w z)
  obtain ⟨hi, h1⟩ := SatS.ite h1
  have w1 := w.ext E1 R1
  have hB : B a = none := w.pre.b.none ha
  have sB : Same B (upd B a (.lst vs)) := same_updP hB
  have noA : ∀ (j : Nat) (s : SV), ρ[j]? = some s → s.isRef = true → σ[j]? ≠ some (some (.ref a)) := fun j s e1 e2 e3 => by
    obtain ⟨o, e4, so⟩ := w.slot e1
    rw [e3] at e4; cases e4
    cases s with
    | un => cases e2
    | val d => cases e2
    | own xs => obtain ⟨a', vs', e5, e6, _⟩ := so; cases e5; rw [hB] at e6; cases e6
    | bor xs => obtain ⟨a', vs', e5, e6, _⟩ := so; cases e5; rw [hB] at e6; cases e6
    | obj C fs => obtain ⟨e5, Ca, dx, vs', _, e6, _⟩ := so; cases e5; rw [hB] at e6; cases e6
  have own_ref : ∀ {s : SV}, s.isOwn = true → s.isRef = true := fun {s} h => by cases s <;> first | rfl | cases h
  refine (show EndK P R W F M H (Own ρ σ) D (.nx (ρ.set i (.own ds))) st1 from h1) F1 (upd B a (.lst vs)) M1 H1 (σ.set i (some (.ref a))) ?_ ⟨⟨w1.pre.f, ?_, w1.pre.m, ?_, w1.pre.fm, ?_⟩, R1, by rw [List.length_set, List.length_set]; exact w.len, ?_, ?_⟩
  · refine ⟨E1.ff, E1.f, E1.m, E1.fm, fun b o h n _ => E1.keep b o h n, E1.there, fun b h n _ => E1.newF b h n, E1.newM, fun b ⟨j, xs, h1, h0, h2⟩ hn => ?_⟩
    by_cases hj : i = j
    · subst hj
      have hl : i < σ.length := by rw [← w.len]; exact hi
      rw [List.getElem?_set_self hl] at h2
      cases h2
      exact absurd ha hn
    · rw [List.getElem?_set_ne hj] at h1 h2
      exact ⟨j, xs, h1, h0, h2⟩
  · intro b o q
    by_cases hb : b = a
    · subst hb; rw [upd_same] at q; cases q; exact ho
    · rw [upd_ne hb] at q; exact w1.pre.b _ _ q
  · intro b
    by_cases hb : b = a
    · subst hb; exact .inl hf
    · rw [upd_ne hb]; exact w1.pre.fb b
  · intro b
    by_cases hb : b = a
    · subst hb; exact .inr hm
    · rw [upd_ne hb]; exact w1.pre.bm b
  · intro j s o h1 h2
    by_cases hj : i = j
    · subst hj
      have hl : i < σ.length := by rw [← w.len]; exact hi
      rw [List.getElem?_set_self hi] at h1
      rw [List.getElem?_set_self hl] at h2
      cases h1; cases h2
      exact ⟨a, vs, rfl, upd_same, rs⟩
    · rw [List.getElem?_set_ne hj] at h1 h2
      have so := w1.sl j s o h1 h2
      cases s with
      | un => trivial
      | val d => exact so
      | own xs => obtain ⟨a', vs', e, q, r⟩ := so; exact ⟨a', vs', e, sB _ _ q, r⟩
      | bor xs => obtain ⟨a', vs', e, q, r⟩ := so; exact ⟨a', vs', e, sB _ _ q, r⟩
      | obj C fs => obtain ⟨e, Ca, dx, vs', m, q, r⟩ := so; exact ⟨e, Ca, dx, vs', m, sB _ _ q, r⟩
  · intro j k s t b hjk h1 h2 hs ht e1
    have hl : i < σ.length := by rw [← w.len]; exact hi
    by_cases hj : i = j
    · subst hj
      rw [List.getElem?_set_self hl] at e1
      cases e1
      rw [List.getElem?_set_ne hjk] at h2 ⊢
      exact noA k t h2 ht
    · rw [List.getElem?_set_ne hj] at h1 e1
      by_cases hk : i = k
      · subst hk
        rw [List.getElem?_set_self hl]
        intro z
        cases z
        exact noA j s h1 (own_ref hs) e1
      · rw [List.getElem?_set_ne hk] at h2 ⊢
        exact w.dj j k s t b hjk h1 h2 hs ht e1
/-- an owned list is a value from here on -/
def fz (i : Nat) (ρ : Sl) : Sl :=
  match ρ[i]? with
  | some (.own xs) => ρ.set i (.val (.lst xs))
  | _ => ρ
def sFz (i : Nat) (g : GS τ) : GS τ := fun ρ st => g (fz i ρ) st
theorem WI.fz {F B M H : Hp} {σ : L2.St} {ρ : Sl} {st : τ} (w : WI P R F B M H σ ρ st) {i : Nat} {a : Addr} {vs : List V} {xs : List D} (hi : ρ[i]? = some (.own xs)) (ha : σ[i]? = some (some (.ref a))) (eb : B a = some (.lst vs)) (rs : Reps P F xs vs) :
    WI P R (upd F a (.lst vs)) (fun b => if b = a then none else B b) M H σ (ρ.set i (.val (.lst xs))) st ∧ ExtS F M H (Own ρ σ) (upd F a (.lst vs)) M H (Own (ρ.set i (.val (.lst xs))) σ) := by
  have hl : i < ρ.length := (List.getElem?_eq_some_iff.mp hi).1
  have hn : F a = none := (w.pre.fb a).resolve_right (ne_some eb)
  have hm : M a = none := (w.pre.bm a).resolve_left (ne_some eb)
  have sF : Same F (upd F a (.lst vs)) := same_updP hn
  have pf : Same (upd F a (.lst vs)) H := fun b o q => by
    by_cases hb : b = a
    · subst hb; rw [upd_same] at q; cases q; exact w.pre.b _ _ eb
    · rw [upd_ne hb] at q; exact w.pre.f _ _ q
  have pm : ∀ b, upd F a (.lst vs) b = none ∨ M b = none := fun b => by
    by_cases hb : b = a
    · subst hb; exact .inr hm
    · rw [upd_ne hb]; exact w.pre.fm b
  have sub : ∀ b, Own (ρ.set i (.val (.lst xs))) σ b → Own ρ σ b := fun b ⟨j, ys, h1, h0, h2⟩ => by
    by_cases hj : i = j
    · subst hj; rw [List.getElem?_set_self hl] at h1; cases h1; cases h0
    · rw [List.getElem?_set_ne hj] at h1; exact ⟨j, ys, h1, h0, h2⟩
  refine ⟨⟨⟨pf, fun b o q => ?_, w.pre.m, fun b => ?_, pm, fun b => ?_⟩, w.r, by rw [List.length_set]; exact w.len, fun j s o h1 h2 => ?_, fun j k s t b hjk h1 h2 hs ht e => ?_⟩, ⟨sF, pf, w.pre.m, pm, fun b o h _ _ => h, fun b h => h, fun b h n z => ?_, fun b _ n => n, fun b h _ => sub b h⟩⟩
  · split at q
    · cases q
    · exact w.pre.b _ _ q
  · by_cases hb : b = a
    · right; rw [if_pos hb]
    · rw [upd_ne hb, if_neg hb]; exact w.pre.fb b
  · by_cases hb : b = a
    · left; rw [if_pos hb]
    · rw [if_neg hb]; exact w.pre.bm b
  · by_cases hj : i = j
    · subst hj
      rw [List.getElem?_set_self hl] at h1
      cases h1
      rw [ha] at h2; cases h2
      exact ⟨.ref a, rfl, by simp only [Rep]; exact ⟨a, vs, rfl, upd_same, rs.mono sF⟩⟩
    · rw [List.getElem?_set_ne hj] at h1
      have so := w.sl j s o h1 h2
      cases s with
      | un => trivial
      | val d => exact SlotOk.mono (s := .val d) sF so
      | own ys =>
        obtain ⟨a', vs', rfl, q, r⟩ := so
        have ne : a' ≠ a := fun z => w.dj i j _ _ a (fun z => hj z) hi h1 rfl rfl ha (by rw [h2, z])
        exact ⟨a', vs', rfl, (if_neg ne).trans q, r.mono sF⟩
      | bor ys =>
        obtain ⟨a', vs', rfl, q, r⟩ := so
        have ne : a' ≠ a := fun z => w.dj i j _ _ a (fun z => hj z) hi h1 rfl rfl ha (by rw [h2, z])
        exact ⟨a', vs', rfl, (if_neg ne).trans q, r.mono sF⟩
      | obj C fs =>
        obtain ⟨e', Ca, dx, vs', m, q, r⟩ := so
        have ne : P.xa ≠ a := fun z => w.dj i j _ _ a (fun z => hj z) hi h1 rfl rfl ha (by rw [h2, e', z])
        exact ⟨e', Ca, dx, vs', m, (if_neg ne).trans q, r.mono sF⟩
  · have hj : i ≠ j := fun z => by subst z; rw [List.getElem?_set_self hl] at h1; cases h1; cases hs
    have hk : i ≠ k := fun z => by subst z; rw [List.getElem?_set_self hl] at h2; cases h2; cases ht
    rw [List.getElem?_set_ne hj] at h1
    rw [List.getElem?_set_ne hk] at h2
    exact w.dj j k s t b hjk h1 h2 hs ht e
  · have hb : b ≠ a := fun q => z (by rw [q]; exact ⟨i, _, hi, rfl, ha⟩)
    rw [upd_ne hb]; exact n
theorem evs_fz {i : Nat} {ts : TS} {g : GS τ} (h : EvS P R W ts g) : EvS P R W ts (sFz i g) := by
  intro F B M H σ ρ st w D hs
  unfold sFz PD.fz at hs
  cases e : ρ[i]? with
  | none => rw [e] at hs; exact h F B M H σ ρ st w D hs
  | some s =>
    rw [e] at hs
    cases s with
    | own xs =>
      obtain ⟨o, e2, a, vs, rfl, eb, rs⟩ := w.slot e
      obtain ⟨w', es⟩ := w.fz e e2 eb rs
      exact h _ _ M H σ _ st w' D (SatS.mono hs fun f st1 q => q.trans es)
    | un => exact h F B M H σ ρ st w D hs
    | val d => exact h F B M H σ ρ st w D hs
    | bor d => exact h F B M H σ ρ st w D hs
    | obj C fs => exact h F B M H σ ρ st w D hs
end
end PD

namespace PD
open PySem PySem.Spec PyProof.Rows L2
section
variable {τ : Type} {P : Pm} {R : τ → Hp → Prop} {W : WX}
/-! ### loops -/
def sForGo (t : D → Sl → Option Sl) (body : GS τ) : List D → Sl → τ → RS τ
  | [], ρ, st => some (.nx ρ, st)
  | d :: ds, ρ, st =>
    match t d ρ with
    | none => none
    | some ρ1 =>
      match body ρ1 st with
      | some (.nx ρ2, st2) => sForGo t body ds ρ2 st2
      | some (.ct ρ2, st2) => sForGo t body ds ρ2 st2
      | some (.bk ρ2, st2) => some (.nx ρ2, st2)
      | r => r
def sFor (gi : GI τ) (t : D → Sl → Option Sl) (body : GS τ) : GS τ := fun ρ st => thenE (gi ρ st) ρ fun ds st => sForGo t body ds ρ st
theorem evs_for {vs : List Nat} {wi : TI} {g : TG} {tb : TS} {gi : GI τ} {t : D → Sl → Option Sl} {body : GS τ} (hi : EvJ P R W wi gi) (ht : TgD P R vs g t) (hb : EvS P R W tb body) : EvS P R W (tFor wi g tb) (sFor gi t body) := by
  intro F B M H σ ρ st w D hs
  refine hi F B M H σ ρ st w _ (hs.thenE.mono (fun ds st1 h1 F1 M1 H1 J E1 R1 ok => ?_) fun x st1 z => EndK.kx w z)
  have w1 := w.ext E1 R1
  refine ⟨fun i m σ2 H2 => m = ds.length - i ∧ i ≤ ds.length ∧ ∃ F2 B2 M2 ρ2 st2, ExtS F1 M1 H1 (Own ρ σ) F2 M2 H2 (Own ρ2 σ2) ∧ WI P R F2 B2 M2 H2 σ2 ρ2 st2 ∧ SatS (sForGo t body (ds.drop i) ρ2 st2) (EndK P R W F M H (Own ρ σ) D), ⟨_, rfl, Nat.zero_le _, F1, B, M1, ρ, st1, .of (.refl w1.pre), w1, h1⟩, ?_⟩
  rintro i m σ2 H2 ⟨rfl, hi, F2, B2, M2, ρ2, st2, E2, w2, sat⟩
  have hnone : Same (fun _ => none) H2 := fun _ _ z => nomatch z
  have base : ExtS F M H (Own ρ σ) F1 M1 H1 (Own ρ σ) := .of E1
  by_cases hlt : i < ds.length
  · have hdrop : ds.drop i = ds[i] :: ds.drop (i + 1) := List.drop_eq_getElem_cons hlt
    rw [hdrop] at sat
    refine .inr ⟨ok.go i H2 (E2.ff.trans E2.f) hnone hlt, fun σ' H' => i + 1 ≤ ds.length ∧ ∃ F2 B2 M2 ρ2 st2, ExtS F1 M1 H1 (Own ρ σ) F2 M2 H' (Own ρ2 σ') ∧ WI P R F2 B2 M2 H' σ' ρ2 st2 ∧ SatS (sForGo t body (ds.drop (i + 1)) ρ2 st2) (EndK P R W F M H (Own ρ σ) D), fun σ' H' ⟨hl, q⟩ => ⟨ds.length - (i + 1), by omega, rfl, hl, q⟩, fun x H' y => ?_⟩
    obtain ⟨d, F3, hd, E3, r3⟩ := ok.yld i F2 B2 M2 H2 x H' hlt w2.pre E2.ff hnone y
    rw [List.getElem?_eq_getElem hlt] at hd
    cases hd
    have w3 := w2.ext E3 w2.r
    unfold sForGo at sat
    cases e : t ds[i] ρ2 with
    | none => rw [e] at sat; exact sat.elim
    | some ρ3 =>
      rw [e] at sat
      refine ht F3 B2 M2 H' σ2 ρ2 st2 _ x ρ3 w3 r3 e _ fun σ4 w4 l4 o4 own4 => ?_
      have E4 : ExtS F1 M1 H1 (Own ρ σ) F3 M2 H' (Own ρ3 σ4) := E2.trans ((ExtS.of E3).sub own4)
      refine hb F3 B2 M2 H' σ4 ρ3 st2 w4 _ ?_
      cases e5 : body ρ3 st2 with
      | none =>
        have sat : SatS (match body ρ3 st2 with | some (.nx ρ2, st2) => sForGo t body (ds.drop (i + 1)) ρ2 st2 | some (.ct ρ2, st2) => sForGo t body (ds.drop (i + 1)) ρ2 st2 | some (.bk ρ2, st2) => some (.nx ρ2, st2) | r => r) (EndK P R W F M H (Own ρ σ) D) := sat
        rw [e5] at sat; exact sat.elim
      | some p =>
        obtain ⟨f, st5⟩ := p
        have sat : SatS (match body ρ3 st2 with | some (.nx ρ2, st2) => sForGo t body (ds.drop (i + 1)) ρ2 st2 | some (.ct ρ2, st2) => sForGo t body (ds.drop (i + 1)) ρ2 st2 | some (.bk ρ2, st2) => some (.nx ρ2, st2) | r => r) (EndK P R W F M H (Own ρ σ) D) := sat
        rw [e5] at sat
        cases f with
        | nx ρ5 => exact fun F6 B6 M6 H6 σ6 E6 w6 => ⟨hlt, F6, B6, M6, ρ5, st5, E4.trans E6, w6, sat⟩
        | ct ρ5 => exact fun F6 B6 M6 H6 σ6 E6 w6 => ⟨hlt, F6, B6, M6, ρ5, st5, E4.trans E6, w6, sat⟩
        | bk ρ5 => exact fun F6 B6 M6 H6 σ6 E6 w6 => (show EndK P R W F M H (Own ρ σ) D (.nx ρ5) st5 from sat) F6 B6 M6 H6 σ6 ((base.trans E4).trans E6) w6
        | rt d => (have q := EndK.trans (W := W) (D := D) (f := .rt d) sat (base.trans E4)); exact q
        | rn d => (have q := EndK.trans (W := W) (D := D) (f := .rn d) sat (base.trans E4)); exact q
        | ex x ρ5 => (have q := EndK.trans (W := W) (D := D) (f := .ex x ρ5) sat (base.trans E4)); exact q
  · have hn : ds.drop i = [] := List.drop_eq_nil_of_le (by omega)
    rw [hn] at sat
    refine .inl ⟨ok.stop i H2 (E2.ff.trans E2.f) hnone (by omega), ?_⟩
    exact (show EndK P R W F M H (Own ρ σ) D (.nx ρ2) st2 from sat) F2 B2 M2 H2 σ2 (base.trans E2) w2
def sWhile (t : GT τ) (body : GS τ) : Nat → GS τ
  | 0, _, _ => none
  | n + 1, ρ, st => thenE (t ρ st) ρ fun c st1 => if c = true then
      match body ρ st1 with
      | some (.nx ρ2, st2) => sWhile t body n ρ2 st2
      | some (.ct ρ2, st2) => sWhile t body n ρ2 st2
      | some (.bk ρ2, st2) => some (.nx ρ2, st2)
      | r => r
    else some (.nx ρ, st1)
theorem evs_while {n : Nat} {tc : TT} {tb : TS} {g : GT τ} {body : GS τ} (hc : EvT P R W tc g) (hb : EvS P R W tb body) : EvS P R W (tWhile tc tb) (sWhile g body n) := by
  intro F B M H σ ρ st w D hs
  refine ⟨fun m σ2 H2 => ∃ F2 B2 M2 ρ2 st2, ExtS F M H (Own ρ σ) F2 M2 H2 (Own ρ2 σ2) ∧ WI P R F2 B2 M2 H2 σ2 ρ2 st2 ∧ SatS (sWhile g body m ρ2 st2) (EndK P R W F M H (Own ρ σ) D), ⟨n, F, B, M, ρ, st, .of (.refl w.pre), w, hs⟩, ?_⟩
  rintro m σ2 H2 ⟨F2, B2, M2, ρ2, st2, E2, w2, sat⟩
  cases m with
  | zero => exact sat.elim
  | succ m =>
    refine hc F2 B2 M2 H2 σ2 ρ2 st2 w2 _ (sat.thenE.mono (fun c st3 h3 F3 M3 H3 E3 R3 => ?_) fun x st3 z => EndK.kx w2 (EndK.trans z E2))
    have w3 := w2.ext E3 R3
    have E3' := E2.trans (ExtS.of E3)
    cases c with
    | false =>
      rw [if_neg Bool.false_ne_true] at h3
      exact iteF ((show EndK P R W F M H (Own ρ σ) D (.nx ρ2) st3 from h3) F3 B2 M3 H3 σ2 E3' w3)
    | true =>
      rw [if_pos rfl] at h3
      refine iteT ⟨fun σ' H' => ∃ F2 B2 M2 ρ2 st2, ExtS F M H (Own ρ σ) F2 M2 H' (Own ρ2 σ') ∧ WI P R F2 B2 M2 H' σ' ρ2 st2 ∧ SatS (sWhile g body m ρ2 st2) (EndK P R W F M H (Own ρ σ) D), fun σ' H' q => ⟨m, Nat.lt_succ_self m, q⟩, hb F3 B2 M3 H3 σ2 ρ2 st3 w3 _ ?_⟩
      cases e5 : body ρ2 st3 with
      | none => rw [e5] at h3; exact h3.elim
      | some p =>
        obtain ⟨f, st5⟩ := p
        rw [e5] at h3
        cases f with
        | nx ρ5 => exact fun F6 B6 M6 H6 σ6 E6 w6 => ⟨F6, B6, M6, ρ5, st5, E3'.trans E6, w6, h3⟩
        | ct ρ5 => exact fun F6 B6 M6 H6 σ6 E6 w6 => ⟨F6, B6, M6, ρ5, st5, E3'.trans E6, w6, h3⟩
        | bk ρ5 => exact fun F6 B6 M6 H6 σ6 E6 w6 => (show EndK P R W F M H (Own ρ σ) D (.nx ρ5) st5 from h3) F6 B6 M6 H6 σ6 (E3'.trans E6) w6
        | rt d => (have q := EndK.trans (W := W) (D := D) (f := .rt d) h3 E3'); exact q
        | rn d => (have q := EndK.trans (W := W) (D := D) (f := .rn d) h3 E3'); exact q
        | ex x ρ5 => (have q := EndK.trans (W := W) (D := D) (f := .ex x ρ5) h3 E3'); exact q

/-! ### what changes an owned list -/
def ownOf : Option SV → Option (List D)
  | some (.own xs) => some xs
  | _ => none
theorem ownOf_some {s : Option SV} {xs : List D} (h : ownOf s = some xs) : s = some (.own xs) := by
  match s, h with
  | some (.own _), h => cases h; rfl
theorem WI.mutO {F B M H : Hp} {σ : L2.St} {ρ : Sl} {st : τ} (w : WI P R F B M H σ ρ st) {i : Nat} {a : Addr} {s0 s1 : SV} {o0 o1 : HO} (hi : ρ[i]? = some s0) (hs0 : s0.isOwn = true) (hs1 : s1.isOwn = true) (ha : σ[i]? = some (some (.ref a))) (eb : B a = some o0)
    (hso : SlotOk P F (upd B a o1) s1 (some (.ref a))) :
    WI P R F (upd B a o1) M (upd H a o1) σ (ρ.set i s1) st ∧ ExtS F M H (Own ρ σ) F M (upd H a o1) (Own (ρ.set i s1) σ) := by
  have hl : i < ρ.length := (List.getElem?_eq_some_iff.mp hi).1
  have hn : F a = none := (w.pre.fb a).resolve_right (ne_some eb)
  have hm : M a = none := (w.pre.bm a).resolve_left (ne_some eb)
  have own_ref : ∀ {s : SV}, s.isOwn = true → s.isRef = true := fun {s} h => by cases s <;> first | rfl | cases h
  have pf : Same F (upd H a o1) := fun b o q => by rw [upd_ne (ne_of_none q hn)]; exact w.pre.f _ _ q
  have pm : Same M (upd H a o1) := fun b o q => by rw [upd_ne (ne_of_none q hm)]; exact w.pre.m _ _ q
  have sub : ∀ b, Own (ρ.set i s1) σ b → Own ρ σ b := fun b ⟨j, s, h1, h0, h2⟩ => by
    by_cases hj : i = j
    · subst hj; exact ⟨i, s0, hi, hs0, h2⟩
    · rw [List.getElem?_set_ne hj] at h1; exact ⟨j, s, h1, h0, h2⟩
  refine ⟨⟨⟨pf, fun b o q => ?_, pm, fun b => ?_, w.pre.fm, fun b => ?_⟩, w.r, by rw [List.length_set]; exact w.len, fun j s o h1 h2 => ?_, fun j k s t b hjk h1 h2 hs ht e => ?_⟩, ⟨.refl F, pf, pm, w.pre.fm, fun b o h _ z => ?_, fun b h => ?_, fun b h n z => n, fun b _ n => n, fun b h _ => sub b h⟩⟩
  · by_cases hb : b = a
    · subst hb; rw [upd_same] at q ⊢; exact q
    · rw [upd_ne hb] at q ⊢; exact w.pre.b _ _ q
  · by_cases hb : b = a
    · subst hb; exact .inl hn
    · rw [upd_ne hb]; exact w.pre.fb b
  · by_cases hb : b = a
    · subst hb; exact .inr hm
    · rw [upd_ne hb]; exact w.pre.bm b
  · by_cases hj : i = j
    · subst hj
      rw [List.getElem?_set_self hl] at h1
      cases h1
      rw [ha] at h2; cases h2
      exact hso
    · rw [List.getElem?_set_ne hj] at h1
      have so := w.sl j s o h1 h2
      have away : ∀ b, o = some (.ref b) → s.isRef = true → b ≠ a := fun b e q z => w.dj i j _ _ a (fun z => hj z) hi h1 hs0 q ha (by rw [h2, e, z])
      cases s with
      | un => trivial
      | val d => exact so
      | own zs =>
        obtain ⟨a', vs', e, q, r⟩ := so
        exact ⟨a', vs', e, by rw [upd_ne (away _ e rfl)]; exact q, r⟩
      | bor zs =>
        obtain ⟨a', vs', e, q, r⟩ := so
        exact ⟨a', vs', e, by rw [upd_ne (away _ e rfl)]; exact q, r⟩
      | obj C fs =>
        obtain ⟨e, Ca, dx, vs', m, q, r⟩ := so
        exact ⟨e, Ca, dx, vs', m, by rw [upd_ne (away _ e rfl)]; exact q, r⟩
  · by_cases hj : i = j
    · subst hj
      rw [List.getElem?_set_ne hjk] at h2
      exact w.dj i k s0 t b hjk hi h2 hs0 ht e
    · rw [List.getElem?_set_ne hj] at h1
      by_cases hk : i = k
      · subst hk
        exact w.dj j i s s0 b hjk h1 hi hs (own_ref hs0) e
      · rw [List.getElem?_set_ne hk] at h2
        exact w.dj j k s t b hjk h1 h2 hs ht e
  · have hb : b ≠ a := fun q => z (by rw [q]; exact ⟨i, s0, hi, hs0, ha⟩)
    rw [upd_ne hb]; exact h
  · by_cases hb : b = a
    · subst hb; rw [upd_same]; exact nofun
    · rw [upd_ne hb]; exact h
theorem WI.mut {F B M H : Hp} {σ : L2.St} {ρ : Sl} {st : τ} (w : WI P R F B M H σ ρ st) {i : Nat} {a : Addr} {xs : List D} (hi : ρ[i]? = some (.own xs)) (ha : σ[i]? = some (some (.ref a))) {ws : List V} {ys : List D} {vs0 : List V} (eb : B a = some (.lst vs0)) (rs : Reps P F ys ws) :
    WI P R F (upd B a (.lst ws)) M (upd H a (.lst ws)) σ (ρ.set i (.own ys)) st ∧ ExtS F M H (Own ρ σ) F M (upd H a (.lst ws)) (Own (ρ.set i (.own ys)) σ) :=
  w.mutO hi rfl rfl ha eb ⟨a, ws, rfl, upd_same, rs⟩
theorem WI.own {F B M H : Hp} {σ : L2.St} {ρ : Sl} {st : τ} (w : WI P R F B M H σ ρ st) {i : Nat} {xs : List D} (h : ρ[i]? = some (.own xs)) : ∃ a vs, σ[i]? = some (some (.ref a)) ∧ B a = some (.lst vs) ∧ H a = some (.lst vs) ∧ Reps P F xs vs := by
  obtain ⟨o, e2, a, vs, rfl, eb, rs⟩ := w.slot h
  exact ⟨a, vs, e2, eb, w.pre.b _ _ eb, rs⟩
/-- xs.append(e), xs in slot i -/
def sApp (i : Nat) (g : GE τ) : GS τ := fun ρ st => if (ownOf ρ[i]?).isSome = true then thenE (g ρ st) ρ fun d st =>
    match ownOf ρ[i]? with
    | some xs => if borFree d = true ∧ xs.length < line then some (.nx (ρ.set i (.own (xs ++ [d]))), st) else none
    | none => none
  else none
theorem evs_app {i : Nat} {te : TE} {g : GE τ} (h : EvD P R W te g) : EvS P R W (tDrop (tBM P.K "list" rAppend (tVar i) (tCons te tNil))) (sApp i g) := by
  intro F B M H σ ρ st w D hs
  obtain ⟨ho, hs⟩ := SatS.ite hs
  obtain ⟨xs, e⟩ := Option.isSome_iff_exists.mp ho
  have hi := ownOf_some e
  obtain ⟨a, vs, ha, eb, eh, rs⟩ := w.own hi
  refine ⟨.ref a, ha, .inl ⟨rfl, vs, .of eh⟩, h F B M H σ ρ st w _ (hs.thenE.mono (fun d st1 h1 F1 M1 H1 v E1 R1 r1 => ?_) fun x st1 z => EndK.kx w z)⟩
  rw [e] at h1
  obtain ⟨⟨bf, hl⟩, h1⟩ := SatS.ite h1
  have w1 := w.ext E1 R1
  have rs1 := rs.mono E1.ff
  obtain ⟨w2, E2⟩ := w1.mut (ws := vs ++ [v]) (ys := xs ++ [d]) hi ha eb (rs1.append (.one (r1.rep bf)))
  refine ⟨a, vs, v, rfl, rfl, w1.pre.b _ _ eb, by rw [line_eq, ← rs.length]; exact hl, ?_⟩
  exact (show EndK P R W F M H (Own ρ σ) D (.nx (ρ.set i (.own (xs ++ [d])))) st1 from h1) F1 _ M1 _ σ ((ExtS.of E1).trans E2) w2
/-- xs.append(ys.pop(e)) -/
def sAppPop (i j : Nat) (g : GE τ) : GS τ := fun ρ st => if ((ownOf ρ[i]?).isSome = true ∧ (ownOf ρ[j]?).isSome = true) ∧ i ≠ j then thenE (g ρ st) ρ fun d st =>
    match ownOf ρ[i]?, ownOf ρ[j]?, intOf d with
    | some xs, some ys, some k => if xs.length < line ∧ 0 ≤ k ∧ k < 2 ^ 63 then
        match ys[k.toNat]? with
        | some y => some (.nx ((ρ.set j (.own (ys.eraseIdx k.toNat))).set i (.own (xs ++ [y]))), st)
        | none => none
      else none
    | _, _, _ => none
  else none
theorem evs_appPop {i j : Nat} {te : TE} {g : GE τ} (h : EvD P R W te g) :
    EvS P R W (tDrop (tBM P.K "list" rAppend (tVar i) (tCons (tBM P.K "list" rPopAt (tVar j) (tCons te tNil)) tNil))) (sAppPop i j g) := by
  intro F B M H σ ρ st w D hs
  obtain ⟨⟨⟨ho, hp⟩, hij⟩, hs⟩ := SatS.ite hs
  obtain ⟨xs, e⟩ := Option.isSome_iff_exists.mp ho
  obtain ⟨ys, e'⟩ := Option.isSome_iff_exists.mp hp
  have hi := ownOf_some e
  have hj := ownOf_some e'
  obtain ⟨a, vs, ha, eb, eh, rs⟩ := w.own hi
  obtain ⟨b, ws, hb, ebb, ehb, rsb⟩ := w.own hj
  refine ⟨.ref a, ha, .inl ⟨rfl, vs, .of eh⟩, .ref b, hb, .inl ⟨rfl, ws, .of ehb⟩, h F B M H σ ρ st w _ (hs.thenE.mono (fun d st1 h1 F1 M1 H1 v E1 R1 r1 => ?_) fun x st1 z => EndK.kx w z)⟩
  rw [e, e'] at h1
  cases d
  case int k =>
    simp only [intOf] at h1
    obtain ⟨⟨hl, k0, k1⟩, h1⟩ := SatS.ite h1
    have : v = .int k := r1
    subst this
    cases ey : ys[k.toNat]? with
    | none => rw [ey] at h1; exact h1.elim
    | some y =>
      rw [ey] at h1
      have w1 := w.ext E1 R1
      have rsb1 := rsb.mono E1.ff
      obtain ⟨u, eu, ru⟩ := rsb1.get ey
      have hlen : k.toNat < ws.length := (List.getElem?_eq_some_iff.mp eu).1
      have hk : seqIndex? k ws.length = some k.toNat := PySem.seqIndex_of k0 (by omega)
      obtain ⟨w2, E2⟩ := w1.mut (ws := ws.eraseIdx k.toNat) (ys := ys.eraseIdx k.toNat) hj hb ebb (rsb1.eraseIdx _)
      have hi2 : (ρ.set j (.own (ys.eraseIdx k.toNat)))[i]? = some (.own xs) := by rw [List.getElem?_set_ne (fun z => hij z.symm)]; exact hi
      have nab : a ≠ b := fun z => w.dj i j _ _ a hij hi hj rfl rfl ha (by rw [hb, z])
      have eb2 : upd B b (.lst (ws.eraseIdx k.toNat)) a = some (.lst vs) := by rw [upd_ne nab]; exact eb
      obtain ⟨w3, E3⟩ := w2.mut (ws := vs ++ [u]) (ys := xs ++ [y]) hi2 ha eb2 ((rs.mono E1.ff).append (.one ru))
      refine ⟨b, ws, k, k.toNat, u, rfl, rfl, w1.pre.b _ _ ebb, by omega, k1, hk, eu, a, vs, u, rfl, rfl, ?_, by rw [line_eq, ← rs.length]; exact hl, ?_⟩
      · rw [upd_ne nab]; exact w1.pre.b _ _ eb
      · exact (show EndK P R W F M H (Own ρ σ) D (.nx _) st1 from h1) F1 _ M1 _ σ (((ExtS.of E1).trans E2).trans E3) w3
  all_goals exact (show False from h1).elim
/-- xs[e1] = e2, xs in slot i -/
def sPut (i : Nat) (gv gk : GE τ) : GS τ := fun ρ st => if (ownOf ρ[i]?).isSome = true then thenE (gv ρ st) ρ fun d st => thenE (gk ρ st) ρ fun k st =>
    match ownOf ρ[i]?, intOf k with
    | some xs, some k => if borFree d = true then
        match ixN xs.length k with
        | some j => some (.nx (ρ.set i (.own (xs.set j d))), st)
        | none => none
      else none
    | _, _ => none
  else none
theorem evs_put {i : Nat} {tv tk : TE} {gv gk : GE τ} (hv : EvD P R W tv gv) (hk : EvD P R W tk gk) : EvS P R W (tAsg tv (gSub (tVar i) tk rSetL)) (sPut i gv gk) := by
  intro F B M H σ ρ st w D hs
  obtain ⟨ho, hs⟩ := SatS.ite hs
  obtain ⟨xs, e⟩ := Option.isSome_iff_exists.mp ho
  have hi := ownOf_some e
  obtain ⟨a, vs, ha, eb, eh, rs⟩ := w.own hi
  refine hv F B M H σ ρ st w _ (hs.thenE.mono (fun d st1 h1 F1 M1 H1 v E1 R1 r1 => ?_) fun x st1 z => EndK.kx w z)
  have w1 := w.ext E1 R1
  refine ⟨.ref a, ha, hk F1 B M1 H1 σ ρ st1 w1 _ (SatS.thenE h1 |>.mono (fun k st2 h2 F2 M2 H2 u E2 R2 r2 => ?_) fun x st1 z => EndK.kx w1 (EndK.trans z (.of E1)))⟩
  rw [e] at h2
  cases k
  case int k =>
    simp only [intOf] at h2
    obtain ⟨bf, h2⟩ := SatS.ite h2
    have : u = .int k := r2
    subst this
    cases ej : ixN xs.length k with
    | none => rw [ej] at h2; exact h2.elim
    | some j =>
      rw [ej] at h2
      have w2 := w1.ext E2 R2
      have rs2 := (rs.mono E1.ff).mono E2.ff
      obtain ⟨w3, E3⟩ := w2.mut (ws := vs.set j v) (ys := xs.set j d) hi ha eb (Reps.set ((r1.rep bf).mono E2.ff) j rs2)
      refine ⟨a, vs, k, j, rfl, rfl, w2.pre.b _ _ eb, by rw [← rs.length]; exact ej, ?_⟩
      exact (show EndK P R W F M H (Own ρ σ) D (.nx _) st2 from h2) F2 _ M2 _ σ (((ExtS.of E1).trans (.of E2)).trans E3) w3
  all_goals exact (show False from h2).elim

/-! ### defs -/
/-- n arguments; m says what comes back; the state stands somewhere (sa) -/
def spD (K : PySem.W.Frag) (mg : Str → Option Value) (Rf : Addr → τ → Hp → Prop) (n : Nat) (m : List D → τ → Res τ D) : Sp := fun vs H Q E => vs.length = n ∧ ∃ sa xa F B M ds st, Pre F B M H ∧ Rf sa st M ∧ RepBs ⟨K, mg, sa, xa⟩ F B ds vs ∧
  Sat (m ds st) (fun d st' => ∀ F' M' H' v, Ext F M H F' M' H' → Rf sa st' M' → Rep ⟨K, mg, sa, xa⟩ F' d v → Q v H') (fun x st' => ∀ F' M' H' c dd, Ext F M H F' M' H' → Rf sa st' M' → XRep ⟨K, mg, sa, xa⟩ F' x c dd H' → E c dd H')
/-- the same, the result a new list that nobody else knows -/
def spN (K : PySem.W.Frag) (mg : Str → Option Value) (Rf : Addr → τ → Hp → Prop) (n : Nat) (m : List D → τ → Res τ (List D)) : Sp := fun vs H Q E => vs.length = n ∧ ∃ sa xa F B M ds st, Pre F B M H ∧ Rf sa st M ∧ RepBs ⟨K, mg, sa, xa⟩ F B ds vs ∧
  Sat (m ds st) (fun ds st' => ∀ F' M' H' a vs, Ext F M H F' M' H' → Rf sa st' M' → H a = none → F' a = none → M' a = none → H' a = some (.lst vs) → Reps ⟨K, mg, sa, xa⟩ F' ds vs → Q (.ref a) H')
    (fun x st' => ∀ F' M' H' c dd, Ext F M H F' M' H' → Rf sa st' M' → XRep ⟨K, mg, sa, xa⟩ F' x c dd H' → E c dd H')
def gCall (m : List D → τ → Res τ D) (a : GA τ) : GE τ := fun ρ st => (a ρ st).bind m
def gCallN (m : List D → τ → Res τ (List D)) (a : GA τ) : GI τ := fun ρ st => (a ρ st).bind m
theorem evd_call {Rf : Addr → τ → Hp → Prop} {n : Nat} {m : List D → τ → Res τ D} {ta : TA} {a : GA τ} (hl : ∀ ρ st ds st', a ρ st = .ok ds st' → ds.length = n) (ha : EvA P (Rf P.sa) W ta a) : EvD P (Rf P.sa) W (tCallS (spD P.K P.mg Rf n m) (WE W) ta) (gCall m a) := by
  intro F B M H σ ρ st w Q hs
  have hs := Sat.bind hs
  have q := ha F B M H σ ρ st w
  cases e : a ρ st with
  | stuck => rw [e] at hs; exact hs.elim
  | err x st1 => rw [e] at hs q; exact q _ hs
  | ok ds st1 =>
    rw [e] at hs q
    refine q _ fun F1 M1 H1 vs E1 R1 rs => ⟨by rw [← rs.length]; exact hl ρ st ds st1 e, P.sa, P.xa, F1, B, M1, ds, st1, w.pre.ext E1, R1, rs, ?_⟩
    exact (show Sat (m ds st1) _ _ from hs).mono (fun d st2 h2 F' M' H' v E r r2 => h2 F' M' H' v (E1.trans E) r r2.b) fun x st2 h2 F' M' H' c dd E r x => h2 F' M' H' c dd (E1.trans E) r x
theorem evn_call {Rf : Addr → τ → Hp → Prop} {n : Nat} {m : List D → τ → Res τ (List D)} {ta : TA} {a : GA τ} (hl : ∀ ρ st ds st', a ρ st = .ok ds st' → ds.length = n) (ha : EvA P (Rf P.sa) W ta a) : EvN P (Rf P.sa) W (tCallS (spN P.K P.mg Rf n m) (WE W) ta) (gCallN m a) := by
  intro F B M H σ ρ st w Q hs
  have hs := Sat.bind hs
  have q := ha F B M H σ ρ st w
  cases e : a ρ st with
  | stuck => rw [e] at hs; exact hs.elim
  | err x st1 => rw [e] at hs q; exact q _ hs
  | ok ds st1 =>
    rw [e] at hs q
    refine q _ fun F1 M1 H1 vs E1 R1 rs => ⟨by rw [← rs.length]; exact hl ρ st ds st1 e, P.sa, P.xa, F1, B, M1, ds, st1, w.pre.ext E1, R1, rs, ?_⟩
    refine (show Sat (m ds st1) _ _ from hs).mono (fun d st2 h2 F' M' H' a vs E r ha hf hm ho rs => h2 F' M' H' a vs (E1.trans E) r ?_ hf hm ho rs) fun x st2 h2 F' M' H' c dd E r x => h2 F' M' H' c dd (E1.trans E) r x
    cases q : H a with
    | none => rfl
    | some o => exact absurd ha (E1.there a (ne_some q))
theorem gCons_len {n : Nat} {g : GE τ} {r : GA τ} (h : ∀ ρ st ds st', r ρ st = .ok ds st' → ds.length = n) : ∀ ρ st ds st', gCons g r ρ st = .ok ds st' → ds.length = n + 1 := by
  intro ρ st ds st' e
  unfold gCons at e
  cases e1 : g ρ st with
  | stuck => rw [e1] at e; cases e
  | err x st1 => rw [e1] at e; cases e
  | ok d st1 =>
    rw [e1] at e
    have e : (r ρ st1).bind (fun ds st => .ok (d :: ds) st) = .ok ds st' := e
    cases e2 : r ρ st1 with
    | stuck => rw [e2] at e; cases e
    | err x st2 => rw [e2] at e; cases e
    | ok es st2 =>
      rw [e2] at e
      cases e
      rw [List.length_cons, h _ _ _ _ e2]
theorem gNil_len : ∀ (ρ : Sl) (st : τ) ds st', gNil ρ st = .ok ds st' → ds.length = 0 := by
  intro ρ st ds st' e
  cases e; rfl
def slOf : D → SV
  | .bor xs => .bor xs
  | d => .val d
/-- a def's body as a function of its arguments: N slots in all -/
def gFn (N : Nat) (g : GS τ) : List D → τ → Res τ D := fun ds st =>
  match g (ds.map slOf ++ List.replicate (N - ds.length) .un) st with
  | some (.rt d, st') => .ok d st'
  | some (.rn xs, st') => .ok (.lst xs) st'
  | some (.nx _, st') => .ok .non st'
  | some (.ex x _, st') => .err x st'
  | _ => .stuck
def gFnN (N : Nat) (g : GS τ) : List D → τ → Res τ (List D) := fun ds st =>
  match g (ds.map slOf ++ List.replicate (N - ds.length) .un) st with
  | some (.rn xs, st') => .ok xs st'
  | some (.ex x _, st') => .err x st'
  | _ => .stuck
theorem wi_start {F B M H : Hp} {N : List Str} {ds : List D} {vs : List V} {st : τ} (p : Pre F B M H) (r : R st M) (rs : RepBs P F B ds vs) (hn : ds.length ≤ N.length) :
    WI P R F B M H (L2.start N vs) (ds.map slOf ++ List.replicate (N.length - ds.length) .un) st := by
  have hlen := rs.length
  have get : ∀ {ds : List D} {vs : List V} (i : Nat) (d : D), RepBs P F B ds vs → ds[i]? = some d → ∃ v, vs[i]? = some v ∧ RepB P F B d v := by
    intro ds
    induction ds with
    | nil => intro vs i d _ h; simp at h
    | cons x ds ih =>
      intro vs i d ⟨v, ws, e, r, rs⟩ h
      subst e
      cases i with
      | zero => simp at h; subst h; exact ⟨v, rfl, r⟩
      | succ i => simpa using ih i d rs (by simpa using h)
  have noOwn : ∀ (i : Nat) (s : SV), (ds.map slOf ++ List.replicate (N.length - ds.length) .un)[i]? = some s → s.isOwn = false := by
    intro i s h
    have hm := List.mem_of_getElem? h
    rcases List.mem_append.mp hm with hm | hm
    · obtain ⟨d, _, rfl⟩ := List.mem_map.mp hm
      cases d <;> rfl
    · rw [List.eq_of_mem_replicate hm]; rfl
  refine ⟨p, r, ?_, fun i s o h1 h2 => ?_, fun i j s t a hij h1 h2 ho _ _ => ?_⟩
  · unfold L2.start
    simp only [List.length_append, List.length_map, List.length_replicate]
    omega
  · by_cases hi : i < ds.length
    · rw [List.getElem?_append_left (by simpa using hi), List.getElem?_map] at h1
      obtain ⟨d, e1⟩ : ∃ d, ds[i]? = some d := ⟨_, List.getElem?_eq_getElem hi⟩
      rw [e1] at h1
      cases h1
      obtain ⟨v, e2, r2⟩ := get i d rs e1
      unfold L2.start at h2
      rw [List.getElem?_append_left (by rw [List.length_map]; omega), List.getElem?_map, e2] at h2
      cases h2
      cases d
      case bor xs =>
        obtain ⟨a, ws, rfl, q, rr⟩ := r2
        exact ⟨a, ws, rfl, q, rr⟩
      all_goals exact ⟨v, rfl, r2⟩
    · rw [List.getElem?_append_right (by simpa using hi), List.getElem?_replicate] at h1
      split at h1
      · cases h1; trivial
      · cases h1
  · rw [noOwn i s h1] at ho; cases ho
end
section
variable {τ : Type} {K : PySem.W.Frag} {mg : Str → Option Value} {Rf : Addr → τ → Hp → Prop}
/-- THE RULE for a def: its body's term, and what that term comes to -/
theorem fn_d {Pr : Program} {w : World} {base : Heap} {x qual : Str} {stm : Stmt} {f : Addr} {fd : FuncData} {N ps : List Str} {k n : Nat} {g : GS τ} (F : Fun K x qual stm f fd) (S : FnScope N ps (defScope stm)) (hn : ps.length = n) (hN : n ≤ N.length)
    (hbody : ∀ (sa xa : Addr) (cdv : Value) (A : Around) (outer : List Env) (s : Shared) (H : Hp) (E : XK), Room k (A.deeper (envOfC qual (defScope stm) s.heap.objs.size f cdv)) →
      ∃ t, PSs (cxOf (L2.CX Pr w) Pr w K mg base N qual (defScope stm) f cdv A outer s H E) (defBody stm) t ∧ EvS ⟨K, mg, sa, xa⟩ (Rf sa) (fun c d _ H' => E c d H') t g) :
    FnOk Pr w K mg base (L2.CX Pr w) (k + 1) f fd ps (spD K mg Rf n (gFn N.length g)) := by
  refine F.okX S (fun vs H Q E h => by rw [hn]; exact h.1) (fun cdv A outer s H vs Q E hr h => ?_)
  obtain ⟨hv, sa, xa, F0, B, M, ds, st, p, r, rs, sat⟩ := h
  obtain ⟨t, ht, hev⟩ := hbody sa xa cdv A outer s H E hr
  have hl : ds.length = n := by rw [rs.length]; exact hv
  refine ⟨t, ht, hev F0 B M H _ _ st (wi_start p r rs (by rw [hl]; exact hN)) _ ?_⟩
  have own0 : ∀ a, ¬ Own (ds.map slOf ++ List.replicate (N.length - ds.length) .un) (L2.start N vs) a := fun a ⟨i, xs, h1, h0, _⟩ => by
    have hm := List.mem_of_getElem? h1
    rcases List.mem_append.mp hm with hm | hm
    · obtain ⟨d, _, e⟩ := List.mem_map.mp hm
      cases d <;> cases e <;> cases h0
    · have := List.eq_of_mem_replicate hm
      subst this
      cases h0
  have toE : ∀ {F' M' H' : Hp} {O' : Addr → Prop}, ExtS F0 M H (Own (ds.map slOf ++ List.replicate (N.length - ds.length) .un) (L2.start N vs)) F' M' H' O' → Ext F0 M H F' M' H' := fun e =>
    ⟨e.ff, e.f, e.m, fun a o h n => e.keep a o h n (own0 a), e.there, fun a h n => e.newF a h n (own0 a), e.newM, e.fm⟩
  unfold gFn at sat
  cases e : g (ds.map slOf ++ List.replicate (N.length - ds.length) .un) st with
  | none => rw [e] at sat; exact sat.elim
  | some q =>
    obtain ⟨fl, st'⟩ := q
    rw [e] at sat
    cases fl with
    | rt d => exact fun F' M' H' v e r q => sat F' M' H' v (toE e) r q
    | rn xs =>
      refine fun F' M' H' a vs e r ha hf hm ho rs => ?_
      have ha' : H a = none := ha.resolve_right (own0 a)
      exact sat _ M' H' (.ref a) ((toE e).freeze ha' hm ho hf) r (by simp only [Rep]; exact ⟨a, vs, rfl, upd_same, rs.mono (same_updP hf)⟩)
    | nx ρ' => exact fun F' B' M' H' σ' e w => sat F' M' H' .non (toE e) w.r (by simp only [Rep])
    | ex x ρ' => exact fun F' B' M' H' σ' c dd e w q => sat F' M' H' c dd (toE e) w.r q
    | bk ρ' => exact sat.elim
    | ct ρ' => exact sat.elim
theorem fn_n {Pr : Program} {w : World} {base : Heap} {x qual : Str} {stm : Stmt} {f : Addr} {fd : FuncData} {N ps : List Str} {k n : Nat} {g : GS τ} (F : Fun K x qual stm f fd) (S : FnScope N ps (defScope stm)) (hn : ps.length = n) (hN : n ≤ N.length)
    (hbody : ∀ (sa xa : Addr) (cdv : Value) (A : Around) (outer : List Env) (s : Shared) (H : Hp) (E : XK), Room k (A.deeper (envOfC qual (defScope stm) s.heap.objs.size f cdv)) →
      ∃ t, PSs (cxOf (L2.CX Pr w) Pr w K mg base N qual (defScope stm) f cdv A outer s H E) (defBody stm) t ∧ EvS ⟨K, mg, sa, xa⟩ (Rf sa) (fun c d _ H' => E c d H') t g) :
    FnOk Pr w K mg base (L2.CX Pr w) (k + 1) f fd ps (spN K mg Rf n (gFnN N.length g)) := by
  refine F.okX S (fun vs H Q E h => by rw [hn]; exact h.1) (fun cdv A outer s H vs Q E hr h => ?_)
  obtain ⟨hv, sa, xa, F0, B, M, ds, st, p, r, rs, sat⟩ := h
  obtain ⟨t, ht, hev⟩ := hbody sa xa cdv A outer s H E hr
  have hl : ds.length = n := by rw [rs.length]; exact hv
  refine ⟨t, ht, hev F0 B M H _ _ st (wi_start p r rs (by rw [hl]; exact hN)) _ ?_⟩
  have own0 : ∀ a, ¬ Own (ds.map slOf ++ List.replicate (N.length - ds.length) .un) (L2.start N vs) a := fun a ⟨i, xs, h1, h0, _⟩ => by
    have hm := List.mem_of_getElem? h1
    rcases List.mem_append.mp hm with hm | hm
    · obtain ⟨d, _, e⟩ := List.mem_map.mp hm
      cases d <;> cases e <;> cases h0
    · have := List.eq_of_mem_replicate hm
      subst this
      cases h0
  have toE : ∀ {F' M' H' : Hp} {O' : Addr → Prop}, ExtS F0 M H (Own (ds.map slOf ++ List.replicate (N.length - ds.length) .un) (L2.start N vs)) F' M' H' O' → Ext F0 M H F' M' H' := fun e =>
    ⟨e.ff, e.f, e.m, fun a o h n => e.keep a o h n (own0 a), e.there, fun a h n => e.newF a h n (own0 a), e.newM, e.fm⟩
  unfold gFnN at sat
  cases e : g (ds.map slOf ++ List.replicate (N.length - ds.length) .un) st with
  | none => rw [e] at sat; exact sat.elim
  | some q =>
    obtain ⟨fl, st'⟩ := q
    rw [e] at sat
    cases fl with
    | rt d => exact sat.elim
    | rn xs => exact fun F' M' H' a vs e r ha hf hm ho rs => sat F' M' H' a vs (toE e) r (ha.resolve_right (own0 a)) hf hm ho rs
    | nx ρ' => exact sat.elim
    | ex x ρ' => exact fun F' B' M' H' σ' c dd e w q => sat F' M' H' c dd (toE e) w.r q
    | bk ρ' => exact sat.elim
    | ct ρ' => exact sat.elim
end
end PD

namespace PD
open PySem PySem.Spec PyProof.Rows L2
section
variable {X : Cx}
theorem get_list : PGet X (rIxL X.K) := by
  intro pins s σ H x y v u Q I rx ry h
  obtain ⟨p, xs, i, z, rfl, rfl, hq, he, q⟩ := h
  cases rx
  obtain ⟨t, rfl⟩ := ry
  obtain ⟨its, r, pl, hz⟩ := I.list hq
  obtain ⟨j, h1, h2, h3, h4, h5⟩ := atI_get he
  obtain ⟨w, ew, rw'⟩ := r.get h2
  have hl := r.length
  have hn := line63
  have fin : EP X pins σ Q w s := ⟨z, H, I, rw', q⟩
  by_cases h0 : 0 ≤ i
  · have hj : i.toNat = j := by
      rw [seqIndex_of h0 h5] at h1
      exact Option.some.inj h1
    exact wpAny_getItem_list pl.isList h0 (by omega) (by rw [hj]; simpa using ew) fin
  · have hj : (i + (its.toArray.size : Int)).toNat = j := by
      rw [PySem.seqIndex_neg (by omega) h4] at h1
      rw [List.size_toArray, ← hl]
      exact Option.some.inj h1
    exact wpAny_getItem_list_neg pl.isList (by omega) (by rw [List.size_toArray] <;> omega) (by omega) (by rw [hj]; simpa using ew) fin
def revStr (z : Str) : Str := ⟨z.cps.toList.reverse.toArray⟩
theorem revStr_length (z : Str) : (revStr z).length = z.length := by
  show (z.cps.toList.reverse.toArray).size = z.cps.size
  rw [List.size_toArray, List.length_reverse, Array.length_toList]
def tRevS (te : TE) : TE := fun σ H Q => te σ H fun x H1 => ∃ z, x = .str z ∧ z.length ≤ sizeLine ∧ Q (.str (revStr z)) H1
theorem slice_rev (n : Nat) : Builtin.Str.strSliceIndices none none (-1) n = (List.range n).reverse := by
  unfold Builtin.Str.strSliceIndices
  show sliceRange ((n : Int) - 1) (-1) (-1) = _
  rw [PySem.W.krv_sliceRange, PySem.W.krv_range]
theorem filterMap_range (l : List Nat) : (List.range l.length).filterMap (fun i => l[i]?) = l := by
  induction l with
  | nil => rfl
  | cons a l ih =>
    rw [List.length_cons, List.range_succ_eq_map, List.filterMap_cons]
    simp only [List.getElem?_cons_zero, List.filterMap_map]
    congr 1
theorem pe_revS {e : Expr} {te : TE} {k : Nat} {p1 p2 p3 pos : Pos} (he : PE X e te) : PE X (.Subscript e (.Slice none none (some (.UnaryOp .USub (.Constant (.int 1) k p1) p2)) p3) pos) (tRevS te) := by
  refine ⟨fun pins s σ H Q I h => ?_⟩
  refine Subscript_ (thn (he.run pins s σ H _ I h) fun v s1 ⟨x, H1, I1, r1, q1⟩ => ?_)
  obtain ⟨z, ex, hz, q⟩ := q1
  subst ex
  obtain ⟨t, rfl⟩ := r1
  have hst : PO X (some (.UnaryOp .USub (.Constant (.int 1) k p1) p2)) (tPart (tUn (rU fun i => .int (-i)) (tC (.int 1)))) := po_some (pe_un un_neg pe_int)
  refine wpAny_Slice (thn (po_none.run pins s1 σ H1 (fun o H2 => o = none ∧ H2 = H1) I1 ⟨rfl, rfl⟩) fun vl s2 ⟨l, H2, I2, pl, el, e2⟩ => ?_)
  subst el e2
  refine thn (po_none.run pins s2 σ H2 (fun o H3 => o = none ∧ H3 = H2) I2 ⟨rfl, rfl⟩) fun vu s3 ⟨u, H3, I3, pu, eu, e3⟩ => ?_
  subst eu e3
  refine thn (hst.run pins s3 σ H3 (fun o H4 => o = some (-1) ∧ H4 = H3) I3 ⟨1, rfl, -1, rfl, rfl, rfl⟩) fun vs s4 ⟨o, H4, I4, ps, eo, e4⟩ => ?_
  subst eo e4
  have I5 : Inv X pins σ H4 { s4 with heap := s4.heap.push { cls := .type "slice", data := .fields #[vl, vu, vs] } } := I4.kept (t' := s4.toks) fun b ob q => Heap.get?_push_of_some _ q
  show wpAny (model X.prog X.w) X.A (subscriptTail e (.Slice none none (some (.UnaryOp .USub (.Constant (.int 1) k p1) p2)) p3) (.str z t) (.ref s4.heap.objs.size)) (EP X pins σ Q) X.xe { s4 with heap := s4.heap.push { cls := .type "slice", data := .fields #[vl, vu, vs] } }
  refine tail_any (ops := [.ref s4.heap.objs.size, .str z t]) (typeIs_str _ _ _) F.slot_str_getitem.lookup ?_ (by with_unfolding_all rfl)
  obtain ⟨l', rfl, hl'⟩ := IsPart.raw pl
  obtain ⟨u', rfl, hu'⟩ := IsPart.raw pu
  obtain ⟨o, rfl, ho⟩ := IsPart.raw ps
  have el' : l' = none := by cases l' <;> first | rfl | cases hl'
  have eu' : u' = none := by cases u' <;> first | rfl | cases hu'
  subst el' eu'
  refine wpAny_getItem_str_slice (l := none) (u := none) (st := o) (Heap.IsSliceOf.new _ _ _ _) (by rw [ho]; rfl) ?_
  have hpick : slicePicked z none none o = (List.range z.length).reverse := by
    unfold slicePicked
    rw [ho]
    exact slice_rev z.length
  have hrev : (((List.range z.length).reverse).filterMap (z.cps[·]?)).toArray = z.cps.toList.reverse.toArray := by
    rw [List.filterMap_reverse]
    have := filterMap_range z.cps.toList
    rw [Array.length_toList] at this
    simp only [Array.getElem?_toList] at this
    show (List.filterMap (fun i => z.cps[i]?) (List.range z.cps.size)).reverse.toArray = _
    rw [this]
  have hlen : (revStr z).length ≤ sizeLine := by rw [revStr_length]; exact hz
  unfold sliceMade
  rw [hpick, hrev, ho]
  rw [if_neg (by simp)]
  exact ⟨hlen, .str _, H4, I5.tok _, ⟨_, rfl⟩, q⟩

/-! ### a callee -/
structure Cal (Pr : Program) (w : World) (K : PySem.W.Frag) (mg : Str → Option Value) (base : Heap) (lvl : Nat) (x : Str) (ps : List Str) (sp : Sp) : Prop where
  ex : ∃ f fd, mg x = some (.ref f) ∧ PySem.W.keepIn K (.ref f) = true ∧ Binds K fd ps [] ∧ FnOk Pr w K mg base (L2.CX Pr w) lvl f fd ps sp
theorem pe_cal {W : WX} {lvl : Nat} {x : Str} {ps : List Str} {sp : Sp} {e : Expr} {es : List Expr} {t : TA} {p pos : Pos} (c : Cal X.prog X.w X.K X.mg X.base lvl x ps sp) (hr : Room lvl X.A) (tk : Takes X W) (ha : PA X (e :: es) t) (hg : Gl X x := by rfl)
    (hdb : (x == ("__debug__" : Str)) = false := by decide) (he : starEach (e :: es) X.env = (false, eval e X.env) :: starEach es X.env := by rfl) (hpl : (backTo pos (starEach es X.env)).any (·.1) = false := by rfl) :
    PE X (.Call (.Name x p) (e :: es) [] pos) (tCallS sp (WE W) t) := by
  obtain ⟨f, fd, hm, hk, hb, F⟩ := c.ex
  exact pe_callS F hr hg hm hk hb (fun σ => passAt tk σ) ha hdb he hpl
/-- f() -/
theorem pe_cal0 {W : WX} {lvl : Nat} {x : Str} {sp : Sp} {p pos : Pos} (c : Cal X.prog X.w X.K X.mg X.base lvl x [] sp) (hr : Room lvl X.A) (tk : Takes X W) (hg : Gl X x := by rfl)
    (hdb : (x == ("__debug__" : Str)) = false := by decide) : PE X (.Call (.Name x p) [] [] pos) (tCallS sp (WE W) tNil) := by
  obtain ⟨f, fd, hm, hk, hb, F⟩ := c.ex
  refine ⟨fun pins s σ H Q I h => ?_⟩
  refine wpAny_Call_Name_kw (ld_glob I hg hm ?_ hdb)
  exact PySem.W.callWith_K0 I.kIn hk (run_fnS (us := []) F hr hb (passAt tk σ) I .nil h)
theorem room65 {k : Nat} {A : Around} (r : Room k A) : A.units + 65 < cLine := by have := r.un; omega
end
section
variable {τ : Type} {P : Pm} {R : τ → Hp → Prop} {W : WX}
theorem ev_chain {r r' : R2} {op op' : D → D → Option D} {ta tb tc : TE} {ga gb gc : GE τ} (ho : OpD P r op) (ho' : OpD P r' op') (ha : EvD P R W ta ga) (hb : EvD P R W tb gb) (hc : EvD P R W tc gc) : EvD P R W (tChain r r' ta tb tc) (gChain op op' ga gb gc) := by
  intro F B M H σ ρ st w Q h
  refine ha F B M H σ ρ st w _ (h.bind.mono (fun x st1 h1 F1 M1 H1 v1 E1 R1 r1 => ?_) fun _ _ z => z)
  have w1 := w.ext E1 R1
  refine hb F1 B M1 H1 σ ρ st1 w1 _ (h1.bind.mono (fun y st2 h2 F2 M2 H2 v2 E2 R2 r2 => ?_) fun _ _ z => KX.ext P R z E1)
  have w2 := w1.ext E2 R2
  obtain ⟨k, e, q⟩ := Sat.of h2.bind
  obtain ⟨d, e1, e2⟩ := Option.bind_eq_some_iff.mp e
  have := blOf_some e2
  subst this
  refine ho F2 B M2 H2 v1 v2 x y _ w2.pre (r1.mono E2.ff) r2 e1 _ fun F3 H3 v3 E3 r3 => ⟨k, r3, ?_⟩
  have w3 := w2.ext E3 R2
  have E13 := (E1.trans E2).trans E3
  cases k with
  | false => exact iteF ((Sat.ff q) F3 M2 H3 _ E13 R2 rfl)
  | true =>
    refine iteT (hc F3 B M2 H3 σ ρ st2 w3 _ ((Sat.tt q).bind.mono (fun z st4 h4 F4 M4 H4 v4 E4 R4 r4 => ?_) fun _ _ z => KX.ext P R z E13))
    obtain ⟨d, e5, q5⟩ := Sat.of h4
    exact ho' F4 B M4 H4 v2 v4 y z d (w3.pre.ext E4) ((r2.mono E3.ff).mono E4.ff) r4 e5 Q fun F' H' v E r => q5 F' M4 H' v ((E13.trans E4).trans E) R4 r
/-- x[::-1] -/
def tRevA (K : PySem.W.Frag) (te : TE) : TE := fun σ H Q => tRevL K te σ H Q ∨ tRevS te σ H Q
theorem pe_revA {X : Cx} {e : Expr} {te : TE} {k : Nat} {p1 p2 p3 pos : Pos} (he : PE X e te) : PE X (.Subscript e (.Slice none none (some (.UnaryOp .USub (.Constant (.int 1) k p1) p2)) p3) pos) (tRevA X.K te) := PE.or (pe_revL he) (pe_revS he)
def revD (d : D) : Option D :=
  match d with
  | .str z => if z.length ≤ line then some (.str (revStr z)) else none
  | .lst xs => some (.lst xs.reverse)
  | .bor xs => some (.lst xs.reverse)
  | _ => none
theorem ev_rev {K : PySem.W.Frag} (hK : K = P.K) {te : TE} {g : GE τ} (h : EvD P R W te g) : EvD P R W (tRevA K te) (gUn revD g) := by
  subst hK
  intro F B M H σ ρ st w Q hs
  have hd := h F B M H σ ρ st w
  have hs := Sat.bind hs
  cases e : g ρ st with
  | stuck => rw [e] at hs; exact hs.elim
  | err x st1 => rw [e] at hs hd; exact .inl (hd _ hs)
  | ok d st1 =>
    rw [e] at hs hd
    obtain ⟨d', e1, q⟩ := Sat.of (show Sat (Res.of (revD d) st1) _ _ from hs)
    cases d <;> try (cases e1; done)
    case str z =>
      obtain ⟨hl, rfl⟩ := if_some (show (if z.length ≤ line then some (D.str (revStr z)) else none) = some d' from e1)
      exact .inr (hd _ fun F1 M1 H1 v E1 R1 r1 => ⟨z, r1, by rw [line_eq]; exact hl, q F1 M1 H1 _ E1 R1 rfl⟩)
    case lst xs =>
      cases e1
      refine .inl (hd _ fun F1 M1 H1 v E1 R1 r1 => ?_)
      obtain ⟨a, vs, rfl, hs, rs⟩ := r1.list (w.pre.ext E1) rfl
      exact ⟨a, vs, rfl, .of hs, new_lst (w.pre.ext E1) rs.reverse fun F' H' v E r => q F' M1 H' v (E1.trans E) R1 r.b⟩
    case bor xs =>
      cases e1
      refine .inl (hd _ fun F1 M1 H1 v E1 R1 r1 => ?_)
      obtain ⟨a, vs, rfl, hs, rs⟩ := r1.list (w.pre.ext E1) rfl
      exact ⟨a, vs, rfl, .of hs, new_lst (w.pre.ext E1) rs.reverse fun F' H' v E r => q F' M1 H' v (E1.trans E) R1 r.b⟩

/-! ### isinstance of a built-in class -/
def tyNm : D → Option String
  | .non => some "NoneType"
  | .bl _ => some "bool"
  | .int _ => some "int"
  | .str _ => some "str"
  | .tup _ => some "tuple"
  | .lst _ => some "list"
  | .bor _ => some "list"
  | .dct _ => some "dict"
  | _ => none
theorem tyNm_x {F B M H : Hp} {d : D} {v : V} {n : String} (p : Pre F B M H) (r : RepB P F B d v) (e : tyNm d = some n) : TyX P.K H v (.type n) := by
  cases d <;> cases e
  case non => have : v = .non := r; subst this; exact .base .non
  case bl b => have : v = .bl b := r; subst this; exact .base (.bl b)
  case int i => have : v = .int i := r; subst this; exact .base (.int i)
  case str s => have : v = .str s := r; subst this; exact .base (.str s)
  case tup xs =>
    obtain ⟨a, vs, rfl, hs, rs⟩ := r.tupl p
    rcases hs with (q | ⟨o, q⟩) | ⟨o, _, _, h1, h2, _⟩
    · exact .base (.tup q)
    · exact .fTuple q
    · exact .kTuple h1 h2
  case lst xs => obtain ⟨a, vs, rfl, hs, rs⟩ := r.list p rfl; exact .base (.lst hs)
  case bor xs => obtain ⟨a, vs, rfl, hs, rs⟩ := r.list p rfl; exact .base (.lst hs)
  case dct kvs =>
    obtain ⟨a, rfl, q⟩ := (by simpa only [RepB, Rep] using r)
    rcases q with ⟨ks, q, _⟩ | ⟨ks, q, _⟩
    · exact .base (.dK (p.f _ _ q))
    · exact .base (.dT (p.f _ _ q))
/-- isinstance(e, T) -/
def isiD (T : String) (d : D) : Option D := (tyNm d).bind fun n => (kitB n T).map .bl
def gIsi (T : String) (g : GE τ) : GE τ := gUn (isiD T) g
theorem ev_isi {T : String} {te : TE} {g : GE τ} (h : EvD P R W te g) : EvD P R W (tCB (rIsi P.K) (tCons te (tCons (tC (.ty T)) tNil))) (gIsi T g) := by
  intro F B M H σ ρ st w Q hs
  refine h F B M H σ ρ st w _ ((Sat.bind hs).mono (fun d st1 h1 F1 M1 H1 v E1 R1 r1 => ?_) fun _ _ z => z)
  obtain ⟨d', e, q⟩ := Sat.of h1
  obtain ⟨n, e1, e2⟩ := Option.bind_eq_some_iff.mp e
  obtain ⟨b, e3, rfl⟩ := Option.map_eq_some_iff.mp e2
  exact ⟨v, .ty T, .type n, .type T, b, rfl, .ty T, tyNm_x (w.pre.ext E1) r1 e1, kit_ty e3, q F1 M1 H1 _ E1 R1 rfl⟩
end
end PD

namespace PD
open PySem PySem.Spec PyProof.Rows L2
section
variable {X : Cx}
theorem pe_gint {x : Str} {i : Int} {pos : Pos} (hm : ∃ t, X.mg x = some (.int i t)) (hg : Gl X x := by rfl) (hd : (x == ("__debug__" : Str)) = false := by decide) : PE X (.Name x pos) (tC (.int i)) := by
  obtain ⟨t, h⟩ := hm
  exact pe_glob hg h ⟨t, rfl⟩ hd
theorem pe_gstr {x : Str} {i : Str} {pos : Pos} (hm : ∃ t, X.mg x = some (.str i t)) (hg : Gl X x := by rfl) (hd : (x == ("__debug__" : Str)) = false := by decide) : PE X (.Name x pos) (tC (.str i)) := by
  obtain ⟨t, h⟩ := hm
  exact pe_glob hg h ⟨t, rfl⟩ hd
/-! ### a call by keywords alone -/
structure CalK (Pr : Program) (w : World) (K : PySem.W.Frag) (mg : Str → Option Value) (base : Heap) (lvl : Nat) (x : Str) (ps ks : List Str) (pm : List Nat) (sp : Sp) : Prop where
  ex : ∃ f fd, mg x = some (.ref f) ∧ PySem.W.keepIn K (.ref f) = true ∧ (∀ (s : Shared) (ws : List Value), K.In s.heap → ws.length = ks.length → BindsTo s fd ⟨[], ks.zip ws⟩ (ps.zip (pm.map fun i => ws.getD i .none))) ∧ FnOk Pr w K mg base (L2.CX Pr w) lvl f fd ps sp
  len : ∀ i ∈ pm, i < ks.length
theorem vals_perm {zs : List V} {ws : List Value} (rz : Vals zs ws) : ∀ {pm : List Nat}, (∀ i ∈ pm, i < zs.length) → Vals (pm.map fun i => zs.getD i .non) (pm.map fun i => ws.getD i .none)
  | [], _ => .nil
  | i :: pm, h => by
    have hi : i < zs.length := h i List.mem_cons_self
    obtain ⟨u, hu, ru⟩ := rz.get (List.getElem?_eq_getElem hi)
    refine .cons ?_ (vals_perm rz fun j hj => h j (List.mem_cons_of_mem _ hj))
    show RelV (zs.getD i .non) (ws.getD i .none)
    rw [List.getD_eq_getElem?_getD, List.getD_eq_getElem?_getD, List.getElem?_eq_getElem hi, hu]
    exact ru
def tCallKw (n : Nat) (sp : Sp) (pm : List Nat) (E : L2.St → XK) (t : TA) : TE := fun σ H Q => t σ H fun zs H1 => zs.length = n ∧ sp (pm.map fun i => zs.getD i .non) H1 Q (E σ)
theorem pe_calK {W : WX} {lvl : Nat} {x : Str} {ps ks : List Str} {pm : List Nat} {sp : Sp} {kws : List Keyword} {t : TA} {p pos : Pos} (c : CalK X.prog X.w X.K X.mg X.base lvl x ps ks pm sp) (hr : Room lvl X.A) (tk : Takes X W) (hkw : PK X kws t) (hg : Gl X x := by rfl)
    (hdb : (x == ("__debug__" : Str)) = false := by decide) (hall : (backToKw pos (keywordEach kws X.env)).all (·.1.isSome) = true := by rfl) (hks : (backToKw pos (keywordEach kws X.env)).filterMap (·.1) = ks := by rfl)
    (hpl : ((backTo pos (starEach [] X.env)).any (·.1) || (backToKw pos (keywordEach kws X.env)).any (·.1.isNone)) = false := by rfl) :
    PE X (.Call (.Name x p) [] kws pos) (tCallKw ks.length sp pm (WE W) t) := by
  obtain ⟨f, fd, hm, hk, hb, F⟩ := c.ex
  refine ⟨fun pins s σ H Q I h => ?_⟩
  refine wpAny_Call_Name_kw (ld_glob I hg hm ?_ hdb)
  refine PySem.W.callWith_KW0 (h₀ := X.base) I.ok.mod.kin hk hall ?_ hpl
  refine thn (hkw.run pos pins s σ H _ I h) fun ws s2 ⟨zs, H2, I2, rz, l2, q2⟩ => ⟨I2.kIn, ?_⟩
  rw [hks]
  have r2 : Vals (pm.map fun i => zs.getD i .non) (pm.map fun i => ws.getD i .none) := vals_perm rz fun i hi => by rw [l2]; exact c.len i hi
  refine wpAny_call (codeAny_mono (F.run X.A X.stack s2 H2 ⟨[], ks.zip ws⟩ (pm.map fun i => ws.getD i .none) (pm.map fun i => zs.getD i .non) Q (WE W σ) hr I2.env0 (hb s2 ws I2.kIn (rz.length.symm.trans l2)) r2 q2) fun r s' hq => ?_)
  cases r with
  | error e => exact passAt tk σ pins H2 s2 e s' I2 hq
  | ok fl =>
    cases fl with
    | ret u => exact I2.after hq
    | next => exact False.elim hq
    | brk => exact False.elim hq
    | cont => exact False.elim hq
end
section
variable {τ : Type} {P : Pm} {R : τ → Hp → Prop} {W : WX}
def gCallK (m : List D → τ → Res τ D) (pm : List Nat) (a : GA τ) : GE τ := fun ρ st => (a ρ st).bind fun ds st => m (pm.map fun i => ds.getD i .non) st
theorem RepBs.get {F B : Hp} : ∀ {ds : List D} {vs : List V} {i : Nat}, RepBs P F B ds vs → i < ds.length → RepB P F B (ds.getD i .non) (vs.getD i .non)
  | d :: ds, vs, 0, ⟨v, ws, e, r, rs⟩, _ => by subst e; exact r
  | d :: ds, vs, i + 1, ⟨v, ws, e, r, rs⟩, h => by
    subst e
    simpa using rs.get (i := i) (by simpa using h)
theorem evd_callK {Rf : Addr → τ → Hp → Prop} {n nk : Nat} {m : List D → τ → Res τ D} {pm : List Nat} {ta : TA} {a : GA τ} (hl : ∀ ρ st ds st', a ρ st = .ok ds st' → ds.length = nk) (hp : pm.length = n) (hi : pm.all (fun i => decide (i < nk)) = true) (ha : EvA P (Rf P.sa) W ta a) :
    EvD P (Rf P.sa) W (tCallKw nk (spD P.K P.mg Rf n m) pm (WE W) ta) (gCallK m pm a) := by
  intro F B M H σ ρ st w Q hs
  have hs := Sat.bind hs
  have q := ha F B M H σ ρ st w
  cases e : a ρ st with
  | stuck => rw [e] at hs; exact hs.elim
  | err x st1 => rw [e] at hs q; exact q _ hs
  | ok ds st1 =>
    rw [e] at hs q
    refine q _ fun F1 M1 H1 vs E1 R1 rs => ?_
    have hlen := hl ρ st ds st1 e
    refine ⟨by rw [← rs.length]; exact hlen, by rw [List.length_map]; exact hp, P.sa, P.xa, F1, B, M1, pm.map (fun i => ds.getD i .non), st1, w.pre.ext E1, R1, ?_, ?_⟩
    · have key : ∀ l : List Nat, l.all (fun i => decide (i < nk)) = true → RepBs P F1 B (l.map fun i => ds.getD i .non) (l.map fun i => vs.getD i .non) := by
        intro l
        induction l with
        | nil => intro _; rfl
        | cons i l ih =>
          intro h
          obtain ⟨h1, h2⟩ := Bool.and_eq_true_iff.mp (by simpa only [List.all_cons] using h)
          exact ⟨_, _, rfl, rs.get (by rw [hlen]; exact of_decide_eq_true h1), ih h2⟩
      exact key pm hi
    · exact (show Sat (m (pm.map fun i => ds.getD i .non) st1) _ _ from hs).mono (fun d st2 h2 F' M' H' v E r r2 => h2 F' M' H' v (E1.trans E) r r2.b) fun x st2 h2 F' M' H' c dd E r x => h2 F' M' H' c dd (E1.trans E) r x
end
/-! ### the rules with the written part told -/
section
variable {X : Cx} (K : PySem.W.Frag)
theorem k_add (h : X.K = K := by rfl) : OpR X (binaryOp .Add) (rAddA K) := by subst h; exact op_addA
theorem k_eq (hu : X.A.units + 64 < cLine) (h : X.K = K := by rfl) : OpR X (compareOp .Eq) (rEqD K) := by subst h; exact op_eqD hu
theorem k_ne (hu : X.A.units + 64 < cLine) (h : X.K = K := by rfl) : OpR X (compareOp .NotEq) (rNeD K) := by subst h; exact op_neD hu
theorem k_in (hu : X.A.units + 65 < cLine) (h : X.K = K := by rfl) : OpR X (compareOp .In) (rInA K) := by subst h; exact op_inA hu
theorem k_notIn (hu : X.A.units + 65 < cLine) (h : X.K = K := by rfl) : OpR X (compareOp .NotIn) (rNotInA K) := by subst h; exact op_notInA hu
theorem k_ix (h : X.K = K := by rfl) : IxR X (rIx K) := by subst h; exact ix_seq
theorem k_sl (h : X.K = K := by rfl) : SlR X (rSlAll K) := by subst h; exact sl_all
def rLenA (K : PySem.W.Frag) : List V → Hp → VK → Prop := fun xs H Q => (∃ p ys, xs = [.ref p] ∧ (SqL K H p ys ∨ SqT K H p ys) ∧ Q (.int ys.length) H) ∨ (∃ z, xs = [.str z] ∧ z.length ≤ sizeLine ∧ Q (.int z.length) H)
theorem k_len (h : X.K = K := by rfl) : CallR X (.builtin "len") (rLenA K) := by subst h; exact call_lenA
def rListA (K : PySem.W.Frag) : List V → Hp → VK → Prop := fun xs H Q => ∃ p ys, xs = [.ref p] ∧ (SqL K H p ys ∨ SqT K H p ys) ∧ ∀ l, H l = none → Q (.ref l) (upd H l (.lst ys))
theorem k_list (h : X.K = K := by rfl) : CallR X (.type "list") (rListA K) := by subst h; exact call_list_of
def rTupleA (K : PySem.W.Frag) : List V → Hp → VK → Prop := fun xs H Q => ∃ p ys, xs = [.ref p] ∧ ((SqL K H p ys ∧ ∀ l, H l = none → Q (.ref l) (upd H l (.tup ys))) ∨ (SqT K H p ys ∧ Q (.ref p) H))
theorem k_tuple (h : X.K = K := by rfl) : CallR X (.type "tuple") (rTupleA K) := by subst h; exact call_tuple_of
theorem k_any (hc : X.calm = true) (h : X.K = K := by rfl) : CallR X (.builtin "any") (rAny K) := by subst h; exact cr_any hc
theorem k_all (hc : X.calm = true) (h : X.K = K := by rfl) : CallR X (.builtin "all") (rAll K) := by subst h; exact cr_all hc
theorem k_isi (h : X.K = K := by rfl) : CallR X (.builtin "isinstance") (rIsi K) := by subst h; exact call_isi
theorem k_it {tg e : Expr} {te : TE} (he : PE X e te) (h : X.K = K := by rfl) : PI X tg e (iAll K te) := by subst h; exact pi_all he
def rJoin (K : PySem.W.Frag) : V → List V → Hp → VK → Prop := fun x xs H Q => ∃ a p, ∃ ys : List Str, x = .str a ∧ xs = [.ref p] ∧ (SqL K H p (ys.map V.str) ∨ SqT K H p (ys.map V.str)) ∧
      (ys.map (·.length)).sum + ys.length * a.length ≤ 16777216 ∧ Q (.str (Txt.join a ys)) H
theorem k_join {o e : Expr} {to te : TE} {apos pos : Pos} (ho : PE X o to) (he : PE X e te) (h : X.K = K := by rfl) (hs : starEach [e] X.env = [(false, eval e X.env)] := by rfl) (hbase : attributeBase o "join" X.env (eval o X.env) = eval o X.env := by rfl) (hline : (apos.endLine == pos.line) = true := by rfl) :
    PE X (.Call (.Attribute o "join" apos) [e] [] pos) (tM1 (rJoin K) to te) := by subst h; exact pe_join ho he hs hbase hline
theorem k_rev {e : Expr} {te : TE} {k : Nat} {p1 p2 p3 pos : Pos} (he : PE X e te) (h : X.K = K := by rfl) : PE X (.Subscript e (.Slice none none (some (.UnaryOp .USub (.Constant (.int 1) k p1) p2)) p3) pos) (tRevA K te) := by subst h; exact pe_revA he
theorem k_tup {es : List Expr} {k : Nat} {t : TGs} {n : Nat} {pos : Pos} (hc : X.calm = true) (h : PGs X es t) (hK : X.K = K := by rfl)
    (hn : (assignEach es X.env).length = n := by rfl) (hst : (assignEach es X.env).findIdx? (·.1) = none := by rfl) : PG X (.Tuple es k pos) (L2.gTup K n t) := by subst hK; exact pg_tup hc h hn hst
theorem k_app {o e : Expr} {to te : TE} {apos cpos : Pos} (ho : PE X o to) (he : PE X e te) (h : X.K = K := by rfl) (hbase : attributeBase o "append" X.env (eval o X.env) = eval o X.env := by rfl)
    (hfew : ((backTo cpos (starEach [e] X.env)).all (fun x => !x.1) && (backToKw cpos (keywordEach [] X.env)).all (fun x => x.1.isSome)
      && decide ([e].length + ([] : List Keyword).length + (if ([] : List Keyword).isEmpty then 0 else 1) < 30)) = true := by rfl)
    (hline : (apos.endLine == cpos.line) = true := by rfl) (hs : starEach [e] X.env = (false, eval e X.env) :: starEach [] X.env := by rfl) (hplain : (backTo cpos (starEach [] X.env)).any (·.1) = false := by rfl) :
    PE X (.Call (.Attribute o "append" apos) [e] [] cpos) (tBM K "list" rAppend to (tCons te tNil)) := by
  subst h; exact pe_bm PySem.F.plainAttrs_list PySem.F.slot_list_append PySem.F.type_list_append mt_append ho (pa_cons he pa_nil hs) hbase hfew hline hs hplain
theorem k_popAt {o e : Expr} {to te : TE} {apos cpos : Pos} (ho : PE X o to) (he : PE X e te) (h : X.K = K := by rfl) (hbase : attributeBase o "pop" X.env (eval o X.env) = eval o X.env := by rfl)
    (hfew : ((backTo cpos (starEach [e] X.env)).all (fun x => !x.1) && (backToKw cpos (keywordEach [] X.env)).all (fun x => x.1.isSome)
      && decide ([e].length + ([] : List Keyword).length + (if ([] : List Keyword).isEmpty then 0 else 1) < 30)) = true := by rfl)
    (hline : (apos.endLine == cpos.line) = true := by rfl) (hs : starEach [e] X.env = (false, eval e X.env) :: starEach [] X.env := by rfl) (hplain : (backTo cpos (starEach [] X.env)).any (·.1) = false := by rfl) :
    PE X (.Call (.Attribute o "pop" apos) [e] [] cpos) (tBM K "list" rPopAt to (tCons te tNil)) := by
  subst h; exact pe_bm PySem.F.plainAttrs_list PySem.F.slot_list_pop PySem.F.type_list_pop mt_popAt ho (pa_cons he pa_nil hs) hbase hfew hline hs hplain
end
theorem boot_x_len : bootBuiltins "len" = some (.builtin "len") := by decide +kernel
theorem boot_x_abs : bootBuiltins "abs" = some (.builtin "abs") := by decide +kernel
theorem boot_x_any : bootBuiltins "any" = some (.builtin "any") := by decide +kernel
theorem boot_x_all : bootBuiltins "all" = some (.builtin "all") := by decide +kernel
theorem boot_x_max : bootBuiltins "max" = some (.builtin "max") := by decide +kernel
theorem boot_x_min : bootBuiltins "min" = some (.builtin "min") := by decide +kernel
theorem boot_x_sum : bootBuiltins "sum" = some (.builtin "sum") := by decide +kernel
theorem boot_x_sorted : bootBuiltins "sorted" = some (.builtin "sorted") := by decide +kernel
theorem boot_isi : bootBuiltins "isinstance" = some (.builtin "isinstance") := by decide +kernel
theorem boot_x_int : bootBuiltins "int" = some (.type "int") := by decide +kernel
theorem boot_x_str : bootBuiltins "str" = some (.type "str") := by decide +kernel
theorem boot_x_bool : bootBuiltins "bool" = some (.type "bool") := by decide +kernel
theorem boot_x_list : bootBuiltins "list" = some (.type "list") := by decide +kernel
theorem boot_x_tuple : bootBuiltins "tuple" = some (.type "tuple") := by decide +kernel
theorem boot_x_dict : bootBuiltins "dict" = some (.type "dict") := by decide +kernel
theorem boot_x_set : bootBuiltins "set" = some (.type "set") := by decide +kernel
end PD

namespace PD
open PySem PySem.Spec PyProof.Rows L2
/-! ### the draws' state: great numbers, the script's numbers and one more, the count of draws -/
structure St0 where
  bigs : List Int
  cells : List Int
  n : Int
structure SAt (sa : Addr) (st : St0) (M : Hp) (a0 a1 : Addr) : Prop where
  hs : M sa = some (.lst [.ref a0, .ref a1, .int st.n])
  h0 : M a0 = some (.lst (st.bigs.map V.int))
  h1 : M a1 = some (.lst (st.cells.map V.int))
  n0 : a0 ≠ sa
  n1 : a1 ≠ sa
  n2 : a0 ≠ a1
def RA (sa : Addr) (st : St0) (M : Hp) : Prop := ∃ a0 a1, SAt sa st M a0 a1
theorem Ext.mut {F M H F' M' H' : Hp} (e : Ext F M H F' M' H') {a : Addr} {o : HO} (h : M' a ≠ none) : Ext F M H F' (upd M' a o) (upd H' a o) where
  ff := e.ff
  f := fun b u q => by
    have hb : b ≠ a := fun z => (e.fm b).elim (fun k => by rw [q] at k; cases k) fun k => h (by rw [← z]; exact k)
    rw [upd_ne hb]; exact e.f _ _ q
  m := fun b u q => by
    by_cases hb : b = a
    · subst hb; rw [upd_same] at q ⊢; exact q
    · rw [upd_ne hb] at q ⊢; exact e.m _ _ q
  keep := fun b u q n => by
    have hb : b ≠ a := fun z => h (by rw [← z]; exact e.newM b (ne_some q) n)
    rw [upd_ne hb]; exact e.keep b u q n
  there := fun b q => by
    by_cases hb : b = a
    · subst hb; rw [upd_same]; exact nofun
    · rw [upd_ne hb]; exact e.there b q
  newF := e.newF
  newM := fun b q n => by
    have hb : b ≠ a := fun z => h (by rw [← z]; exact e.newM b q n)
    rw [upd_ne hb]; exact e.newM b q n
  fm := fun b => by
    by_cases hb : b = a
    · subst hb; exact .inl ((e.fm b).resolve_right h)
    · rw [upd_ne hb]; exact e.fm b
/-- a new object of the state -/
theorem Ext.newM' {F M H F' M' H' : Hp} (e : Ext F M H F' M' H') {a : Addr} {o : HO} (h : H' a = none) : Ext F M H F' (upd M' a o) (upd H' a o) where
  ff := e.ff
  f := fun b u q => by
    have hb : b ≠ a := fun z => by rw [z] at q; rw [e.f _ _ q] at h; cases h
    rw [upd_ne hb]; exact e.f _ _ q
  m := fun b u q => by
    by_cases hb : b = a
    · subst hb; rw [upd_same] at q ⊢; exact q
    · rw [upd_ne hb] at q ⊢; exact e.m _ _ q
  keep := fun b u q n => by
    have hb : b ≠ a := fun z => by rw [z] at q; exact e.there a (ne_some q) h
    rw [upd_ne hb]; exact e.keep b u q n
  there := fun b q => by
    by_cases hb : b = a
    · subst hb; rw [upd_same]; exact nofun
    · rw [upd_ne hb]; exact e.there b q
  newF := e.newF
  newM := fun b q n => by
    have hb : b ≠ a := fun z => e.there b q (by rw [z]; exact h)
    rw [upd_ne hb]; exact e.newM b q n
  fm := fun b => by
    by_cases hb : b = a
    · subst hb; exact .inl (e.f.none h)
    · rw [upd_ne hb]; exact e.fm b
/-- garbage -/
theorem Ext.junk {F M H F' M' H' : Hp} (e : Ext F M H F' M' H') {a : Addr} {o : HO} (h : H' a = none) : Ext F M H F' M' (upd H' a o) where
  ff := e.ff
  f := e.f.trans (same_updP h)
  m := e.m.trans (same_updP h)
  keep := fun b u q n => same_updP h _ _ (e.keep b u q n)
  there := fun b q => (same_updP h).ne (e.there b q)
  newF := e.newF
  newM := e.newM
  fm := e.fm
/-- where the state stands while a draw goes on -/
def Dr (F M H : Hp) (sa : Addr) (st : St0) (a0 a1 : Addr) (H' : Hp) : Prop := ∃ M', Ext F M H F M' H' ∧ SAt sa st M' a0 a1
section
variable {F M H : Hp} {sa a0 a1 : Addr} {st : St0} {Hc : Hp}
theorem Dr.hs (d : Dr F M H sa st a0 a1 Hc) : Hc sa = some (.lst [.ref a0, .ref a1, .int st.n]) := let ⟨_, e, s⟩ := d; e.m _ _ s.hs
theorem Dr.h0 (d : Dr F M H sa st a0 a1 Hc) : Hc a0 = some (.lst (st.bigs.map V.int)) := let ⟨_, e, s⟩ := d; e.m _ _ s.h0
theorem Dr.h1 (d : Dr F M H sa st a0 a1 Hc) : Hc a1 = some (.lst (st.cells.map V.int)) := let ⟨_, e, s⟩ := d; e.m _ _ s.h1
theorem Dr.junk (d : Dr F M H sa st a0 a1 Hc) {p : Addr} {o : HO} (h : Hc p = none) : Dr F M H sa st a0 a1 (upd Hc p o) := let ⟨M', e, s⟩ := d; ⟨M', e.junk h, s⟩
theorem Dr.setN (d : Dr F M H sa st a0 a1 Hc) (n : Int) : Dr F M H sa { st with n := n } a0 a1 (upd Hc sa (.lst [.ref a0, .ref a1, .int n])) := by
  obtain ⟨M', e, s⟩ := d
  exact ⟨_, e.mut (ne_some s.hs), ⟨upd_same, by rw [upd_ne s.n0]; exact s.h0, by rw [upd_ne s.n1]; exact s.h1, s.n0, s.n1, s.n2⟩⟩
theorem Dr.setB (d : Dr F M H sa st a0 a1 Hc) (bs : List Int) : Dr F M H sa { st with bigs := bs } a0 a1 (upd Hc a0 (.lst (bs.map V.int))) := by
  obtain ⟨M', e, s⟩ := d
  exact ⟨_, e.mut (ne_some s.h0), ⟨by rw [upd_ne (Ne.symm s.n0)]; exact s.hs, upd_same, by rw [upd_ne (Ne.symm s.n2)]; exact s.h1, s.n0, s.n1, s.n2⟩⟩
theorem Dr.tail (d : Dr F M H sa st a0 a1 Hc) {p : Addr} (h : Hc p = none) (bs : List Int) : Dr F M H sa { st with bigs := bs } p a1 (upd (upd Hc p (.lst (bs.map V.int))) sa (.lst [.ref p, .ref a1, .int st.n])) := by
  obtain ⟨M', e, s⟩ := d
  have nsp : sa ≠ p := fun z => by rw [← z, e.m _ _ s.hs] at h; cases h
  have n1p : a1 ≠ p := fun z => by rw [← z, e.m _ _ s.h1] at h; cases h
  have e1 := e.newM' (o := .lst (bs.map V.int)) h
  exact ⟨_, e1.mut (by rw [upd_ne nsp, s.hs]; exact nofun), ⟨upd_same, by rw [upd_ne (Ne.symm nsp), upd_same], by rw [upd_ne s.n1, upd_ne n1p]; exact s.h1, Ne.symm nsp, s.n1, Ne.symm n1p⟩⟩
end
/-- a draw's outcome where no great number is left -/
def drawnA (st : St0) (size : Int) : Int :=
  let cell := (st.cells.getD ((st.n.fmod st.cells.length).toNat) 0).fmod 2147483647
  let one := ((cell * 48271 + st.n * 69621 + 7) ^ 5).fmod 2147483647
  (((one * 16807 + st.n * 40692 + 13) ^ 5).fmod 2147483629).fmod size
def dropZ : List Int → List Int
  | [] => []
  | b :: r => if b = 0 then dropZ r else b :: r
def lim : Int := 1152921504606
def drawA (size : Int) (st : St0) : Res St0 D :=
  if 0 < size ∧ size < 1073741824 ∧ 0 ≤ st.n ∧ st.n + 1 < lim ∧ st.cells ≠ [] then
    match dropZ st.bigs with
    | b :: r => .ok (.int (b.fmod size)) { st with bigs := b.fdiv size :: r, n := st.n + 1 }
    | [] => .ok (.int (drawnA { st with n := st.n + 1 } size)) { st with bigs := [], n := st.n + 1 }
  else .stuck
def m_law_draw : List D → St0 → Res St0 D
  | [.state, .int size], st => drawA size st
  | _, _ => .stuck
def pyInts (ns : List Int) : PyData := .list (ns.map .int)
theorem pyInts_lay : ∀ ns : List Int, PyData.canLayAll0 (ns.map .int) = true
  | [] => by simp [PyData.canLayAll0]
  | n :: ns => by simp [PyData.canLayAll0, PyData.canLay0, pyInts_lay ns]
theorem pyInts_depth : ∀ ns : List Int, PyData.depthAll (ns.map .int) ≤ 1
  | [] => by simp [PyData.depthAll]
  | n :: ns => by
    have h := pyInts_depth ns
    simp only [List.map_cons, PyData.depthAll, PyData.depth]
    omega
theorem pyInts_shaped (ns : List Int) : SeqAt.shaped (pyInts ns) = true := by
  have h1 := pyInts_depth ns
  have h2 : PyData.depth (pyInts ns) ≤ 64 := by
    simp only [pyInts, PyData.depth]
    omega
  show (PyData.canLay0 (pyInts ns) && decide (PyData.depth (pyInts ns) ≤ 64)) = true
  rw [Bool.and_eq_true]
  exact ⟨by simp only [pyInts, PyData.canLay0]; exact pyInts_lay ns, decide_eq_true h2⟩
theorem pyInts_dp {K : PySem.W.Frag} {H : Hp} : ∀ ns : List Int, DpAll K H (ns.map V.int) (ns.map .int)
  | [] => .nil
  | n :: ns => .cons (.int n) (pyInts_dp ns)
theorem pyInts_eqv_nil : ∀ ns : List Int, PyData.eqv (pyInts ns) (.list []) = ns.isEmpty
  | [] => by simp [pyInts, PyData.eqv, PyData.eqvAll]
  | n :: ns => by simp [pyInts, PyData.eqv, PyData.eqvAll]
/-- xs != [] of a list of pyInts -/
theorem ne_nil {K : PySem.W.Frag} {H : Hp} {a p : Addr} {ns : List Int} (h : H a = some (.lst (ns.map V.int))) (hp : H p = some (.lst [])) {Q : VK} (q : Q (.bl (!ns.isEmpty)) H) : rNeD K (.ref a) (.ref p) H Q := by
  refine ⟨pyInts ns, .list [], .lst (.of h) (pyInts_dp ns), .lst (.of hp) .nil, pyInts_shaped ns, by decide, ?_⟩
  rw [pyInts_eqv_nil]
  exact q
theorem fmod_lt {a b : Int} (h : 0 < b) : 0 ≤ a.fmod b ∧ a.fmod b < b := by
  rw [Int.fmod_eq_emod_of_nonneg a (by omega)]
  exact ⟨Int.emod_nonneg a (by omega), Int.emod_lt_of_pos a h⟩
section
variable {τ : Type} {P : Pm} {R : τ → Hp → Prop} {W : WX}
def gLstN (a : GA τ) : GI τ := fun ρ st => (a ρ st).bind fun ds st => if freeL ds = true then .ok ds st else .stuck
def gListN (a : GA τ) : GI τ := fun ρ st => (a ρ st).bind fun ds st => match ds with
  | [d] => .of (items d) st
  | _ => .stuck
theorem evn_list {ta : TA} {ga : GA τ} (ha : EvA P R W ta ga) : EvN P R W (tCB (fun xs H Q => ∃ p ys, xs = [.ref p] ∧ (SqL P.K H p ys ∨ SqT P.K H p ys) ∧ ∀ l, H l = none → Q (.ref l) (upd H l (.lst ys))) ta) (gListN ga) := by
  intro F B M H σ ρ st w Q hs
  refine ha F B M H σ ρ st w _ ((Sat.bind hs).mono (fun ds st1 h1 F1 M1 H1 vs E1 R1 rs => ?_) fun _ _ z => z)
  match ds, h1, rs with
  | [d], h1, rs =>
    obtain ⟨v, rfl, r⟩ := rs.one
    obtain ⟨l, e, q⟩ := Sat.of h1
    have p := w.pre.ext E1
    obtain ⟨a, ws, rfl, hq, rw'⟩ := r.seq p e
    refine ⟨a, ws, rfl, hq, fun b hb => ?_⟩
    have hH : H b = none := by
      cases e : H b with
      | none => rfl
      | some o => exact absurd hb (E1.there b (ne_some e))
    exact q F1 M1 _ b ws (E1.trans (.own p hb)) R1 hH (p.f.none hb) (p.m.none hb) upd_same rw'
  | [], h1, rs => exact (show False from h1).elim
  | _ :: _ :: _, h1, rs => exact (show False from h1).elim
end
/-! ### the state's making -/
theorem ret_lst3 {t1 t2 t3 : TE} {D : Ends} {σ : L2.St} {H : Hp} (h : t1 σ H (fun x H1 => t2 σ H1 fun y H2 => t3 σ H2 fun z H3 => 3 ≤ sizeLine ∧ ∀ p, H3 p = none → D.rt (.ref p) (upd H3 p (.lst [x, y, z])))) : tRet (tLst (tCons t1 (tCons t2 (tCons t3 tNil)))) D σ H := h
end PD

namespace PD
open PySem PySem.Spec PyProof.Rows L2
def topS (i : Nat) : Stmt := PySem.Challenge.pw_tailpick_k31_costs_joined.main.body.getD i (.Pass ⟨0, 0, 0, 0⟩)
abbrev s_law_start : Stmt := topS 17
abbrev s_law_take : Stmt := topS 18


/-! ### the draws' state, the other form: numbers, the place, the count of draws -/
structure St1 where
  cells : List Int
  pl : Int
  n : Int
structure SBt (sa : Addr) (st : St1) (M : Hp) (a0 : Addr) : Prop where
  hs : M sa = some (.lst [.ref a0, .int st.pl, .int st.n])
  h0 : M a0 = some (.lst (st.cells.map V.int))
  n0 : a0 ≠ sa
def RB (sa : Addr) (st : St1) (M : Hp) : Prop := ∃ a0, SBt sa st M a0
def DrB (F M H : Hp) (sa : Addr) (st : St1) (a0 : Addr) (H' : Hp) : Prop := ∃ M', Ext F M H F M' H' ∧ SBt sa st M' a0
section
variable {F M H : Hp} {sa a0 : Addr} {st : St1} {Hc : Hp}
theorem DrB.hs (d : DrB F M H sa st a0 Hc) : Hc sa = some (.lst [.ref a0, .int st.pl, .int st.n]) := let ⟨_, e, s⟩ := d; e.m _ _ s.hs
theorem DrB.h0 (d : DrB F M H sa st a0 Hc) : Hc a0 = some (.lst (st.cells.map V.int)) := let ⟨_, e, s⟩ := d; e.m _ _ s.h0
theorem DrB.setN (d : DrB F M H sa st a0 Hc) (n : Int) : DrB F M H sa { st with n := n } a0 (upd Hc sa (.lst [.ref a0, .int st.pl, .int n])) := by
  obtain ⟨M', e, s⟩ := d
  exact ⟨_, e.mut (ne_some s.hs), ⟨upd_same, by rw [upd_ne s.n0]; exact s.h0, s.n0⟩⟩
theorem DrB.setP (d : DrB F M H sa st a0 Hc) (p : Int) : DrB F M H sa { st with pl := p } a0 (upd Hc sa (.lst [.ref a0, .int p, .int st.n])) := by
  obtain ⟨M', e, s⟩ := d
  exact ⟨_, e.mut (ne_some s.hs), ⟨upd_same, by rw [upd_ne s.n0]; exact s.h0, s.n0⟩⟩
theorem DrB.setC (d : DrB F M H sa st a0 Hc) (cs : List Int) : DrB F M H sa { st with cells := cs } a0 (upd Hc a0 (.lst (cs.map V.int))) := by
  obtain ⟨M', e, s⟩ := d
  exact ⟨_, e.mut (ne_some s.h0), ⟨by rw [upd_ne (Ne.symm s.n0)]; exact s.hs, upd_same, s.n0⟩⟩
end
def absI (i : Int) : Int := if i < 0 then -i else i
def placeB (st : St1) : Int := st.pl.fmod (if (st.cells.length : Int) > 1 then (st.cells.length : Int) else 1)
def cellB (st : St1) : Int := st.cells.getD (placeB st).toNat 0
def mix1 (c n : Int) : Int := ((c.fmod 2147483647 * 48271 + n * 69621 + 11) ^ 5).fmod 2147483647
def mix2 (c n : Int) : Int := ((c * 16807 + n * 40692 + 7) ^ 5).fmod 2147483629
/-- a draw from 0 up to size -/
def takeB (size : Int) (st : St1) : Res St1 D :=
  if 0 < size ∧ size < 1208925819614629174706176 ∧ 0 ≤ st.n ∧ st.n + 1 < lim ∧ 0 ≤ st.pl then
    if 10 ^ 18 ≤ absI (cellB st) then .ok (.int ((absI (cellB st)).fmod size)) { st with n := st.n + 1, cells := st.cells.set (placeB st).toNat ((absI (cellB st)) / size) }
    else .ok (.int (((mix2 (mix1 (cellB st) (st.n + 1)) (st.n + 1)).fdiv 16).fmod size)) { st with n := st.n + 1, pl := st.pl + 1 }
  else .stuck
def m_law_take : List D → St1 → Res St1 D
  | [.state, .int size], st => takeB size st
  | _, _ => .stuck
theorem sc_law_take : FnScope ["_law_state", "_law_limit", "_law_cells", "_law_at_here", "_law_cell", "_law_number"] ["_law_state", "_law_limit"] (defScope s_law_take) := ⟨rfl, rfl, rfl, by decide +kernel, rfl, by decide +kernel, by decide +kernel⟩
structure TxtB (mg : Str → Option Value) : Prop where
  n_len : mg "len" = none
  n_int : mg "int" = none
  n_abs : mg "abs" = none
  n_max : mg "max" = none
theorem placeB_lt {st : St1} : 0 ≤ placeB st ∧ (st.cells ≠ [] → (placeB st).toNat < st.cells.length) := by
  unfold placeB
  by_cases hc : (st.cells.length : Int) > 1
  · rw [if_pos hc]
    obtain ⟨a, b⟩ := fmod_lt (a := st.pl) (b := (st.cells.length : Int)) (by omega)
    exact ⟨a, fun _ => by omega⟩
  · rw [if_neg hc]
    obtain ⟨a, b⟩ := fmod_lt (a := st.pl) (b := 1) (by omega)
    exact ⟨a, fun h => by
      have : 0 < st.cells.length := List.length_pos_iff.mpr h
      omega⟩
theorem pow5_small {i : Int} (h0 : 0 ≤ i) (h : i < 2 ^ 63) : CPow i 5 := ⟨by decide, by decide, by omega⟩
theorem sm {i j : Int} (h0 : 0 ≤ i) (h : i < 2 ^ 62) : CMul i j := .inl ⟨by omega, by omega⟩
section
variable {Pr : Program} {w : World} {K : PySem.W.Frag} {mg : Str → Option Value} {base : Heap}
theorem ok_law_take {f : Addr} {fd : FuncData} (T : TxtB mg) (F : Fun K "_law_take" "_law_take" s_law_take f fd) : FnOk Pr w K mg base (L2.CX Pr w) 1 f fd ["_law_state", "_law_limit"] (spD K mg RB 2 m_law_take) := by
  refine F.okX sc_law_take (fun vs H Q E h => h.1) (fun cdv A outer s H vs Q E hr h => ?_)
  have sc := sc_law_take
  refine ⟨_, pss_cons (ps_set (i := 2) sc.nd rfl (Or.inl rfl) (pe_ix ix_list (pv 0) pe_int (fun _ _ => rfl)))
    (pss_cons (ps_asg (pe_op op_add (pe_ix ix_list (pv 0) pe_int (fun _ _ => rfl)) pe_int) (pg_sub (pv 0) pe_int set_list))
    (pss_cons (ps_set (i := 3) sc.nd rfl (Or.inl rfl) (pe_op op_modN (pe_callTy call_int1 (by rfl) T.n_int boot_x_int (pa_cons (pe_ix ix_list (pv 0) pe_int (fun _ _ => rfl)) pa_nil)) (pe_callB (call_max2 rfl) (by rfl) T.n_max boot_x_max (pa_cons pe_int (pa_cons (pe_callB call_len_seq (by rfl) T.n_len boot_x_len (pa_cons (pv 2) pa_nil)) pa_nil)))))
    (pss_cons (ps_set (i := 4) sc.nd rfl (Or.inl rfl) pe_int)
    (pss_cons (ps_if (pt_truth (pv 2) (fun _ => rfl)) (pss_one (ps_set (i := 4) sc.nd rfl (Or.inl rfl) (pe_ix ix_list (pv 2) (pv 3) (fun _ _ => rfl)))) pss_nil)
    (pss_cons (ps_if (pt_cmpR op_ge (pe_callB call_abs (by rfl) T.n_abs boot_x_abs (pa_cons (pv 4) pa_nil)) (pe_op op_pow pe_int pe_int) (nomark _))
      (pss_cons (ps_asg (pe_op op_fdivW (pe_callB call_abs (by rfl) T.n_abs boot_x_abs (pa_cons (pv 4) pa_nil)) (pv 1)) (pg_sub (pv 2) (pv 3) set_list))
      (pss_one (ps_ret (pe_op op_modN (pe_callB call_abs (by rfl) T.n_abs boot_x_abs (pa_cons (pv 4) pa_nil)) (pv 1))))) pss_nil)
    (pss_cons (ps_asg (pe_op op_add (pe_ix ix_list (pv 0) pe_int (fun _ _ => rfl)) pe_int) (pg_sub (pv 0) pe_int set_list))
    (pss_cons (ps_set (i := 5) sc.nd rfl (Or.inl rfl) (pe_op op_modN (pe_op op_pow (pe_callTy call_int1 (by rfl) T.n_int boot_x_int (pa_cons (pe_op op_add (pe_op op_add (pe_op op_mul (pe_op op_modN (pe_callTy call_int1 (by rfl) T.n_int boot_x_int (pa_cons (pv 4) pa_nil)) pe_int) pe_int) (pe_op op_mul (pe_ix ix_list (pv 0) pe_int (fun _ _ => rfl)) pe_int)) pe_int) pa_nil)) pe_int) pe_int))
    (pss_cons (ps_set (i := 5) sc.nd rfl (Or.inl rfl) (pe_op op_modN (pe_op op_pow (pe_callTy call_int1 (by rfl) T.n_int boot_x_int (pa_cons (pe_op op_add (pe_op op_add (pe_op op_mul (pv 5) pe_int) (pe_op op_mul (pe_ix ix_list (pv 0) pe_int (fun _ _ => rfl)) pe_int)) pe_int) pa_nil)) pe_int) pe_int))
    (pss_one (ps_ret (pe_op op_modN (pe_op op_fdivN (pv 5) pe_int) (pv 1)))))))))))), ?_⟩
  obtain ⟨hv, sa, xa, F0, B, M, ds, st, p, ⟨a0, sat⟩, rs, res⟩ := h
  have dd : ∃ size, ds = [.state, .int size] := by
    unfold m_law_take at res
    split at res
    · exact ⟨_, rfl⟩
    · exact res.elim
  obtain ⟨size, rfl⟩ := dd
  obtain ⟨v0, vs1, rfl, r0, rs1⟩ := rs
  obtain ⟨v1, rfl, r1⟩ := RepBs.one rs1
  have r0 : v0 = .ref sa := r0
  have r1 : v1 = .int size := r1
  subst r0 r1
  have res : Sat (takeB size st) _ _ := res
  unfold takeB at res
  obtain ⟨⟨hz, hz2, hn0, hnl, hp0⟩, res⟩ := Sat.ite res
  have l1 : lim = 1152921504606 := rfl
  rw [l1] at hnl
  have d0 : DrB F0 M H sa st a0 H := ⟨M, .refl p, sat⟩
  obtain ⟨p0, p1⟩ := placeB_lt (st := st)
  have hm : (if (st.cells.length : Int) > 1 then (st.cells.length : Int) else 1) ≠ 0 := by split <;> omega
  refine ⟨_, rfl, sa, _, 0, .ref a0, rfl, rfl, .of d0.hs, rfl, ?_⟩
  refine ⟨_, rfl, sa, _, 2, .int st.n, rfl, rfl, .of d0.hs, rfl, st.n, 1, rfl, rfl, _, rfl, sa, _, 2, 2, rfl, rfl, d0.hs, rfl, ?_⟩
  have d1 := d0.setN (st.n + 1)
  have hz' : size ≠ 0 := by omega
  have hzd : CDivW (absI (cellB st)) size := ⟨hz, by
    have h0 : size.natAbs ≠ 0 := by omega
    have h1 : size.natAbs < 2 ^ 80 := by omega
    have := (Nat.log2_lt h0).mpr h1
    omega⟩
  have hpos : 10 ^ 18 ≤ absI (cellB st) → st.cells ≠ [] := fun h e => by
    have : cellB st = 0 := by unfold cellB; rw [e]; rfl
    rw [this] at h
    exact absurd h (by decide)
  refine ⟨_, rfl, sa, _, 1, .int st.pl, rfl, rfl, .of d1.hs, rfl, .inl ⟨st.pl, rfl, _, rfl, a0, _, rfl, .inl (.of d1.h0), 1, (st.cells.length : Int), by rw [List.length_map], st.pl, _, rfl, rfl, hm, ?_⟩⟩
  refine ⟨_, rfl, !((st.cells.map V.int).isEmpty), .inl ⟨_, .of d1.h0, rfl⟩, ?_⟩
  by_cases hnil : st.cells = []
  all_goals (first
    | (have hk : (!((st.cells.map V.int).isEmpty)) = false := by rw [hnil]; rfl
       rw [hk]
       refine iteF ?_
       have hcell : (0 : Int) = cellB st := by unfold cellB; rw [hnil]; rfl)
    | (have hk : (!((st.cells.map V.int).isEmpty)) = true := by
         cases e : st.cells with
         | nil => exact absurd e hnil
         | cons a b => rfl
       rw [hk]
       refine iteT ?_
       have hlt := p1 hnil
       refine ⟨_, rfl, _, rfl, a0, _, placeB st, .int (cellB st), rfl, rfl, .of d1.h0, at_of (show placeB st = ((placeB st).toNat : Int) by omega) (by
         rw [List.getElem?_map, cellB, List.getD_eq_getElem?_getD, List.getElem?_eq_getElem hlt]; rfl), ?_⟩
       have hcell : cellB st = cellB st := rfl))
  all_goals
    refine ⟨_, rfl, cellB st, congrArg (fun z => [V.int z]) hcell, 10, 18, rfl, rfl, ⟨by decide, by decide, by decide⟩, absI (cellB st), 10 ^ 18, rfl, rfl, _, rfl, ?_⟩
    by_cases hg : 10 ^ 18 ≤ absI (cellB st)
    · rw [if_pos hg] at res
      have hlt := p1 (hpos hg)
      have e1 : decide ((10 : Int) ^ 18 ≤ absI (cellB st)) = true := decide_eq_true hg
      rw [e1]
      refine iteT ?_
      refine ⟨_, rfl, cellB st, congrArg (fun z => [V.int z]) hcell, _, rfl, absI (cellB st), size, rfl, rfl, hzd, _, rfl, _, rfl, a0, _, placeB st, (placeB st).toNat, rfl, rfl, d1.h0, ?_, ?_⟩
      · unfold ixN
        rw [if_pos p0, if_pos (by rw [List.length_map]; show placeB st < (st.cells.length : Int); omega)]
      · refine ⟨_, rfl, cellB st, congrArg (fun z => [V.int z]) hcell, _, rfl, absI (cellB st), size, rfl, rfl, hz', ?_⟩
        have d2 := d1.setC (st.cells.set (placeB st).toNat ((absI (cellB st)) / size))
        obtain ⟨M', ex, sat'⟩ := d2
        have res : ∀ F' M' H' v, Ext F0 M H F' M' H' → RB sa { st with n := st.n + 1, cells := st.cells.set (placeB st).toNat ((absI (cellB st)) / size) } M' → Rep ⟨K, mg, sa, xa⟩ F' (.int ((absI (cellB st)).fmod size)) v → Q v H' := res
        refine res F0 M' _ _ ?_ ⟨a0, sat'⟩ (by simp only [Rep] <;> rfl)
        have e2 : (({ st with n := st.n + 1 } : St1).cells.map V.int).set (placeB st).toNat (.int ((absI (cellB st)) / size)) = (st.cells.set (placeB st).toNat ((absI (cellB st)) / size)).map V.int := by rw [List.map_set]
        rw [← e2] at ex
        exact ex
    · rw [if_neg hg] at res
      have e1 : decide ((10 : Int) ^ 18 ≤ absI (cellB st)) = false := decide_eq_false hg
      rw [e1]
      refine iteF ?_
      refine ⟨_, rfl, sa, _, 1, .int st.pl, rfl, rfl, .of d1.hs, rfl, st.pl, 1, rfl, rfl, _, rfl, sa, _, 1, 1, rfl, rfl, d1.hs, rfl, ?_⟩
      have d3 := d1.setP (st.pl + 1)
      obtain ⟨c0, c1⟩ := fmod_lt (a := cellB st) (b := 2147483647) (by decide)
      obtain ⟨o0, o1⟩ := fmod_lt (a := ((cellB st).fmod 2147483647 * 48271 + (st.n + 1) * 69621 + 11) ^ 5) (b := 2147483647) (by decide)
      refine ⟨_, rfl, .inl ⟨cellB st, congrArg (fun z => [V.int z]) hcell, _, 2147483647, rfl, rfl, (by show (2147483647 : Int) ≠ 0; decide), _, 48271, rfl, rfl, sm c0 (by omega), _, rfl, sa, _, 2, .int (st.n + 1), rfl, rfl, .of d3.hs, rfl, st.n + 1, 69621, rfl, rfl, sm (by omega) (by omega), _, _, rfl, rfl, _, 11, rfl, rfl, .inl ⟨_, rfl, _, 5, rfl, rfl, pow5_small (by omega) (by omega), _, 2147483647, rfl, rfl, (by show (2147483647 : Int) ≠ 0; decide), ?_⟩⟩⟩
      refine ⟨_, rfl, mix1 (cellB st) (st.n + 1), 16807, rfl, rfl, sm o0 (by unfold mix1; omega), _, rfl, sa, _, 2, .int (st.n + 1), rfl, rfl, .of d3.hs, rfl, st.n + 1, 40692, rfl, rfl, sm (by omega) (by omega), _, _, rfl, rfl, _, 7, rfl, rfl, .inl ⟨_, rfl, _, 5, rfl, rfl, pow5_small (by unfold mix1; omega) (by unfold mix1; omega), _, 2147483629, rfl, rfl, (by show (2147483629 : Int) ≠ 0; decide), ?_⟩⟩
      refine ⟨_, rfl, mix2 (mix1 (cellB st) (st.n + 1)) (st.n + 1), 16, rfl, rfl, ⟨by decide, by decide⟩, _, rfl, _, size, rfl, rfl, hz', ?_⟩
      obtain ⟨M', ex, sat'⟩ := d3
      exact res F0 M' _ _ ex ⟨a0, sat'⟩ (by simp only [Rep])
end
end PD

namespace PD
open PySem PySem.Spec PyProof.Rows L2
/-! ### the state's making, the other form -/
def st1 (ns : List Int) : St1 := ⟨ns, 0, 0⟩
def spStart (K : PySem.W.Frag) : Sp := fun vs H Q _ => ∃ (a : Addr) (ns : List Int), vs = [.ref a] ∧ SqL K H a (ns.map V.int) ∧ ns.length ≤ 63 ∧
  ∀ s M H', Same H H' → Same M H' → (∀ b, M b ≠ none → H b = none) → RB s (st1 ns) M → Q (.ref s) H'
def cStart : GE Unit := gCB (o1 intD) (gCons (gVar 1) gNil)
theorem lc_start (ns : List Int) (ρ : Sl) (h1 : 1 < ρ.length) : lcGo (tgName 1) gYes cStart ρ (ns.map D.int) () = .ok (ns.map D.int) () := by
  induction ns with
  | nil => rfl
  | cons n ns ih =>
    have e0 : ∀ d, (ρ.set 1 (.val d))[1]? = some (.val d) := fun d => List.getElem?_set_self h1
    have e1 : tgName 1 (.int n) ρ = some (ρ.set 1 (.val (.int n))) := if_pos h1
    have e2 : cStart (ρ.set 1 (.val (.int n))) () = .ok (.int n) () := by
      simp [cStart, gCB, gCons, gVar, gNil, e0, slotD, Res.bind, Res.of, o1, intD]
    rw [List.map_cons]
    unfold lcGo
    rw [e1]
    show Res.bind (noErr (cStart (ρ.set 1 (.val (.int n))) ())) _ = _
    rw [e2]
    show (Res.bind (lcGo (tgName 1) gYes cStart ρ (ns.map D.int) ()) fun ys st => .ok (.int n :: ys) st) = _
    rw [ih]
    rfl
section
variable {Pr : Program} {w : World} {K : PySem.W.Frag} {mg : Str → Option Value} {base : Heap}
theorem scr_rep {P : Pm} {F : Hp} {a : Addr} {ns : List Int} (h : SqL P.K F a (ns.map V.int)) : Rep P F (.scr (ns.map D.int)) (.ref a) := by
  simp only [Rep]
  exact ⟨a, _, rfl, h, Reps.pyI ns⟩
theorem sc_law_start : FnScope ["_law_script", "_law_cell"] ["_law_script"] (defScope s_law_start) := ⟨rfl, rfl, rfl, by decide +kernel, rfl, by decide +kernel, by decide +kernel⟩
theorem ok_law_start {f : Addr} {fd : FuncData} (T : TxtB mg) (F : Fun K "_law_start" "_law_start" s_law_start f fd) : FnOk Pr w K mg base (L2.CX Pr w) 1 f fd ["_law_script"] (spStart K) := by
  refine F.okX sc_law_start (fun vs H Q E h => by obtain ⟨a, ns, rfl, _⟩ := h; rfl) (fun cdv A outer s H vs Q E hr h => ?_)
  obtain ⟨a, ns, rfl, hS, hlen, k⟩ := h
  have sc := sc_law_start
  refine ⟨_, pss_one (ps_ret (pe_lst (pa_cons (pe_lc (own := [("_law_cell", 1)]) rfl sc.nd (pi_all (pv 0)) (blkOk_by (N := ["_law_script", "_law_cell"]) (sc := defScope s_law_start) (by decide +kernel)) (fun _ _ _ _ _ => (pg_name (i := 1) sc.nd rfl (by first | exact Or.inl rfl | exact Or.inr rfl)))
      (fun _ _ _ _ _ => pts_nil) (fun _ _ _ _ _ => (pe_callTy call_intA (by rfl) T.n_int boot_x_int (pa_cons (pv 1) pa_nil))))
    (pa_cons pe_int (pa_cons pe_int pa_nil))))), ?_⟩
  have pre : Pre H (fun _ => none) (fun _ => none) H := ⟨.refl H, fun _ _ z => (nomatch z), fun _ _ z => (nomatch z), fun _ => .inr rfl, fun _ => .inr rfl, fun _ => .inr rfl⟩
  have wi : WI (τ := Unit) ⟨K, mg, 0, 0⟩ (fun _ _ => True) H (fun _ => none) (fun _ => none) H (L2.start ["_law_script", "_law_cell"] [.ref a]) [.val (.scr (ns.map D.int)), .un] () :=
    wi_start (N := ["_law_script", "_law_cell"]) (ds := [.scr (ns.map D.int)]) pre trivial ⟨.ref a, [], rfl, (scr_rep (P := ⟨K, mg, 0, 0⟩) hS).b, rfl⟩ (by simp)
  have ev : EvN (τ := Unit) ⟨K, mg, 0, 0⟩ (fun _ _ => True) W0 _ (gLc (gIt (gVar 0)) (tgName 1) gYes cStart [1]) :=
    evn_lc (vs := [1]) (evi_all rfl (ev_var 0)) (tgd_name (by decide)) evt_yes (ev_cb calld_int (eva_cons (ev_var 1) eva_nil))
  have cal : (gLc (gIt (gVar 0)) (tgName 1) gYes cStart [1]) [.val (.scr (ns.map D.int)), .un] () = .ok (ns.map D.int) () := by
    show (if (ns.map D.int).length ≤ line then lcGo _ _ _ _ (ns.map D.int) () else .stuck) = _
    rw [if_pos (by rw [List.length_map]; show ns.length ≤ 16777216; omega)]
    exact lc_start ns _ (by simp [wipeS])
  refine ret_lst3 (ev H _ _ H _ _ () wi _ ?_)
  rw [cal]
  intro F1 M1 H1 a0 vs E1 _ n0 f0 m0 h0 rs
  have s1 : Same H H1 := fun b o e => E1.keep b o e rfl
  have ev0 : vs = ns.map V.int := by
    have key : ∀ (l : List Int) (vs : List V), Reps ⟨K, mg, 0, 0⟩ F1 (l.map D.int) vs → vs = l.map V.int := by
      intro l
      induction l with
      | nil => intro vs r; simpa only [List.map_nil, Reps] using r
      | cons x l ih =>
        intro vs r
        obtain ⟨v, ws, rfl, r1, rs⟩ := r.uncons
        simp only [Rep] at r1
        rw [r1, ih ws rs]; rfl
    exact key _ _ rs
  subst ev0
  refine ⟨?_, fun s hs => ?_⟩
  · show 3 ≤ sizeLine; decide
  have ss := same_updP (o := .lst [V.ref a0, V.int 0, V.int 0]) hs
  have n0s : a0 ≠ s := fun z => by rw [← z, h0] at hs; cases hs
  have hsH : H s = none := s1.none hs
  refine k s (upd (upd (fun _ => none) a0 (.lst (ns.map V.int))) s (.lst [V.ref a0, V.int 0, V.int 0])) _ (s1.trans ss) (fun b o e => ?_) (fun b e => ?_) ⟨a0, upd_same, ?_, n0s⟩
  · by_cases hb : b = s
    · subst hb; rw [upd_same] at e ⊢; exact e
    · rw [upd_ne hb] at e ⊢
      by_cases hb2 : b = a0
      · subst hb2; rw [upd_same] at e; cases e; exact h0
      · rw [upd_ne hb2] at e; cases e
  · by_cases hb : b = s
    · subst hb; exact hsH
    · rw [upd_ne hb] at e
      by_cases hb2 : b = a0
      · subst hb2; exact n0
      · rw [upd_ne hb2] at e; exact absurd rfl e
  · rw [upd_ne n0s]; exact upd_same
def spLaw (K : PySem.W.Frag) : Sp := fun vs H Q _ => ∃ (a : Addr) (ns : List Int), vs = [.ref a] ∧ SqL K H a (ns.map V.int) ∧ ns.length ≤ 63 ∧ ∀ H', Q (.bl true) H'
theorem fn_law {f : Addr} {fd : FuncData} {stm : Stmt} {N : List Str} {lv k : Nat} {g : GS St1} (F : Fun K "law" "law" stm f fd) (S : FnScope ("_law_script" :: "_law_state" :: N) ["_law_script"] (defScope stm)) (cs : Cal Pr w K mg base lv "_law_start" ["_law_script"] (spStart K)) (hlv : lv ≤ k)
    {first : Stmt} {rest : List Stmt} (hb : defBody stm = first :: rest)
    (h1 : ∀ (cdv : Value) (A : Around) (outer : List Env) (s : Shared) (H : Hp) (E : XK), Room k (A.deeper (envOfC "law" (defScope stm) s.heap.objs.size f cdv)) →
      PS (cxOf (L2.CX Pr w) Pr w K mg base ("_law_script" :: "_law_state" :: N) "law" (defScope stm) f cdv A outer s H E) first (tAsg (tCallS (spStart K) (WE fun c d _ H' => E c d H') (tCons (tVar 0) tNil)) (gName 1)))
    (hbody : ∀ (cdv : Value) (A : Around) (outer : List Env) (s : Shared) (H : Hp) (E : XK), Room k (A.deeper (envOfC "law" (defScope stm) s.heap.objs.size f cdv)) →
      ∃ t, PSs (cxOf (L2.CX Pr w) Pr w K mg base ("_law_script" :: "_law_state" :: N) "law" (defScope stm) f cdv A outer s H E) rest t ∧ ∀ sa, EvS ⟨K, mg, sa, 0⟩ (RB sa) (fun c d _ H' => E c d H') t g)
    (hg : ∀ ns : List Int, ns.length ≤ 63 → SatS (g (.val (.scr (ns.map D.int)) :: .val .state :: List.replicate N.length .un) (st1 ns)) (fun fl _ => fl = .rt (.bl true))) :
    FnOk Pr w K mg base (L2.CX Pr w) (k + 1) f fd ["_law_script"] (spLaw K) := by
  refine F.okX S (fun vs H Q E h => by obtain ⟨a, ns, rfl, _⟩ := h; rfl) (fun cdv A outer s H vs Q E hr h => ?_)
  obtain ⟨a, ns, rfl, hS, hlen, q⟩ := h
  obtain ⟨t, ht, hev⟩ := hbody cdv A outer s H E hr
  refine ⟨tSeq _ t, by rw [hb]; exact pss_cons (h1 cdv A outer s H E hr) ht, ?_⟩
  refine ⟨.ref a, rfl, a, ns, rfl, hS, hlen, fun sa M H' hH hM hd hR => ?_⟩
  have pre : Pre H (fun _ => none) M H' := ⟨hH, fun _ _ z => (nomatch z), hM, fun _ => .inr rfl, fun b => by
    by_cases e : M b = none
    · exact .inr e
    · exact .inl (hd b e), fun _ => .inl rfl⟩
  have wi : WI ⟨K, mg, sa, 0⟩ (RB sa) H (fun _ => none) M H' (L2.start ("_law_script" :: "_law_state" :: N) [.ref a]) (.val (.scr (ns.map D.int)) :: List.replicate (N.length + 1) .un) (st1 ns) :=
    wi_start (N := "_law_script" :: "_law_state" :: N) (ds := [.scr (ns.map D.int)]) pre hR ⟨.ref a, [], rfl, (scr_rep (P := ⟨K, mg, sa, 0⟩) hS).b, rfl⟩ (by simp)
  have wi2 := wi.set (i := 1) (d := .state) (v := .ref sa) (by simp only [Rep])
  refine hev sa H _ M H' _ _ (st1 ns) wi2 _ ?_
  have hs := hg ns hlen
  refine SatS.mono (r := g _ _) (k := fun fl _ => fl = .rt (.bl true)) (by simpa [List.replicate_succ] using hs) fun fl st' e => ?_
  subst e
  intro F' M' H2 v e R' r
  simp only [Rep] at r
  subst r
  exact q H2
end
/-! ### draws -/
/-- k draws may still come -/
structure Ok (k : Nat) (st : St1) : Prop where
  h0 : 0 ≤ st.n
  h1 : st.n + (k : Nat) < lim
  h2 : 0 ≤ st.pl
theorem Ok.le {j k : Nat} {st : St1} (h : Ok k st) (l : j ≤ k) : Ok j st := ⟨h.h0, by have := h.h1; omega, h.h2⟩
theorem sat_draw {size : Int} {st : St1} {k : Nat} {ok : D → St1 → Prop} {er : Exn → St1 → Prop} (h : Ok (k + 1) st) (hz : 0 < size) (hz2 : size < 1208925819614629174706176) (q : ∀ r st', 0 ≤ r → r < size → Ok k st' → ok (.int r) st') :
    Sat (m_law_take [.state, .int size] st) ok er := by
  have h0 := h.h0
  have h1 := h.h1
  have h2 := h.h2
  show Sat (takeB size st) ok er
  unfold takeB
  rw [if_pos ⟨hz, hz2, h0, by omega, h2⟩]
  by_cases hg : 10 ^ 18 ≤ absI (cellB st)
  · rw [if_pos hg]
    obtain ⟨m0, m1⟩ := fmod_lt (a := absI (cellB st)) hz
    exact q _ _ m0 m1 ⟨by show 0 ≤ st.n + 1; omega, by show st.n + 1 + (k : Nat) < lim; omega, h2⟩
  · rw [if_neg hg]
    obtain ⟨m0, m1⟩ := fmod_lt (a := (mix2 (mix1 (cellB st) (st.n + 1)) (st.n + 1)).fdiv 16) hz
    exact q _ _ m0 m1 ⟨by show 0 ≤ st.n + 1; omega, by show st.n + 1 + (k : Nat) < lim; omega, by show 0 ≤ st.pl + 1; omega⟩
theorem st0_ok (ns : List Int) : Ok 1000000000 (st1 ns) := ⟨Int.le_refl 0, show (0 : Int) + ((1000000000 : Nat) : Int) < lim by decide, Int.le_refl 0⟩
end PD

namespace PD
open PySem PySem.Spec PyProof.Rows L2
/-! ### what a mirror comes to, step by step -/
section
variable {τ α β : Type}
@[simp] theorem Sat.bind_iff {r : Res τ α} {f : α → τ → Res τ β} {ok : β → τ → Prop} {er : Exn → τ → Prop} : Sat (r.bind f) ok er ↔ Sat r (fun a st => Sat (f a st) ok er) er := by
  cases r <;> exact Iff.rfl
@[simp] theorem Sat.ok_iff {a : α} {st : τ} {ok : α → τ → Prop} {er : Exn → τ → Prop} : Sat (.ok a st) ok er ↔ ok a st := Iff.rfl
@[simp] theorem Sat.err_iff {x : Exn} {st : τ} {ok : α → τ → Prop} {er : Exn → τ → Prop} : Sat (.err x st) ok er ↔ er x st := Iff.rfl
@[simp] theorem Sat.of_some {a : α} {st : τ} {ok : α → τ → Prop} {er : Exn → τ → Prop} : Sat (.of (some a) st) ok er ↔ ok a st := Iff.rfl
theorem Sat.of_iff {o : Option α} {st : τ} {ok : α → τ → Prop} {er : Exn → τ → Prop} : Sat (.of o st) ok er ↔ ∃ a, o = some a ∧ ok a st := by
  cases o with
  | none => exact ⟨fun h => h.elim, fun ⟨_, h, _⟩ => nomatch h⟩
  | some a => exact ⟨fun h => ⟨a, rfl, h⟩, fun ⟨_, h, k⟩ => by cases h; exact k⟩
@[simp] theorem Sat.ite_iff {c : Prop} [Decidable c] {a b : Res τ α} {ok : α → τ → Prop} {er : Exn → τ → Prop} : Sat (if c then a else b) ok er ↔ if c then Sat a ok er else Sat b ok er := by
  split <;> exact Iff.rfl
@[simp] theorem Sat.noErr_iff {r : Res τ α} {ok : α → τ → Prop} {er : Exn → τ → Prop} : Sat (PD.noErr r) ok er ↔ Sat r ok (fun _ _ => False) := by
  cases r <;> exact Iff.rfl
@[simp] theorem SatS.some_iff {f : Fl} {st : τ} {k : Fl → τ → Prop} : SatS (some (f, st)) k ↔ k f st := Iff.rfl
@[simp] theorem SatS.none_iff {k : Fl → τ → Prop} : SatS none k ↔ False := Iff.rfl
@[simp] theorem SatS.thenE_iff {r : Res τ α} {ρ : Sl} {f : α → τ → RS τ} {k : Fl → τ → Prop} : SatS (PD.thenE r ρ f) k ↔ Sat r (fun a st => SatS (f a st) k) (fun x st => k (.ex x ρ) st) := by
  cases r <;> exact Iff.rfl
@[simp] theorem SatS.ite_iff {c : Prop} [Decidable c] {a b : RS τ} {k : Fl → τ → Prop} : SatS (if c then a else b) k ↔ if c then SatS a k else SatS b k := by
  split <;> exact Iff.rfl
/-- what follows a block's end -/
def thenS (b : GS τ) (k : Fl → τ → Prop) : Fl → τ → Prop
  | .nx ρ, st => SatS (b ρ st) k
  | f, st => k f st
@[simp] theorem SatS.seq_iff {a b : GS τ} {ρ : Sl} {st : τ} {k : Fl → τ → Prop} : SatS (sSeq a b ρ st) k ↔ SatS (a ρ st) (thenS b k) := by
  unfold sSeq
  cases e : a ρ st with
  | none => exact Iff.rfl
  | some p => obtain ⟨f, st'⟩ := p; cases f <;> exact Iff.rfl
theorem thenS_nx {b : GS τ} {k : Fl → τ → Prop} {ρ : Sl} {st : τ} : thenS b k (.nx ρ) st ↔ SatS (b ρ st) k := Iff.rfl
@[simp] theorem thenS_rt {b : GS τ} {k : Fl → τ → Prop} {d : D} {st : τ} : thenS b k (.rt d) st ↔ k (.rt d) st := Iff.rfl
@[simp] theorem thenS_rn {b : GS τ} {k : Fl → τ → Prop} {d : List D} {st : τ} : thenS b k (.rn d) st ↔ k (.rn d) st := Iff.rfl
@[simp] theorem thenS_ex {b : GS τ} {k : Fl → τ → Prop} {x : Exn} {ρ : Sl} {st : τ} : thenS b k (.ex x ρ) st ↔ k (.ex x ρ) st := Iff.rfl
/-- a loop -/
def forK (t : D → Sl → Option Sl) (body : GS τ) (ds : List D) (k : Fl → τ → Prop) : Fl → τ → Prop
  | .nx ρ, st => SatS (sForGo t body ds ρ st) k
  | .ct ρ, st => SatS (sForGo t body ds ρ st) k
  | .bk ρ, st => k (.nx ρ) st
  | f, st => k f st
theorem SatS.for_cons {t : D → Sl → Option Sl} {body : GS τ} {d : D} {ds : List D} {ρ ρ1 : Sl} {st : τ} {k : Fl → τ → Prop} (h : t d ρ = some ρ1) : SatS (sForGo t body (d :: ds) ρ st) k ↔ SatS (body ρ1 st) (forK t body ds k) := by
  have e : sForGo t body (d :: ds) ρ st = match body ρ1 st with
      | some (.nx ρ2, st2) => sForGo t body ds ρ2 st2
      | some (.ct ρ2, st2) => sForGo t body ds ρ2 st2
      | some (.bk ρ2, st2) => some (.nx ρ2, st2)
      | r => r := by
    rw [sForGo, h] <;> rfl
  rw [e]
  cases e2 : body ρ1 st with
  | none => exact Iff.rfl
  | some p => obtain ⟨f, st'⟩ := p; cases f <;> exact Iff.rfl
theorem SatS.for_nil {t : D → Sl → Option Sl} {body : GS τ} {ρ : Sl} {st : τ} {k : Fl → τ → Prop} : SatS (sForGo t body [] ρ st) k ↔ k (.nx ρ) st := Iff.rfl
@[simp] theorem SatS.for_iff {gi : GI τ} {t : D → Sl → Option Sl} {body : GS τ} {ρ : Sl} {st : τ} {k : Fl → τ → Prop} : SatS (sFor gi t body ρ st) k ↔ Sat (gi ρ st) (fun ds st => SatS (sForGo t body ds ρ st) k) (fun x st => k (.ex x ρ) st) := SatS.thenE_iff
@[simp] theorem forK_nx {t : D → Sl → Option Sl} {body : GS τ} {ds : List D} {k : Fl → τ → Prop} {ρ : Sl} {st : τ} : forK t body ds k (.nx ρ) st ↔ SatS (sForGo t body ds ρ st) k := Iff.rfl
@[simp] theorem forK_rt {t : D → Sl → Option Sl} {body : GS τ} {ds : List D} {k : Fl → τ → Prop} {d : D} {st : τ} : forK t body ds k (.rt d) st ↔ k (.rt d) st := Iff.rfl
/-- over a list, by an invariant: I before the items that are left -/
theorem SatS.for_inv {t : D → Sl → Option Sl} {body : GS τ} {k : Fl → τ → Prop} (I : List D → Sl → τ → Prop)
    (hd : ∀ ρ st, I [] ρ st → k (.nx ρ) st)
    (hs : ∀ d ds ρ st, I (d :: ds) ρ st → ∃ ρ1, t d ρ = some ρ1 ∧ SatS (body ρ1 st) (fun f st' => match f with
      | .nx ρ2 => I ds ρ2 st'
      | .ct ρ2 => I ds ρ2 st'
      | .bk ρ2 => k (.nx ρ2) st'
      | f => k f st')) : ∀ (ds : List D) (ρ : Sl) (st : τ), I ds ρ st → SatS (sForGo t body ds ρ st) k
  | [], ρ, st, h => hd ρ st h
  | d :: ds, ρ, st, h => by
    obtain ⟨ρ1, e, q⟩ := hs d ds ρ st h
    rw [SatS.for_cons e]
    refine q.mono fun f st' r => ?_
    cases f with
    | nx ρ2 => exact SatS.for_inv I hd hs ds ρ2 st' r
    | ct ρ2 => exact SatS.for_inv I hd hs ds ρ2 st' r
    | bk ρ2 => exact r
    | rt d => exact r
    | rn d => exact r
    | ex x ρ => exact r
/-- the call of a def, by its body -/
theorem Sat.fn_iff {N : Nat} {g : GS τ} {ds : List D} {st : τ} {ok : D → τ → Prop} {er : Exn → τ → Prop}
    (h : SatS (g (ds.map slOf ++ List.replicate (N - ds.length) .un) st) (fun f st' => match f with
      | .rt d => ok d st'
      | .rn xs => ok (.lst xs) st'
      | .nx _ => ok .non st'
      | .ex x _ => er x st'
      | _ => False)) : Sat (gFn N g ds st) ok er := by
  unfold gFn
  cases e : g (ds.map slOf ++ List.replicate (N - ds.length) .un) st with
  | none => rw [e] at h; exact h.elim
  | some p =>
    obtain ⟨f, st'⟩ := p
    rw [e] at h
    cases f <;> exact h
theorem Sat.fnN_iff {N : Nat} {g : GS τ} {ds : List D} {st : τ} {ok : List D → τ → Prop} {er : Exn → τ → Prop}
    (h : SatS (g (ds.map slOf ++ List.replicate (N - ds.length) .un) st) (fun f st' => match f with
      | .rn xs => ok xs st'
      | .ex x _ => er x st'
      | _ => False)) : Sat (gFnN N g ds st) ok er := by
  unfold gFnN
  cases e : g (ds.map slOf ++ List.replicate (N - ds.length) .un) st with
  | none => rw [e] at h; exact h.elim
  | some p =>
    obtain ⟨f, st'⟩ := p
    rw [e] at h
    cases f <;> exact h
/-- a comprehension, item by item -/
theorem Sat.lc_cons {tg : D → Sl → Option Sl} {c : GT τ} {e : GE τ} {ρ ρ1 : Sl} {d : D} {ds : List D} {st : τ} {ok : List D → τ → Prop} {er : Exn → τ → Prop} (h : tg d ρ = some ρ1) :
    Sat (lcGo tg c e ρ (d :: ds) st) ok er ↔ Sat (c ρ1 st) (fun b st => if b = true then Sat (e ρ1 st) (fun y st => borFree y = true ∧ Sat (lcGo tg c e ρ ds st) (fun ys st => ok (y :: ys) st) er) (fun _ _ => False) else Sat (lcGo tg c e ρ ds st) ok er) (fun _ _ => False) := by
  rw [lcGo, h]
  simp only [Sat.bind_iff, Sat.of_some, Sat.noErr_iff, Sat.ite_iff]
  have key : ∀ (y : D) (st : τ), (if borFree y = true then Sat (lcGo tg c e ρ ds st) (fun a st => Sat (Res.ok (y :: a) st) ok er) er else Sat Res.stuck ok er) ↔ (borFree y = true ∧ Sat (lcGo tg c e ρ ds st) (fun ys st => ok (y :: ys) st) er) := by
    intro y st
    by_cases hb : borFree y = true
    · rw [if_pos hb]; exact ⟨fun q => ⟨hb, q⟩, fun q => q.2⟩
    · rw [if_neg hb]; exact ⟨fun q => q.elim, fun q => absurd q.1 hb⟩
  simp only [key]
theorem Sat.lc_nil {tg : D → Sl → Option Sl} {c : GT τ} {e : GE τ} {ρ : Sl} {st : τ} {ok : List D → τ → Prop} {er : Exn → τ → Prop} : Sat (lcGo tg c e ρ [] st) ok er ↔ ok [] st := Iff.rfl
end
/-! ### values -/
theorem shaped_int (i : Int) : SeqAt.shaped (.int i) = true := by simp [SeqAt.shaped, PyData.canLay0, PyData.depth]
theorem shaped_bool (i : Bool) : SeqAt.shaped (.bool i) = true := by simp [SeqAt.shaped, PyData.canLay0, PyData.depth]
/-- the signs of a text are signs -/
def sOk (i : Str) : Bool := PyData.strOk i
theorem shaped_str {i : Str} (h : sOk i = true) : SeqAt.shaped (.str i) = true := by
  have h : PyData.strOk i = true := h
  simp [SeqAt.shaped, PyData.canLay0, PyData.depth, h]
@[simp] theorem dEq_int (a b : Int) : dEq (.int a) (.int b) = some (.bl (a == b)) := by simp [dEq, dEqB, toPy, shaped_int, PyData.eqv]
@[simp] theorem dNe_int (a b : Int) : dNe (.int a) (.int b) = some (.bl (!(a == b))) := by simp [dNe, dEqB, toPy, shaped_int, PyData.eqv]
theorem dEq_str {a b : Str} (h : sOk a = true) (k : sOk b = true) : dEq (.str a) (.str b) = some (.bl (a == b)) := by simp [dEq, dEqB, toPy, shaped_str h, shaped_str k, PyData.eqv]
theorem dNe_str {a b : Str} (h : sOk a = true) (k : sOk b = true) : dNe (.str a) (.str b) = some (.bl (!(a == b))) := by simp [dNe, dEqB, toPy, shaped_str h, shaped_str k, PyData.eqv]
@[simp] theorem dEq_bl (a b : Bool) : dEq (.bl a) (.bl b) = some (.bl (a == b)) := by simp [dEq, dEqB, toPy, shaped_bool, PyData.eqv]
@[simp] theorem dNe_bl (a b : Bool) : dNe (.bl a) (.bl b) = some (.bl (!(a == b))) := by simp [dNe, dEqB, toPy, shaped_bool, PyData.eqv]
/-! data that the kit compares -/
mutual
def okD : D → Bool
  | .non => true
  | .bl _ => true
  | .int _ => true
  | .str s => sOk s
  | .tup xs => okDs xs
  | .lst xs => okDs xs
  | .bor xs => okDs xs
  | .scr xs => okDs xs
  | .dct _ => false
  | .ins _ _ => false
  | .state => false
  | .cls _ => false
def okDs : List D → Bool
  | [] => true
  | d :: ds => okD d && okDs ds
end
mutual
def dptD : D → Nat
  | .tup xs => dptDs xs + 1
  | .lst xs => dptDs xs + 1
  | .bor xs => dptDs xs + 1
  | .scr xs => dptDs xs + 1
  | _ => 0
def dptDs : List D → Nat
  | [] => 0
  | d :: ds => max (dptD d) (dptDs ds)
end
mutual
theorem okD_py : ∀ d : D, okD d = true → ∃ p, toPy d = some p ∧ PyData.canLay0 p = true ∧ PyData.depth p = dptD d
  | .non, _ => ⟨.none, by simp only [toPy], by simp only [PyData.canLay0], by simp only [PyData.depth, dptD]⟩
  | .bl b, _ => ⟨.bool b, by simp only [toPy], by simp only [PyData.canLay0], by simp only [PyData.depth, dptD]⟩
  | .int i, _ => ⟨.int i, by simp only [toPy], by simp only [PyData.canLay0], by simp only [PyData.depth, dptD]⟩
  | .str s, h => ⟨.str s, by simp only [toPy], by simp only [PyData.canLay0]; simpa only [okD, sOk] using h, by simp only [PyData.depth, dptD]⟩
  | .tup xs, h => by
    obtain ⟨ps, e, c, k⟩ := okDs_py xs (by simpa only [okD] using h)
    exact ⟨.tuple ps, by simp only [toPy, e, Option.map_some], by simpa only [PyData.canLay0] using c, by simp only [PyData.depth, dptD, k]⟩
  | .lst xs, h => by
    obtain ⟨ps, e, c, k⟩ := okDs_py xs (by simpa only [okD] using h)
    exact ⟨.list ps, by simp only [toPy, e, Option.map_some], by simpa only [PyData.canLay0] using c, by simp only [PyData.depth, dptD, k]⟩
  | .bor xs, h => by
    obtain ⟨ps, e, c, k⟩ := okDs_py xs (by simpa only [okD] using h)
    exact ⟨.list ps, by simp only [toPy, e, Option.map_some], by simpa only [PyData.canLay0] using c, by simp only [PyData.depth, dptD, k]⟩
  | .scr xs, h => by
    obtain ⟨ps, e, c, k⟩ := okDs_py xs (by simpa only [okD] using h)
    exact ⟨.list ps, by simp only [toPy, e, Option.map_some], by simpa only [PyData.canLay0] using c, by simp only [PyData.depth, dptD, k]⟩
  | .dct _, h => by simp only [okD] at h; cases h
  | .ins _ _, h => by simp only [okD] at h; cases h
  | .state, h => by simp only [okD] at h; cases h
  | .cls _, h => by simp only [okD] at h; cases h
theorem okDs_py : ∀ ds : List D, okDs ds = true → ∃ ps, toPys ds = some ps ∧ PyData.canLayAll0 ps = true ∧ PyData.depthAll ps = dptDs ds
  | [], _ => ⟨[], by simp only [toPys], by simp only [PyData.canLayAll0], by simp only [PyData.depthAll, dptDs]⟩
  | d :: ds, h => by
    have h : okD d = true ∧ okDs ds = true := by simpa only [okDs, Bool.and_eq_true] using h
    obtain ⟨p, e, c, k⟩ := okD_py d h.1
    obtain ⟨ps, e2, c2, k2⟩ := okDs_py ds h.2
    exact ⟨p :: ps, by simp only [toPys, e, e2], by simp only [PyData.canLayAll0, c, c2, Bool.and_self], by simp only [PyData.depthAll, dptDs, k, k2]⟩
end
/-- == of data -/
def eqD (x y : D) : Bool :=
  match toPy x, toPy y with
  | some a, some b => PyData.eqv a b
  | _, _ => false
theorem dEqB_ok {x y : D} (hx : okD x = true) (hy : okD y = true) (dx : dptD x ≤ 64) (dy : dptD y ≤ 64) : dEqB x y = some (eqD x y) := by
  obtain ⟨a, e, c, k⟩ := okD_py x hx
  obtain ⟨b, e2, c2, k2⟩ := okD_py y hy
  have h1 : SeqAt.shaped a = true := by simp only [SeqAt.shaped, c, k, dx, decide_true, Bool.and_self]
  have h2 : SeqAt.shaped b = true := by simp only [SeqAt.shaped, c2, k2, dy, decide_true, Bool.and_self]
  simp only [dEqB, eqD, e, e2]
  rw [if_pos ⟨h1, h2⟩]
theorem dEq_ok {x y : D} (hx : okD x = true) (hy : okD y = true) (dx : dptD x ≤ 64) (dy : dptD y ≤ 64) : dEq x y = some (.bl (eqD x y)) := by simp only [dEq, dEqB_ok hx hy dx dy, Option.map_some]
theorem dNe_ok {x y : D} (hx : okD x = true) (hy : okD y = true) (dx : dptD x ≤ 64) (dy : dptD y ≤ 64) : dNe x y = some (.bl (!eqD x y)) := by simp only [dNe, dEqB_ok hx hy dx dy, Option.map_some]
theorem okDs_all : ∀ {ds : List D}, (∀ d ∈ ds, okD d = true) → okDs ds = true
  | [], _ => by simp only [okDs]
  | d :: ds, h => by simp only [okDs, h d (.head _), okDs_all fun e he => h e (.tail _ he), Bool.and_self]
theorem dptDs_le : ∀ {ds : List D} {n : Nat}, (∀ d ∈ ds, dptD d ≤ n) → dptDs ds ≤ n
  | [], _, _ => by simp only [dptDs]; exact Nat.zero_le _
  | d :: ds, n, h => by simp only [dptDs]; exact Nat.max_le.mpr ⟨h d (.head _), dptDs_le fun e he => h e (.tail _ he)⟩
theorem eqD_nil {xs : List D} (h : okDs xs = true) : eqD (.lst xs) (.lst []) = xs.isEmpty := by
  obtain ⟨ps, e, _, _⟩ := okDs_py xs h
  cases xs with
  | nil => simp [eqD, toPy, toPys, PyData.eqv, PyData.eqvAll]
  | cons d ds =>
    simp only [toPys] at e
    split at e
    · rename_i a r e1 e2
      simp [eqD, toPy, toPys, e1, e2, PyData.eqv, PyData.eqvAll]
    · cases e
theorem eqD_bnil {xs : List D} (h : okDs xs = true) : eqD (.bor xs) (.lst []) = xs.isEmpty := by
  have := eqD_nil h
  simpa only [eqD, toPy] using this
@[simp] theorem dIn_sign (c : Nat) (z : Str) : dIn (.str ⟨#[c]⟩) (.str z) = some (.bl (decide (c ∈ z.cps))) := by
  simp only [dIn, inD, Option.map_some]
  rw [PySem.StrLaws.found_one]
  simp
@[simp] theorem dNotIn_sign (c : Nat) (z : Str) : dNotIn (.str ⟨#[c]⟩) (.str z) = some (.bl (!decide (c ∈ z.cps))) := by
  simp only [dNotIn, inD, Option.map_some]
  rw [PySem.StrLaws.found_one]
  simp
end PD

namespace PD
open PySem PySem.Spec PyProof.Rows L2
/-! ### errors of the program's own: making, raising, catching by several clauses -/
/-- the class above all own errors, and whose __init__ it hands down -/
structure BaseX (K : PySem.W.Frag) (mg : Str → Option Value) (T : Str) (A : Addr) : Prop where
  at_ : mg T = some (.ref A)
  rd : ClX.CRead K A (.type "type")
  ini : PySem.W.findCls K (.ref A) (.type "type") "__init__" = some (.val (.builtin "ValueError.__init__"))
section
variable {X : Cx}
theorem pe_binit {T : Str} {A : Addr} {e : Expr} {es : List Expr} {ta : TA} {p1 p2 pos : Pos} {pl : Sem Bool} (hg : Gl X T) (B : BaseX X.K X.mg T A) (ha : PA X (e :: es) ta) (hdb : (T == ("__debug__" : Str)) = false := by decide)
    (hc : eval (.Call (.Attribute (.Name T p1) "__init__" p2) (e :: es) [] pos) X.env = (do
      let o ← eval (.Name T p1) X.env
      standAt p2.atName
      let (g, fst) ← holding [o] (getMethod o "__init__" pl)
      callWith pos g fst (backTo pos (starEach (e :: es) X.env)) (backToKw pos (keywordEach [] X.env))) := by rfl)
    (hs : starEach (e :: es) X.env = (false, eval e X.env) :: starEach es X.env := by rfl) (hp : (backTo pos (starEach es X.env)).any (·.1) = false := by rfl) :
    PE X (.Call (.Attribute (.Name T p1) "__init__" p2) (e :: es) [] pos) (tVeI X.K ta) := by
  refine ⟨fun pins s σ H Q J q0 => PySem.W.methodCall_KW (ld_glob J hg B.at_ ?_ hdb) hc⟩
  refine PySem.W.method_cls J.kIn B.rd.ga (PySem.W.cls_value J.kIn B.rd.rd B.ini (by decide +kernel) ?_)
  show wpAny _ _ (callWith pos (Value.builtin "ValueError.__init__") [] (backTo pos (starEach (e :: es) X.env)) []) _ _ _
  refine PyProof.Rows.callWith_method1 (thn (ha.run pos pins _ σ H _ (J.tok _) q0) fun us z ⟨vs, H1, J1, rr, a, C, ws, hvs, hle, TC, hat, q⟩ => ?_) hs hp
  subst hvs
  cases rr with
  | @cons _ v0 _ vr r0 rrest =>
    obtain rfl : v0 = Value.ref a := r0
    exact oinit_ok TC J1 hat (by rw [← Paired.length rrest, sizeLine_eq]; omega) fun z' J2 => ⟨.non, H1, J2, rfl, q⟩
end
/-- __init__(self, f) of an own error: it keeps f -/
def spXI (K : PySem.W.Frag) (C : Addr) (fld : Str) : Sp := fun vs H Q _ => ∃ a v, vs = [.ref a, v] ∧ OexC K C ∧ PySem.W.findIn K (.ref C) fld = some none ∧ H a = some (exo a C none) ∧
  ∀ dx, H dx = none → dx ≠ a → Q .non (upd (upd H dx (exd dx [(fld, v)])) a (exo a C (some dx)))
theorem spXI_len {K : PySem.W.Frag} {C : Addr} {fld n : Str} : ∀ vs H Q E, spXI K C fld vs H Q E → vs.length = (["self", n] : List Str).length := by
  intro vs H Q E h
  obtain ⟨a, v, rfl, _⟩ := h
  rfl
/-- its body's reading -/
theorem xinit_reads {K : PySem.W.Frag} {C : Addr} {fld : Str} {vs : List V} {H : Hp} {Q : VK} {E : XK} {N : List Str} (hN : N.length = 2) {z : Str} (h : spXI K C fld vs H Q E) :
    tSeq (tDrop (tVeI K (tCons (tVar 0) (tCons (tC (.str z)) tNil)))) (tOst K fld (tVar 0) (tVar 1)) { nx := fun _ H' => Q .non H', rt := Q } (L2.start N vs) H := by
  obtain ⟨a, v, rfl, T, no, e, q⟩ := h
  have h0 : (L2.start N [.ref a, v])[0]? = some (some (.ref a)) := rfl
  have h1 : (L2.start N [.ref a, v])[1]? = some (some v) := rfl
  exact ⟨_, h0, a, C, [.str z], rfl, (by show 1 ≤ 1000; omega), T, e, v, h1, _, h0, a, C, rfl, T, no, .inl ⟨e, fun dx n ne => q dx n ne⟩⟩
/-! ### raise -/
section
variable {τ : Type} {P : Pm} {R : τ → Hp → Prop} {W : WX}
/-- raise C(e), the error's field fld -/
def sRaise (cls fld : Str) (g : GE τ) : GS τ := fun ρ st => thenE (g ρ st) ρ fun d st => if borFree d = true then some (.ex ⟨cls, fld, d⟩ ρ, st) else none
def tRaiseI (W : WX) (C : Addr) (sp : Sp) (ta : TA) : TS := fun _ σ H => tMkO C sp [] ta σ H fun cls d H' => W cls d σ H'
theorem evs_raise {cls fld : Str} {C : Addr} {te : TE} {g : GE τ} (hC : P.mg cls = some (.ref C)) (T : OexC P.K C) (no : PySem.W.findIn P.K (.ref C) fld = some none) (he : EvD P R W te g) :
    EvS P R W (tRaiseI W C (spXI P.K C fld) (tCons te tNil)) (sRaise cls fld g) := by
  intro F B M H σ ρ st w D hs
  refine he F B M H σ ρ st w _ (hs.thenE.mono (fun d st1 h1 F1 M1 H1 v E1 R1 r1 => ?_) fun x st1 z => EndK.kx w z)
  obtain ⟨bf, h1⟩ := SatS.ite h1
  refine ⟨by show 1 ≤ 1000; omega, fun a ha => ⟨a, v, rfl, T, no, upd_same, fun dx hdx ne => ⟨rfl, dx, [(fld, v)], upd_same, by rw [upd_ne ne, upd_same], ?_, ?_⟩⟩⟩
  · rw [upd_ne ne] at hdx; exact hdx
  · rw [upd_ne ne] at hdx
    have w1 := w.ext E1 R1
    have eH : upd (del (upd (upd (upd H1 a (exo a C none)) dx (exd dx [(fld, v)])) a (exo a C (some dx))) a) dx (.xd [(fld, v)]) = upd H1 dx (.xd [(fld, v)]) := by
      funext b
      by_cases hb : b = dx
      · subst hb; rw [upd_same, upd_same]
      · rw [upd_ne hb, upd_ne hb]
        by_cases hba : b = a
        · subst hba; rw [del_same, ha]
        · rw [del_ne hba, upd_ne hba, upd_ne hb, upd_ne hba]
    rw [eH]
    have E2 := Ext.own (o := .xd [(fld, v)]) w1.pre hdx
    exact (show EndK P R W F M H (Own ρ σ) D (.ex ⟨cls, fld, d⟩ ρ) st1 from h1) F1 B M1 _ σ (.ref C) (some dx) (.of (E1.trans E2)) (w1.ext E2 R1) ⟨C, dx, v, hC, rfl, rfl, upd_same, r1.rep bf⟩
end
/-! ### try with several clauses, each with a name or with none -/
/-- an end behind the suite: the clause's name is gone -/
def Ends.wipe (D : Ends) : Option Nat → Ends
  | none => D
  | some i => { nx := fun σ H => D.nx (σ.set i none) H, rt := D.rt, bk := fun σ H => D.bk (σ.set i none) H, ct := fun σ H => D.ct (σ.set i none) H }
def held (σ : L2.St) (a : Addr) : Option Nat → L2.St
  | none => σ
  | some i => σ.set i (some (.ref a))
abbrev Clause := Value × Option Nat × (Addr → Value → Option Addr → TS)
def wCl (K : PySem.W.Frag) (Wo : WX) (D : Ends) : List Clause → WX
  | [] => Wo
  | (c, i, ts) :: r => fun cls d σ H => ∃ b, PySem.W.exmOne K cls c = some b ∧ (b = true → ∀ a, H a = none → ts a cls d (Ends.wipe D i) (held σ a i) H) ∧ (b = false → wCl K Wo D r cls d σ H)
def NameOk (X : Cx) : Option Str → Option Nat → Prop
  | none, none => True
  | some n, some i => X.N[i]? = some n ∧ X.env.kindOf n = some .local
  | _, _ => False
inductive ClsOk (X : Cx) : List ExceptHandler → List Clause → Prop
  | nil : ClsOk X [] []
  | cons {x : Str} {c : Value} {n : Option Str} {i : Option Nat} {ts : Addr → Value → Option Addr → TS} {b : Stmt} {bs : List Stmt} {q1 q2 : Pos} {hr : List ExceptHandler} {l : List Clause} (hc : Names X x c) (hn : NameOk X n i)
      (hb : ∀ (a : Addr) (oe : Obj) (cls : Value) (d : Option Addr) (pn : List (Addr × Obj)), Zc cls d oe → (∃ vs, oe.data = .fields vs) → PSs (X.suite a ((a, oe) :: pn)) (b :: bs) (ts a cls d)) (r : ClsOk X hr l) :
      ClsOk X (.ExceptHandler (some (.Name x q1)) n (b :: bs) q2 :: hr) ((c, i, ts) :: l)
section
variable {X : Cx} {bd : List Stmt} {h1 : ExceptHandler} {hr : List ExceptHandler} {l : List Clause} {pos : Pos} {tb : WX → TS} {Wo : WX}
theorem ps_try_cl (hst : X.stack = X.env :: X.outer) (hfm : X.env.frame = some X.env.locals) (hN : X.N.Nodup) (tk : Takes X Wo)
    (hbd : ∀ (W : WX) (pn : List (Addr × Obj)) (xe : Value → Shared → Prop), Takes (X.tr pn xe) W → PassesOwn (model X.prog X.w) X.A X.env xe → PSs (X.tr pn xe) bd (tb W))
    (hcl : ClsOk X (h1 :: hr) l) : PS X (.Try bd (h1 :: hr) [] [] pos) (fun D σ H => tb (wCl X.K Wo D l) D σ H) := by
  refine ⟨fun pins s σ H D I h0 => ?_⟩
  have OK := I.ok
  have hAf : X.A.frames = some (X.env :: X.outer) := OK.frames.trans (congrArg some hst)
  refine wpAny_Try_except (wpAny_mono ((hbd (wCl X.K Wo D l) (X.pn ++ pins) (fun e z1 => wpAny (model X.prog X.w) X.A (noteFrame e X.env) (fun _ z2 => wpAny (model X.prog X.w) X.A (setFlight e none) (fun _ z3 =>
    wpAny (model X.prog X.w) X.A (handleBy e X.env (h1 :: hr)) (SP X pins D) X.xe z3) X.xe z2) X.xe z1) (fun u z xx => ?_) PassesOwn.looking).run [] s σ H D (I.toTry _) h0) (fun f z hz => ?_) (fun _ _ q => q))
  · obtain ⟨a, G, sI, pn', τ, K', cls, d, rfl, I0, nb, up0, sky0, na, eos, eag, wsh⟩ := xx
    have I1 : Inv X pins τ K' sI := I0.ofTry OK
    show wpAny (model X.prog X.w) X.A (noteFrame (.ref a) X.env) _ _ _
    refine Sky.land Zc.steady hAf hfm (show Sky G (X.env :: X.outer) a (Zc cls d) X.env.locals z.heap by rw [← hst]; exact sky0) fun g3 fl3 up3 => ?_
    have I3 : Inv X pins τ K' { z with heap := g3 } := I1.landed nb fl3.1 (up0.trans up3) eos eag
    obtain ⟨o3, v3, ho3, hz3, hd3⟩ := fl3.there
    have out : a ∉ frs (X.env :: X.outer) := fun hm => by
      obtain ⟨_, o', e', hnf⟩ := fl3.2.2.1.mem hm
      rw [ho3] at e'; cases e'
      exact hnf _ hd3
    have nL : a ≠ X.env.locals := fun q => out (List.mem_filterMap.mpr ⟨X.env, .head _, by rw [hfm, q]⟩)
    have nF : a ∉ X.fs := fun hm => by
      obtain ⟨e, he, q⟩ := List.mem_filterMap.mp hm
      exact out (List.mem_filterMap.mpr ⟨e, .tail _ he, q⟩)
    have S3 := I3.suite ho3 hd3 na nL nF
    have step : ∀ {hs : List ExceptHandler} {m : List Clause}, ClsOk X hs m → wCl X.K Wo D m cls d τ K' → wpAny (model X.prog X.w) X.A (handleBy (.ref a) X.env hs) (SP X pins D) X.xe { z with heap := g3 } := by
      intro hs m hk
      induction hk with
      | nil =>
        intro wsh
        refine wpAny_handleBy_nil ?_
        obtain ⟨_, _, _, oe, vs, T, oT, _, he, _, hd, e1, _⟩ := id fl3
        unfold PySem.passOn
        refine wpAny_bind (wpAny_field he hd e1 ?_)
        rw [if_neg (show ¬ ((Value.ref T == Value.none) = true) by simp)]
        have fin : wpAny (model X.prog X.w) X.A (setFlight (.ref a) X.env.frame) (fun _ y => wpAny (model X.prog X.w) X.A (throw (.ref a) : Sem Flow) (SP X pins D) X.xe y) X.xe { z with heap := g3 } := by
          rw [hfm]
          exact HandSPX.setFlight_upZ fl3 fun g4 hg4 up4 => wpAny_throw (tk _ _ ⟨a, G, sI, pins, τ, K', cls, d, rfl, I1, nb, (up0.trans up3).trans up4, .inr (.inr (by rw [hst]; exact hg4)), na, eos, eag, wsh⟩)
        first
          | exact wpAny_bind (wpAny_pure (wpAny_bind fin))
          | exact wpAny_bind fin
      | @cons x c n i ts b bs q1 q2 hr2 m2 hc hn hb r ih =>
        intro ⟨t, ht, yes, no⟩
        refine wpAny_handleBy_cons (codeAny_handlers_test ?_) (fun q => nomatch q)
        have LK := PySem.W.exm_one (M := model X.prog X.w) (s := { z with heap := g3 }) I3.kIn (fun _ _ _ _ k q => wpAny_typeOf_ref (k _ _ ho3) (by rw [hz3.1]; exact q)) ht
        have look : ∀ {Q E : Value → Shared → Prop}, Q c { z with heap := g3 } → wpAny (model X.prog X.w) (X.A.mark (some (.ref a))) (eval (.Name x q1) X.env) Q E { z with heap := g3 } := fun {Q E} q => by
          obtain ⟨hg, hdb, hm | ⟨hm, hv, hnn⟩⟩ := hc
          · exact ld_glob (X := X.suite a ((a, o3) :: (X.pn ++ pins))) S3 hg hm q hdb
          · exact ld_blt (X := X.suite a ((a, o3) :: (X.pn ++ pins))) S3 hg hm hv q hnn hdb
        refine look (LK _ _ _ (fun _ _ q => q) ?_)
        cases t with
        | false => exact ih (no rfl)
        | true =>
          match n, i, hn with
          | none, none, _ =>
            refine codeAny_handlers_suite (HandSPX.lands_againZ fl3 fun g4 fl4 up4 => ?_)
            obtain ⟨o4, v4, ho4, hz4, hd4⟩ := fl4.there
            have S4 := (I1.landed (s' := { z with heap := g4 }) nb fl4.1 ((up0.trans up3).trans up4) eos eag).suite ho4 hd4 na nL nF
            refine wpAny_mono ((hb a o4 cls d (X.pn ++ pins) hz4 ⟨_, hd4⟩).run [] _ _ K' _ S4 (yes rfl a na)) (fun f y hy => ?_) (fun _ _ q => q.elim)
            cases f with
            | next => obtain ⟨σ6, H6, S6, q6⟩ := hy; exact ⟨_, _, S6.unsuite OK, q6⟩
            | brk => obtain ⟨σ6, H6, S6, q6⟩ := hy; exact ⟨_, _, S6.unsuite OK, q6⟩
            | cont => obtain ⟨σ6, H6, S6, q6⟩ := hy; exact ⟨_, _, S6.unsuite OK, q6⟩
            | ret u => obtain ⟨v6, σ6, H6, S6, r6, q6⟩ := hy; exact ⟨_, _, _, S6.unsuite OK, r6, q6⟩
          | some n, some i, ⟨hi, hl⟩ =>
            refine codeAny_handlers_suite_as (HandSPX.lands_againZ fl3 fun g4 fl4 up4 => ?_)
            obtain ⟨o4, v4, ho4, hz4, hd4⟩ := fl4.there
            have S4 := (I1.landed (s' := { z with heap := g4 }) nb fl4.1 ((up0.trans up3).trans up4) eos eag).suite ho4 hd4 na nL nF
            refine store_ok (X := X.suite a ((a, o4) :: (X.pn ++ pins))) (v := .ref a) S4 hN hi (.inl hl) rfl (fun y5 S5 => ?_) (.inr hl)
            refine wpAny_mono ((hb a o4 cls d (X.pn ++ pins) hz4 ⟨_, hd4⟩).run [] y5 _ K' _ S5 (yes rfl a na)) (fun f y hy => ?_) (fun _ _ q => q.elim)
            have gone : ∀ {σ6 : L2.St} {H6 : Hp} {Q : Shared → Prop}, Inv (X.suite a ((a, o4) :: (X.pn ++ pins))) [] σ6 H6 y → (∀ y7, Inv X pins (σ6.set i none) H6 y7 → Q y7) →
                wpAny (model X.prog X.w) X.A (do bindName X.env n .none; unbindBehindTheSuite X.env n q2) (fun _ y7 => Q y7) X.xe y := fun {σ6 H6 Q} S6 hq => gone_ok (S6.unsuite OK) hN hi hl hq
            cases f with
            | next => obtain ⟨σ6, H6, S6, q6⟩ := hy; exact gone S6 fun y7 J => ⟨_, _, J, q6⟩
            | brk => obtain ⟨σ6, H6, S6, q6⟩ := hy; exact gone S6 fun y7 J => ⟨_, _, J, q6⟩
            | cont => obtain ⟨σ6, H6, S6, q6⟩ := hy; exact gone S6 fun y7 J => ⟨_, _, J, q6⟩
            | ret u => obtain ⟨v6, σ6, H6, S6, r6, q6⟩ := hy; exact gone S6 fun y7 J => ⟨_, _, _, J, r6, q6⟩
    exact step hcl wsh
  · cases f with
    | next => obtain ⟨σ', H', J, q⟩ := hz; exact wpAny_execs_nil ⟨σ', H', J.ofTry OK, q⟩
    | brk => obtain ⟨σ', H', J, q⟩ := hz; exact ⟨σ', H', J.ofTry OK, q⟩
    | cont => obtain ⟨σ', H', J, q⟩ := hz; exact ⟨σ', H', J.ofTry OK, q⟩
    | ret u => obtain ⟨v, σ', H', J, r, q⟩ := hz; exact ⟨v, σ', H', J.ofTry OK, r, q⟩
end
end PD

namespace PD
open PySem PySem.Spec PyProof.Rows L2
/-! ### try, as a function of slots and state -/
/-- does an error of class x fall to a clause that names c -/
def mtX (x c : Str) : Bool := x == c || c == "TailError"
structure Hd where
  cls : Str
  fld : Str
  i : Option Nat
  /-- what the clause hands back, of the error's field -/
  h : D → Option D
def slotIn (ρ : Sl) : Option Nat → Bool
  | none => true
  | some i => decide (i < ρ.length)
section
variable {τ : Type}
def caught : List Hd → Exn → Sl → τ → RS τ
  | [], x, ρ, st => some (.ex x ρ, st)
  | h :: r, x, ρ, st => if mtX x.cls h.cls = true then (if slotIn ρ h.i = true ∧ h.fld = x.fld then (h.h x.val).map fun d => (.rt d, st) else none) else caught r x ρ st
def sTry (known : List Str) (g : GS τ) (hs : List Hd) : GS τ := fun ρ st => match g ρ st with
  | some (.ex x ρ', st') => if x.cls ∈ known then caught hs x ρ' st' else none
  | r => r
/-- a clause's reading is what h says -/
def HdR (P : Pm) (h : Hd) (ts : Addr → Value → Option Addr → TS) : Prop := ∀ (cn : Str) (C a dd : Addr) (v : V) (F B M H : Hp) (σ : L2.St) (En : Ends) (x d' : D), Pre F B M H → P.mg cn = some (.ref C) → mtX cn h.cls = true → H dd = some (.xd [(h.fld, v)]) → Rep P F x v → h.h x = some d' →
  (∀ i, h.i = some i → σ[i]? = some (some (.ref a))) → (∀ F' H' u, Ext F M H F' M H' → Rep P F' d' u → En.rt u H') → ts a (.ref C) (some dd) En σ H
inductive HdsR (P : Pm) (known : List Str) : List Clause → List Hd → Prop
  | nil : HdsR P known [] []
  | cons {c : Value} {ts : Addr → Value → Option Addr → TS} {h : Hd} {l : List Clause} {hs : List Hd} (hm : ∀ n ∈ known, ∀ C, P.mg n = some (.ref C) → PySem.W.exmOne P.K (.ref C) c = some (mtX n h.cls)) (hd : HdR P h ts) (r : HdsR P known l hs) : HdsR P known ((c, h.i, ts) :: l) (h :: hs)
section
variable {P : Pm} {R : τ → Hp → Prop} {W : WX}
theorem evs_try {known : List Str} {hs : List Hd} {l : List Clause} {tb : WX → TS} {g : GS τ} (hb : ∀ W, EvS P R W (tb W) g) (hl : HdsR P known l hs) : EvS P R W (fun D σ H => tb (wCl P.K W D l) D σ H) (sTry known g hs) := by
  intro F B M H σ ρ st w D s
  refine hb (wCl P.K W D l) F B M H σ ρ st w D ?_
  unfold sTry at s
  cases e : g ρ st with
  | none => rw [e] at s; exact s.elim
  | some p =>
    obtain ⟨f, st'⟩ := p
    rw [e] at s
    cases f
    case ex x ρ' =>
      by_cases hk : x.cls ∈ known
      · replace s : SatS (if x.cls ∈ known then caught hs x ρ' st' else none) (EndK P R W F M H (Own ρ σ) D) := s
        rw [if_pos hk] at s
        intro F' B' M' H' σ' c dd E w' q
        obtain ⟨C, da, v, hC, rfl, rfl, hda, rv⟩ := id q
        clear e
        induction hl with
        | nil => exact (show EndK P R W F M H (Own ρ σ) D (.ex x ρ') st' from s) F' B' M' H' σ' _ _ E w' q
        | @cons c ts h l hs hm hd r ih =>
          refine ⟨_, hm _ hk C hC, fun ht a ha => ?_, fun hf => ih ?_⟩
          · replace s : SatS (if mtX x.cls h.cls = true then (if slotIn ρ' h.i = true ∧ h.fld = x.fld then (h.h x.val).map fun d => (Fl.rt d, st') else none) else caught hs x ρ' st') (EndK P R W F M H (Own ρ σ) D) := s
            rw [if_pos ht] at s
            obtain ⟨⟨h1, h2⟩, s⟩ := SatS.ite s
            cases e2 : h.h x.val with
            | none => rw [e2] at s; exact s.elim
            | some d' =>
              rw [e2] at s
              replace s : EndK P R W F M H (Own ρ σ) D (.rt d') st' := s
              refine hd x.cls C a da v F' B' M' H' _ _ x.val d' w'.pre hC ht (by rw [h2]; exact hda) rv e2 (fun i hi => ?_) (fun F2 H2 u E2 r2 => ?_)
              · rw [hi] at h1 ⊢
                have h1 : i < ρ'.length := of_decide_eq_true h1
                exact List.getElem?_set_self (by rw [← w'.len]; exact h1)
              · have : (Ends.wipe D h.i).rt = D.rt := by cases h.i <;> rfl
                rw [this]
                exact s F2 M' H2 u ((E.trans (.of E2)).sub fun _ z => z.elim) w'.r r2
          · replace s : SatS (if mtX x.cls h.cls = true then (if slotIn ρ' h.i = true ∧ h.fld = x.fld then (h.h x.val).map fun d => (Fl.rt d, st') else none) else caught hs x ρ' st') (EndK P R W F M H (Own ρ σ) D) := s
            rw [if_neg (by rw [hf]; decide)] at s
            exact s
      · replace s : SatS (if x.cls ∈ known then caught hs x ρ' st' else none) (EndK P R W F M H (Own ρ σ) D) := s
        rw [if_neg hk] at s
        exact s.elim
    all_goals exact s
/-- return (c, e.f) -/
def hdT (c : Str) (x : D) : Option D := some (.tup [.str c, x])
theorem hdr_tup {cls fld c : Str} {C : Addr} {i : Nat} (hC : P.mg cls = some (.ref C)) (hn : (cls == "TailError") = false) :
    HdR P ⟨cls, fld, some i, hdT c⟩ (fun a cl d => tRet (tTup (tCons (tC (.str c)) (tCons (tXf a cl d C fld (tVar i)) tNil)))) := by
  intro cn Cn a dd v F B M H σ En x d' p hcn hm hdd rv e hi hq
  have ecn : cn = cls := by
    rcases (show (cn == cls || cls == "TailError") = true from hm) with z
    rw [hn, Bool.or_false] at z
    exact eq_of_beq z
  subst ecn
  have ee : Cn = C := by
    have z := hcn.symm.trans hC
    simpa using z
  subst ee
  have e : some (D.tup [.str c, x]) = some d' := e
  cases e
  refine ⟨.ref a, hi i rfl, rfl, rfl, dd, _, v, rfl, hdd, by simp [List.lookup], by show 2 ≤ 16777216; omega, fun q hq2 => ?_⟩
  exact hq _ _ _ (Ext.new p hq2) (by
    simp only [Rep]
    exact ⟨q, [.str c, v], rfl, .inl (.inl upd_same), .cons (by simp only [Rep]) (.one (rv.mono (same_updP (p.f.none hq2))))⟩)
end
end
end PD

namespace PD
open PySem PySem.Spec PyProof.Rows L2
/-! ### own classes: making, fields, methods, properties -/
section
variable {X : Cx}
theorem pass_none {X : Cx} : Passes (L2.CX X.prog X.w) X (fun _ _ _ => False) := fun _ _ _ _ _ _ _ ⟨_, _, _, _, _, _, _, _, _, _, _, _, z⟩ => z.elim
theorem pass_nox {X : Cx} {xe : Value → Shared → Prop} : Passes (L2.CX X.prog X.w) { X with xe := xe } (fun _ _ _ => False) := fun _ _ _ _ _ _ _ ⟨_, _, _, _, _, _, _, _, _, _, _, _, z⟩ => z.elim
/-- C(e, ..), what __init__ raises wished for at the caller's slots -/
def tMakeW (C : Addr) (sp : Sp) (E : L2.St → XK) (t : TA) : TE := fun σ H Q => t σ H fun vs H1 => ∀ x dx, H1 x = none → H1 dx = none → dx ≠ x → sp (.ref x :: vs) (upd (upd H1 dx (.own x)) x (.ins C dx [])) (fun v H2 => v = .non ∧ Q (.ref x) H2) (E σ)
theorem run_makeW {W : WX} {k : Nat} {f C : Addr} {fd : FuncData} {ps : List Str} {sp : Sp} {pins : List (Addr × Obj)} {σ : L2.St} {H : Hp} {s : Shared} {Q : VK} {us : List Value} {vs : List V} (M : Mk X.K C f) (F : FnOk X.prog X.w X.K X.mg X.base (L2.CX X.prog X.w) k f fd ps sp) (hr : Room (k + 1) X.A)
    (hb : Binds X.K fd ps []) (tk : Takes X W) (J : Inv X pins σ H s) (r : Vals vs us)
    (h : ∀ x dx, H x = none → H dx = none → dx ≠ x → sp (.ref x :: vs) (upd (upd H dx (.own x)) x (.ins C dx [])) (fun v H2 => v = .non ∧ Q (.ref x) H2) (WE W σ)) : wpAny (model X.prog X.w) X.A (call (.ref C) us) (EP X pins σ Q) X.xe s := by
  have n1 : H (s.heap.objs.size + 1) = none := J.hok.fresh (Nat.le_succ _)
  have n0 : H s.heap.objs.size = none := J.hok.fresh (Nat.le_refl _)
  have q0 := h (s.heap.objs.size + 1) s.heap.objs.size n1 n0 (Nat.ne_of_lt (Nat.lt_succ_self s.heap.objs.size))
  have J2 := Inv.made (C := C) J
  have rr : Vals (V.ref (s.heap.objs.size + 1) :: vs) (Value.ref (s.heap.objs.size + 1) :: us) := .cons rfl r
  have hlen : (Value.ref (s.heap.objs.size + 1) :: us ++ []).length = ps.length := by
    rw [List.append_nil, ← rr.length]
    exact F.len _ _ _ _ q0
  have hbt := hb _ (Value.ref (s.heap.objs.size + 1) :: us) J2.kIn hlen
  rw [List.append_nil] at hbt
  have run := F.run _ X.stack _ _ ⟨Value.ref (s.heap.objs.size + 1) :: us, []⟩ (Value.ref (s.heap.objs.size + 1) :: us) _ _ (WE W σ) (hr.make C us []) (J2.env0.make C us []) hbt rr q0
  refine wpAny_call (make_map (f := f) J.kIn M.makes M.init (beq_iff_eq.mp M.fn) (codeAny_mono run fun r s' hq => ?_))
  match r, hq with
  | .error e, hq => exact passAt tk σ pins _ _ e s' J2 hq
  | .ok (.ret u), hq =>
    obtain ⟨v, H', J3, rv, rfl, q3⟩ := J2.after hq
    exact ⟨rv, V.ref (s.heap.objs.size + 1), H', J3, rfl, q3⟩
theorem pe_makeW {W : WX} {k : Nat} {f C : Addr} {fd : FuncData} {ps : List Str} {sp : Sp} {x : Str} {e : Expr} {es : List Expr} {t : TA} {p pos : Pos} (M : Mk X.K C f) (F : FnOk X.prog X.w X.K X.mg X.base (L2.CX X.prog X.w) k f fd ps sp) (hr : Room (k + 1) X.A) (hm : X.mg x = some (.ref C))
    (hb : Binds X.K fd ps []) (tk : Takes X W) (ha : PA X (e :: es) t) (hg : Gl X x := by rfl) (hdb : (x == ("__debug__" : Str)) = false := by decide) (he : starEach (e :: es) X.env = (false, eval e X.env) :: starEach es X.env := by rfl) (hpl : (backTo pos (starEach es X.env)).any (·.1) = false := by rfl) :
    PE X (.Call (.Name x p) (e :: es) [] pos) (tMakeW C sp (WE W) t) :=
  ⟨fun pins s σ H Q J h => wpAny_Call_Name_kw (ld_glob J hg hm (PySem.W.callWith_K (h₀ := X.base) J.ok.mod.kin M.kp (thn (ha.run pos pins s σ H _ J h) fun us s1 ⟨vs, H1, J1, r, q⟩ => ⟨J1.kIn, run_makeW M F hr hb tk J1 r q⟩) he hpl) hdb)⟩
/-- cls(e, ..), cls a name of this def -/
def tMakeL (i : Nat) (C : Addr) (sp : Sp) (E : L2.St → XK) (t : TA) : TE := fun σ H Q => σ[i]? = some (some (.ref C)) ∧ tMakeW C sp E t σ H Q
theorem pe_makeL {W : WX} {i k : Nat} {f C : Addr} {fd : FuncData} {ps : List Str} {sp : Sp} {x : Str} {e : Expr} {es : List Expr} {t : TA} {p pos : Pos} (hv : PE X (.Name x p) (tVar i)) (M : Mk X.K C f) (F : FnOk X.prog X.w X.K X.mg X.base (L2.CX X.prog X.w) k f fd ps sp) (hr : Room (k + 1) X.A)
    (hb : Binds X.K fd ps []) (tk : Takes X W) (ha : PA X (e :: es) t) (he : starEach (e :: es) X.env = (false, eval e X.env) :: starEach es X.env := by rfl) (hpl : (backTo pos (starEach es X.env)).any (·.1) = false := by rfl) :
    PE X (.Call (.Name x p) (e :: es) [] pos) (tMakeL i C sp (WE W) t) := by
  refine ⟨fun pins s σ H Q J h => wpAny_Call_Name_kw (thn (hv.run pins s σ H (fun v H1 => v = .ref C ∧ tMakeW C sp (WE W) t σ H1 Q) J ⟨_, h.1, rfl, h.2⟩) fun u s1 ⟨x0, H1, J1, ru, e0, h1⟩ => ?_)⟩
  subst e0
  obtain rfl : u = Value.ref C := ru
  exact PySem.W.callWith_K (h₀ := X.base) J1.ok.mod.kin M.kp (thn (ha.run pos pins s1 σ H1 _ J1 h1) fun us s2 ⟨vs, H2, J2, r, q⟩ => ⟨J2.kIn, run_makeW M F hr hb tk J2 r q⟩) he hpl
/-- o.m(e, ..) -/
def tMethW (C : Addr) (m : Str) (sp : Sp) (E : L2.St → XK) (ta : TE) (t : TA) : TE := fun σ H Q => ta σ H fun x H1 => ∃ a dx fs, x = .ref a ∧ H1 a = some (.ins C dx fs) ∧ fs.lookup m = none ∧ t σ H1 fun vs H2 => sp (x :: vs) H2 Q (E σ)
theorem pe_methW {W : WX} {k : Nat} {f C : Addr} {fd : FuncData} {ps : List Str} {sp : Sp} {m : Str} {o e : Expr} {es : List Expr} {ta : TE} {t : TA} {apos pos : Pos} {pl : Sem Bool} (ho : PE X o ta) (c : Cls X.K C) (hm : Meth X.K C m f) (F : FnOk X.prog X.w X.K X.mg X.base (L2.CX X.prog X.w) k f fd ps sp) (hr : Room k X.A)
    (hb : Binds X.K fd ps []) (tk : Takes X W) (ha : PA X (e :: es) t) (hst : starEach (e :: es) X.env = (false, eval e X.env) :: starEach es X.env := by rfl) (hpl : (backTo pos (starEach es X.env)).any (·.1) = false := by rfl)
    (ht : eval (.Call (.Attribute o m apos) (e :: es) [] pos) X.env = (do
      let v ← eval o X.env
      standAt apos.atName
      let (g, fst) ← holding [v] (getMethod v m pl)
      callWith pos g fst (backTo pos (starEach (e :: es) X.env)) (backToKw pos (keywordEach [] X.env))) := by rfl) :
    PE X (.Call (.Attribute o m apos) (e :: es) [] pos) (tMethW C m sp (WE W) ta t) := by
  refine ⟨fun pins s σ H Q J h => PySem.W.methodCall_KW (pl := pl) (thn (ho.run pins s σ H _ J h) fun u s1 ⟨x, H1, J1, rx, a, dx, fs, ex, ea, l, q⟩ => ?_) ht⟩
  subst ex
  obtain rfl : u = Value.ref a := rx
  refine getmeth_ok J1 ea c hm l (PySem.W.callWith_K (first := [.ref a]) (h₀ := X.base) J.ok.mod.kin hm.kp (thn (ha.run pos pins s1 σ H1 _ J1 q) fun us s2 ⟨vs, H2, J2, r, q2⟩ => ⟨J2.kIn, ?_⟩) hst hpl)
  exact run_fnS (us := .ref a :: us) (vs := .ref a :: vs) F hr hb (passAt tk σ) J2 (.cons rfl r) q2
end
end PD

namespace PD
open PySem PySem.Spec PyProof.Rows L2
/-! ### objects as values -/
section
variable {P : Pm} {F : Hp}
theorem RepF.lookup {f : Str} {d : D} : ∀ {fs : List (Str × D)} {vs : List (Str × V)}, RepF P F fs vs → fs.lookup f = some d → ∃ v, vs.lookup f = some v ∧ Rep P F d v
  | [], vs, r, h => by simp at h
  | (n, x) :: fs, vs, r, h => by
    simp only [RepF] at r
    obtain ⟨v, ws, rfl, r1, rs⟩ := r
    rw [List.lookup_cons] at h ⊢
    cases e : f == n with
    | true => rw [e] at h; cases h; exact ⟨v, rfl, r1⟩
    | false => rw [e] at h; exact RepF.lookup rs h
theorem RepF.nolook {f : Str} : ∀ {fs : List (Str × D)} {vs : List (Str × V)}, RepF P F fs vs → fs.lookup f = none → vs.lookup f = none
  | [], vs, r, h => by simp only [RepF] at r; subst r; rfl
  | (n, x) :: fs, vs, r, h => by
    simp only [RepF] at r
    obtain ⟨v, ws, rfl, r1, rs⟩ := r
    rw [List.lookup_cons] at h ⊢
    cases e : f == n with
    | true => rw [e] at h; cases h
    | false => rw [e] at h; exact RepF.nolook rs h
def putD (f : Str) (d : D) : List (Str × D) → List (Str × D)
  | [] => [(f, d)]
  | (g, x) :: r => if g = f then (g, d) :: r else (g, x) :: putD f d r
theorem RepF.put {f : Str} {d : D} {v : V} (rv : Rep P F d v) : ∀ {fs : List (Str × D)} {vs : List (Str × V)}, RepF P F fs vs → RepF P F (putD f d fs) (putF f v vs)
  | [], vs, r => by
    simp only [RepF] at r
    subst r
    simp only [putD, putF, RepF]
    exact ⟨v, [], rfl, rv, rfl⟩
  | (n, x) :: fs, vs, r => by
    simp only [RepF] at r
    obtain ⟨u, ws, rfl, r1, rs⟩ := r
    by_cases h : n = f
    · simp only [putD, putF, if_pos h, RepF]
      exact ⟨v, ws, rfl, rv, rs⟩
    · simp only [putD, putF, if_neg h, RepF]
      exact ⟨u, _, rfl, r1, RepF.put rv rs⟩
theorem RepF.length : ∀ {fs : List (Str × D)} {vs : List (Str × V)}, RepF P F fs vs → fs.length = vs.length
  | [], vs, r => by simp only [RepF] at r; subst r; rfl
  | (n, x) :: fs, vs, r => by
    simp only [RepF] at r
    obtain ⟨u, ws, rfl, r1, rs⟩ := r
    simp only [List.length_cons, RepF.length rs]
end
section
variable {τ : Type} {P : Pm} {R : τ → Hp → Prop} {W : WX}
/-- what an own class must have for its fields -/
def ClsF (P : Pm) (cls f : Str) : Prop := ∀ Ca, P.mg cls = some (.ref Ca) → Cls P.K Ca ∧ NoAttr P.K Ca f
def fldOf (cls f : Str) : D → Option D
  | .ins C fs => if C = cls then fs.lookup f else none
  | _ => none
/-- e.f -/
def gFld (cls f : Str) (g : GE τ) : GE τ := fun ρ st => (g ρ st).bind fun d st => .of (fldOf cls f d) st
theorem Rep.fld {F : Hp} {cls f : Str} {d e : D} {v : V} (r : Rep P F d v) (h : fldOf cls f d = some e) : ∃ a Ca dx vs u, v = .ref a ∧ P.mg cls = some (.ref Ca) ∧ F a = some (.ins Ca dx vs) ∧ vs.lookup f = some u ∧ Rep P F e u := by
  cases d
  case ins C fs =>
    simp only [fldOf] at h
    by_cases hc : C = cls
    · rw [if_pos hc] at h
      subst hc
      simp only [Rep] at r
      obtain ⟨a, Ca, dx, vs, rfl, m, q, rs⟩ := r
      obtain ⟨u, l, ru⟩ := rs.lookup h
      exact ⟨a, Ca, dx, vs, u, rfl, m, q, l, ru⟩
    · rw [if_neg hc] at h; cases h
  all_goals cases h
theorem ev_fld {cls f : Str} {te : TE} {g : GE τ} (hc : ClsF P cls f) (h : EvD P R W te g) : EvD P R W (tFld P.K te f) (gFld cls f g) := by
  intro F B M H σ ρ st w Q hs
  refine h F B M H σ ρ st w _ ((Sat.bind hs).mono (fun d st1 h1 F1 M1 H1 v E1 R1 r1 => ?_) fun _ _ z => z)
  obtain ⟨e, h2, q⟩ := Sat.of h1
  have p1 := w.pre.ext E1
  have bf : borFree d = true := by cases d <;> first | rfl | cases h2
  obtain ⟨a, Ca, dx, vs, u, rfl, m, fa, l, ru⟩ := (r1.rep bf).fld h2
  exact ⟨a, Ca, dx, vs, u, rfl, p1.f _ _ fa, (hc Ca m).1, (hc Ca m).2, l, q F1 M1 H1 u E1 R1 ru.b⟩
/-- self.f, self in slot i: an object that is made, or one that stands -/
def selfF (cls f : Str) : SV → Option D
  | .obj C fs => if C = cls then fs.lookup f else none
  | .val d => fldOf cls f d
  | _ => none
def gSelf (cls f : Str) (i : Nat) : GE τ := fun ρ st => .of (ρ[i]?.bind (selfF cls f)) st
theorem ev_self {cls f : Str} {i : Nat} (hc : ClsF P cls f) : EvD P R W (tFld P.K (tVar i) f) (gSelf cls f i) := by
  intro F B M H σ ρ st w Q hs
  obtain ⟨e, h2, q⟩ := Sat.of hs
  obtain ⟨s, e1, h3⟩ := Option.bind_eq_some_iff.mp h2
  obtain ⟨o, e2, so⟩ := w.slot e1
  cases s
  case obj C fs =>
    simp only [selfF] at h3
    by_cases hcc : C = cls
    · rw [if_pos hcc] at h3
      subst hcc
      obtain ⟨rfl, Ca, dx, vs, m, b, rs⟩ := so
      obtain ⟨u, l, ru⟩ := rs.lookup h3
      exact ⟨_, e2, _, Ca, dx, vs, u, rfl, w.pre.b _ _ b, (hc Ca m).1, (hc Ca m).2, l, q F M H u (.refl w.pre) w.r ru.b⟩
    · rw [if_neg hcc] at h3; cases h3
  case val d =>
    obtain ⟨v, rfl, r⟩ := so
    obtain ⟨a, Ca, dx, vs, u, rfl, m, fa, l, ru⟩ := r.fld (show fldOf cls f d = some e from h3)
    exact ⟨_, e2, a, Ca, dx, vs, u, rfl, w.pre.f _ _ fa, (hc Ca m).1, (hc Ca m).2, l, q F M H u (.refl w.pre) w.r ru.b⟩
  all_goals cases h3
/-- self.f = e in an __init__ -/
def sPutF (cls f : Str) (i : Nat) (g : GE τ) : GS τ := fun ρ st => thenE (g ρ st) ρ fun d st => match ρ[i]? with
  | some (.obj C fs) => if (C = cls ∧ fs.length < 900) ∧ borFree d = true then some (.nx (ρ.set i (.obj C (putD f d fs))), st) else none
  | _ => none
theorem evs_putF {cls f : Str} {i : Nat} {te : TE} {g : GE τ} (hc : ClsF P cls f) (h : EvD P R W te g) : EvS P R W (L2.sFld P.K (tVar i) te f) (sPutF cls f i g) := by
  intro F B M H σ ρ st w D hs
  refine h F B M H σ ρ st w _ (hs.thenE.mono (fun d st1 h1 F1 M1 H1 v E1 R1 r1 => ?_) fun x st1 z => EndK.kx w z)
  have w1 := w.ext E1 R1
  cases e1 : ρ[i]? with
  | none => rw [e1] at h1; exact h1.elim
  | some s =>
    rw [e1] at h1
    obtain ⟨o, e2, so⟩ := w1.slot e1
    cases s
    case obj C fs =>
      replace h1 : SatS (if (C = cls ∧ fs.length < 900) ∧ borFree d = true then some (Fl.nx (ρ.set i (.obj C (putD f d fs))), st1) else none) (EndK P R W F M H (Own ρ σ) D) := h1
      obtain ⟨⟨⟨hcc, hl⟩, bf⟩, h4⟩ := SatS.ite h1
      subst hcc
      obtain ⟨rfl, Ca, dx, vs, m, b, rs⟩ := id so
      obtain ⟨w2, E2⟩ := w1.mutO (s1 := .obj C (putD f d fs)) (o1 := .ins Ca dx (putF f v vs)) e1 rfl rfl e2 b ⟨rfl, Ca, dx, _, m, upd_same, rs.put (r1.rep bf)⟩
      refine ⟨_, e2, _, Ca, dx, vs, rfl, w1.pre.b _ _ b, (hc Ca m).1, (hc Ca m).2, by rw [← rs.length]; omega, ?_⟩
      exact (show EndK P R W F M H (Own ρ σ) D (.nx _) st1 from h4) F1 _ M1 _ σ ((ExtS.of E1).trans E2) w2
    all_goals exact (show False from h1).elim
/-! ### making -/
/-- __init__(self, ..) of n further arguments: m says what the fields are -/
def spI (K : PySem.W.Frag) (mg : Str → Option Value) (Rf : Addr → τ → Hp → Prop) (n : Nat) (cls : Str) (m : List D → τ → Res τ (List (Str × D))) : Sp := fun vs H Q E => vs.length = n + 1 ∧ ∃ sa F B M ds st x ws Ca dx, vs = .ref x :: ws ∧ mg cls = some (.ref Ca) ∧ Pre F B M H ∧
  H x = some (.ins Ca dx []) ∧ F x = none ∧ B x = none ∧ M x = none ∧ Rf sa st M ∧ RepBs ⟨K, mg, sa, x⟩ F B ds ws ∧
  Sat (m ds st) (fun fs st' => ∀ F' M' H' dx' us, ExtS F M H (fun a => a = x) F' M' H' (fun _ => False) → Rf sa st' M' → F' x = none → M' x = none → H' x = some (.ins Ca dx' us) → RepF ⟨K, mg, sa, x⟩ F' fs us → Q .non H')
    (fun y st' => ∀ F' M' H' c dd, ExtS F M H (fun a => a = x) F' M' H' (fun _ => False) → Rf sa st' M' → XRep ⟨K, mg, sa, x⟩ F' y c dd H' → E c dd H')
def gFnI (N : Nat) (cls : Str) (g : GS τ) : List D → τ → Res τ (List (Str × D)) := fun ds st =>
  match g (.obj cls [] :: (ds.map slOf ++ List.replicate (N - (ds.length + 1)) .un)) st with
  | some (.nx ρ', st') => match (ρ'[0]? : Option SV) with
    | some (.obj C fs) => if C = cls then .ok fs st' else .stuck
    | _ => .stuck
  | some (.ex x _, st') => .err x st'
  | _ => .stuck
def gMake (cls : Str) (m : List D → τ → Res τ (List (Str × D))) (a : GA τ) : GE τ := fun ρ st => (a ρ st).bind fun ds st => (m ds st).bind fun fs st => .ok (.ins cls fs) st
/-! Rep looks at no more of P than its names and the state's place -/
mutual
theorem Rep.xa {K : PySem.W.Frag} {mg : Str → Option Value} {sa x y : Addr} {F : Hp} : ∀ (d : D) (v : V), Rep ⟨K, mg, sa, x⟩ F d v → Rep ⟨K, mg, sa, y⟩ F d v
  | .non, v, r => by simpa only [Rep] using r
  | .bl b, v, r => by simpa only [Rep] using r
  | .int i, v, r => by simpa only [Rep] using r
  | .str s, v, r => by simpa only [Rep] using r
  | .tup xs, v, r => by
    simp only [Rep] at r ⊢
    obtain ⟨a, vs, e, q, rs⟩ := r
    exact ⟨a, vs, e, q, Reps.xa xs vs rs⟩
  | .lst xs, v, r => by
    simp only [Rep] at r ⊢
    obtain ⟨a, vs, e, q, rs⟩ := r
    exact ⟨a, vs, e, q, Reps.xa xs vs rs⟩
  | .bor xs, v, r => by simp only [Rep] at r
  | .scr xs, v, r => by
    simp only [Rep] at r ⊢
    obtain ⟨a, vs, e, q, rs⟩ := r
    exact ⟨a, vs, e, q, Reps.xa xs vs rs⟩
  | .dct kvs, v, r => by
    simp only [Rep] at r ⊢
    obtain ⟨a, e, q⟩ := r
    refine ⟨a, e, ?_⟩
    rcases q with ⟨ks, q, rs⟩ | ⟨ks, q, rs⟩
    · exact .inl ⟨ks, q, RepK.xa kvs ks rs⟩
    · exact .inr ⟨ks, q, RepT.xa kvs ks rs⟩
  | .ins C fs, v, r => by
    simp only [Rep] at r ⊢
    obtain ⟨a, Ca, dx, vs, e, m, q, rs⟩ := r
    exact ⟨a, Ca, dx, vs, e, m, q, RepF.xa fs vs rs⟩
  | .state, v, r => by simpa only [Rep] using r
  | .cls n, v, r => by simpa only [Rep] using r
theorem Reps.xa {K : PySem.W.Frag} {mg : Str → Option Value} {sa x y : Addr} {F : Hp} : ∀ (ds : List D) (vs : List V), Reps ⟨K, mg, sa, x⟩ F ds vs → Reps ⟨K, mg, sa, y⟩ F ds vs
  | [], vs, r => by simpa only [Reps] using r
  | d :: ds, vs, r => by
    simp only [Reps] at r ⊢
    obtain ⟨v, ws, e, r, rs⟩ := r
    exact ⟨v, ws, e, Rep.xa d v r, Reps.xa ds ws rs⟩
theorem RepK.xa {K : PySem.W.Frag} {mg : Str → Option Value} {sa x y : Addr} {F : Hp} : ∀ (ds : List (D × D)) (vs : List (Key × V)), RepK ⟨K, mg, sa, x⟩ F ds vs → RepK ⟨K, mg, sa, y⟩ F ds vs
  | [], vs, r => by simpa only [RepK] using r
  | (k, d) :: ds, vs, r => by
    simp only [RepK] at r ⊢
    obtain ⟨k', v, ws, e, ek, r, rs⟩ := r
    exact ⟨k', v, ws, e, ek, Rep.xa d v r, RepK.xa ds ws rs⟩
theorem RepT.xa {K : PySem.W.Frag} {mg : Str → Option Value} {sa x y : Addr} {F : Hp} : ∀ (ds : List (D × D)) (vs : List (List Key × V)), RepT ⟨K, mg, sa, x⟩ F ds vs → RepT ⟨K, mg, sa, y⟩ F ds vs
  | [], vs, r => by simpa only [RepT] using r
  | (k, d) :: ds, vs, r => by
    simp only [RepT] at r ⊢
    obtain ⟨k', v, ws, e, ek, r, rs⟩ := r
    exact ⟨k', v, ws, e, ek, Rep.xa d v r, RepT.xa ds ws rs⟩
theorem RepF.xa {K : PySem.W.Frag} {mg : Str → Option Value} {sa x y : Addr} {F : Hp} : ∀ (ds : List (Str × D)) (vs : List (Str × V)), RepF ⟨K, mg, sa, x⟩ F ds vs → RepF ⟨K, mg, sa, y⟩ F ds vs
  | [], vs, r => by simpa only [RepF] using r
  | (n, d) :: ds, vs, r => by
    simp only [RepF] at r ⊢
    obtain ⟨v, ws, e, r, rs⟩ := r
    exact ⟨v, ws, e, Rep.xa d v r, RepF.xa ds ws rs⟩
end
theorem RepBs.xa {K : PySem.W.Frag} {mg : Str → Option Value} {sa x y : Addr} {F B : Hp} : ∀ {ds : List D} {vs : List V}, RepBs ⟨K, mg, sa, x⟩ F B ds vs → RepBs ⟨K, mg, sa, y⟩ F B ds vs
  | [], vs, r => r
  | d :: ds, vs, ⟨v, ws, e, r, rs⟩ => ⟨v, ws, e, by
    cases d
    case bor xs => obtain ⟨a, us, e, q, rr⟩ := r; exact ⟨a, us, e, q, Reps.xa _ _ rr⟩
    all_goals exact Rep.xa (x := x) _ _ r, rs.xa⟩
theorem XRep.xa {K : PySem.W.Frag} {mg : Str → Option Value} {sa x y : Addr} {F H : Hp} {e : Exn} {c : Value} {dd : Option Addr} (r : XRep ⟨K, mg, sa, x⟩ F e c dd H) : XRep ⟨K, mg, sa, y⟩ F e c dd H := by
  obtain ⟨C, da, v, m, h1, h2, h3, rv⟩ := r
  exact ⟨C, da, v, m, h1, h2, h3, Rep.xa _ _ rv⟩
theorem ext_made {F M H F' M' H' : Hp} {x dx : Addr} {o1 o2 : HO} (hx : H x = none) (hd : H dx = none) (e : ExtS F M (upd (upd H dx o1) x o2) (fun a => a = x) F' M' H' (fun _ => False)) : Ext F M H F' M' H' := by
  have at_ : ∀ a, H a ≠ none → upd (upd H dx o1) x o2 a = H a := fun a h => by
    rw [upd_ne (fun z => h (by rw [z]; exact hx)), upd_ne (fun z => h (by rw [z]; exact hd))]
  exact ⟨e.ff, e.f, e.m, fun a o h n => e.keep a o (by rw [at_ a (ne_some h)]; exact h) n (fun z => ne_some h (by rw [z]; exact hx)), fun a h => e.there a (by rw [at_ a h]; exact h),
    fun a h n => e.newF a (by rw [at_ a h]; exact h) n (fun z => h (by rw [z]; exact hx)), fun a h n => e.newM a (by rw [at_ a h]; exact h) n, e.fm⟩
theorem evd_make {Rf : Addr → τ → Hp → Prop} {n : Nat} {cls : Str} {C : Addr} {m : List D → τ → Res τ (List (Str × D))} {ta : TA} {a : GA τ} (hC : P.mg cls = some (.ref C)) (hl : ∀ ρ st ds st', a ρ st = .ok ds st' → ds.length = n) (ha : EvA P (Rf P.sa) W ta a) :
    EvD P (Rf P.sa) W (tMakeW C (spI P.K P.mg Rf n cls m) (WE W) ta) (gMake cls m a) := by
  intro F B M H σ ρ st w Q hs
  have hs := Sat.bind hs
  have q := ha F B M H σ ρ st w
  cases e : a ρ st with
  | stuck => rw [e] at hs; exact hs.elim
  | err x st1 => rw [e] at hs q; exact q _ hs
  | ok ds st1 =>
    rw [e] at hs q
    refine q _ fun F1 M1 H1 vs E1 R1 rs x dx hx hdx ne => ?_
    have p1 := w.pre.ext E1
    have E2 : Ext F1 M1 H1 F1 M1 (upd H1 dx (.own x)) := Ext.own p1 hdx
    have hx2 : upd H1 dx (.own x) x = none := by rw [upd_ne ne.symm]; exact hx
    have E3 : Ext F1 M1 (upd H1 dx (.own x)) F1 M1 (upd (upd H1 dx (.own x)) x (.ins C dx [])) := Ext.own (p1.ext E2) hx2
    refine ⟨by rw [List.length_cons, ← rs.length, hl ρ st ds st1 e], P.sa, F1, B, M1, ds, st1, x, vs, C, dx, rfl, hC, (p1.ext E2).ext E3, upd_same, p1.f.none hx, p1.b.none hx, p1.m.none hx, R1, rs.xa (x := P.xa), ?_⟩
    refine (Sat.bind (show Sat ((m ds st1).bind fun fs st => Res.ok (D.ins cls fs) st) (fun d st' => ∀ F' M' H' v, Ext F M H F' M' H' → Rf P.sa st' M' → RepB P F' B d v → Q v H') (KX P (Rf P.sa) W F M H σ) from hs)).mono (fun fs st2 h2 F' M' H' dx' us ex r fx mx hx' rf => ⟨rfl, ?_⟩) (fun y st2 h2 F' M' H' c dd ex r xr => h2 F' M' H' c dd (E1.trans (ext_made hx hdx ex)) r (XRep.xa xr))
    have e4 := ext_made hx hdx ex
    have e5 : Ext F1 M1 H1 (upd F' x (.ins C dx' us)) M' H' := ⟨e4.ff.trans (same_updP fx), fun b o z => by
        by_cases hb : b = x
        · subst hb; rw [upd_same] at z; cases z; exact hx'
        · rw [upd_ne hb] at z; exact e4.f _ _ z, e4.m, e4.keep, e4.there, fun b h z => by
        rw [upd_ne (fun z2 => h (by rw [z2]; exact hx))]; exact e4.newF b h z, e4.newM, fun b => by
        by_cases hb : b = x
        · subst hb; exact .inr mx
        · rw [upd_ne hb]; exact e4.fm b⟩
    have hh : ∀ F' M' H' v, Ext F M H F' M' H' → Rf P.sa st2 M' → RepB P F' B (.ins cls fs) v → Q v H' := h2
    refine hh _ M' H' (.ref x) (E1.trans e5) r ?_
    show Rep P _ (.ins cls fs) (.ref x)
    simp only [Rep]
    exact ⟨x, C, dx', us, rfl, hC, upd_same, RepF.mono (same_updP fx) _ _ (RepF.xa _ _ rf)⟩
end
end PD

namespace PD
open PySem PySem.Spec PyProof.Rows L2
section
variable {τ : Type} {P : Pm} {R : τ → Hp → Prop} {W : WX}
theorem ExtS.out {F M H F' M' H' : Hp} {O O' O2 : Addr → Prop} (e : ExtS F M H O F' M' H' O') (h : ∀ a, O a → O2 a) : ExtS F M H O2 F' M' H' (fun _ => False) :=
  ⟨e.ff, e.f, e.m, e.fm, fun a o q n z => e.keep a o q n fun y => z (h a y), e.there, fun a q n z => e.newF a q n fun y => z (h a y), e.newM, fun _ z => z.elim⟩
theorem slots_free {ds : List D} {k i : Nat} {s : SV} (h : (ds.map slOf ++ List.replicate k .un)[i]? = some s) : s.isOwn = false := by
  rcases List.mem_append.mp (List.mem_of_getElem? h) with q | q
  · obtain ⟨d, _, rfl⟩ := List.mem_map.mp q
    cases d <;> rfl
  · rw [List.eq_of_mem_replicate q]; rfl
theorem WI.withObj {F B M H : Hp} {σ : L2.St} {ρ : Sl} {st : τ} {cls : Str} {Ca dx : Addr} (w : WI P R F B M H σ ρ st) (hC : P.mg cls = some (.ref Ca)) (hx : H P.xa = some (.ins Ca dx [])) (fx : F P.xa = none) (bx : B P.xa = none) (mx : M P.xa = none)
    (no : ∀ (i : Nat) (s : SV), ρ[i]? = some s → s.isOwn = false) : WI P R F (upd B P.xa (.ins Ca dx [])) M H (some (.ref P.xa) :: σ) (.obj cls [] :: ρ) st := by
  have keep : ∀ b o, B b = some o → upd B P.xa (.ins Ca dx []) b = some o := fun b o q => by rw [upd_ne (ne_of_none q bx)]; exact q
  refine ⟨⟨w.pre.f, fun b o q => ?_, w.pre.m, fun b => ?_, w.pre.fm, fun b => ?_⟩, w.r, by simp only [List.length_cons, w.len], fun i s o h1 h2 => ?_, fun i j s t a hij h1 h2 ho hr e => ?_⟩
  · by_cases hb : b = P.xa
    · subst hb; rw [upd_same] at q; cases q; exact hx
    · rw [upd_ne hb] at q; exact w.pre.b _ _ q
  · by_cases hb : b = P.xa
    · subst hb; exact .inl fx
    · rw [upd_ne hb]; exact w.pre.fb b
  · by_cases hb : b = P.xa
    · subst hb; exact .inr mx
    · rw [upd_ne hb]; exact w.pre.bm b
  · cases i with
    | zero =>
      cases h1; cases h2
      exact ⟨rfl, Ca, dx, [], hC, upd_same, by simp only [RepF]⟩
    | succ i =>
      have so := w.sl i s o h1 h2
      cases s with
      | un => trivial
      | val d => exact so
      | own xs => exact nomatch no i _ h1
      | bor xs => obtain ⟨a, vs, e, q, r⟩ := so; exact ⟨a, vs, e, keep _ _ q, r⟩
      | obj C fs => exact nomatch no i _ h1
  · cases i with
    | succ i => rw [no i s h1] at ho; cases ho
    | zero =>
      cases h1
      cases j with
      | zero => exact absurd rfl hij
      | succ j =>
        cases e
        intro z
        have so := w.sl j t _ h2 z
        cases t with
        | un => cases hr
        | val d => cases hr
        | own xs => exact nomatch no j _ h2
        | bor xs => obtain ⟨a, vs, e, q, r⟩ := so; cases e; rw [bx] at q; cases q
        | obj C fs => exact nomatch no j _ h2
end
section
variable {τ : Type} {K : PySem.W.Frag} {mg : Str → Option Value} {Rf : Addr → τ → Hp → Prop}
theorem fn_i {Pr : Program} {w : World} {base : Heap} {x qual cls : Str} {stm : Stmt} {f : Addr} {fd : FuncData} {N ps : List Str} {k n : Nat} {g : GS τ} (F : Fun K x qual stm f fd) (S : FnScope N ps (defScope stm)) (hn : ps.length = n + 1) (hN : n + 1 ≤ N.length)
    (hbody : ∀ (sa xa : Addr) (cdv : Value) (A : Around) (outer : List Env) (s : Shared) (H : Hp) (E : XK), Room k (A.deeper (envOfC qual (defScope stm) s.heap.objs.size f cdv)) →
      ∃ t, PSs (cxOf (L2.CX Pr w) Pr w K mg base N qual (defScope stm) f cdv A outer s H E) (defBody stm) t ∧ EvS ⟨K, mg, sa, xa⟩ (Rf sa) (fun c d _ H' => E c d H') t g) :
    FnOk Pr w K mg base (L2.CX Pr w) (k + 1) f fd ps (spI K mg Rf n cls (gFnI N.length cls g)) := by
  refine F.okX S (fun vs H Q E h => by rw [hn]; exact h.1) (fun cdv A outer s H vs Q E hr h => ?_)
  obtain ⟨hv, sa, F0, B, M, ds, st, x, ws, Ca, dx, rfl, hC, p, hx, fx, bx, mx, r, rs, sat⟩ := h
  obtain ⟨t, ht, hev⟩ := hbody sa x cdv A outer s H E hr
  have hl : ds.length = n := by rw [rs.length]; simpa using hv
  have hN1 : N.tail.length = N.length - 1 := List.length_tail
  have w1 := wi_start (P := ⟨K, mg, sa, x⟩) (N := N.tail) p r rs (by rw [hN1]; omega)
  have w2 := w1.withObj (cls := cls) hC hx fx bx mx fun i s h => slots_free h
  have e1 : L2.start N (.ref x :: ws) = some (.ref x) :: L2.start N.tail ws := by
    have : N.length - (ws.length + 1) = N.length - 1 - ws.length := by omega
    simp only [L2.start, List.map_cons, List.length_cons, List.cons_append, hN1, this]
  have e2 : N.tail.length - ds.length = N.length - (ds.length + 1) := by rw [hN1]; omega
  rw [← e1, e2] at w2
  refine ⟨t, ht, hev F0 _ M H _ _ st w2 _ ?_⟩
  have own1 : ∀ a, Own (.obj cls [] :: (ds.map slOf ++ List.replicate (N.length - (ds.length + 1)) .un)) (L2.start N (.ref x :: ws)) a → a = x := fun a ⟨i, s, h1, h0, h2⟩ => by
    cases i with
    | zero => rw [e1] at h2; cases h2; rfl
    | succ i => rw [slots_free (show (ds.map slOf ++ List.replicate (N.length - (ds.length + 1)) SV.un)[i]? = some s from h1)] at h0; cases h0
  unfold gFnI at sat
  cases e : g (.obj cls [] :: (ds.map slOf ++ List.replicate (N.length - (ds.length + 1)) .un)) st with
  | none => rw [e] at sat; exact sat.elim
  | some q =>
    obtain ⟨fl, st'⟩ := q
    rw [e] at sat
    cases fl with
    | nx ρ' =>
      intro F' B' M' H' σ' ex w'
      cases e3 : (ρ'[0]? : Option SV) with
      | none => simp only [e3] at sat; exact sat.elim
      | some s0 =>
        simp only [e3] at sat
        cases s0
        case obj C fs =>
          obtain ⟨hc, sat4⟩ := Sat.ite sat
          clear sat
          subst hc
          obtain ⟨o, e4, so⟩ := w'.slot e3
          obtain ⟨rfl, Ca', dx', us, m, b, rf⟩ := so
          have : Ca' = Ca := by
            have z := m.symm.trans hC
            simpa using z
          subst this
          exact sat4 F' M' H' dx' us (ex.out own1) w'.r ((w'.pre.fb x).resolve_right (ne_some b)) ((w'.pre.bm x).resolve_left (ne_some b)) (w'.pre.b _ _ b) rf
        all_goals exact sat.elim
    | ex y ρ' => exact fun F' B' M' H' σ' c dd ex w' q => sat F' M' H' c dd (ex.out own1) w'.r q
    | rt d => exact sat.elim
    | rn xs => exact sat.elim
    | bk ρ' => exact sat.elim
    | ct ρ' => exact sat.elim
end
section
variable {τ : Type} {P : Pm} {Rf : Addr → τ → Hp → Prop} {W : WX}
/-- e.f, f a property -/
def gProp (cls : Str) (m : List D → τ → Res τ D) (g : GE τ) : GE τ := fun ρ st => (g ρ st).bind fun d st => match d with
  | .ins C fs => if C = cls then noErr (m [.ins C fs] st) else .stuck
  | _ => .stuck
theorem ev_prop {cls : Str} {C : Addr} {m : List D → τ → Res τ D} {te : TE} {g : GE τ} (hC : P.mg cls = some (.ref C)) (h : EvD P (Rf P.sa) W te g) : EvD P (Rf P.sa) W (tProp C (spD P.K P.mg Rf 1 m) [] (fun _ _ _ => False) te) (gProp cls m g) := by
  intro F B M H σ ρ st w Q hs
  refine h F B M H σ ρ st w _ ((Sat.bind hs).mono (fun d st1 h1 F1 M1 H1 v E1 R1 r1 => ?_) fun _ _ z => z)
  cases d
  case ins D0 fs =>
    obtain ⟨hc, h4⟩ := Sat.ite h1
    clear h1
    subst hc
    have p1 := w.pre.ext E1
    obtain ⟨a, Ca, dx, vs, rfl, m1, fa, rs⟩ := (by simpa only [RepB, Rep] using r1)
    have : Ca = C := by
      have z := m1.symm.trans hC
      simpa using z
    subst this
    refine ⟨a, dx, vs, rfl, p1.f _ _ fa, rfl, P.sa, P.xa, F1, B, M1, [.ins D0 fs], st1, p1, R1, ⟨_, [], rfl, by simp only [RepB, Rep]; exact ⟨a, Ca, dx, vs, rfl, m1, fa, rs⟩, rfl⟩, ?_⟩
    exact (Sat.noErr (er' := fun _ _ => False) h4).mono (fun d st2 h2 F' M' H' v E r r2 => h2 F' M' H' v (E1.trans E) r r2.b) fun x st2 h2 => h2.elim
  all_goals exact (show False from h1).elim
/-- e.m(..) -/
def gMeth (cls name : Str) (m : List D → τ → Res τ D) (g : GE τ) (a : GA τ) : GE τ := fun ρ st => (g ρ st).bind fun d st => match d with
  | .ins C fs => if C = cls ∧ fs.lookup name = none then (a ρ st).bind fun ds st => m (.ins C fs :: ds) st else .stuck
  | _ => .stuck
theorem ev_meth {cls name : Str} {C : Addr} {n : Nat} {m : List D → τ → Res τ D} {te : TE} {ta : TA} {g : GE τ} {a : GA τ} (hC : P.mg cls = some (.ref C)) (hl : ∀ ρ st ds st', a ρ st = .ok ds st' → ds.length = n) (h : EvD P (Rf P.sa) W te g) (ha : EvA P (Rf P.sa) W ta a) :
    EvD P (Rf P.sa) W (tMethW C name (spD P.K P.mg Rf (n + 1) m) (WE W) te ta) (gMeth cls name m g a) := by
  intro F B M H σ ρ st w Q hs
  refine h F B M H σ ρ st w _ ((Sat.bind hs).mono (fun d st1 h1 F1 M1 H1 v E1 R1 r1 => ?_) fun _ _ z => z)
  cases d
  case ins D0 fs =>
    obtain ⟨⟨hc, hnl⟩, h4⟩ := Sat.ite h1
    clear h1
    subst hc
    have w1 := w.ext E1 R1
    obtain ⟨a0, Ca, dx, vs, rfl, m1, fa, rs⟩ := (by simpa only [RepB, Rep] using r1)
    have : Ca = C := by
      have z := m1.symm.trans hC
      simpa using z
    subst this
    refine ⟨a0, dx, vs, rfl, w1.pre.f _ _ fa, RepF.nolook rs hnl, ?_⟩
    have q := ha F1 B M1 H1 σ ρ st1 w1
    have h1 := Sat.bind h4
    cases e : a ρ st1 with
    | stuck => rw [e] at h1; exact h1.elim
    | err x st2 => rw [e] at h1 q; exact q _ (KX.ext P _ h1 E1)
    | ok ds st2 =>
      rw [e] at h1 q
      refine q _ fun F2 M2 H2 us E2 R2 rs2 => ⟨by rw [List.length_cons, ← rs2.length, hl ρ st1 ds st2 e], P.sa, P.xa, F2, B, M2, .ins D0 fs :: ds, st2, w1.pre.ext E2, R2, ⟨_, _, rfl, RepB.mono E2.ff (by simp only [RepB, Rep]; exact ⟨a0, Ca, dx, vs, rfl, m1, fa, rs⟩), rs2⟩, ?_⟩
      exact (show Sat (m (.ins D0 fs :: ds) st2) _ _ from h1).mono (fun d st3 h3 F' M' H' v E r r2 => h3 F' M' H' v ((E1.trans E2).trans E) r r2.b) fun x st3 h3 F' M' H' c dd E r x => h3 F' M' H' c dd ((E1.trans E2).trans E) r x
  all_goals exact (show False from h1).elim
end
end PD

namespace PD
open PySem PySem.Spec PyProof.Rows L2
/-! ### one error class, from end to end -/
structure ExK (K : PySem.W.Frag) (mg : Str → Option Value) (x fld : Str) (C f : Addr) : Prop where
  at_ : mg x = some (.ref C)
  o : OexC K C
  xf : XfC K C
  ini : PySem.W.findIn K (.ref C) "__init__" = some (some (.ref f))
  ti : PySem.W.typeIn K (.ref f) = some (.type "function")
  no : PySem.W.findIn K (.ref C) fld = some none
structure CalX (Pr : Program) (w : World) (K : PySem.W.Frag) (mg : Str → Option Value) (base : Heap) (x fld n : Str) (C : Addr) : Prop where
  ex : ∃ f fd, ExK K mg x fld C f ∧ Binds K fd ["self", n] [] ∧ FnOk Pr w K mg base (L2.CX Pr w) 1 f fd ["self", n] (spXI K C fld)
section
variable {Pr : Program} {w : World} {K : PySem.W.Frag} {mg : Str → Option Value} {base : Heap}
theorem fn_x {qual n fld z : Str} {stm : Stmt} {f C : Addr} {fd : FuncData} (F : Fun K "__init__" qual stm f fd) (S : FnScope ["self", n] ["self", n] (defScope stm))
    (hb : ∀ (cdv : Value) (A : Around) (outer : List Env) (s : Shared) (H : Hp) (E : XK), PSs (cxOf (L2.CX Pr w) Pr w K mg base ["self", n] qual (defScope stm) f cdv A outer s H E) (defBody stm) (tSeq (tDrop (tVeI K (tCons (tVar 0) (tCons (tC (.str z)) tNil)))) (tOst K fld (tVar 0) (tVar 1)))) :
    FnOk Pr w K mg base (L2.CX Pr w) 1 f fd ["self", n] (spXI K C fld) :=
  F.okX S spXI_len fun cdv A outer s H vs Q E hr h => ⟨_, hb cdv A outer s H E, xinit_reads (E := E) rfl h⟩
end
section
variable {X : Cx}
theorem ps_raiseX {W : WX} {x fld n : Str} {C : Addr} {e : Expr} {te : TE} {k : Nat} {p pos pos2 : Pos} (c : CalX X.prog X.w X.K X.mg X.base x fld n C) (hr : Room k X.A) (hk : 2 ≤ k) (tk : Takes X W) (he : PE X e te) (hc : X.calm = true := by rfl) (hg : Gl X x := by rfl)
    (hdb : (x == ("__debug__" : Str)) = false := by decide) (hs : starEach [e] X.env = (false, eval e X.env) :: starEach [] X.env := by rfl) (hp : (backTo pos (starEach [] X.env)).any (·.1) = false := by rfl) :
    PS X (.Raise (some (.Call (.Name x p) [e] [] pos)) none pos2) (tRaiseI W C (spXI X.K C fld) (tCons te tNil)) := by
  obtain ⟨f, fd, T, hb, F⟩ := c.ex
  exact ps_raise hc tk (pmk_oex T.o T.ini T.ti F (hr.mono hk) hb .nil pass_none hg T.at_ (pa_cons he pa_nil (hs := hs)) hdb hs hp)
end
section
variable {τ : Type} {Rf : Addr → τ → Hp → Prop} {Pr : Program} {w : World} {K : PySem.W.Frag} {mg : Str → Option Value} {base : Heap}
theorem evs_raiseX {R : τ → Hp → Prop} {W : WX} {sa xa : Addr} {x fld n : Str} {C : Addr} {te : TE} {g : GE τ} (c : CalX Pr w K mg base x fld n C) (he : EvD ⟨K, mg, sa, xa⟩ R W te g) :
    EvS ⟨K, mg, sa, xa⟩ R W (tRaiseI W C (spXI K C fld) (tCons te tNil)) (sRaise x fld g) := by
  obtain ⟨f, fd, T, hb, F⟩ := c.ex
  exact evs_raise (P := ⟨K, mg, sa, xa⟩) T.at_ T.o T.no he
/-- the facts of an own class, for its fields -/
structure ClsK (K : PySem.W.Frag) (mg : Str → Option Value) (cls : Str) (fs : List Str) (C : Addr) : Prop where
  at_ : mg cls = some (.ref C)
  c : Cls K C
  no : ∀ f ∈ fs, NoAttr K C f
theorem ClsK.f {cls : Str} {fs : List Str} {C sa xa : Addr} {f : Str} (c : ClsK K mg cls fs C) (h : f ∈ fs) : ClsF ⟨K, mg, sa, xa⟩ cls f := fun Ca m => by
  have : Ca = C := by
    have z := m.symm.trans c.at_
    simpa using z
  subst this
  exact ⟨c.c, c.no f h⟩
end
end PD

namespace PD
open PySem PySem.Spec PyProof.Rows L2
/-! ### class methods -/
/-- C.m(e, ..), C a class of the program, m a class method -/
def tCMethW (C : Addr) (sp : Sp) (E : L2.St → XK) (t : TA) : TE := fun σ H Q => t σ H fun vs H1 => sp (.ref C :: vs) H1 Q (E σ)
section
variable {X : Cx}
theorem run_cmW {W : WX} {k : Nat} {g q C : Addr} {fd : FuncData} {ps : List Str} {sp : Sp} {pins : List (Addr × Obj)} {σ : L2.St} {H : Hp} {s : Shared} {Q : VK} {us : List Value} {vs : List V} (F : FnOk X.prog X.w X.K X.mg X.base (L2.CX X.prog X.w) k g fd ps sp) (hb : Binds X.K fd ps []) (hr : Room k X.A)
    (tk : Takes X W) (J : Inv X ((q, PySem.W.methodObj (.ref g) (.ref C)) :: pins) σ H s) (r : Vals vs us) (h : sp (.ref C :: vs) H Q (WE W σ)) : wpAny (model X.prog X.w) X.A (call (.ref q) us) (EP X pins σ Q) X.xe s := by
  have rr : Vals (V.ref C :: vs) (Value.ref C :: us) := .cons rfl r
  have hlen : (Value.ref C :: us ++ []).length = ps.length := by
    rw [List.append_nil, ← rr.length]
    exact F.len _ _ _ _ h
  have hbt := hb s (Value.ref C :: us) J.kIn hlen
  rw [List.append_nil] at hbt
  have z : wpAny (model X.prog X.w) X.A (call (.ref q) us) (EP X ((q, PySem.W.methodObj (.ref g) (.ref C)) :: pins) σ Q) X.xe s := by
    refine wpAny_call (PySem.W.method_call (ClX.pin_at J) (codeAny_mono (F.run X.A X.stack s H ⟨Value.ref C :: us, []⟩ (Value.ref C :: us) (V.ref C :: vs) Q (WE W σ) hr J.env0 hbt rr h) fun o s' hq => ?_))
    match o, hq with
    | .error e, hq => exact passAt tk σ _ _ _ e s' J hq
    | .ok (.ret u), hq => exact J.after hq
  exact thn z fun _ _ y => ClX.unpinE y
theorem pe_cmethW {W : WX} {k : Nat} {C p g : Addr} {mc : Value} {fd : FuncData} {ps : List Str} {sp : Sp} {x m : Str} {e : Expr} {es : List Expr} {t : TA} {p1 apos pos : Pos} {pl : Sem Bool} (hm : X.mg x = some (.ref C)) (r : ClX.CRead X.K C mc) (c : ClX.CMet X.K C mc m p g)
    (F : FnOk X.prog X.w X.K X.mg X.base (L2.CX X.prog X.w) k g fd ps sp) (hb : Binds X.K fd ps []) (hr : Room k X.A) (tk : Takes X W) (ha : PA X (e :: es) t) (hg : Gl X x := by rfl) (hdb : (x == ("__debug__" : Str)) = false := by decide)
    (hst : starEach (e :: es) X.env = (false, eval e X.env) :: starEach es X.env := by rfl) (hpl : (backTo pos (starEach es X.env)).any (·.1) = false := by rfl)
    (ht : eval (.Call (.Attribute (.Name x p1) m apos) (e :: es) [] pos) X.env = (do
      let v ← eval (.Name x p1) X.env
      standAt apos.atName
      let (a, fst) ← holding [v] (getMethod v m pl)
      callWith pos a fst (backTo pos (starEach (e :: es) X.env)) (backToKw pos (keywordEach [] X.env))) := by rfl) :
    PE X (.Call (.Attribute (.Name x p1) m apos) (e :: es) [] pos) (tCMethW C sp (WE W) t) := by
  refine ⟨fun pins s σ H Q J h => PySem.W.methodCall_KW (pl := pl) (ld_glob J hg hm ?_ hdb) ht⟩
  have J1 := J.tok (s.toks)
  refine ClX.getmethcm_ok J r c fun s2 J2 => ?_
  exact ClX.callwith_cm J2 (ClX.base_none J (Nat.le_refl _)) c.fi (thn (ha.run pos _ s2 σ H _ J2 h) fun us s3 ⟨vs, H2, J3, rv, q2⟩ => ⟨⟨ClX.pin_at J3, J3.kIn⟩, run_cmW F hb hr tk J3 rv q2⟩) hst hpl
end
section
variable {τ : Type} {P : Pm} {Rf : Addr → τ → Hp → Prop} {W : WX}
/-- C.m(..) -/
def gCMeth (cls : Str) (m : List D → τ → Res τ D) (a : GA τ) : GE τ := fun ρ st => (a ρ st).bind fun ds st => m (.cls cls :: ds) st
theorem ev_cmeth {cls : Str} {C : Addr} {n : Nat} {m : List D → τ → Res τ D} {ta : TA} {a : GA τ} (hC : P.mg cls = some (.ref C)) (hl : ∀ ρ st ds st', a ρ st = .ok ds st' → ds.length = n) (ha : EvA P (Rf P.sa) W ta a) :
    EvD P (Rf P.sa) W (tCMethW C (spD P.K P.mg Rf (n + 1) m) (WE W) ta) (gCMeth cls m a) := by
  intro F B M H σ ρ st w Q hs
  have hs := Sat.bind hs
  have q := ha F B M H σ ρ st w
  cases e : a ρ st with
  | stuck => rw [e] at hs; exact hs.elim
  | err x st1 => rw [e] at hs q; exact q _ hs
  | ok ds st1 =>
    rw [e] at hs q
    refine q _ fun F1 M1 H1 vs E1 R1 rs => ⟨by rw [List.length_cons, ← rs.length, hl ρ st ds st1 e], P.sa, P.xa, F1, B, M1, .cls cls :: ds, st1, w.pre.ext E1, R1, ⟨_, _, rfl, by simp only [RepB, Rep]; exact ⟨C, rfl, hC⟩, rs⟩, ?_⟩
    exact (show Sat (m (.cls cls :: ds) st1) _ _ from hs).mono (fun d st2 h2 F' M' H' v E r r2 => h2 F' M' H' v (E1.trans E) r r2.b) fun x st2 h2 F' M' H' c dd E r x => h2 F' M' H' c dd (E1.trans E) r x
/-- cls(..), the class in slot i -/
def gMakeL (i : Nat) (cls : Str) (m : List D → τ → Res τ (List (Str × D))) (a : GA τ) : GE τ := fun ρ st => match ρ[i]? with
  | some (.val (.cls c)) => if c = cls then gMake cls m a ρ st else .stuck
  | _ => .stuck
theorem evd_makeL {i n : Nat} {cls : Str} {C : Addr} {m : List D → τ → Res τ (List (Str × D))} {ta : TA} {a : GA τ} (hC : P.mg cls = some (.ref C)) (hl : ∀ ρ st ds st', a ρ st = .ok ds st' → ds.length = n) (ha : EvA P (Rf P.sa) W ta a) :
    EvD P (Rf P.sa) W (tMakeL i C (spI P.K P.mg Rf n cls m) (WE W) ta) (gMakeL i cls m a) := by
  intro F B M H σ ρ st w Q hs
  unfold gMakeL at hs
  cases e : ρ[i]? with
  | none => rw [e] at hs; exact hs.elim
  | some s =>
    obtain ⟨o, e2, so⟩ := w.slot e
    rw [e] at hs
    cases s
    case val d =>
      cases d
      case cls c =>
        obtain ⟨hc, h4⟩ := Sat.ite hs
        clear hs
        subst hc
        obtain ⟨v, rfl, r⟩ := so
        obtain ⟨b, rfl, m1⟩ := (by simpa only [Rep] using r)
        have : b = C := by
          have z := m1.symm.trans hC
          simpa using z
        subst this
        exact ⟨e2, evd_make hC hl ha F B M H σ ρ st w Q h4⟩
      all_goals exact (show False from hs).elim
    all_goals exact (show False from hs).elim
end
end PD

namespace PD
open PySem PySem.Spec PyProof.Rows L2
section
variable {τ : Type} {P : Pm} {R : τ → Hp → Prop} {W : WX}
/-! ### str(x), x a text or a number -/
def strD : D → Option D
  | .int i => if i.natAbs.log2 < 1920 then some (.str (PySem.Str.ofString (toString i))) else none
  | .str s => some (.str s)
  | _ => none
def rStrA : List V → Hp → VK → Prop := fun xs H Q => (∃ i, xs = [.int i] ∧ i.natAbs.log2 < 1920 ∧ Q (.str (toString i)) H) ∨ ∃ a, xs = [.str a] ∧ Q (.str a) H
theorem call_strA {X : Cx} : CallR X (.type "str") rStrA := CallR.or call_str_int SkE.call_str_str
theorem calld_str : CallD P rStrA (o1 strD) := by
  refine CallD.one fun F B M H v x d p r e Q q => ?_
  cases x
  case int i =>
    obtain ⟨h, rfl⟩ := if_some (show (if i.natAbs.log2 < 1920 then some (D.str (PySem.Str.ofString (toString i))) else none) = some d from e)
    have : v = .int i := r
    subst this
    exact .inl ⟨i, rfl, h, q F H _ (.refl p) rfl⟩
  case str s =>
    cases e
    have : v = .str s := r
    subst this
    exact .inr ⟨s, rfl, q F H _ (.refl p) rfl⟩
  all_goals cases e
/-! ### parts of an f-string -/
def fmtD : D → Option D
  | .int i => if i.natAbs.log2 < 1920 then some (.str (PySem.Str.ofString (toString i))) else none
  | .str s => if s.length ≤ line then some (.str s) else none
  | _ => none
theorem ev_fmt {te : TE} {g : GE τ} (h : EvD P R W te g) : EvD P R W (tFmt te) (gUn fmtD g) := by
  intro F B M H σ ρ st w Q hs
  refine h F B M H σ ρ st w _ ((Sat.bind hs).mono (fun x st1 h1 F1 M1 H1 v E1 R1 r1 => ?_) fun _ _ z => z)
  obtain ⟨d, e, q⟩ := Sat.of h1
  cases x
  case int i =>
    obtain ⟨hh, rfl⟩ := if_some (show (if i.natAbs.log2 < 1920 then some (D.str (PySem.Str.ofString (toString i))) else none) = some d from e)
    have : v = .int i := r1
    subst this
    exact .inr ⟨i, rfl, hh, q F1 M1 H1 _ E1 R1 rfl⟩
  case str s =>
    obtain ⟨hh, rfl⟩ := if_some (show (if s.length ≤ line then some (D.str s) else none) = some d from e)
    have : v = .str s := r1
    subst this
    exact .inl ⟨s, rfl, by rw [line_eq]; exact hh, q F1 M1 H1 _ E1 R1 rfl⟩
  all_goals cases e
/-! ### *xs among the items of a display -/
def gStar (g : GE τ) (a : GA τ) : GA τ := fun ρ st => (g ρ st).bind fun d st => (Res.of (items d) st).bind fun xs st => (a ρ st).bind fun ys st => .ok (xs ++ ys) st
theorem Reps.toB {F B : Hp} : ∀ {ds : List D} {vs : List V}, Reps P F ds vs → RepBs P F B ds vs
  | [], vs, r => by
    simp only [Reps] at r
    exact r
  | d :: ds, vs, r => by
    obtain ⟨v, ws, rfl, r1, rs⟩ := r.uncons
    exact ⟨v, ws, rfl, r1.b, rs.toB⟩
theorem RepBs.app {F B : Hp} : ∀ {ds es : List D} {vs ws : List V}, RepBs P F B ds vs → RepBs P F B es ws → RepBs P F B (ds ++ es) (vs ++ ws)
  | [], es, vs, ws, r, s => by
    have r : vs = [] := r
    subst r; exact s
  | d :: ds, es, vs, ws, ⟨v, us, e, r, rs⟩, s => by
    subst e
    exact ⟨v, us ++ ws, rfl, r, rs.app s⟩
theorem eva_star {te : TE} {ta : TA} {g : GE τ} {a : GA τ} (h : EvD P R W te g) (ha : EvA P R W ta a) : EvA P R W (StX.tStar P.K te ta) (gStar g a) := by
  intro F B M H σ ρ st w Q hs
  refine h F B M H σ ρ st w _ ((Sat.bind hs).mono (fun d st1 h1 F1 M1 H1 v E1 R1 r1 => ?_) fun _ _ z => z)
  have w1 := w.ext E1 R1
  obtain ⟨xs, e, q⟩ := Sat.of (Sat.bind h1)
  obtain ⟨p, vs, rfl, hsq, rs⟩ := r1.seq w1.pre e
  refine ⟨p, vs, rfl, hsq.symm, ha F1 B M1 H1 σ ρ st1 w1 _ ((Sat.bind q).mono (fun ys st2 h2 F2 M2 H2 us E2 R2 r2 => ?_) fun _ _ z => KX.ext P R z E1)⟩
  exact (show ∀ F' M' H' vs, Ext F M H F' M' H' → R st2 M' → RepBs P F' B (xs ++ ys) vs → Q vs H' from h2) F2 M2 H2 _ (E1.trans E2) R2 ((rs.mono E2.ff).toB.app r2)
/-! ### f'..' -/
def strOf : D → Option Str
  | .str s => some s
  | _ => none
def gJs : List (GE τ) → Str → Sl → τ → Res τ D
  | [], acc, _, st => .ok (.str acc) st
  | g :: gs, acc, ρ, st => (g ρ st).bind fun d st => (Res.of (strOf d) st).bind fun y st => if (acc ++ y).length ≤ line then gJs gs (acc ++ y) ρ st else .stuck
inductive EvJs (P : Pm) (R : τ → Hp → Prop) (W : WX) : List TE → List (GE τ) → Prop
  | nil : EvJs P R W [] []
  | cons {te : TE} {g : GE τ} {ts : List TE} {gs : List (GE τ)} (h : EvD P R W te g) (r : EvJs P R W ts gs) : EvJs P R W (te :: ts) (g :: gs)
theorem ev_joined {ts : List TE} {gs : List (GE τ)} (h : EvJs P R W ts gs) : EvD P R W (fun σ H Q => tJs ts PySem.Str.empty σ H fun out H1 => Q (.str out) H1) (gJs gs PySem.Str.empty) := by
  have key : ∀ (acc : Str), EvD P R W (fun σ H Q => tJs ts acc σ H fun out H1 => Q (.str out) H1) (gJs gs acc) := by
    induction h with
    | nil => exact fun acc F B M H σ ρ st w Q hs => (show ∀ F' M' H' v, Ext F M H F' M' H' → R st M' → RepB P F' B (.str acc) v → Q v H' from hs) F M H _ (.refl w.pre) w.r rfl
    | cons h r ih =>
      intro acc F B M H σ ρ st w Q hs
      refine h F B M H σ ρ st w _ ((Sat.bind hs).mono (fun d st1 h1 F1 M1 H1 v E1 R1 r1 => ?_) fun _ _ z => z)
      obtain ⟨y, e, q⟩ := Sat.of (Sat.bind h1)
      obtain ⟨hl, q⟩ := Sat.ite q
      cases d
      case str s =>
        cases e
        have : v = .str y := r1
        subst this
        refine ⟨y, rfl, by rw [line_eq]; exact hl, ih (acc ++ y) F1 B M1 H1 σ ρ st1 (w.ext E1 R1) Q (q.mono (fun d2 st2 h2 F2 M2 H2 v2 E2 R2 r2 => h2 F2 M2 H2 v2 (E1.trans E2) R2 r2) fun _ _ z => KX.ext P R z E1)⟩
      all_goals cases e
  exact key _
end
end PD

namespace PD
open PySem PySem.Spec PyProof.Rows L2
/-! ### sum, max, min of a list of numbers -/
def intsOf : List D → Option (List Int)
  | [] => some []
  | d :: ds => match d, intsOf ds with
    | .int i, some is => some (i :: is)
    | _, _ => none
def topI : Int → List Int → Int
  | m, [] => m
  | m, n :: r => topI (if m < n then n else m) r
def lowI : Int → List Int → Int
  | m, [] => m
  | m, n :: r => lowI (if n < m then n else m) r
theorem topI_mem : ∀ (r : List Int) (m : Int), topI m r = m ∨ topI m r ∈ r
  | [], m => .inl rfl
  | n :: r, m => by
    simp only [topI]
    rcases topI_mem r (if m < n then n else m) with h | h
    · rw [h]; split
      · exact .inr (.head _)
      · exact .inl rfl
    · exact .inr (.tail _ h)
theorem topI_le : ∀ (r : List Int) (m : Int), m ≤ topI m r ∧ ∀ y ∈ r, y ≤ topI m r
  | [], m => ⟨Int.le_refl _, fun _ h => nomatch h⟩
  | n :: r, m => by
    simp only [topI]
    obtain ⟨h1, h2⟩ := topI_le r (if m < n then n else m)
    have hm : m ≤ (if m < n then n else m) := by split <;> omega
    have hn : n ≤ (if m < n then n else m) := by split <;> omega
    refine ⟨Int.le_trans hm h1, fun y hy => ?_⟩
    cases hy with
    | head => exact Int.le_trans hn h1
    | tail _ h => exact h2 y h
theorem lowI_mem : ∀ (r : List Int) (m : Int), lowI m r = m ∨ lowI m r ∈ r
  | [], m => .inl rfl
  | n :: r, m => by
    simp only [lowI]
    rcases lowI_mem r (if n < m then n else m) with h | h
    · rw [h]; split
      · exact .inr (.head _)
      · exact .inl rfl
    · exact .inr (.tail _ h)
theorem lowI_le : ∀ (r : List Int) (m : Int), lowI m r ≤ m ∧ ∀ y ∈ r, lowI m r ≤ y
  | [], m => ⟨Int.le_refl _, fun _ h => nomatch h⟩
  | n :: r, m => by
    simp only [lowI]
    obtain ⟨h1, h2⟩ := lowI_le r (if n < m then n else m)
    have hm : (if n < m then n else m) ≤ m := by split <;> omega
    have hn : (if n < m then n else m) ≤ n := by split <;> omega
    refine ⟨Int.le_trans h1 hm, fun y hy => ?_⟩
    cases hy with
    | head => exact Int.le_trans h1 hn
    | tail _ h => exact h2 y h
def sumD (d : D) : Option D := ((litems d).bind intsOf).map fun ns => .int ns.sum
def maxD (d : D) : Option D := ((litems d).bind intsOf).bind fun ns => match ns with
  | [] => none
  | n :: r => some (.int (topI n r))
def minD (d : D) : Option D := ((litems d).bind intsOf).bind fun ns => match ns with
  | [] => none
  | n :: r => some (.int (lowI n r))
section
variable {P : Pm}
theorem intsOf_rep {F : Hp} : ∀ {ds : List D} {vs : List V} {ns : List Int}, Reps P F ds vs → intsOf ds = some ns → vs = ns.map V.int
  | [], vs, ns, r, h => by simp only [Reps] at r; simp only [intsOf] at h; cases h; exact r
  | d :: ds, vs, ns, r, h => by
    obtain ⟨v, us, rfl, r1, rs⟩ := r.uncons
    simp only [intsOf] at h
    split at h
    · rename_i i is e2
      cases h
      simp only [Rep] at r1
      rw [r1, intsOf_rep rs e2]; rfl
    · cases h
theorem ints_at {F B M H : Hp} {d : D} {v : V} {ns : List Int} (p : Pre F B M H) (r : RepB P F B d v) (e : (litems d).bind intsOf = some ns) : ∃ a, v = .ref a ∧ SqL P.K H a (ns.map V.int) := by
  obtain ⟨l, e2, e3⟩ := Option.bind_eq_some_iff.mp e
  obtain ⟨a, vs, rfl, hs, rs⟩ := r.list p e2
  exact ⟨a, rfl, .of (by rw [← intsOf_rep rs e3]; exact hs)⟩
theorem calld_sum : CallD P (rSum P.K) (o1 sumD) := CallD.one fun F B M H v x d p r e Q q => by
  obtain ⟨ns, e1, rfl⟩ := Option.map_eq_some_iff.mp e
  obtain ⟨a, rfl, hs⟩ := ints_at p r e1
  exact ⟨a, ns, rfl, hs, q F H _ (.refl p) rfl⟩
theorem calld_max : CallD P (rMax P.K) (o1 maxD) := CallD.one fun F B M H v x d p r e Q q => by
  obtain ⟨ns, e1, e2⟩ := Option.bind_eq_some_iff.mp e
  obtain ⟨a, rfl, hs⟩ := ints_at p r e1
  cases ns with
  | nil => cases e2
  | cons n l =>
    cases e2
    refine ⟨a, n :: l, rfl, hs, Nat.succ_pos _, fun m hm hy => ?_⟩
    have h1 : topI n l ∈ n :: l := by
      rcases topI_mem l n with h | h
      · rw [h]; exact .head _
      · exact .tail _ h
    have h2 : m ≤ topI n l := by
      cases hm with
      | head => exact (topI_le l n).1
      | tail _ h => exact (topI_le l n).2 m h
    have : topI n l = m := Int.le_antisymm (hy _ h1) h2
    subst this
    exact q F H _ (.refl p) rfl
theorem calld_min : CallD P (rMin P.K) (o1 minD) := CallD.one fun F B M H v x d p r e Q q => by
  obtain ⟨ns, e1, e2⟩ := Option.bind_eq_some_iff.mp e
  obtain ⟨a, rfl, hs⟩ := ints_at p r e1
  cases ns with
  | nil => cases e2
  | cons n l =>
    cases e2
    refine ⟨a, n :: l, rfl, hs, Nat.succ_pos _, fun m hm hy => ?_⟩
    have h1 : lowI n l ∈ n :: l := by
      rcases lowI_mem l n with h | h
      · rw [h]; exact .head _
      · exact .tail _ h
    have h2 : lowI n l ≤ m := by
      cases hm with
      | head => exact (lowI_le l n).1
      | tail _ h => exact (lowI_le l n).2 m h
    have : m = lowI n l := Int.le_antisymm (hy _ h1) h2
    subst this
    exact q F H _ (.refl p) rfl
end
end PD
namespace PD
open PySem PySem.Spec PyProof.Rows L2
section
variable {X : Cx}
theorem k_max (K : PySem.W.Frag) (hc : X.calm = true) (h : X.K = K := by rfl) : CallR X (.builtin "max") (rMax K) := by subst h; exact cr_max hc
theorem k_min (K : PySem.W.Frag) (hc : X.calm = true) (h : X.K = K := by rfl) : CallR X (.builtin "min") (rMin K) := by subst h; exact cr_min hc
theorem k_sum (K : PySem.W.Frag) (hc : X.calm = true) (h : X.K = K := by rfl) : CallR X (.builtin "sum") (rSum K) := by subst h; exact cr_sum hc
theorem k_star (K : PySem.W.Frag) {e : Expr} {es : List Expr} {te : TE} {t : TA} {p : Pos} (he : PE X e te) (hr : PA X es t) (h : X.K = K := by rfl) (hs : starEach (.Starred e p :: es) X.env = (true, eval e X.env) :: starEach es X.env := by rfl) :
    PA X (.Starred e p :: es) (StX.tStar K te t) := by subst h; exact StX.pa_star he hr hs
end
end PD

namespace PD
open PySem PySem.Spec PyProof.Rows L2
theorem room_in2 {k : Nat} {A : Around} (r : Room (k + 1) A) : Room k A.in1.in1 :=
  ⟨r.hd, by have := r.dp; show A.depth + 3 * k + 5 < _; omega, by have := r.un; show A.units + 1 + 1 + 16 * k + 200 < _; omega⟩
abbrev XN : XK := fun _ _ _ => False
section
variable {X : Cx}
theorem run_at {k : Nat} {f : Addr} {fd : FuncData} {ps : List Str} {sp : Sp} {pins : List (Addr × Obj)} {σ : L2.St} {H : Hp} {s : Shared} {Q : VK} {us : List Value} {vs : List V} {A : Around} {E : Value → Shared → Prop} (F : FnOk X.prog X.w X.K X.mg X.base (L2.CX X.prog X.w) k f fd ps sp) (hr : Room k A)
    (e0 : Env0 X.prog X.w X.K X.mg X.base A X.stack s H) (I : Inv X pins σ H s) (hb : Binds X.K fd ps []) (r : Vals vs us) (h : sp vs H Q XN) : wpAny (model X.prog X.w) A (call (.ref f) us) (EP X pins σ Q) E s := by
  have hl := F.len _ _ _ _ h
  have hbt := hb s us I.kIn (by rw [List.append_nil, ← r.length]; exact hl)
  rw [List.append_nil] at hbt
  refine wpAny_call (codeAny_mono (F.run A X.stack s H ⟨us, []⟩ us vs Q XN hr e0 hbt r h) fun o s' hq => ?_)
  cases o with
  | error er => (obtain ⟨_, _, _, _, _, _, _, _, _, _, _, _, z⟩ := hq); exact z.elim
  | ok fl =>
    cases fl with
    | ret u => exact I.after hq
    | next => exact False.elim hq
    | brk => exact False.elim hq
    | cont => exact False.elim hq
/-! ### str(x), x an own object with its __str__ -/
def rStrO (C : Addr) (sp : Sp) : List V → Hp → VK → Prop := fun xs H Q => ∃ a dx fs, xs = [.ref a] ∧ H a = some (.ins C dx fs) ∧ sp [.ref a] H (fun v H' => ∃ z, v = .str z ∧ Q v H') XN
theorem call_strO {k : Nat} {f C : Addr} {fd : FuncData} {ps : List Str} {sp : Sp} (F : FnOk X.prog X.w X.K X.mg X.base (L2.CX X.prog X.w) k f fd ps sp) (hr : Room (k + 1) X.A) (hs : PySem.W.findIn X.K (.ref C) "__str__" = some (some (.ref f))) (hf : PySem.W.isFn X.K (.ref f) = true) (hb : Binds X.K fd ps []) :
    CallR X (.type "str") (rStrO C sp) := by
  intro pins s σ H xs us Q I rx h
  obtain ⟨a, dx, fs, rfl, ea, h⟩ := h
  cases rx with
  | cons r1 r2 =>
    cases r2
    cases (show _ = Value.ref a from r1)
    obtain ⟨mA, J, _⟩ := ins_get I.hok ea
    obtain ⟨od, J, _⟩ := J.look
    have hu := (room_in2 hr).units0
    refine PySem.W.kso_call hu I.kIn J hs hf (thn (run_at F (room_in2 hr) I.env0.in1.in1 I hb (.cons (show RelV (V.ref a) (Value.ref a) from rfl) .nil) h) fun u s1 ⟨v, H1, I1, rv, z, ez, q⟩ => ?_)
    subst ez
    obtain ⟨t, rfl⟩ := (show ∃ t, u = Value.str z t from rv)
    exact ⟨V.str z, H1, I1, ⟨t, rfl⟩, q⟩
/-! ### == and != by an own __eq__ -/
def rEqO (K : PySem.W.Frag) (C : Addr) (sp : Sp) : R2 := fun x y H Q => ∃ a dx fs t, x = .ref a ∧ H a = some (.ins C dx fs) ∧ TyX K H y t ∧ PySem.W.notFirst K C t = true ∧ sp [x, y] H (fun v H' => ∃ b, v = .bl b ∧ Q v H') XN
def rNeO (K : PySem.W.Frag) (C : Addr) (sp : Sp) : R2 := fun x y H Q => ∃ a dx fs t, x = .ref a ∧ H a = some (.ins C dx fs) ∧ TyX K H y t ∧ PySem.W.notFirst K C t = true ∧ sp [x, y] H (fun v H' => ∃ b, v = .bl b ∧ Q (.bl (!b)) H') XN
theorem op_eqO {k : Nat} {f C : Addr} {fd : FuncData} {ps : List Str} {sp : Sp} (F : FnOk X.prog X.w X.K X.mg X.base (L2.CX X.prog X.w) k f fd ps sp) (hr : Room k X.A) (hs : PySem.W.findIn X.K (.ref C) "__eq__" = some (some (.ref f))) (hf : PySem.W.isFn X.K (.ref f) = true) (hb : Binds X.K fd ps []) :
    OpR X (compareOp .Eq) (rEqO X.K C sp) := by
  intro pins s σ H x y v u Q I rx ry h
  obtain ⟨a, dx, fs, t, rfl, ea, ty, nf, h⟩ := h
  cases (show v = Value.ref a from rx)
  obtain ⟨mA, J, _⟩ := ins_get I.hok ea
  obtain ⟨od, J, _⟩ := J.look
  obtain ⟨m, hF⟩ := I.fr
  obtain ⟨P, Z, p, _⟩ := kit_of I ry ty
  show wpAny (model X.prog X.w) X.A (richCompare .Eq (.ref a) u) (EP X pins σ Q) X.xe s
  refine PySem.W.cmp_K (op := .Eq) (tb := t) hr.units0 hF I.ok.mod.kin J (Z.ty _ _ I.kIn p) nf hs hf (thn (run_at F hr I.env0 I hb (.cons (show RelV (V.ref a) (Value.ref a) from rfl) (.cons ry .nil)) h) fun u s1 ⟨v, H1, I1, rv, z, ez, q⟩ => ?_)
  subst ez
  cases (show u = Value.bool z from rv)
  exact ⟨V.bl z, H1, I1, rfl, q⟩
theorem ifBound_b {M : Model} {A : Around} {E : Value → Shared → Prop} {s : Shared} {K : PySem.W.Frag} {x C : Addr} {ox : Obj} {od : Option Obj} {name : Str} {id : String} {args : List Value} {Q : Option Value → Shared → Prop} (X : K.In s.heap) (I : PySem.W.InstAt s.heap x ox C od) (hs : PySem.W.findIn K (.ref C) name = some (some (.builtin id)))
    (hb : ∀ self, bindSpecial (.builtin id) self = pure (.builtin id, [self])) (h : wpAny M A (call (.builtin id) (.ref x :: args)) (fun v => Q (some v)) E s) : wpAny M A (callSpecialIfBound? (.ref x) name args) Q E s := by
  simp only [callSpecialIfBound?, bindSpecialIfBound?]
  refine wpAny_holding (wpAny_bind (wpAny_bind (wpAny_bind (I.type.here ((PySem.W.looks_findIn X hs).here ?_)))))
  refine wpAny_bind (wpAny_askSetting (wpAny_ite ?_))
  have fin : wpAny M A (call (.builtin id) ([.ref x] ++ args) >>= fun v => pure (some v)) Q E s := wpAny_bind (wpAny_mono h (fun v s' h' => wpAny_pure h') fun _ _ h' => h')
  split
  · exact wpAny_bind ((PySem.W.Looks.of_pure (hb _)).here (wpAny_pure (by exact fin)))
  · exact wpAny_tryCatch (wpAny_bind ((PySem.W.Looks.of_pure (hb _)).here (wpAny_pure (by exact fin))))
theorem ne_body {k : Nat} {f C a dx : Addr} {fs : List (Str × V)} {fd : FuncData} {ps : List Str} {sp : Sp} {pins : List (Addr × Obj)} {σ : L2.St} {H : Hp} {s : Shared} {u : Value} {y : V} {E : Value → Shared → Prop} {A : Around} {Q : VK} (F : FnOk X.prog X.w X.K X.mg X.base (L2.CX X.prog X.w) k f fd ps sp) (hr : Room k A) (e0 : Env0 X.prog X.w X.K X.mg X.base A X.stack s H)
    (I : Inv X pins σ H s) (ea : H a = some (.ins C dx fs)) (ry : RelV y u) (hs : PySem.W.findIn X.K (.ref C) "__eq__" = some (some (.ref f))) (hf : PySem.W.isFn X.K (.ref f) = true) (hb : Binds X.K fd ps []) (h : sp [.ref a, y] H (fun v H' => ∃ b, v = .bl b ∧ Q (.bl (!b)) H') XN) :
    wpAny (model X.prog X.w) A (Builtin.«object.__ne__» ⟨[.ref a, u], []⟩) (fun fin s' => ∃ b, fin = .done (.ret (.bool b)) ∧ ∃ H', Inv X pins σ H' s' ∧ Q (.bl b) H') E s := by
  obtain ⟨mA, J, _⟩ := ins_get I.hok ea
  obtain ⟨od, J, _⟩ := J.look
  unfold Builtin.«object.__ne__»
  refine wpAny_bind (m := slotArgs "__ne__" 1 _) (wpAny_pure ?_)
  refine wpAny_bind (m := cRoomFor _ _) (wpAny_cRoomFor hr.units0 ?_)
  refine wpAny_bind (m := callSpecialIfBound? (.ref a) (Str.ofString "__eq__") _) (PySem.W.ifBound_K I.kIn J hs hf (thn (run_at F hr e0 I hb (.cons (show RelV (V.ref a) (Value.ref a) from rfl) (.cons ry .nil)) h) fun u s1 ⟨v, H1, I1, rv, z, ez, q⟩ => ?_))
  subst ez
  cases (show u = Value.bool z from rv)
  exact wpAny_bind (wpAny_truthy_bool (wpAny_pure ⟨_, rfl, H1, I1, q⟩))
theorem op_neO {k : Nat} {f C : Addr} {fd : FuncData} {ps : List Str} {sp : Sp} (F : FnOk X.prog X.w X.K X.mg X.base (L2.CX X.prog X.w) k f fd ps sp) (hr : Room (k + 1) X.A) (hs : PySem.W.findIn X.K (.ref C) "__eq__" = some (some (.ref f))) (hf : PySem.W.isFn X.K (.ref f) = true) (hn : PySem.W.findIn X.K (.ref C) "__ne__" = some (some (.builtin "object.__ne__")))
    (hm : PySem.W.mroIn X.K C (.type "object") = some true) (hb : Binds X.K fd ps []) : OpR X (compareOp .NotEq) (rNeO X.K C sp) := by
  intro pins s σ H x y v u Q I rx ry h
  obtain ⟨a, dx, fs, t, rfl, ea, ty, nf, h⟩ := h
  cases (show v = Value.ref a from rx)
  obtain ⟨mA, J, _⟩ := ins_get I.hok ea
  obtain ⟨od, J, _⟩ := J.look
  obtain ⟨P, Z, p, _⟩ := kit_of I ry ty
  have one : wpAny (model X.prog X.w) X.A (tryCompare (.ref a) "__ne__" u) (fun r s' => ∃ v, r = some v ∧ ∃ x H', Inv X pins σ H' s' ∧ RelV x v ∧ Q x H') X.xe s := by
    unfold tryCompare
    refine wpAny_bind (ifBound_b I.kIn J hn PySem.F.cmp_object.ne.bind (wpAny_call (codeAny_call_builtin PySem.F.cmp_object.ne.plain PySem.F.cmpEntry_ne
      (PySem.W.check_slot (i := "object.__ne__") (owner := "object") (n := "__ne__") PySem.F.cmpKind_ne PySem.F.cmpSplit_ne (J.type.andThen (PySem.W.looks_mroIn I.kIn hm)) (PySem.F.cmpArgs_ne _ _)
        (wpAny_mono (ne_body F hr.in1 I.env0.in1 I ea ry hs hf hb h) (fun r s' hq => ?_) fun _ _ y => y)))))
    obtain ⟨b, rfl, H', I', q⟩ := hq
    exact wpAny_pure ⟨_, rfl, V.bl b, H', I', rfl, q⟩
  show wpAny (model X.prog X.w) X.A (richCompare .NotEq (.ref a) u) (EP X pins σ Q) X.xe s
  unfold richCompare
  simp only [oneThing_ref]
  refine wpAny_holding (wpAny_bind (wpAny_cRoomFor hr.units0 ?_))
  refine wpAny_bind (J.type.here (wpAny_bind ((Z.ty _ _ I.kIn p).here ?_)))
  split
  · rename_i q
    have e : PySem.W.subIn X.K t (.ref C) = some false := by
      rcases Bool.or_eq_true_iff.mp nf with e | e
      · rw [beq_iff_eq.mp e] at q; simp at q
      · exact beq_iff_eq.mp e
    refine wpAny_bind ((PySem.W.looks_subIn I.kIn e).here ?_)
    simp only [Bool.false_eq_true, if_false]
    refine wpAny_bind (wpAny_mono one (fun r s' z => ?_) fun _ _ e => e)
    obtain ⟨v, rfl, hq⟩ := z
    exact wpAny_pure hq
  · refine wpAny_bind (wpAny_pure ?_)
    simp only [Bool.false_eq_true, if_false]
    refine wpAny_bind (wpAny_mono one (fun r s' z => ?_) fun _ _ e => e)
    obtain ⟨v, rfl, hq⟩ := z
    exact wpAny_pure hq
end
end PD

namespace PD
open PySem PySem.Spec PyProof.Rows L2
/-! ### calls by keywords of methods, class methods, classes; methods of no further argument -/
structure KwB (K : PySem.W.Frag) (fd : FuncData) (nf : Nat) (ps ks : List Str) (pm : List Nat) : Prop where
  to : ∀ (s : Shared) (us ws : List Value), K.In s.heap → us.length = nf → ws.length = ks.length → BindsTo s fd ⟨us, ks.zip ws⟩ (ps.zip (us ++ pm.map fun i => ws.getD i .none))
  len : ∀ i ∈ pm, i < ks.length
def perm (pm : List Nat) (zs : List V) : List V := pm.map fun i => zs.getD i .non
section
variable {X : Cx}
def tMakeKw (C : Addr) (n : Nat) (sp : Sp) (pm : List Nat) (E : L2.St → XK) (t : TA) : TE := fun σ H Q => t σ H fun zs H1 => zs.length = n ∧ ∀ x dx, H1 x = none → H1 dx = none → dx ≠ x → sp (.ref x :: perm pm zs) (upd (upd H1 dx (.own x)) x (.ins C dx [])) (fun v H2 => v = .non ∧ Q (.ref x) H2) (E σ)
theorem pe_makeKw {W : WX} {k : Nat} {f C : Addr} {fd : FuncData} {ps ks : List Str} {pm : List Nat} {sp : Sp} {x : Str} {kws : List Keyword} {t : TA} {p pos : Pos} (M : Mk X.K C f) (F : FnOk X.prog X.w X.K X.mg X.base (L2.CX X.prog X.w) k f fd ps sp) (hr : Room (k + 1) X.A) (hm : X.mg x = some (.ref C))
    (hb : KwB X.K fd 1 ps ks pm) (tk : Takes X W) (hkw : PK X kws t) (hg : Gl X x := by rfl) (hdb : (x == ("__debug__" : Str)) = false := by decide) (hall : (backToKw pos (keywordEach kws X.env)).all (·.1.isSome) = true := by rfl) (hks : (backToKw pos (keywordEach kws X.env)).filterMap (·.1) = ks := by rfl)
    (hpl : ((backTo pos (starEach [] X.env)).any (·.1) || (backToKw pos (keywordEach kws X.env)).any (·.1.isNone)) = false := by rfl) :
    PE X (.Call (.Name x p) [] kws pos) (tMakeKw C ks.length sp pm (WE W) t) := by
  refine ⟨fun pins s σ H Q J0 h0 => wpAny_Call_Name_kw (ld_glob J0 hg hm (PySem.W.callWith_KW0 (h₀ := X.base) J0.ok.mod.kin M.kp hall (thn (hkw.run pos pins s σ H _ J0 h0) fun ws s1 ⟨zs, H1, J, r, l2, h⟩ => ⟨J.kIn, ?_⟩) hpl) hdb)⟩
  rw [hks]
  have q0 := h (s1.heap.objs.size + 1) s1.heap.objs.size (J.hok.fresh (Nat.le_succ _)) (J.hok.fresh (Nat.le_refl _)) (Nat.ne_of_lt (Nat.lt_succ_self _))
  have J2 := Inv.made (C := C) J
  have r2 : Vals (perm pm zs) (pm.map fun i => ws.getD i .none) := vals_perm r fun i hi => by rw [l2]; exact hb.len i hi
  have hbt := hb.to _ [Value.ref (s1.heap.objs.size + 1)] ws J2.kIn rfl (r.length.symm.trans l2)
  have run := F.run _ X.stack _ _ ⟨[Value.ref (s1.heap.objs.size + 1)], ks.zip ws⟩ (Value.ref (s1.heap.objs.size + 1) :: pm.map fun i => ws.getD i .none) _ _ (WE W σ) (hr.make C [] (ks.zip ws)) (J2.env0.make C [] (ks.zip ws)) hbt (.cons (show RelV (V.ref (s1.heap.objs.size + 1)) (Value.ref (s1.heap.objs.size + 1)) from rfl) r2) q0
  show wpAny (model X.prog X.w) X.A (call (.ref C) [] (ks.zip ws)) (EP X pins σ Q) X.xe s1
  refine wpAny_call (make_map (f := f) J.kIn M.makes M.init (beq_iff_eq.mp M.fn) (codeAny_mono run fun r s' hq => ?_))
  match r, hq with
  | .error e, hq => exact passAt tk σ pins _ _ e s' J2 hq
  | .ok (.ret u), hq =>
    obtain ⟨v, H', J3, rv, rfl, q3⟩ := J2.after hq
    exact ⟨rv, V.ref (s1.heap.objs.size + 1), H', J3, rfl, q3⟩
def tMethKw (C : Addr) (m : Str) (n : Nat) (sp : Sp) (pm : List Nat) (E : L2.St → XK) (ta : TE) (t : TA) : TE := fun σ H Q => ta σ H fun x H1 => ∃ a dx fs, x = .ref a ∧ H1 a = some (.ins C dx fs) ∧ fs.lookup m = none ∧ t σ H1 fun zs H2 => zs.length = n ∧ sp (x :: perm pm zs) H2 Q (E σ)
theorem pe_methKw {W : WX} {k : Nat} {f C : Addr} {fd : FuncData} {ps ks : List Str} {pm : List Nat} {sp : Sp} {m : Str} {o : Expr} {kws : List Keyword} {ta : TE} {t : TA} {apos pos : Pos} {pl : Sem Bool} (ho : PE X o ta) (c : Cls X.K C) (hm : Meth X.K C m f) (F : FnOk X.prog X.w X.K X.mg X.base (L2.CX X.prog X.w) k f fd ps sp) (hr : Room k X.A)
    (hb : KwB X.K fd 1 ps ks pm) (tk : Takes X W) (hkw : PK X kws t) (hall : (backToKw pos (keywordEach kws X.env)).all (·.1.isSome) = true := by rfl) (hks : (backToKw pos (keywordEach kws X.env)).filterMap (·.1) = ks := by rfl)
    (hpl : ((backTo pos (starEach [] X.env)).any (·.1) || (backToKw pos (keywordEach kws X.env)).any (·.1.isNone)) = false := by rfl)
    (ht : eval (.Call (.Attribute o m apos) [] kws pos) X.env = (do
      let v ← eval o X.env
      standAt apos.atName
      let (g, fst) ← holding [v] (getMethod v m pl)
      callWith pos g fst (backTo pos (starEach [] X.env)) (backToKw pos (keywordEach kws X.env))) := by rfl) :
    PE X (.Call (.Attribute o m apos) [] kws pos) (tMethKw C m ks.length sp pm (WE W) ta t) := by
  refine ⟨fun pins s σ H Q J h => PySem.W.methodCall_KW (pl := pl) (thn (ho.run pins s σ H _ J h) fun u s1 ⟨x, H1, J1, rx, a, dx, fs, ex, ea, l, q⟩ => ?_) ht⟩
  subst ex
  cases (show u = Value.ref a from rx)
  refine getmeth_ok J1 ea c hm l (PySem.W.callWith_KW0 (first := [.ref a]) (h₀ := X.base) J.ok.mod.kin hm.kp hall (thn (hkw.run pos pins s1 σ H1 _ J1 q) fun ws s2 ⟨zs, H2, J2, r, l2, q2⟩ => ⟨J2.kIn, ?_⟩) hpl)
  rw [hks]
  have r2 : Vals (perm pm zs) (pm.map fun i => ws.getD i .none) := vals_perm r fun i hi => by rw [l2]; exact hb.len i hi
  refine wpAny_call (codeAny_mono (F.run X.A X.stack s2 H2 ⟨[.ref a] ++ [], ks.zip ws⟩ (Value.ref a :: pm.map fun i => ws.getD i .none) (V.ref a :: perm pm zs) Q (WE W σ) hr J2.env0 (hb.to s2 [.ref a] ws J2.kIn rfl (r.length.symm.trans l2)) (.cons rfl r2) q2) fun o s' hq => ?_)
  cases o with
  | error e => exact passAt tk σ pins H2 s2 e s' J2 hq
  | ok fl =>
    cases fl with
    | ret u => exact J2.after hq
    | next => exact False.elim hq
    | brk => exact False.elim hq
    | cont => exact False.elim hq
def tMeth0 (C : Addr) (m : Str) (sp : Sp) (E : L2.St → XK) (ta : TE) : TE := fun σ H Q => ta σ H fun x H1 => ∃ a dx fs, x = .ref a ∧ H1 a = some (.ins C dx fs) ∧ fs.lookup m = none ∧ sp [x] H1 Q (E σ)
theorem pe_meth0 {W : WX} {k : Nat} {f C : Addr} {fd : FuncData} {ps : List Str} {sp : Sp} {m : Str} {o : Expr} {ta : TE} {apos pos : Pos} {pl : Sem Bool} (ho : PE X o ta) (c : Cls X.K C) (hm : Meth X.K C m f) (F : FnOk X.prog X.w X.K X.mg X.base (L2.CX X.prog X.w) k f fd ps sp) (hr : Room k X.A)
    (hb : Binds X.K fd ps []) (tk : Takes X W)
    (ht : eval (.Call (.Attribute o m apos) [] [] pos) X.env = (do
      let v ← eval o X.env
      standAt apos.atName
      let (g, fst) ← holding [v] (getMethod v m pl)
      callWith pos g fst (backTo pos (starEach [] X.env)) (backToKw pos (keywordEach [] X.env))) := by rfl) :
    PE X (.Call (.Attribute o m apos) [] [] pos) (tMeth0 C m sp (WE W) ta) := by
  refine ⟨fun pins s σ H Q J h => PySem.W.methodCall_KW (pl := pl) (thn (ho.run pins s σ H _ J h) fun u s1 ⟨x, H1, J1, rx, a, dx, fs, ex, ea, l, q⟩ => ?_) ht⟩
  subst ex
  cases (show u = Value.ref a from rx)
  refine getmeth_ok J1 ea c hm l (PySem.W.callWith_K0 (first := [.ref a]) J1.kIn hm.kp ?_)
  exact run_fnS (us := [.ref a]) (vs := [.ref a]) F hr hb (passAt tk σ) J1 (.cons rfl .nil) q
def tCMethKw (C : Addr) (n : Nat) (sp : Sp) (pm : List Nat) (E : L2.St → XK) (t : TA) : TE := fun σ H Q => t σ H fun zs H1 => zs.length = n ∧ sp (.ref C :: perm pm zs) H1 Q (E σ)
theorem pe_cmethKw {W : WX} {k : Nat} {C p g : Addr} {mc : Value} {fd : FuncData} {ps ks : List Str} {pm : List Nat} {sp : Sp} {x m : Str} {kws : List Keyword} {t : TA} {p1 apos pos : Pos} {pl : Sem Bool} (hm : X.mg x = some (.ref C)) (r : ClX.CRead X.K C mc) (c : ClX.CMet X.K C mc m p g)
    (F : FnOk X.prog X.w X.K X.mg X.base (L2.CX X.prog X.w) k g fd ps sp) (hb : KwB X.K fd 1 ps ks pm) (hr : Room k X.A) (tk : Takes X W) (hkw : PK X kws t) (hg : Gl X x := by rfl) (hdb : (x == ("__debug__" : Str)) = false := by decide)
    (hall : (backToKw pos (keywordEach kws X.env)).all (·.1.isSome) = true := by rfl) (hks : (backToKw pos (keywordEach kws X.env)).filterMap (·.1) = ks := by rfl)
    (hpl : ((backTo pos (starEach [] X.env)).any (·.1) || (backToKw pos (keywordEach kws X.env)).any (·.1.isNone)) = false := by rfl)
    (ht : eval (.Call (.Attribute (.Name x p1) m apos) [] kws pos) X.env = (do
      let v ← eval (.Name x p1) X.env
      standAt apos.atName
      let (a, fst) ← holding [v] (getMethod v m pl)
      callWith pos a fst (backTo pos (starEach [] X.env)) (backToKw pos (keywordEach kws X.env))) := by rfl) :
    PE X (.Call (.Attribute (.Name x p1) m apos) [] kws pos) (tCMethKw C ks.length sp pm (WE W) t) := by
  refine ⟨fun pins s σ H Q J h => PySem.W.methodCall_KW (pl := pl) (ld_glob J hg hm ?_ hdb) ht⟩
  refine ClX.getmethcm_ok J r c fun s2 J2 => ?_
  refine PySem.W.callWith_of hpl (PySem.W.keeps_M (q := s.heap.objs.size) (self := .ref C) c.fi) (evalArgs_kw2_nil hall (thn (hkw.run pos _ s2 σ H _ J2 h) fun ws s3 ⟨zs, H2, J3, rv, l2, q2⟩ => ⟨⟨ClX.pin_at J3, J3.kIn⟩, ?_⟩))
  rw [hks]
  have r2 : Vals (perm pm zs) (pm.map fun i => ws.getD i .none) := vals_perm rv fun i hi => by rw [l2]; exact hb.len i hi
  have z : wpAny (model X.prog X.w) X.A (call (.ref s.heap.objs.size) ([] ++ []) (ks.zip ws)) (EP X ((s.heap.objs.size, PySem.W.methodObj (.ref g) (.ref C)) :: pins) σ Q) X.xe s3 := by
    refine wpAny_call (PySem.W.method_call (ClX.pin_at J3) (codeAny_mono (F.run X.A X.stack s3 H2 ⟨[.ref C] ++ [], ks.zip ws⟩ (Value.ref C :: pm.map fun i => ws.getD i .none) (V.ref C :: perm pm zs) Q (WE W σ) hr J3.env0 (hb.to s3 [.ref C] ws J3.kIn rfl (rv.length.symm.trans l2)) (.cons rfl r2) q2) fun o s' hq => ?_))
    match o, hq with
    | .error e, hq => exact passAt tk σ _ _ _ e s' J3 hq
    | .ok (.ret u), hq => exact J3.after hq
  exact thn z fun _ _ y => ClX.unpinE y
end
end PD

namespace PD
open PySem PySem.Spec PyProof.Rows L2
/-! ### callees of classes, as facts handed to a def -/
section
variable (Pr : Program) (w : World) (K : PySem.W.Frag) (mg : Str → Option Value) (base : Heap)
structure CalM (lvl : Nat) (cls : Str) (ps : List Str) (sp : Sp) (C : Addr) : Prop where
  ex : ∃ f fd, mg cls = some (.ref C) ∧ Mk K C f ∧ Binds K fd ps [] ∧ FnOk Pr w K mg base (L2.CX Pr w) lvl f fd ps sp
structure CalMK (lvl : Nat) (cls : Str) (ps ks : List Str) (pm : List Nat) (sp : Sp) (C : Addr) : Prop where
  ex : ∃ f fd, mg cls = some (.ref C) ∧ Mk K C f ∧ KwB K fd 1 ps ks pm ∧ FnOk Pr w K mg base (L2.CX Pr w) lvl f fd ps sp
structure CalE (lvl : Nat) (m : Str) (ps : List Str) (sp : Sp) (C : Addr) : Prop where
  ex : ∃ f fd, Cls K C ∧ Meth K C m f ∧ Binds K fd ps [] ∧ FnOk Pr w K mg base (L2.CX Pr w) lvl f fd ps sp
structure CalEK (lvl : Nat) (m : Str) (ps ks : List Str) (pm : List Nat) (sp : Sp) (C : Addr) : Prop where
  ex : ∃ f fd, Cls K C ∧ Meth K C m f ∧ KwB K fd 1 ps ks pm ∧ FnOk Pr w K mg base (L2.CX Pr w) lvl f fd ps sp
structure CalP (lvl : Nat) (m : Str) (sp : Sp) (C : Addr) : Prop where
  ex : ∃ p g fd, Cls K C ∧ PropOf K C m p g ∧ Binds K fd ["self"] [] ∧ FnOk Pr w K mg base (L2.CX Pr w) lvl g fd ["self"] sp
structure CalC (lvl : Nat) (cls m : Str) (ps : List Str) (sp : Sp) (C : Addr) : Prop where
  ex : ∃ mc p g fd, mg cls = some (.ref C) ∧ ClX.CRead K C mc ∧ ClX.CMet K C mc m p g ∧ Binds K fd ps [] ∧ FnOk Pr w K mg base (L2.CX Pr w) lvl g fd ps sp
structure CalCK (lvl : Nat) (cls m : Str) (ps ks : List Str) (pm : List Nat) (sp : Sp) (C : Addr) : Prop where
  ex : ∃ mc p g fd, mg cls = some (.ref C) ∧ ClX.CRead K C mc ∧ ClX.CMet K C mc m p g ∧ KwB K fd 1 ps ks pm ∧ FnOk Pr w K mg base (L2.CX Pr w) lvl g fd ps sp
structure CalS (lvl : Nat) (ps : List Str) (sp : Sp) (C : Addr) : Prop where
  ex : ∃ f fd, PySem.W.findIn K (.ref C) "__str__" = some (some (.ref f)) ∧ PySem.W.isFn K (.ref f) = true ∧ Binds K fd ps [] ∧ FnOk Pr w K mg base (L2.CX Pr w) lvl f fd ps sp
structure CalQ (lvl : Nat) (ps : List Str) (sp : Sp) (C : Addr) : Prop where
  ex : ∃ f fd, PySem.W.findIn K (.ref C) "__eq__" = some (some (.ref f)) ∧ PySem.W.isFn K (.ref f) = true ∧ PySem.W.findIn K (.ref C) "__ne__" = some (some (.builtin "object.__ne__")) ∧ PySem.W.mroIn K C (.type "object") = some true ∧ Binds K fd ps [] ∧ FnOk Pr w K mg base (L2.CX Pr w) lvl f fd ps sp
end
section
variable {X : Cx} {W : WX} {lvl : Nat} {cls m : Str} {ps ks : List Str} {pm : List Nat} {sp : Sp} {C : Addr}
theorem pe_mk {e : Expr} {es : List Expr} {t : TA} {p pos : Pos} (c : CalM X.prog X.w X.K X.mg X.base lvl cls ps sp C) (hr : Room (lvl + 1) X.A) (tk : Takes X W) (ha : PA X (e :: es) t) (hg : Gl X cls := by rfl) (hdb : (cls == ("__debug__" : Str)) = false := by decide) (he : starEach (e :: es) X.env = (false, eval e X.env) :: starEach es X.env := by rfl) (hpl : (backTo pos (starEach es X.env)).any (·.1) = false := by rfl) :
    PE X (.Call (.Name cls p) (e :: es) [] pos) (tMakeW C sp (WE W) t) := by
  obtain ⟨f, fd, h, M, hb, F⟩ := c.ex
  exact pe_makeW M F hr h hb tk ha hg hdb he hpl
theorem pe_mkL {i : Nat} {x : Str} {e : Expr} {es : List Expr} {t : TA} {p pos : Pos} (hv : PE X (.Name x p) (tVar i)) (c : CalM X.prog X.w X.K X.mg X.base lvl cls ps sp C) (hr : Room (lvl + 1) X.A) (tk : Takes X W) (ha : PA X (e :: es) t) (he : starEach (e :: es) X.env = (false, eval e X.env) :: starEach es X.env := by rfl) (hpl : (backTo pos (starEach es X.env)).any (·.1) = false := by rfl) :
    PE X (.Call (.Name x p) (e :: es) [] pos) (tMakeL i C sp (WE W) t) := by
  obtain ⟨f, fd, h, M, hb, F⟩ := c.ex
  exact pe_makeL hv M F hr hb tk ha he hpl
theorem pe_mkK {kws : List Keyword} {t : TA} {p pos : Pos} (c : CalMK X.prog X.w X.K X.mg X.base lvl cls ps ks pm sp C) (hr : Room (lvl + 1) X.A) (tk : Takes X W) (hkw : PK X kws t) (hg : Gl X cls := by rfl) (hdb : (cls == ("__debug__" : Str)) = false := by decide) (hall : (backToKw pos (keywordEach kws X.env)).all (·.1.isSome) = true := by rfl) (hks : (backToKw pos (keywordEach kws X.env)).filterMap (·.1) = ks := by rfl)
    (hpl : ((backTo pos (starEach [] X.env)).any (·.1) || (backToKw pos (keywordEach kws X.env)).any (·.1.isNone)) = false := by rfl) :
    PE X (.Call (.Name cls p) [] kws pos) (tMakeKw C ks.length sp pm (WE W) t) := by
  obtain ⟨f, fd, h, M, hb, F⟩ := c.ex
  exact pe_makeKw M F hr h hb tk hkw hg hdb hall hks hpl
theorem pe_me {o e : Expr} {es : List Expr} {ta : TE} {t : TA} {apos pos : Pos} {pl : Sem Bool} (c : CalE X.prog X.w X.K X.mg X.base lvl m ps sp C) (hr : Room lvl X.A) (tk : Takes X W) (ho : PE X o ta) (ha : PA X (e :: es) t) (hst : starEach (e :: es) X.env = (false, eval e X.env) :: starEach es X.env := by rfl) (hpl : (backTo pos (starEach es X.env)).any (·.1) = false := by rfl)
    (ht : eval (.Call (.Attribute o m apos) (e :: es) [] pos) X.env = (do
      let v ← eval o X.env
      standAt apos.atName
      let (g, fst) ← holding [v] (getMethod v m pl)
      callWith pos g fst (backTo pos (starEach (e :: es) X.env)) (backToKw pos (keywordEach [] X.env))) := by rfl) :
    PE X (.Call (.Attribute o m apos) (e :: es) [] pos) (tMethW C m sp (WE W) ta t) := by
  obtain ⟨f, fd, cc, hm, hb, F⟩ := c.ex
  exact pe_methW ho cc hm F hr hb tk ha hst hpl ht
theorem pe_me0 {o : Expr} {ta : TE} {apos pos : Pos} {pl : Sem Bool} (c : CalE X.prog X.w X.K X.mg X.base lvl m ps sp C) (hr : Room lvl X.A) (tk : Takes X W) (ho : PE X o ta)
    (ht : eval (.Call (.Attribute o m apos) [] [] pos) X.env = (do
      let v ← eval o X.env
      standAt apos.atName
      let (g, fst) ← holding [v] (getMethod v m pl)
      callWith pos g fst (backTo pos (starEach [] X.env)) (backToKw pos (keywordEach [] X.env))) := by rfl) :
    PE X (.Call (.Attribute o m apos) [] [] pos) (tMeth0 C m sp (WE W) ta) := by
  obtain ⟨f, fd, cc, hm, hb, F⟩ := c.ex
  exact pe_meth0 ho cc hm F hr hb tk ht
theorem pe_meK {o : Expr} {kws : List Keyword} {ta : TE} {t : TA} {apos pos : Pos} {pl : Sem Bool} (c : CalEK X.prog X.w X.K X.mg X.base lvl m ps ks pm sp C) (hr : Room lvl X.A) (tk : Takes X W) (ho : PE X o ta) (hkw : PK X kws t)
    (hall : (backToKw pos (keywordEach kws X.env)).all (·.1.isSome) = true := by rfl) (hks : (backToKw pos (keywordEach kws X.env)).filterMap (·.1) = ks := by rfl) (hpl : ((backTo pos (starEach [] X.env)).any (·.1) || (backToKw pos (keywordEach kws X.env)).any (·.1.isNone)) = false := by rfl)
    (ht : eval (.Call (.Attribute o m apos) [] kws pos) X.env = (do
      let v ← eval o X.env
      standAt apos.atName
      let (g, fst) ← holding [v] (getMethod v m pl)
      callWith pos g fst (backTo pos (starEach [] X.env)) (backToKw pos (keywordEach kws X.env))) := by rfl) :
    PE X (.Call (.Attribute o m apos) [] kws pos) (tMethKw C m ks.length sp pm (WE W) ta t) := by
  obtain ⟨f, fd, cc, hm, hb, F⟩ := c.ex
  exact pe_methKw ho cc hm F hr hb tk hkw hall hks hpl ht
theorem pe_pr {e : Expr} {ta : TE} {pos : Pos} (c : CalP X.prog X.w X.K X.mg X.base lvl m sp C) (hr : Room (lvl + 1) X.A) (he : PE X e ta) (hab : attributeBase e m X.env (eval e X.env) = eval e X.env := by rfl) :
    PE X (.Attribute e m pos) (tProp C sp [] (fun _ _ _ => False) ta) := by
  obtain ⟨p, g, fd, cc, hp, hb, F⟩ := c.ex
  exact pe_prop he cc hp F hr hb .nil pass_nox hab
theorem pe_cm {e : Expr} {es : List Expr} {t : TA} {p1 apos pos : Pos} {pl : Sem Bool} (c : CalC X.prog X.w X.K X.mg X.base lvl cls m ps sp C) (hr : Room lvl X.A) (tk : Takes X W) (ha : PA X (e :: es) t) (hg : Gl X cls := by rfl) (hdb : (cls == ("__debug__" : Str)) = false := by decide)
    (hst : starEach (e :: es) X.env = (false, eval e X.env) :: starEach es X.env := by rfl) (hpl : (backTo pos (starEach es X.env)).any (·.1) = false := by rfl)
    (ht : eval (.Call (.Attribute (.Name cls p1) m apos) (e :: es) [] pos) X.env = (do
      let v ← eval (.Name cls p1) X.env
      standAt apos.atName
      let (a, fst) ← holding [v] (getMethod v m pl)
      callWith pos a fst (backTo pos (starEach (e :: es) X.env)) (backToKw pos (keywordEach [] X.env))) := by rfl) :
    PE X (.Call (.Attribute (.Name cls p1) m apos) (e :: es) [] pos) (tCMethW C sp (WE W) t) := by
  obtain ⟨mc, p, g, fd, h, r, k, hb, F⟩ := c.ex
  exact pe_cmethW h r k F hb hr tk ha hg hdb hst hpl ht
theorem pe_cmK {kws : List Keyword} {t : TA} {p1 apos pos : Pos} {pl : Sem Bool} (c : CalCK X.prog X.w X.K X.mg X.base lvl cls m ps ks pm sp C) (hr : Room lvl X.A) (tk : Takes X W) (hkw : PK X kws t) (hg : Gl X cls := by rfl) (hdb : (cls == ("__debug__" : Str)) = false := by decide)
    (hall : (backToKw pos (keywordEach kws X.env)).all (·.1.isSome) = true := by rfl) (hks : (backToKw pos (keywordEach kws X.env)).filterMap (·.1) = ks := by rfl) (hpl : ((backTo pos (starEach [] X.env)).any (·.1) || (backToKw pos (keywordEach kws X.env)).any (·.1.isNone)) = false := by rfl)
    (ht : eval (.Call (.Attribute (.Name cls p1) m apos) [] kws pos) X.env = (do
      let v ← eval (.Name cls p1) X.env
      standAt apos.atName
      let (a, fst) ← holding [v] (getMethod v m pl)
      callWith pos a fst (backTo pos (starEach [] X.env)) (backToKw pos (keywordEach kws X.env))) := by rfl) :
    PE X (.Call (.Attribute (.Name cls p1) m apos) [] kws pos) (tCMethKw C ks.length sp pm (WE W) t) := by
  obtain ⟨mc, p, g, fd, h, r, k, hb, F⟩ := c.ex
  exact pe_cmethKw h r k F hb hr tk hkw hg hdb hall hks hpl ht
theorem cr_str (c : CalS X.prog X.w X.K X.mg X.base lvl ps sp C) (hr : Room (lvl + 1) X.A) : CallR X (.type "str") (rStrO C sp) := by
  obtain ⟨f, fd, hs, hf, hb, F⟩ := c.ex
  exact call_strO F hr hs hf hb
theorem opr_eq (K : PySem.W.Frag) (c : CalQ X.prog X.w X.K X.mg X.base lvl ps sp C) (hr : Room lvl X.A) (h : X.K = K := by rfl) : OpR X (compareOp .Eq) (rEqO K C sp) := by
  subst h
  obtain ⟨f, fd, hs, hf, _, _, hb, F⟩ := c.ex
  exact op_eqO F hr hs hf hb
theorem opr_ne (K : PySem.W.Frag) (c : CalQ X.prog X.w X.K X.mg X.base lvl ps sp C) (hr : Room (lvl + 1) X.A) (h : X.K = K := by rfl) : OpR X (compareOp .NotEq) (rNeO K C sp) := by
  subst h
  obtain ⟨f, fd, hs, hf, hn, hm, hb, F⟩ := c.ex
  exact op_neO F hr hs hf hn hm hb
end
/-! ### the data side -/
section
variable {τ : Type} {P : Pm} {Rf : Addr → τ → Hp → Prop} {W : WX}
theorem RepBs.perm {F B : Hp} {ds : List D} {vs : List V} {n : Nat} (rs : RepBs P F B ds vs) (hn : ds.length = n) : ∀ pm : List Nat, pm.all (fun i => decide (i < n)) = true → RepBs P F B (pm.map fun i => ds.getD i .non) (PD.perm pm vs)
  | [], _ => rfl
  | i :: l, h => by
    obtain ⟨h1, h2⟩ := Bool.and_eq_true_iff.mp (by simpa only [List.all_cons] using h)
    exact ⟨_, _, rfl, rs.get (by rw [hn]; exact of_decide_eq_true h1), rs.perm hn l h2⟩
def gMakeK (cls : Str) (m : List D → τ → Res τ (List (Str × D))) (pm : List Nat) (a : GA τ) : GE τ := fun ρ st => (a ρ st).bind fun ds st => (m (pm.map fun i => ds.getD i .non) st).bind fun fs st => .ok (.ins cls fs) st
theorem made_ins {Q : VK} {F B M H F1 M1 H1 : Hp} {σ : L2.St} {cls : Str} {C x dx : Addr} {n : Nat} {m : List D → τ → Res τ (List (Str × D))} {ds : List D} {vs : List V} {st1 : τ} (hC : P.mg cls = some (.ref C)) (hl : ds.length = n) (E1 : Ext F M H F1 M1 H1) (p1 : Pre F1 B M1 H1) (R1 : Rf P.sa st1 M1) (rs : RepBs P F1 B ds vs) (hx : H1 x = none) (hdx : H1 dx = none) (ne : dx ≠ x)
    (hs : Sat ((m ds st1).bind fun fs st => Res.ok (D.ins cls fs) st) (fun d st' => ∀ F' M' H' v, Ext F M H F' M' H' → Rf P.sa st' M' → RepB P F' B d v → Q v H') (KX P (Rf P.sa) W F M H σ)) :
    spI P.K P.mg Rf n cls m (.ref x :: vs) (upd (upd H1 dx (.own x)) x (.ins C dx [])) (fun v H2 => v = .non ∧ Q (.ref x) H2) (WE W σ) := by
  have E2 : Ext F1 M1 H1 F1 M1 (upd H1 dx (.own x)) := Ext.own p1 hdx
  have hx2 : upd H1 dx (.own x) x = none := by rw [upd_ne ne.symm]; exact hx
  have E3 : Ext F1 M1 (upd H1 dx (.own x)) F1 M1 (upd (upd H1 dx (.own x)) x (.ins C dx [])) := Ext.own (p1.ext E2) hx2
  refine ⟨by rw [List.length_cons, ← rs.length, hl], P.sa, F1, B, M1, ds, st1, x, vs, C, dx, rfl, hC, (p1.ext E2).ext E3, upd_same, p1.f.none hx, p1.b.none hx, p1.m.none hx, R1, rs.xa (x := P.xa), ?_⟩
  refine (Sat.bind hs).mono (fun fs st2 h2 F' M' H' dx' us ex r fx mx hx' rf => ⟨rfl, ?_⟩) (fun y st2 h2 F' M' H' c dd ex r xr => h2 F' M' H' c dd (E1.trans (ext_made hx hdx ex)) r (XRep.xa xr))
  have e4 := ext_made hx hdx ex
  have e5 : Ext F1 M1 H1 (upd F' x (.ins C dx' us)) M' H' := ⟨e4.ff.trans (same_updP fx), fun b o z => by
      by_cases hb : b = x
      · subst hb; rw [upd_same] at z; cases z; exact hx'
      · rw [upd_ne hb] at z; exact e4.f _ _ z, e4.m, e4.keep, e4.there, fun b h z => by
      rw [upd_ne (fun z2 => h (by rw [z2]; exact hx))]; exact e4.newF b h z, e4.newM, fun b => by
      by_cases hb : b = x
      · subst hb; exact .inr mx
      · rw [upd_ne hb]; exact e4.fm b⟩
  have hh : ∀ F' M' H' v, Ext F M H F' M' H' → Rf P.sa st2 M' → RepB P F' B (.ins cls fs) v → Q v H' := h2
  refine hh _ M' H' (.ref x) (E1.trans e5) r ?_
  show Rep P _ (.ins cls fs) (.ref x)
  simp only [Rep]
  exact ⟨x, C, dx', us, rfl, hC, upd_same, RepF.mono (same_updP fx) _ _ (RepF.xa _ _ rf)⟩
theorem evd_makeK {n nk : Nat} {cls : Str} {C : Addr} {m : List D → τ → Res τ (List (Str × D))} {pm : List Nat} {ta : TA} {a : GA τ} (hC : P.mg cls = some (.ref C)) (hl : ∀ ρ st ds st', a ρ st = .ok ds st' → ds.length = nk) (hp : pm.length = n) (hi : pm.all (fun i => decide (i < nk)) = true) (ha : EvA P (Rf P.sa) W ta a) :
    EvD P (Rf P.sa) W (tMakeKw C nk (spI P.K P.mg Rf n cls m) pm (WE W) ta) (gMakeK cls m pm a) := by
  intro F B M H σ ρ st w Q hs
  have hs := Sat.bind hs
  have q := ha F B M H σ ρ st w
  cases e : a ρ st with
  | stuck => rw [e] at hs; exact hs.elim
  | err x st1 => rw [e] at hs q; exact q _ hs
  | ok ds st1 =>
    rw [e] at hs q
    refine q _ fun F1 M1 H1 vs E1 R1 rs => ⟨by rw [← rs.length]; exact hl ρ st ds st1 e, fun x dx hx hdx ne => ?_⟩
    exact made_ins hC (by rw [List.length_map]; exact hp) E1 (w.pre.ext E1) R1 (rs.perm (hl ρ st ds st1 e) pm hi) hx hdx ne hs
def gMethK (cls name : Str) (m : List D → τ → Res τ D) (pm : List Nat) (g : GE τ) (a : GA τ) : GE τ := fun ρ st => (g ρ st).bind fun d st => match d with
  | .ins C fs => if C = cls ∧ fs.lookup name = none then (a ρ st).bind fun ds st => m (.ins C fs :: pm.map fun i => ds.getD i .non) st else .stuck
  | _ => .stuck
theorem ins_rep {F B M H : Hp} {cls : Str} {C : Addr} {fs : List (Str × D)} {v : V} (hC : P.mg cls = some (.ref C)) (p : Pre F B M H) (r : RepB P F B (.ins cls fs) v) : ∃ a dx vs, v = .ref a ∧ H a = some (.ins C dx vs) ∧ RepF P F fs vs := by
  obtain ⟨a0, Ca, dx, vs, rfl, m1, fa, rs⟩ := (by simpa only [RepB, Rep] using r)
  have : Ca = C := by
    have z := m1.symm.trans hC
    simpa using z
  subst this
  exact ⟨a0, dx, vs, rfl, p.f _ _ fa, rs⟩
theorem ev_methK {cls name : Str} {C : Addr} {n nk : Nat} {m : List D → τ → Res τ D} {pm : List Nat} {te : TE} {ta : TA} {g : GE τ} {a : GA τ} (hC : P.mg cls = some (.ref C)) (hl : ∀ ρ st ds st', a ρ st = .ok ds st' → ds.length = nk) (hp : pm.length = n) (hi : pm.all (fun i => decide (i < nk)) = true) (h : EvD P (Rf P.sa) W te g) (ha : EvA P (Rf P.sa) W ta a) :
    EvD P (Rf P.sa) W (tMethKw C name nk (spD P.K P.mg Rf (n + 1) m) pm (WE W) te ta) (gMethK cls name m pm g a) := by
  intro F B M H σ ρ st w Q hs
  refine h F B M H σ ρ st w _ ((Sat.bind hs).mono (fun d st1 h1 F1 M1 H1 v E1 R1 r1 => ?_) fun _ _ z => z)
  cases d
  case ins D0 fs =>
    obtain ⟨⟨hc, hnl⟩, h4⟩ := Sat.ite h1
    clear h1
    subst hc
    have w1 := w.ext E1 R1
    obtain ⟨a0, dx, vs, rfl, ea, rs⟩ := ins_rep hC w1.pre r1
    refine ⟨a0, dx, vs, rfl, ea, RepF.nolook rs hnl, ?_⟩
    have q := ha F1 B M1 H1 σ ρ st1 w1
    have h1 := Sat.bind h4
    cases e : a ρ st1 with
    | stuck => rw [e] at h1; exact h1.elim
    | err x st2 => rw [e] at h1 q; exact q _ (KX.ext P _ h1 E1)
    | ok ds st2 =>
      rw [e] at h1 q
      refine q _ fun F2 M2 H2 us E2 R2 rs2 => ⟨by rw [← rs2.length]; exact hl ρ st1 ds st2 e, ?_⟩
      have r2 := rs2.perm (hl ρ st1 ds st2 e) pm hi
      refine ⟨by rw [List.length_cons, ← r2.length, List.length_map, hp], P.sa, P.xa, F2, B, M2, .ins D0 fs :: pm.map (fun i => ds.getD i .non), st2, w1.pre.ext E2, R2, ⟨_, _, rfl, RepB.mono E2.ff r1, r2⟩, ?_⟩
      exact (show Sat (m (.ins D0 fs :: pm.map fun i => ds.getD i .non) st2) _ _ from h1).mono (fun d st3 h3 F' M' H' v E r r2 => h3 F' M' H' v ((E1.trans E2).trans E) r r2.b) fun x st3 h3 F' M' H' c dd E r x => h3 F' M' H' c dd ((E1.trans E2).trans E) r x
  all_goals exact (show False from h1).elim
def gMeth0 (cls name : Str) (m : List D → τ → Res τ D) (g : GE τ) : GE τ := fun ρ st => (g ρ st).bind fun d st => match d with
  | .ins C fs => if C = cls ∧ fs.lookup name = none then m [.ins C fs] st else .stuck
  | _ => .stuck
theorem ev_meth0 {cls name : Str} {C : Addr} {m : List D → τ → Res τ D} {te : TE} {g : GE τ} (hC : P.mg cls = some (.ref C)) (h : EvD P (Rf P.sa) W te g) :
    EvD P (Rf P.sa) W (tMeth0 C name (spD P.K P.mg Rf 1 m) (WE W) te) (gMeth0 cls name m g) := by
  intro F B M H σ ρ st w Q hs
  refine h F B M H σ ρ st w _ ((Sat.bind hs).mono (fun d st1 h1 F1 M1 H1 v E1 R1 r1 => ?_) fun _ _ z => z)
  cases d
  case ins D0 fs =>
    obtain ⟨⟨hc, hnl⟩, h4⟩ := Sat.ite h1
    clear h1
    subst hc
    have w1 := w.ext E1 R1
    obtain ⟨a0, dx, vs, rfl, ea, rs⟩ := ins_rep hC w1.pre r1
    refine ⟨a0, dx, vs, rfl, ea, RepF.nolook rs hnl, rfl, P.sa, P.xa, F1, B, M1, [.ins D0 fs], st1, w1.pre, R1, ⟨_, _, rfl, r1, rfl⟩, ?_⟩
    exact (show Sat (m [.ins D0 fs] st1) _ _ from h4).mono (fun d st3 h3 F' M' H' v E r r2 => h3 F' M' H' v (E1.trans E) r r2.b) fun x st3 h3 F' M' H' c dd E r x => h3 F' M' H' c dd (E1.trans E) r x
  all_goals exact (show False from h1).elim
def gCMethK (cls : Str) (m : List D → τ → Res τ D) (pm : List Nat) (a : GA τ) : GE τ := fun ρ st => (a ρ st).bind fun ds st => m (.cls cls :: pm.map fun i => ds.getD i .non) st
theorem ev_cmethK {cls : Str} {C : Addr} {n nk : Nat} {m : List D → τ → Res τ D} {pm : List Nat} {ta : TA} {a : GA τ} (hC : P.mg cls = some (.ref C)) (hl : ∀ ρ st ds st', a ρ st = .ok ds st' → ds.length = nk) (hp : pm.length = n) (hi : pm.all (fun i => decide (i < nk)) = true) (ha : EvA P (Rf P.sa) W ta a) :
    EvD P (Rf P.sa) W (tCMethKw C nk (spD P.K P.mg Rf (n + 1) m) pm (WE W) ta) (gCMethK cls m pm a) := by
  intro F B M H σ ρ st w Q hs
  have hs := Sat.bind hs
  have q := ha F B M H σ ρ st w
  cases e : a ρ st with
  | stuck => rw [e] at hs; exact hs.elim
  | err x st1 => rw [e] at hs q; exact q _ hs
  | ok ds st1 =>
    rw [e] at hs q
    refine q _ fun F1 M1 H1 vs E1 R1 rs => ⟨by rw [← rs.length]; exact hl ρ st ds st1 e, ?_⟩
    have r2 := rs.perm (hl ρ st ds st1 e) pm hi
    refine ⟨by rw [List.length_cons, ← r2.length, List.length_map, hp], P.sa, P.xa, F1, B, M1, .cls cls :: pm.map (fun i => ds.getD i .non), st1, w.pre.ext E1, R1, ⟨_, _, rfl, by simp only [RepB, Rep]; exact ⟨C, rfl, hC⟩, r2⟩, ?_⟩
    exact (show Sat (m (.cls cls :: pm.map fun i => ds.getD i .non) st1) _ _ from hs).mono (fun d st2 h2 F' M' H' v E r r2 => h2 F' M' H' v (E1.trans E) r r2.b) fun x st2 h2 F' M' H' c dd E r x => h2 F' M' H' c dd (E1.trans E) r x
/-! str(x), == and != by own methods -/
def gStrO (cls : Str) (m : List D → τ → Res τ D) (g : GE τ) : GE τ := fun ρ st => (g ρ st).bind fun d st => match d with
  | .ins C fs => if C = cls then (noErr (m [.ins C fs] st)).bind fun z st => (Res.of (strOf z) st).bind fun y st => .ok (.str y) st else .stuck
  | _ => .stuck
theorem ev_strO {cls : Str} {C : Addr} {m : List D → τ → Res τ D} {te : TE} {g : GE τ} (hC : P.mg cls = some (.ref C)) (h : EvD P (Rf P.sa) W te g) : EvD P (Rf P.sa) W (tCB (rStrO C (spD P.K P.mg Rf 1 m)) (tCons te tNil)) (gStrO cls m g) := by
  intro F B M H σ ρ st w Q hs
  refine h F B M H σ ρ st w _ ((Sat.bind hs).mono (fun d st1 h1 F1 M1 H1 v E1 R1 r1 => ?_) fun _ _ z => z)
  cases d
  case ins D0 fs =>
    obtain ⟨hc, h4⟩ := Sat.ite h1
    clear h1
    subst hc
    have p1 := w.pre.ext E1
    obtain ⟨a0, dx, vs, rfl, ea, rs⟩ := ins_rep hC p1 r1
    refine ⟨a0, dx, vs, rfl, ea, rfl, P.sa, P.xa, F1, B, M1, [.ins D0 fs], st1, p1, R1, ⟨_, [], rfl, r1, rfl⟩, ?_⟩
    refine (Sat.noErr (er' := fun _ _ => False) (Sat.bind h4)).mono (fun d st2 h2 F' M' H' v E r r2 => ?_) fun x st2 h2 => h2.elim
    obtain ⟨y, e, q⟩ := Sat.of (Sat.bind h2)
    cases d
    case str z =>
      cases e
      have : v = .str y := by simpa only [Rep] using r2
      exact ⟨y, this, (show ∀ F' M' H' v, Ext F M H F' M' H' → Rf P.sa st2 M' → RepB P F' B (.str y) v → Q v H' from q) F' M' H' v (E1.trans E) r this⟩
    all_goals cases e
  all_goals exact (show False from h1).elim
/-- what isinstance and == ask of an own class -/
structure KindC (K : PySem.W.Frag) (C : Addr) : Prop where
  c : Cls K C
  ha : PySem.W.findIn K (.ref C) "__class__" = some (some (.builtin "object.__class__"))
  hn : PySem.W.specialIn K (.builtin "object.__class__") "__get__" = some (some (.builtin "getset_descriptor.__get__"))
  ht : PySem.W.takesIn K (.builtin "object.__class__") = some true
  hm : PySem.W.mroIn K C (.type "object") = some true
def baseTys : List String := ["NoneType", "bool", "int", "str", "tuple", "list", "dict"]
theorem tyNm_base {d : D} {n : String} (h : tyNm d = some n) : n ∈ baseTys := by cases d <;> cases h <;> decide
/-- the class at C beside the classes known -/
structure EqK (K : PySem.W.Frag) (mg : Str → Option Value) (cls : Str) (C : Addr) (known : List Str) : Prop where
  base : ∀ n ∈ baseTys, PySem.W.notFirst K C (.type n) = true ∧ PySem.W.kitOne K (.type n) (.ref C) = some false
  own : ∀ n ∈ known, ∀ C2, mg n = some (.ref C2) → KindC K C2 ∧ PySem.W.notFirst K C (.ref C2) = true ∧ PySem.W.kitOne K (.ref C2) (.ref C) = some (n == cls)
def okTy (known : List Str) : D → Bool
  | .ins n _ => decide (n ∈ known)
  | d => (tyNm d).isSome
def isC (cls : Str) : D → Bool
  | .ins n _ => n == cls
  | _ => false
theorem okTy_or {known : List Str} {cls : Str} {d : D} (h : okTy known d = true) : (∃ n fs, d = .ins n fs ∧ n ∈ known) ∨ ∃ n, tyNm d = some n ∧ isC cls d = false := by
  cases d
  case ins n fs => exact .inl ⟨n, fs, rfl, of_decide_eq_true h⟩
  all_goals first | exact .inr ⟨_, rfl, rfl⟩ | cases h
theorem okTy_ty {F B M H : Hp} {cls : Str} {C : Addr} {known : List Str} {d : D} {v : V} (k : EqK P.K P.mg cls C known) (p : Pre F B M H) (r : RepB P F B d v) (h : okTy known d = true) :
    ∃ t, TyX P.K H v t ∧ PySem.W.notFirst P.K C t = true ∧ PySem.W.kitOne P.K t (.ref C) = some (isC cls d) := by
  rcases okTy_or (cls := cls) h with ⟨n, fs, rfl, hk⟩ | ⟨n, e, e2⟩
  · obtain ⟨a0, Ca, dx, vs, rfl, m1, fa, rs⟩ := (by simpa only [RepB, Rep] using r)
    obtain ⟨kc, h1, h2⟩ := k.own n hk Ca m1
    exact ⟨.ref Ca, .base (.ins (p.f _ _ fa) kc.c kc.ha kc.hn kc.ht kc.hm), h1, h2⟩
  · obtain ⟨h1, h2⟩ := k.base n (tyNm_base e)
    rw [e2]
    exact ⟨.type n, tyNm_x p r e, h1, h2⟩
/-- x == y (x != y), x an own object -/
def gEqO (neg : Bool) (known : List Str) (cls : Str) (m : List D → τ → Res τ D) (a b : GE τ) : GE τ := fun ρ st => (a ρ st).bind fun x st => (b ρ st).bind fun y st => match x with
  | .ins D0 fs => if D0 = cls ∧ okTy known y = true then (noErr (m [.ins D0 fs, y] st)).bind fun z st => (Res.of (blOf z) st).bind fun c st => .ok (.bl (neg != c)) st else .stuck
  | _ => .stuck
theorem ev_eqO {known : List Str} {cls : Str} {C : Addr} {m : List D → τ → Res τ D} {ta tb : TE} {ga gb : GE τ} (k : EqK P.K P.mg cls C known) (hC : P.mg cls = some (.ref C)) (ha : EvD P (Rf P.sa) W ta ga) (hb : EvD P (Rf P.sa) W tb gb) :
    EvD P (Rf P.sa) W (tOp (rEqO P.K C (spD P.K P.mg Rf 2 m)) ta tb) (gEqO false known cls m ga gb) := by
  intro F B M H σ ρ st w Q h
  refine ha F B M H σ ρ st w _ (h.bind.mono (fun x st1 h1 F1 M1 H1 v1 E1 R1 r1 => ?_) fun _ _ z => z)
  have w1 := w.ext E1 R1
  refine hb F1 B M1 H1 σ ρ st1 w1 _ (h1.bind.mono (fun y st2 h2 F2 M2 H2 v2 E2 R2 r2 => ?_) fun _ _ z => KX.ext P _ z E1)
  have p2 := w1.pre.ext E2
  cases x
  case ins D0 fs =>
    obtain ⟨⟨hc, hy⟩, h4⟩ := Sat.ite h2
    clear h2
    subst hc
    have r1' := RepB.mono E2.ff r1
    obtain ⟨a0, dx, vs, rfl, ea, rs⟩ := ins_rep hC p2 r1'
    obtain ⟨t, ty, nf, _⟩ := okTy_ty k p2 r2 hy
    refine ⟨a0, dx, vs, t, rfl, ea, ty, nf, rfl, P.sa, P.xa, F2, B, M2, [.ins D0 fs, y], st2, p2, R2, ⟨_, _, rfl, r1', _, _, rfl, r2, rfl⟩, ?_⟩
    refine (Sat.noErr (er' := fun _ _ => False) (Sat.bind h4)).mono (fun d st3 h3 F' M' H' v E r r3 => ?_) fun x st2 h2 => h2.elim
    obtain ⟨c, e, q⟩ := Sat.of (Sat.bind h3)
    have := blOf_some e
    subst this
    have hv : v = .bl c := by simpa only [Rep] using r3
    refine ⟨c, hv, ?_⟩
    have q' : ∀ F' M' H' v, Ext F M H F' M' H' → Rf P.sa st3 M' → RepB P F' B (.bl (false != c)) v → Q v H' := q
    rw [Bool.false_bne] at q'
    exact q' F' M' H' v ((E1.trans E2).trans E) r hv
  all_goals exact (show False from h2).elim
theorem ev_neO {known : List Str} {cls : Str} {C : Addr} {m : List D → τ → Res τ D} {ta tb : TE} {ga gb : GE τ} (k : EqK P.K P.mg cls C known) (hC : P.mg cls = some (.ref C)) (ha : EvD P (Rf P.sa) W ta ga) (hb : EvD P (Rf P.sa) W tb gb) :
    EvD P (Rf P.sa) W (tOp (rNeO P.K C (spD P.K P.mg Rf 2 m)) ta tb) (gEqO true known cls m ga gb) := by
  intro F B M H σ ρ st w Q h
  refine ha F B M H σ ρ st w _ (h.bind.mono (fun x st1 h1 F1 M1 H1 v1 E1 R1 r1 => ?_) fun _ _ z => z)
  have w1 := w.ext E1 R1
  refine hb F1 B M1 H1 σ ρ st1 w1 _ (h1.bind.mono (fun y st2 h2 F2 M2 H2 v2 E2 R2 r2 => ?_) fun _ _ z => KX.ext P _ z E1)
  have p2 := w1.pre.ext E2
  cases x
  case ins D0 fs =>
    obtain ⟨⟨hc, hy⟩, h4⟩ := Sat.ite h2
    clear h2
    subst hc
    have r1' := RepB.mono E2.ff r1
    obtain ⟨a0, dx, vs, rfl, ea, rs⟩ := ins_rep hC p2 r1'
    obtain ⟨t, ty, nf, _⟩ := okTy_ty k p2 r2 hy
    refine ⟨a0, dx, vs, t, rfl, ea, ty, nf, rfl, P.sa, P.xa, F2, B, M2, [.ins D0 fs, y], st2, p2, R2, ⟨_, _, rfl, r1', _, _, rfl, r2, rfl⟩, ?_⟩
    refine (Sat.noErr (er' := fun _ _ => False) (Sat.bind h4)).mono (fun d st3 h3 F' M' H' v E r r3 => ?_) fun x st2 h2 => h2.elim
    obtain ⟨c, e, q⟩ := Sat.of (Sat.bind h3)
    have := blOf_some e
    subst this
    have hv : v = .bl c := by simpa only [Rep] using r3
    refine ⟨c, hv, ?_⟩
    have q' : ∀ F' M' H' v, Ext F M H F' M' H' → Rf P.sa st3 M' → RepB P F' B (.bl (true != c)) v → Q v H' := q
    rw [Bool.true_bne] at q'
    exact q' F' M' H' _ ((E1.trans E2).trans E) r rfl
  all_goals exact (show False from h2).elim
/-- isinstance(x, C), C an own class -/
def isiO (known : List Str) (cls : Str) (d : D) : Option D := if okTy known d = true then some (.bl (isC cls d)) else none
theorem ev_isiO {known : List Str} {cls : Str} {C : Addr} {te : TE} {g : GE τ} {R : τ → Hp → Prop} (k : EqK P.K P.mg cls C known) (h : EvD P R W te g) : EvD P R W (tCB (rIsi P.K) (tCons te (tCons (tC (.ref C)) tNil))) (gUn (isiO known cls) g) := by
  intro F B M H σ ρ st w Q hs
  refine h F B M H σ ρ st w _ ((Sat.bind hs).mono (fun d st1 h1 F1 M1 H1 v E1 R1 r1 => ?_) fun _ _ z => z)
  obtain ⟨d', e, q⟩ := Sat.of h1
  obtain ⟨hk, rfl⟩ := if_some e
  obtain ⟨t, ty, _, ko⟩ := okTy_ty k (w.pre.ext E1) r1 hk
  exact ⟨v, .ref C, t, .ref C, _, rfl, .own C, ty, ko, q F1 M1 H1 _ E1 R1 rfl⟩
end
end PD

namespace PD
open PySem PySem.Spec PyProof.Rows L2
/-! ### text * number, list * number -/
def strRep (x : Str) (n : Nat) : Str := ⟨(List.replicate n x.cps).foldl (· ++ ·) #[]⟩
theorem strRep_go (xs : Array Nat) : ∀ (n : Nat) (acc : Array Nat), ((List.replicate n xs).foldl (· ++ ·) acc).toList = acc.toList ++ (List.replicate n xs.toList).flatten
  | 0, acc => by simp
  | n + 1, acc => by
    rw [List.replicate_succ, List.foldl_cons, strRep_go xs n, List.replicate_succ, List.flatten_cons, Array.toList_append, List.append_assoc]
theorem strRep_toList (x : Str) (n : Nat) : (strRep x n).cps.toList = (List.replicate n x.cps.toList).flatten := by
  show ((List.replicate n x.cps).foldl (· ++ ·) #[]).toList = _
  rw [strRep_go]; rfl
theorem strRep_len (x : Str) (n : Nat) : (strRep x n).length = n * x.length := by
  show (strRep x n).cps.size = n * x.cps.size
  rw [← Array.length_toList, strRep_toList]
  induction n with
  | zero => simp
  | succ n ih => rw [List.replicate_succ, List.flatten_cons, List.length_append, ih, Array.length_toList, Nat.succ_mul, Nat.add_comm]
def rRepS : R2 := fun x y H Q => ∃ a k, x = .str a ∧ y = .int k ∧ 2 ≤ k ∧ k ≤ 1000 ∧ 1 ≤ a.length ∧ a.length ≤ 1000 ∧ Q (.str (strRep a k.toNat)) H
section
variable {X : Cx}
theorem op_repS : OpR X (binaryOp .Mult) rRepS := by
  intro pins s σ H x y v u Q I rx ry h
  obtain ⟨a, k, rfl, rfl, h1, h2, h3, h4, q⟩ := h
  obtain ⟨t, rfl⟩ := (show ∃ t, v = Value.str a t from rx)
  obtain ⟨t2, rfl⟩ := (show ∃ t, u = Value.int k t from ry)
  have hm : a.length * k.toNat ≤ 1000 * 1000 := Nat.mul_le_mul h4 (by omega)
  refine P.mul_str (by rw [decide_eq_false (by omega), decide_eq_false (by omega)]; rfl) (fun _ _ => ?_) (fun _ _ => ?_) ?_
  · have hd : (2 ^ 63 - 1 : Int) / k ≥ 1000 := by
      refine Int.le_ediv_of_mul_le (by omega) ?_
      omega
    omega
  · refine decide_eq_false ?_
    rw [sizeLine_eq]
    omega
  · rw [if_neg (by omega), if_neg (by
      have e1 : (k == 1) = false := beq_eq_false_iff_ne.mpr (by omega)
      have e2 : (a.length == 0) = false := beq_eq_false_iff_ne.mpr (by omega)
      rw [e1, e2]; decide)]
    refine ⟨?_, V.str (strRep a k.toNat), H, I.tok _, ⟨_, rfl⟩, q⟩
    have := strRep_len a k.toNat
    rw [sizeLine_eq]
    show (strRep a k.toNat).length ≤ _
    rw [this, Nat.mul_comm]
    omega
def rMulA : R2 := fun x y H Q => rI CMul (fun i j => .int (i * j)) x y H Q ∨ (rRep x y H Q ∨ rRepS x y H Q)
theorem op_mulA : OpR X (binaryOp .Mult) rMulA := OpR.or op_mul (OpR.or op_rep op_repS)
theorem k_mul (K : PySem.W.Frag) : OpR X (binaryOp .Mult) rMulA := op_mulA
end
section
variable {τ : Type} {P : Pm} {R : τ → Hp → Prop} {W : WX}
def dRepL : D → D → Option (List D) := fun x y => match litems x, y with
  | some xs, .int k => if (0 ≤ k ∧ k < 2 ^ 63) ∧ xs.length * k.toNat ≤ line then some (List.replicate k.toNat xs).flatten else none
  | _, _ => none
def dMulA : D → D → Option D := fun x y => (dMul x y).or (((dRepL x y).map D.lst).or (match x, y with
  | .str a, .int k => if (2 ≤ k ∧ k ≤ 1000) ∧ (1 ≤ a.length ∧ a.length ≤ 1000) then some (.str (strRep a k.toNat)) else none
  | _, _ => none))
theorem Reps.rep {F : Hp} {ds : List D} {vs : List V} (r : Reps P F ds vs) : ∀ n : Nat, Reps P F (List.replicate n ds).flatten (List.replicate n vs).flatten
  | 0 => .nil
  | n + 1 => by
    rw [List.replicate_succ, List.replicate_succ, List.flatten_cons, List.flatten_cons]
    exact r.append (r.rep n)
/-- an operator whose outcome is a new list -/
def OpN (P : Pm) (r : R2) (op : D → D → Option (List D)) : Prop := ∀ F B M H x y dx dy ds, Pre F B M H → RepB P F B dx x → RepB P F B dy y → op dx dy = some ds →
  ∀ Q : VK, (∀ vs, Reps P F ds vs → ∀ a, H a = none → Q (.ref a) (upd H a (.lst vs))) → r x y H Q
theorem opn_rep : OpN P rMulA dRepL := by
  intro F B M H x y dx dy d p rx ry e Q q
  unfold dRepL at e
  split at e
  · rename_i xs k e1
    obtain ⟨⟨⟨h1, h2⟩, h3⟩, rfl⟩ := if_some e
    obtain ⟨l, vs, rfl, hs, rs⟩ := rx.list p e1
    have : y = .int k := ry
    subst this
    exact .inr (.inl ⟨l, k, vs, rfl, rfl, hs, by omega, h2, by rw [line_eq, ← rs.length]; exact h3, q _ (rs.rep _)⟩)
  · cases e
theorem OpN.opd {r : R2} {op : D → D → Option (List D)} (h : OpN P r op) : OpD P r (fun x y => (op x y).map D.lst) := by
  intro F B M H x y dx dy d p rx ry e Q q
  obtain ⟨ds, e1, rfl⟩ := Option.map_eq_some_iff.mp e
  exact h F B M H x y dx dy ds p rx ry e1 Q fun vs rs => new_lst p rs fun F' H' v E r => q F' H' v E r.b
theorem opd_mulA : OpD P rMulA dMulA := by
  intro F B M H x y dx dy d p rx ry e Q q
  unfold dMulA at e
  cases e1 : dMul dx dy with
  | some d1 =>
    rw [e1] at e
    exact .inl (opd_mul F B M H x y dx dy d p rx ry (e1.trans e) Q q)
  | none =>
    rw [e1, Option.none_or] at e
    cases e2 : (dRepL dx dy).map D.lst with
    | some d2 =>
      rw [e2] at e
      exact opn_rep.opd F B M H x y dx dy d p rx ry (e2.trans e) Q q
    | none =>
      rw [e2, Option.none_or] at e
      split at e
      · rename_i a k
        obtain ⟨⟨⟨h1, h2⟩, h3, h4⟩, rfl⟩ := if_some e
        have : x = .str a := rx
        subst this
        have : y = .int k := ry
        subst this
        exact .inr (.inr ⟨a, k, rfl, rfl, h1, h2, h3, h4, q F H _ (.refl p) rfl⟩)
      · cases e
def dCatN : D → D → Option (List D) := fun x y => match litems x, litems y with
  | some a, some b => if a.length + b.length ≤ line then some (a ++ b) else none
  | _, _ => none
theorem opn_cat : OpN P (rAddA P.K) dCatN := by
  intro F B M H x y dx dy d p rx ry e Q q
  unfold dCatN at e
  split at e
  · rename_i a b e1 e2
    obtain ⟨hl, rfl⟩ := if_some e
    obtain ⟨l, xs, rfl, hx, rxs⟩ := rx.list p e1
    obtain ⟨b', ys, rfl, hy, rys⟩ := ry.list p e2
    exact .inr (.inr (.inl ⟨l, b', xs, ys, rfl, rfl, hx, hy, by rw [line_eq, ← rxs.length, ← rys.length]; exact hl, q _ (rxs.append rys)⟩))
  · cases e
def gBinN (op : D → D → Option (List D)) (a b : GE τ) : GI τ := fun ρ st => (a ρ st).bind fun x st => (b ρ st).bind fun y st => .of (op x y) st
theorem evn_op {r : R2} {op : D → D → Option (List D)} {ta tb : TE} {ga gb : GE τ} (ho : OpN P r op) (ha : EvD P R W ta ga) (hb : EvD P R W tb gb) : EvN P R W (tOp r ta tb) (gBinN op ga gb) := by
  intro F B M H σ ρ st w Q h
  refine ha F B M H σ ρ st w _ ((Sat.bind h).mono (fun x st1 h1 F1 M1 H1 v1 E1 R1 r1 => ?_) fun _ _ z => z)
  have w1 := w.ext E1 R1
  refine hb F1 B M1 H1 σ ρ st1 w1 _ (h1.bind.mono (fun y st2 h2 F2 M2 H2 v2 E2 R2 r2 => ?_) fun _ _ z => KX.ext P R z E1)
  obtain ⟨ds, e, q⟩ := Sat.of h2
  have p2 := w1.pre.ext E2
  refine ho F2 B M2 H2 v1 v2 x y ds p2 (r1.mono E2.ff) r2 e Q fun vs rs a ha => ?_
  have hH : H a = none := by
    cases e : H a with
    | none => rfl
    | some o => exact absurd ha ((E1.trans E2).there a (ne_some e))
  exact q F2 M2 _ a vs ((E1.trans E2).trans (.own p2 ha)) R2 hH (p2.f.none ha) (p2.m.none ha) upd_same rs
/-! text.split(e), xs[lo:hi], xs[::-1], sorted: new lists -/
def gM1N (op : Str → D → Option (List D)) (a b : GE τ) : GI τ := fun ρ st => (a ρ st).bind fun x st => match x with
  | .str s => (b ρ st).bind fun y st => .of (op s y) st
  | _ => .stuck
def splitN (a : Str) (y : D) : Option (List D) :=
  match y with
  | .str b => if (b.length == 0) = false ∧ a.length + 2 ≤ line then some ((Txt.split a b).map .str) else none
  | _ => none
def rSplit : V → List V → Hp → VK → Prop := fun x xs H Q => ∃ a b, x = .str a ∧ xs = [.str b] ∧ (b.length == 0) = false ∧ a.length + 2 ≤ sizeLine ∧ rNewStrs (Txt.split a b) H Q
theorem evn_split {to te : TE} {go ge : GE τ} (ho : EvD P R W to go) (he : EvD P R W te ge) : EvN P R W (tM1 rSplit to te) (gM1N splitN go ge) := by
  intro F B M H σ ρ st w Q h
  refine ho F B M H σ ρ st w _ ((Sat.bind h).mono (fun x st1 h1 F1 M1 H1 v1 E1 R1 r1 => ?_) fun _ _ z => z)
  have w1 := w.ext E1 R1
  cases x
  case str a =>
    have : v1 = .str a := r1
    subst this
    refine ⟨⟨a, rfl⟩, he F1 B M1 H1 σ ρ st1 w1 _ ((Sat.bind h1).mono (fun y st2 h2 F2 M2 H2 v2 E2 R2 r2 => ?_) fun _ _ z => KX.ext P R z E1)⟩
    obtain ⟨ds, e, q⟩ := Sat.of h2
    unfold splitN at e
    split at e
    · rename_i b
      obtain ⟨⟨h1, h2⟩, rfl⟩ := if_some e
      have : v2 = .str b := r2
      subst this
      have p2 := w1.pre.ext E2
      refine ⟨a, b, rfl, rfl, h1, by rw [line_eq]; exact h2, fun l hl => ?_⟩
      have hH : H l = none := by
        cases e : H l with
        | none => rfl
        | some o => exact absurd hl ((E1.trans E2).there l (ne_some e))
      exact q F2 M2 _ l _ ((E1.trans E2).trans (.own p2 hl)) R2 hH (p2.f.none hl) (p2.m.none hl) upd_same (.strs _)
    · cases e
  all_goals exact (show False from h1).elim
def slN (x : D) (lo hi : Option Int) : Option (List D) := (litems x).map fun ds => cutL ds lo hi
def gSlN (a : GE τ) (l h : GO τ) : GI τ := fun ρ st => (a ρ st).bind fun x st => (l ρ st).bind fun lo st => (h ρ st).bind fun hi st => .of (slN x lo hi) st
theorem evn_sl {te : TE} {tl th : TO} {g : GE τ} {gl gh : GO τ} (he : EvD P R W te g) (hl : EvO P R W tl gl) (hh : EvO P R W th gh) : EvN P R W (tSl (rSlAll P.K) te tl th) (gSlN g gl gh) := by
  intro F B M H σ ρ st w Q h
  refine he F B M H σ ρ st w _ ((Sat.bind h).mono (fun x st1 h1 F1 M1 H1 v1 E1 R1 r1 => ?_) fun _ _ z => z)
  have w1 := w.ext E1 R1
  refine hl F1 B M1 H1 σ ρ st1 w1 _ (h1.bind.mono (fun lo st2 h2 F2 M2 H2 E2 R2 => ?_) fun _ _ z => KX.ext P R z E1)
  have w2 := w1.ext E2 R2
  refine hh F2 B M2 H2 σ ρ st2 w2 _ (h2.bind.mono (fun hi st3 h3 F3 M3 H3 E3 R3 => ?_) fun _ _ z => KX.ext P R z (E1.trans E2))
  obtain ⟨ds, e, q⟩ := Sat.of h3
  obtain ⟨xs, e1, rfl⟩ := Option.map_eq_some_iff.mp e
  have p3 := w2.pre.ext E3
  obtain ⟨l, vs, rfl, hs, rs⟩ := ((r1.mono E2.ff).mono E3.ff).list p3 e1
  have E := (E1.trans E2).trans E3
  refine .inr (.inr ⟨l, vs, rfl, .of hs, fun a ha => ?_⟩)
  have hH : H a = none := by
    cases e : H a with
    | none => rfl
    | some o => exact absurd ha (E.there a (ne_some e))
  exact q F3 M3 _ a _ (E.trans (.own p3 ha)) R3 hH (p3.f.none ha) (p3.m.none ha) upd_same (rs.cut lo hi)
def gRevN (g : GE τ) : GI τ := fun ρ st => (g ρ st).bind fun x st => .of ((litems x).map List.reverse) st
theorem evn_rev {K : PySem.W.Frag} (hK : K = P.K) {te : TE} {g : GE τ} (h : EvD P R W te g) : EvN P R W (tRevA K te) (gRevN g) := by
  subst hK
  intro F B M H σ ρ st w Q hs
  refine .inl (h F B M H σ ρ st w _ ((Sat.bind hs).mono (fun d st1 h1 F1 M1 H1 v E1 R1 r1 => ?_) fun _ _ z => z))
  obtain ⟨ds, e, q⟩ := Sat.of h1
  obtain ⟨xs, e1, rfl⟩ := Option.map_eq_some_iff.mp e
  have p1 := w.pre.ext E1
  obtain ⟨a, vs, rfl, hs, rs⟩ := r1.list p1 e1
  refine ⟨a, vs, rfl, .of hs, fun l hl => ?_⟩
  have hH : H l = none := by
    cases e : H l with
    | none => rfl
    | some o => exact absurd hl (E1.there l (ne_some e))
  exact q F1 M1 _ l _ (E1.trans (.own p1 hl)) R1 hH (p1.f.none hl) (p1.m.none hl) upd_same rs.reverse
end
end PD

namespace PD
open PySem PySem.Spec PyProof.Rows L2
/-! ### small rules for the generator -/
section
variable {X : Cx}
theorem k_fld (K : PySem.W.Frag) {e : Expr} {n : Str} {pos : Pos} {te : TE} (he : PE X e te) (h : X.K = K := by rfl) (hb : attributeBase e n X.env (eval e X.env) = eval e X.env := by rfl) : PE X (.Attribute e n pos) (tFld K te n) := by
  subst h; exact pe_fld he hb
theorem k_cls {x : Str} {C : Addr} {pos : Pos} (hm : X.mg x = some (.ref C)) (hg : Gl X x := by rfl) (hd : (x == ("__debug__" : Str)) = false := by decide) : PE X (.Name x pos) (tC (.ref C)) := pe_glob hg hm rfl hd
theorem pe_spl {o e : Expr} {to te : TE} {apos pos : Pos} (ho : PE X o to) (he : PE X e te) (hs : starEach [e] X.env = [(false, eval e X.env)] := by rfl) (hbase : attributeBase o "split" X.env (eval o X.env) = eval o X.env := by rfl) (hline : (apos.endLine == pos.line) = true := by rfl) :
    PE X (.Call (.Attribute o "split" apos) [e] [] pos) (tM1 rSplit to te) := pe_split ho he hs hbase hline
/-! clauses -/
/-- the clause's class stands at C; what it matches -/
structure XmK (K : PySem.W.Frag) (mg : Str → Option Value) (c : Str) (C : Addr) (known : List Str) : Prop where
  at_ : mg c = some (.ref C)
  m : ∀ n ∈ known, ∀ D, mg n = some (.ref D) → PySem.W.exmOne K (.ref D) (.ref C) = some (mtX n c)
  xf : XfC K C
theorem XmK.names {c : Str} {C : Addr} {known : List Str} (k : XmK X.K X.mg c C known) (hg : Gl X c := by rfl) (hd : (c == ("__debug__" : Str)) = false := by decide) : Names X c (.ref C) := ⟨hg, hd, .inl k.at_⟩
theorem exm_of {K : PySem.W.Frag} {S C : Addr} {b : Bool} (h1 : PySem.W.subIn K (.ref C) (.type "BaseException") = some true) (h2 : PySem.W.isClsIn K C = true) (h3 : PySem.W.typeIn K (.ref C) = some (.type "type")) (h4 : PySem.W.subIn K (.ref S) (.ref C) = some b) :
    PySem.W.exmOne K (.ref S) (.ref C) = some b := by
  have e1 : (PySem.W.subIn K (.ref C) (.type "BaseException") == some true) = true := by rw [h1] <;> rfl
  have e2 : ((PySem.W.clsIn K C).isSome && PySem.W.typeIn K (.ref C) == some (.type "type")) = true := by
    have h2' : (PySem.W.clsIn K C).isSome = true := h2
    rw [h2', h3] <;> rfl
  show (if (PySem.W.subIn K (.ref C) (.type "BaseException") == some true) = true then (if ((PySem.W.clsIn K C).isSome && PySem.W.typeIn K (.ref C) == some (.type "type")) = true then PySem.W.subIn K (.ref S) (.ref C) else none) else none) = some b
  rw [if_pos e1, if_pos e2]
  exact h4
end
theorem kit_self {K : PySem.W.Frag} {C : Addr} : PySem.W.kitOne K (.ref C) (.ref C) = some true := by
  unfold PySem.W.kitOne
  rw [if_pos (by simp)]
theorem kit_sub {K : PySem.W.Frag} {C : Addr} {n : String} {b : Bool} (h2 : PySem.W.isClsIn K C = true) (h3 : PySem.W.typeIn K (.ref C) = some (.type "type")) (h4 : PySem.W.subIn K (.type n) (.ref C) = some b) : PySem.W.kitOne K (.type n) (.ref C) = some b := by
  unfold PySem.W.kitOne PySem.W.kitCls
  have e2 : ((PySem.W.clsIn K C).isSome && PySem.W.typeIn K (.ref C) == some (.type "type")) = true := by
    have h2' : (PySem.W.clsIn K C).isSome = true := h2
    rw [h2', h3] <;> rfl
  rw [if_neg (by simp)]
  show (if _ then _ else none) = some b
  rw [if_pos e2]
  exact h4
theorem kit_subO {K : PySem.W.Frag} {C D : Addr} {b : Bool} (hne : (D == C) = false) (h2 : PySem.W.isClsIn K C = true) (h3 : PySem.W.typeIn K (.ref C) = some (.type "type")) (h4 : PySem.W.subIn K (.ref D) (.ref C) = some b) : PySem.W.kitOne K (.ref D) (.ref C) = some b := by
  unfold PySem.W.kitOne PySem.W.kitCls
  have e2 : ((PySem.W.clsIn K C).isSome && PySem.W.typeIn K (.ref C) == some (.type "type")) = true := by
    have h2' : (PySem.W.clsIn K C).isSome = true := h2
    rw [h2', h3] <;> rfl
  rw [if_neg (by intro h; have : D = C := by simpa using h
                 subst this; simp at hne)]
  show (if _ then _ else none) = some b
  rw [if_pos e2]
  exact h4
section
variable {P : Pm}
def max2D : List D → Option D
  | [.int i, .int j] => some (.int (if j > i then j else i))
  | _ => none
def min2D : List D → Option D
  | [.int i, .int j] => some (.int (if j < i then j else i))
  | _ => none
theorem calld_max2 : CallD P (fun xs H Q => ∃ i j, xs = [.int i, .int j] ∧ Q (.int (if j > i then j else i)) H) max2D := by
  intro F B M H xs ds d p r e Q q
  unfold max2D at e
  split at e
  · rename_i i j
    cases e
    obtain ⟨v, ws, rfl, r1, u, us, rfl, r2, r3⟩ := r
    have : v = .int i := r1
    subst this
    have : u = .int j := r2
    subst this
    have : us = [] := r3
    subst this
    exact ⟨i, j, rfl, q F H _ (.refl p) rfl⟩
  · cases e
theorem calld_min2 : CallD P (fun xs H Q => ∃ i j, xs = [.int i, .int j] ∧ Q (.int (if j < i then j else i)) H) min2D := by
  intro F B M H xs ds d p r e Q q
  unfold min2D at e
  split at e
  · rename_i i j
    cases e
    obtain ⟨v, ws, rfl, r1, u, us, rfl, r2, r3⟩ := r
    have : v = .int i := r1
    subst this
    have : u = .int j := r2
    subst this
    have : us = [] := r3
    subst this
    exact ⟨i, j, rfl, q F H _ (.refl p) rfl⟩
  · cases e
/-- return [c, e.f] -/
def hdL (c : Str) (x : D) : Option D := some (.lst [.str c, x])
def hdL1 (x : D) : Option D := some (.lst [x])
theorem hdr_lst {cls fld c : Str} {C : Addr} {i : Nat} (hC : P.mg cls = some (.ref C)) (hn : (cls == "TailError") = false) :
    HdR P ⟨cls, fld, some i, hdL c⟩ (fun a cl d => tRet (tLst (tCons (tC (.str c)) (tCons (tXf a cl d C fld (tVar i)) tNil)))) := by
  intro cn Cn a dd v F B M H σ En x d' p hcn hm hdd rv e hi hq
  have ecn : cn = cls := by
    rcases (show (cn == cls || cls == "TailError") = true from hm) with z
    rw [hn, Bool.or_false] at z
    exact eq_of_beq z
  subst ecn
  have ee : Cn = C := by
    have z := hcn.symm.trans hC
    simpa using z
  subst ee
  have e : some (D.lst [.str c, x]) = some d' := e
  cases e
  refine ⟨.ref a, hi i rfl, rfl, rfl, dd, _, v, rfl, hdd, by simp [List.lookup], by show 2 ≤ 16777216; omega, fun q hq2 => ?_⟩
  exact hq _ _ _ (Ext.new p hq2) (by
    simp only [Rep]
    exact ⟨q, [.str c, v], rfl, upd_same, .cons (by simp only [Rep]) (.one (rv.mono (same_updP (p.f.none hq2))))⟩)
theorem hdr_lst1 {cls fld : Str} {C : Addr} {i : Nat} (hC : P.mg cls = some (.ref C)) (hn : (cls == "TailError") = false) :
    HdR P ⟨cls, fld, some i, hdL1⟩ (fun a cl d => tRet (tLst (tCons (tXf a cl d C fld (tVar i)) tNil))) := by
  intro cn Cn a dd v F B M H σ En x d' p hcn hm hdd rv e hi hq
  have ecn : cn = cls := by
    rcases (show (cn == cls || cls == "TailError") = true from hm) with z
    rw [hn, Bool.or_false] at z
    exact eq_of_beq z
  subst ecn
  have ee : Cn = C := by
    have z := hcn.symm.trans hC
    simpa using z
  subst ee
  have e : some (D.lst [x]) = some d' := e
  cases e
  refine ⟨.ref a, hi i rfl, rfl, rfl, dd, _, v, rfl, hdd, by simp [List.lookup], by show 1 ≤ 16777216; omega, fun q hq2 => ?_⟩
  exact hq _ _ _ (Ext.new p hq2) (by
    simp only [Rep]
    exact ⟨q, [v], rfl, upd_same, .one (rv.mono (same_updP (p.f.none hq2)))⟩)
end
end PD

namespace PD
open PySem PySem.Spec PyProof.Rows L2
/-! ### walking a mirror, rule by rule -/
section
variable {τ : Type} {ok : D → τ → Prop} {okl : List D → τ → Prop} {okb : Bool → τ → Prop} {oko : Option Int → τ → Prop} {er : Exn → τ → Prop} {ρ : Sl} {st : τ} {k : Fl → τ → Prop}
theorem w_var {i : Nat} {d : D} (e : ρ[i]?.bind slotD = some d) (q : ok d st) : Sat (gVar i ρ st) ok er := by
  unfold gVar; rw [e]; exact q
theorem w_c {d : D} (q : ok d st) : Sat (gC d ρ st) ok er := q
theorem w_bin {op : D → D → Option D} {a b : GE τ} (h : Sat (a ρ st) (fun x st => Sat (b ρ st) (fun y st => ∃ d, op x y = some d ∧ ok d st) er) er) : Sat (gBin op a b ρ st) ok er := by
  unfold gBin
  rw [Sat.bind_iff]
  refine h.mono (fun x st1 h1 => ?_) fun _ _ z => z
  rw [Sat.bind_iff]
  exact h1.mono (fun y st2 h2 => Sat.of_iff.mpr h2) fun _ _ z => z
theorem w_un {op : D → Option D} {a : GE τ} (h : Sat (a ρ st) (fun x st => ∃ d, op x = some d ∧ ok d st) er) : Sat (gUn op a ρ st) ok er := by
  unfold gUn
  rw [Sat.bind_iff]
  exact h.mono (fun y st2 h2 => Sat.of_iff.mpr h2) fun _ _ z => z
theorem w_isi {T : String} {a : GE τ} (h : Sat (a ρ st) (fun x st => ∃ d, isiD T x = some d ∧ ok d st) er) : Sat (gIsi T a ρ st) ok er := w_un h
theorem w_cb {op : List D → Option D} {a : GA τ} (h : Sat (a ρ st) (fun x st => ∃ d, op x = some d ∧ ok d st) er) : Sat (gCB op a ρ st) ok er := by
  unfold gCB
  rw [Sat.bind_iff]
  exact h.mono (fun y st2 h2 => Sat.of_iff.mpr h2) fun _ _ z => z
theorem w_andV {a b : GE τ} (h : Sat (a ρ st) (fun d st => ∃ c, d = .bl c ∧ (c = true → Sat (b ρ st) ok er) ∧ (c = false → ok (.bl false) st)) er) : Sat (gAndV a b ρ st) ok er := by
  unfold gAndV
  rw [Sat.bind_iff]
  refine h.mono (fun d st1 ⟨c, e, h1, h2⟩ => ?_) fun _ _ z => z
  subst e
  show Sat (if c = true then b ρ st1 else .ok (.bl false) st1) ok er
  cases c with
  | true => exact h1 rfl
  | false => exact h2 rfl
theorem w_orV {a b : GE τ} (h : Sat (a ρ st) (fun d st => ∃ c, d = .bl c ∧ (c = false → Sat (b ρ st) ok er) ∧ (c = true → ok (.bl true) st)) er) : Sat (gOrV a b ρ st) ok er := by
  unfold gOrV
  rw [Sat.bind_iff]
  refine h.mono (fun d st1 ⟨c, e, h1, h2⟩ => ?_) fun _ _ z => z
  subst e
  show Sat (if c = true then .ok (.bl true) st1 else b ρ st1) ok er
  cases c with
  | true => exact h2 rfl
  | false => exact h1 rfl
theorem w_ifE {t : GT τ} {a b : GE τ} (h : Sat (t ρ st) (fun c st => (c = true → Sat (a ρ st) ok er) ∧ (c = false → Sat (b ρ st) ok er)) er) : Sat (gIf t a b ρ st) ok er := by
  unfold gIf
  rw [Sat.bind_iff]
  refine h.mono (fun c st1 ⟨h1, h2⟩ => ?_) fun _ _ z => z
  cases c with
  | true => exact h1 rfl
  | false => exact h2 rfl
theorem w_chain {op op' : D → D → Option D} {a b c : GE τ} (h : Sat (a ρ st) (fun x st => Sat (b ρ st) (fun y st => ∃ z, op x y = some (.bl z) ∧ (z = true → Sat (c ρ st) (fun w st => ∃ d, op' y w = some d ∧ ok d st) er) ∧ (z = false → ok (.bl false) st)) er) er) : Sat (gChain op op' a b c ρ st) ok er := by
  unfold gChain
  rw [Sat.bind_iff]
  refine h.mono (fun x st1 h1 => ?_) fun _ _ z => z
  rw [Sat.bind_iff]
  refine h1.mono (fun y st2 ⟨z, e, h2, h3⟩ => ?_) fun _ _ z => z
  rw [e]
  show Sat (if z = true then _ else .ok (.bl false) st2) ok er
  cases z with
  | false => exact h3 rfl
  | true =>
    show Sat ((c ρ st2).bind _) ok er
    rw [Sat.bind_iff]
    exact (h2 rfl).mono (fun y st2 h2 => Sat.of_iff.mpr h2) fun _ _ z => z
/-! tests -/
theorem w_B {g : GE τ} (h : Sat (g ρ st) (fun d st => ∃ c, d = .bl c ∧ okb c st) er) : Sat (gB g ρ st) okb er := by
  unfold gB
  rw [Sat.bind_iff]
  refine h.mono (fun d st1 ⟨c, e, h1⟩ => ?_) fun _ _ z => z
  subst e
  exact h1
theorem w_notT {t : GT τ} (h : Sat (t ρ st) (fun b st => okb (!b) st) er) : Sat (gNot t ρ st) okb er := by
  unfold gNot
  rw [Sat.bind_iff]
  exact h
theorem w_andT {t u : GT τ} (h : Sat (t ρ st) (fun b st => (b = true → Sat (u ρ st) okb er) ∧ (b = false → okb false st)) er) : Sat (gAnd t u ρ st) okb er := by
  unfold gAnd
  rw [Sat.bind_iff]
  refine h.mono (fun c st1 ⟨h1, h2⟩ => ?_) fun _ _ z => z
  cases c with
  | true => exact h1 rfl
  | false => exact h2 rfl
theorem w_orT {t u : GT τ} (h : Sat (t ρ st) (fun b st => (b = true → okb true st) ∧ (b = false → Sat (u ρ st) okb er)) er) : Sat (gOr t u ρ st) okb er := by
  unfold gOr
  rw [Sat.bind_iff]
  refine h.mono (fun c st1 ⟨h1, h2⟩ => ?_) fun _ _ z => z
  cases c with
  | true => exact h1 rfl
  | false => exact h2 rfl
/-- a pure test that comes to c -/
theorem w_orP {t u : GT τ} {a b : Bool} (h : Sat (t ρ st) (fun x st' => x = a ∧ st' = st) (fun _ _ => False)) (h2 : a = false → Sat (u ρ st) (fun x st' => x = b ∧ st' = st) (fun _ _ => False)) (q : okb (a || b) st) : Sat (gOr t u ρ st) okb er := by
  refine w_orT (h.mono (fun x st1 ⟨e1, e2⟩ => ?_) fun _ _ z => z.elim)
  subst e1 e2
  refine ⟨fun e => ?_, fun e => ?_⟩
  · rw [e] at q; exact q
  · rw [e] at q
    refine (h2 e).mono (fun y st2 ⟨e3, e4⟩ => ?_) fun _ _ z => z.elim
    subst e3 e4; exact q
theorem w_andP {t u : GT τ} {a b : Bool} (h : Sat (t ρ st) (fun x st' => x = a ∧ st' = st) (fun _ _ => False)) (h2 : a = true → Sat (u ρ st) (fun x st' => x = b ∧ st' = st) (fun _ _ => False)) (q : okb (a && b) st) : Sat (gAnd t u ρ st) okb er := by
  refine w_andT (h.mono (fun x st1 ⟨e1, e2⟩ => ?_) fun _ _ z => z.elim)
  subst e1 e2
  refine ⟨fun e => ?_, fun e => ?_⟩
  · rw [e] at q
    refine (h2 e).mono (fun y st2 ⟨e3, e4⟩ => ?_) fun _ _ z => z.elim
    subst e3 e4; exact q
  · rw [e] at q; exact q
theorem w_andVP {a b : GE τ} {x y : Bool} (h : Sat (a ρ st) (fun d st' => d = .bl x ∧ st' = st) (fun _ _ => False)) (h2 : x = true → Sat (b ρ st) (fun d st' => d = .bl y ∧ st' = st) (fun _ _ => False)) (q : ok (.bl (x && y)) st) : Sat (gAndV a b ρ st) ok er := by
  refine w_andV (h.mono (fun d st1 ⟨e1, e2⟩ => ?_) fun _ _ z => z.elim)
  subst e2
  refine ⟨x, e1, fun e => ?_, fun e => ?_⟩
  · rw [e] at q
    refine (h2 e).mono (fun y st2 ⟨e3, e4⟩ => ?_) fun _ _ z => z.elim
    subst e3 e4; exact q
  · rw [e] at q; exact q
/-! arguments, displays -/
theorem w_nil (q : okl [] st) : Sat (PD.gNil ρ st) okl er := q
theorem w_cons {a : GE τ} {r : GA τ} (h : Sat (a ρ st) (fun d st => Sat (r ρ st) (fun ds st => okl (d :: ds) st) er) er) : Sat (PD.gCons a r ρ st) okl er := by
  unfold PD.gCons
  rw [Sat.bind_iff]
  refine h.mono (fun x st1 h1 => ?_) fun _ _ z => z
  rw [Sat.bind_iff]
  exact h1
theorem w_star {g : GE τ} {r : GA τ} (h : Sat (g ρ st) (fun d st => ∃ xs, items d = some xs ∧ Sat (r ρ st) (fun ys st => okl (xs ++ ys) st) er) er) : Sat (gStar g r ρ st) okl er := by
  unfold gStar
  rw [Sat.bind_iff]
  refine h.mono (fun x st1 ⟨xs, e, h1⟩ => ?_) fun _ _ z => z
  rw [e]
  show Sat ((r ρ st1).bind _) okl er
  rw [Sat.bind_iff]
  exact h1
theorem w_tup {a : GA τ} (h : Sat (a ρ st) (fun ds st => freeL ds = true ∧ ok (.tup ds) st) er) : Sat (PD.gTup a ρ st) ok er := by
  unfold PD.gTup
  rw [Sat.bind_iff]
  refine h.mono (fun x st1 ⟨e, h1⟩ => ?_) fun _ _ z => z
  rw [if_pos e]; exact h1
theorem w_lstN {a : GA τ} (h : Sat (a ρ st) (fun ds st => freeL ds = true ∧ okl ds st) er) : Sat (gLstN a ρ st) okl er := by
  unfold gLstN
  rw [Sat.bind_iff]
  refine h.mono (fun x st1 ⟨e, h1⟩ => ?_) fun _ _ z => z
  rw [if_pos e]; exact h1
theorem w_listN {a : GE τ} (h : Sat (a ρ st) (fun d st => ∃ xs, items d = some xs ∧ okl xs st) er) : Sat (gListN (PD.gCons a PD.gNil) ρ st) okl er := by
  unfold gListN
  rw [Sat.bind_iff]
  exact w_cons (h.mono (fun d st1 ⟨xs, e, q⟩ => w_nil (Sat.of_iff.mpr ⟨xs, e, q⟩)) fun _ _ z => z)
theorem w_fz {g : GI τ} (h : Sat (g ρ st) (fun ds st => ok (.lst ds) st) er) : Sat (gFz g ρ st) ok er := by
  unfold gFz
  rw [Sat.bind_iff]
  exact h
theorem w_binN {op : D → D → Option (List D)} {a b : GE τ} (h : Sat (a ρ st) (fun x st => Sat (b ρ st) (fun y st => ∃ d, op x y = some d ∧ okl d st) er) er) : Sat (gBinN op a b ρ st) okl er := by
  unfold gBinN
  rw [Sat.bind_iff]
  refine h.mono (fun x st1 h1 => ?_) fun _ _ z => z
  rw [Sat.bind_iff]
  exact h1.mono (fun y st2 h2 => Sat.of_iff.mpr h2) fun _ _ z => z
theorem w_revN {a : GE τ} (h : Sat (a ρ st) (fun x st => ∃ ds, litems x = some ds ∧ okl ds.reverse st) er) : Sat (gRevN a ρ st) okl er := by
  unfold gRevN
  rw [Sat.bind_iff]
  refine h.mono (fun x st1 ⟨ds, e, h1⟩ => ?_) fun _ _ z => z
  rw [e]; exact h1
theorem w_m1N {op : Str → D → Option (List D)} {a b : GE τ} (h : Sat (a ρ st) (fun x st => ∃ s, x = .str s ∧ Sat (b ρ st) (fun y st => ∃ d, op s y = some d ∧ okl d st) er) er) : Sat (gM1N op a b ρ st) okl er := by
  unfold gM1N
  rw [Sat.bind_iff]
  refine h.mono (fun x st1 ⟨s, e, h1⟩ => ?_) fun _ _ z => z
  subst e
  show Sat ((b ρ st1).bind _) okl er
  rw [Sat.bind_iff]
  exact h1.mono (fun y st2 h2 => Sat.of_iff.mpr h2) fun _ _ z => z
theorem w_m1 {op : Str → D → Option D} {a b : GE τ} (h : Sat (a ρ st) (fun x st => ∃ s, x = .str s ∧ Sat (b ρ st) (fun y st => ∃ d, op s y = some d ∧ ok d st) er) er) : Sat (gM1 op a b ρ st) ok er := by
  unfold gM1
  rw [Sat.bind_iff]
  refine h.mono (fun x st1 ⟨s, e, h1⟩ => ?_) fun _ _ z => z
  subst e
  show Sat ((b ρ st1).bind _) ok er
  rw [Sat.bind_iff]
  exact h1.mono (fun y st2 h2 => Sat.of_iff.mpr h2) fun _ _ z => z
theorem w_noPart (q : oko none st) : Sat (gNoPart ρ st) oko er := q
theorem w_part {g : GE τ} (h : Sat (g ρ st) (fun d st => ∃ i, d = .int i ∧ oko (some i) st) er) : Sat (gPart g ρ st) oko er := by
  unfold gPart
  rw [Sat.bind_iff]
  refine h.mono (fun x st1 ⟨i, e, h1⟩ => ?_) fun _ _ z => z
  subst e; exact h1
theorem w_sl {op : D → Option Int → Option Int → Option D} {a : GE τ} {l h : GO τ} (H : Sat (a ρ st) (fun x st => Sat (l ρ st) (fun lo st => Sat (h ρ st) (fun hi st => ∃ d, op x lo hi = some d ∧ ok d st) er) er) er) : Sat (gSl op a l h ρ st) ok er := by
  unfold gSl
  rw [Sat.bind_iff]
  refine H.mono (fun x st1 h1 => ?_) fun _ _ z => z
  rw [Sat.bind_iff]
  refine h1.mono (fun x st1 h1 => ?_) fun _ _ z => z
  rw [Sat.bind_iff]
  exact h1.mono (fun y st2 h2 => Sat.of_iff.mpr h2) fun _ _ z => z
theorem w_slN {a : GE τ} {l h : GO τ} (H : Sat (a ρ st) (fun x st => Sat (l ρ st) (fun lo st => Sat (h ρ st) (fun hi st => ∃ ds, litems x = some ds ∧ okl (cutL ds lo hi) st) er) er) er) : Sat (gSlN a l h ρ st) okl er := by
  unfold gSlN
  rw [Sat.bind_iff]
  refine H.mono (fun x st1 h1 => ?_) fun _ _ z => z
  rw [Sat.bind_iff]
  refine h1.mono (fun x st1 h1 => ?_) fun _ _ z => z
  rw [Sat.bind_iff]
  refine h1.mono (fun y st2 ⟨ds, e, q⟩ => ?_) fun _ _ z => z
  rw [slN, e]; exact q
/-! calls -/
theorem w_call {m : List D → τ → Res τ D} {a : GA τ} (h : Sat (a ρ st) (fun ds st => Sat (m ds st) ok er) er) : Sat (gCall m a ρ st) ok er := by
  unfold gCall; rw [Sat.bind_iff]; exact h
theorem w_callN {m : List D → τ → Res τ (List D)} {a : GA τ} (h : Sat (a ρ st) (fun ds st => Sat (m ds st) okl er) er) : Sat (gCallN m a ρ st) okl er := by
  unfold gCallN; rw [Sat.bind_iff]; exact h
theorem w_callK {m : List D → τ → Res τ D} {pm : List Nat} {a : GA τ} (h : Sat (a ρ st) (fun ds st => Sat (m (pm.map fun i => ds.getD i .non) st) ok er) er) : Sat (gCallK m pm a ρ st) ok er := by
  unfold gCallK; rw [Sat.bind_iff]; exact h
theorem w_make {cls : Str} {m : List D → τ → Res τ (List (Str × D))} {a : GA τ} (h : Sat (a ρ st) (fun ds st => Sat (m ds st) (fun fs st => ok (.ins cls fs) st) er) er) : Sat (gMake cls m a ρ st) ok er := by
  unfold gMake; rw [Sat.bind_iff]
  refine h.mono (fun x st1 h1 => ?_) fun _ _ z => z
  rw [Sat.bind_iff]; exact h1
theorem w_makeK {cls : Str} {m : List D → τ → Res τ (List (Str × D))} {pm : List Nat} {a : GA τ} (h : Sat (a ρ st) (fun ds st => Sat (m (pm.map fun i => ds.getD i .non) st) (fun fs st => ok (.ins cls fs) st) er) er) : Sat (gMakeK cls m pm a ρ st) ok er := by
  unfold gMakeK; rw [Sat.bind_iff]
  refine h.mono (fun x st1 h1 => ?_) fun _ _ z => z
  rw [Sat.bind_iff]; exact h1
theorem w_makeL {i : Nat} {cls : Str} {m : List D → τ → Res τ (List (Str × D))} {a : GA τ} (e : ρ[i]? = some (.val (.cls cls))) (h : Sat (a ρ st) (fun ds st => Sat (m ds st) (fun fs st => ok (.ins cls fs) st) er) er) : Sat (gMakeL i cls m a ρ st) ok er := by
  unfold gMakeL; rw [e]
  show Sat (if cls = cls then gMake cls m a ρ st else .stuck) ok er
  rw [if_pos rfl]; exact w_make h
theorem w_prop {cls : Str} {m : List D → τ → Res τ D} {g : GE τ} (h : Sat (g ρ st) (fun d st => ∃ fs, d = .ins cls fs ∧ Sat (m [.ins cls fs] st) ok (fun _ _ => False)) er) : Sat (gProp cls m g ρ st) ok er := by
  unfold gProp; rw [Sat.bind_iff]
  refine h.mono (fun x st1 ⟨fs, e, h1⟩ => ?_) fun _ _ z => z
  subst e
  show Sat (if cls = cls then noErr (m [.ins cls fs] st1) else .stuck) ok er
  rw [if_pos rfl, Sat.noErr_iff]; exact h1
theorem w_meth {cls n : Str} {m : List D → τ → Res τ D} {g : GE τ} {a : GA τ} (h : Sat (g ρ st) (fun d st => ∃ fs, d = .ins cls fs ∧ fs.lookup n = none ∧ Sat (a ρ st) (fun ds st => Sat (m (.ins cls fs :: ds) st) ok er) er) er) : Sat (gMeth cls n m g a ρ st) ok er := by
  unfold gMeth; rw [Sat.bind_iff]
  refine h.mono (fun x st1 ⟨fs, e, hl, h1⟩ => ?_) fun _ _ z => z
  subst e
  show Sat (if cls = cls ∧ fs.lookup n = none then _ else .stuck) ok er
  rw [if_pos ⟨rfl, hl⟩, Sat.bind_iff]; exact h1
theorem w_methK {cls n : Str} {m : List D → τ → Res τ D} {pm : List Nat} {g : GE τ} {a : GA τ} (h : Sat (g ρ st) (fun d st => ∃ fs, d = .ins cls fs ∧ fs.lookup n = none ∧ Sat (a ρ st) (fun ds st => Sat (m (.ins cls fs :: pm.map fun i => ds.getD i .non) st) ok er) er) er) : Sat (gMethK cls n m pm g a ρ st) ok er := by
  unfold gMethK; rw [Sat.bind_iff]
  refine h.mono (fun x st1 ⟨fs, e, hl, h1⟩ => ?_) fun _ _ z => z
  subst e
  show Sat (if cls = cls ∧ fs.lookup n = none then _ else .stuck) ok er
  rw [if_pos ⟨rfl, hl⟩, Sat.bind_iff]; exact h1
theorem w_meth0 {cls n : Str} {m : List D → τ → Res τ D} {g : GE τ} (h : Sat (g ρ st) (fun d st => ∃ fs, d = .ins cls fs ∧ fs.lookup n = none ∧ Sat (m [.ins cls fs] st) ok er) er) : Sat (gMeth0 cls n m g ρ st) ok er := by
  unfold gMeth0; rw [Sat.bind_iff]
  refine h.mono (fun x st1 ⟨fs, e, hl, h1⟩ => ?_) fun _ _ z => z
  subst e
  show Sat (if cls = cls ∧ fs.lookup n = none then _ else .stuck) ok er
  rw [if_pos ⟨rfl, hl⟩]; exact h1
theorem w_cmeth {cls : Str} {m : List D → τ → Res τ D} {a : GA τ} (h : Sat (a ρ st) (fun ds st => Sat (m (.cls cls :: ds) st) ok er) er) : Sat (gCMeth cls m a ρ st) ok er := by
  unfold gCMeth; rw [Sat.bind_iff]; exact h
theorem w_cmethK {cls : Str} {m : List D → τ → Res τ D} {pm : List Nat} {a : GA τ} (h : Sat (a ρ st) (fun ds st => Sat (m (.cls cls :: pm.map fun i => ds.getD i .non) st) ok er) er) : Sat (gCMethK cls m pm a ρ st) ok er := by
  unfold gCMethK; rw [Sat.bind_iff]; exact h
theorem w_strO {cls : Str} {m : List D → τ → Res τ D} {g : GE τ} (h : Sat (g ρ st) (fun d st => ∃ fs, d = .ins cls fs ∧ Sat (m [.ins cls fs] st) (fun z st => ∃ y, z = .str y ∧ ok (.str y) st) (fun _ _ => False)) er) : Sat (gStrO cls m g ρ st) ok er := by
  unfold gStrO; rw [Sat.bind_iff]
  refine h.mono (fun x st1 ⟨fs, e, h1⟩ => ?_) fun _ _ z => z
  subst e
  show Sat (if cls = cls then _ else .stuck) ok er
  rw [if_pos rfl, Sat.bind_iff, Sat.noErr_iff]
  refine h1.mono (fun z st2 ⟨y, e, q⟩ => ?_) fun _ _ z => z
  subst e; exact q
theorem w_eqO {neg : Bool} {known : List Str} {cls : Str} {m : List D → τ → Res τ D} {a b : GE τ} (h : Sat (a ρ st) (fun x st => Sat (b ρ st) (fun y st => ∃ fs, x = .ins cls fs ∧ okTy known y = true ∧ Sat (m [.ins cls fs, y] st) (fun z st => ∃ c, z = .bl c ∧ ok (.bl (neg != c)) st) (fun _ _ => False)) er) er) : Sat (gEqO neg known cls m a b ρ st) ok er := by
  unfold gEqO; rw [Sat.bind_iff]
  refine h.mono (fun x st1 h1 => ?_) fun _ _ z => z
  rw [Sat.bind_iff]
  refine h1.mono (fun y st2 ⟨fs, e, hy, h2⟩ => ?_) fun _ _ z => z
  subst e
  show Sat (if cls = cls ∧ okTy known y = true then _ else .stuck) ok er
  rw [if_pos ⟨rfl, hy⟩, Sat.bind_iff, Sat.noErr_iff]
  refine h2.mono (fun z st2 ⟨c, e, q⟩ => ?_) fun _ _ z => z
  subst e; exact q
theorem w_fld {cls f : Str} {g : GE τ} (h : Sat (g ρ st) (fun d st => ∃ e, fldOf cls f d = some e ∧ ok e st) er) : Sat (gFld cls f g ρ st) ok er := by
  unfold gFld; rw [Sat.bind_iff]
  exact h.mono (fun y st2 h2 => Sat.of_iff.mpr h2) fun _ _ z => z
theorem w_self {cls f : Str} {i : Nat} {d : D} (e : ρ[i]?.bind (selfF cls f) = some d) (q : ok d st) : Sat (gSelf cls f i ρ st) ok er := by
  unfold gSelf; rw [e]; exact q
theorem w_js_nil {acc : Str} (q : ok (.str acc) st) : Sat (gJs [] acc ρ st) ok er := q
theorem w_js {g : GE τ} {gs : List (GE τ)} {acc : Str} (h : Sat (g ρ st) (fun d st => ∃ y, d = .str y ∧ (acc ++ y).length ≤ line ∧ Sat (gJs gs (acc ++ y) ρ st) ok er) er) : Sat (gJs (g :: gs) acc ρ st) ok er := by
  unfold gJs; rw [Sat.bind_iff]
  refine h.mono (fun x st1 ⟨y, e, hl, h1⟩ => ?_) fun _ _ z => z
  subst e
  show Sat (if (acc ++ y).length ≤ line then _ else .stuck) ok er
  rw [if_pos hl]; exact h1
/-! what is walked -/
theorem w_it {g : GE τ} (h : Sat (g ρ st) (fun d st => ∃ ds, iterD d = some ds ∧ okl ds st) er) : Sat (gIt g ρ st) okl er := by
  unfold gIt; rw [Sat.bind_iff]
  exact h.mono (fun y st2 h2 => Sat.of_iff.mpr h2) fun _ _ z => z
theorem w_itF {g : GE τ} (h : Sat (g ρ st) (fun d st => borFree d = true ∧ ∃ ds, iterD d = some ds ∧ okl ds st) er) : Sat (gItF g ρ st) okl er := by
  unfold gItF; rw [Sat.bind_iff]
  refine h.mono (fun y st2 ⟨hb, h2⟩ => ?_) fun _ _ z => z
  rw [if_pos hb]; exact Sat.of_iff.mpr h2
theorem w_rng1 {a : GE τ} (h : Sat (a ρ st) (fun d st => ∃ j : Int, d = .int j ∧ (-(2 ^ 62) ≤ j ∧ j < 2 ^ 62) ∧ okl (rangeD 0 j.toNat) st) er) : Sat (gRng1 (PD.gCons a PD.gNil) ρ st) okl er := by
  unfold gRng1; rw [Sat.bind_iff]
  refine w_cons (h.mono (fun d st1 ⟨j, e, hj, q⟩ => w_nil ?_) fun _ _ z => z)
  subst e
  show Sat (.of (if -(2 ^ 62) ≤ j ∧ j < 2 ^ 62 then some (rangeD 0 j.toNat) else none) st1) okl er
  rw [if_pos hj]; exact q
theorem w_lc {gi : GI τ} {tg : D → Sl → Option Sl} {c : GT τ} {e : GE τ} {vs : List Nat} (h : Sat (gi ρ st) (fun ds st => ds.length ≤ line ∧ Sat (lcGo tg c e (wipeS ρ vs) ds st) okl er) er) : Sat (gLc gi tg c e vs ρ st) okl er := by
  unfold gLc; rw [Sat.bind_iff]
  refine h.mono (fun y st2 ⟨hb, h2⟩ => ?_) fun _ _ z => z
  rw [if_pos hb]; exact h2
/-- a comprehension without a draw: f of those that p takes -/
theorem w_lc_fm {α : Type} {tg : D → Sl → Option Sl} {c : GT τ} {e : GE τ} (emb : α → D) (p : α → Bool) (f : α → D) (xs : List α)
    (h : ∀ x ∈ xs, ∃ ρ1, tg (emb x) ρ = some ρ1 ∧ Sat (c ρ1 st) (fun b st' => b = p x ∧ st' = st) (fun _ _ => False) ∧ (p x = true → Sat (e ρ1 st) (fun y st' => y = f x ∧ borFree y = true ∧ st' = st) (fun _ _ => False)))
    (q : okl ((xs.filter p).map f) st) : Sat (lcGo tg c e ρ (xs.map emb) st) okl er := by
  induction xs generalizing okl with
  | nil => exact q
  | cons x xs ih =>
    obtain ⟨ρ1, h1, h2, h3⟩ := h x (.head _)
    rw [List.map_cons, Sat.lc_cons h1]
    refine h2.mono (fun b st1 ⟨e1, e2⟩ => ?_) fun _ _ z => z.elim
    subst e1 e2
    cases hp : p x with
    | false =>
      rw [if_neg Bool.false_ne_true]
      refine ih (fun y hy => h y (.tail _ hy)) ?_
      rw [List.filter_cons, hp] at q
      exact q
    | true =>
      rw [if_pos rfl]
      refine (h3 hp).mono (fun y st2 ⟨e3, e4, e5⟩ => ⟨e4, ?_⟩) fun _ _ z => z.elim
      subst e3 e5
      refine ih (okl := fun ys st => okl (f x :: ys) st) (fun y hy => h y (.tail _ hy)) ?_
      rw [List.filter_cons, hp] at q
      exact q
theorem w_lc_map {α : Type} {tg : D → Sl → Option Sl} {e : GE τ} (emb : α → D) (f : α → D) (xs : List α)
    (h : ∀ x ∈ xs, ∃ ρ1, tg (emb x) ρ = some ρ1 ∧ Sat (e ρ1 st) (fun y st' => y = f x ∧ borFree y = true ∧ st' = st) (fun _ _ => False)) (q : okl (xs.map f) st) : Sat (lcGo tg gYes e ρ (xs.map emb) st) okl er := by
  refine w_lc_fm emb (fun _ => true) f xs (fun x hx => ?_) ?_
  · obtain ⟨ρ1, h1, h2⟩ := h x hx
    exact ⟨ρ1, h1, ⟨rfl, rfl⟩, fun _ => h2⟩
  · rw [List.filter_eq_self.mpr (by simp)]; exact q
/-! statements -/
theorem w_seq {a b : GS τ} (h : SatS (a ρ st) (thenS b k)) : SatS (sSeq a b ρ st) k := SatS.seq_iff.mpr h
theorem w_nx {b : GS τ} {ρ' : Sl} (h : SatS (b ρ' st) k) : thenS b k (.nx ρ') st := h
theorem w_next (h : k (.nx ρ) st) : SatS (sNext ρ st) k := h
theorem w_if {t : GT τ} {a b : GS τ} (h : Sat (t ρ st) (fun c st => (c = true → SatS (a ρ st) k) ∧ (c = false → SatS (b ρ st) k)) (fun x st => k (.ex x ρ) st)) : SatS (sIf t a b ρ st) k := by
  unfold sIf
  rw [SatS.thenE_iff]
  refine h.mono (fun c st1 ⟨h1, h2⟩ => ?_) fun _ _ z => z
  cases c with
  | true => exact h1 rfl
  | false => exact h2 rfl
theorem w_ret {g : GE τ} (h : Sat (g ρ st) (fun d st => borFree d = true ∧ k (.rt d) st) (fun x st => k (.ex x ρ) st)) : SatS (sRet g ρ st) k := by
  unfold sRet
  rw [SatS.thenE_iff]
  refine h.mono (fun c st1 ⟨h1, h2⟩ => ?_) fun _ _ z => z
  rw [if_pos h1]; exact h2
theorem w_retN {g : GI τ} (h : Sat (g ρ st) (fun d st => k (.rn d) st) (fun x st => k (.ex x ρ) st)) : SatS (sRetN g ρ st) k := by
  unfold sRetN
  rw [SatS.thenE_iff]
  exact h
theorem w_retO {i : Nat} {xs : List D} (e : ρ[i]? = some (.own xs)) (h : k (.rn xs) st) : SatS (sRetO i ρ st) k := by
  unfold sRetO; rw [e]; exact h
theorem w_retV (h : k (.rt .non) st) : SatS (sRetV ρ st) k := h
theorem w_drop {g : GE τ} (h : Sat (g ρ st) (fun d st => k (.nx ρ) st) (fun x st => k (.ex x ρ) st)) : SatS (sDrop g ρ st) k := by
  unfold sDrop
  rw [SatS.thenE_iff]
  exact h
theorem w_asgN {i : Nat} {g : GE τ} (h : Sat (g ρ st) (fun d st => borFree d = true ∧ i < ρ.length ∧ k (.nx (ρ.set i (.val d))) st) (fun x st => k (.ex x ρ) st)) : SatS (sAsg (tgName i) g ρ st) k := by
  unfold sAsg
  rw [SatS.thenE_iff]
  refine h.mono (fun c st1 ⟨h1, h2, h3⟩ => ?_) fun _ _ z => z
  rw [if_pos h1, tgName, if_pos h2]; exact h3
theorem w_asg {t : D → Sl → Option Sl} {g : GE τ} (h : Sat (g ρ st) (fun d st => borFree d = true ∧ ∃ ρ', t d ρ = some ρ' ∧ k (.nx ρ') st) (fun x st => k (.ex x ρ) st)) : SatS (sAsg t g ρ st) k := by
  unfold sAsg
  rw [SatS.thenE_iff]
  refine h.mono (fun c st1 ⟨h1, ρ', h2, h3⟩ => ?_) fun _ _ z => z
  rw [if_pos h1, h2]; exact h3
theorem w_own {i : Nat} {g : GI τ} (h : Sat (g ρ st) (fun ds st => i < ρ.length ∧ k (.nx (ρ.set i (.own ds))) st) (fun x st => k (.ex x ρ) st)) : SatS (sOwn i g ρ st) k := by
  unfold sOwn
  rw [SatS.thenE_iff]
  refine h.mono (fun c st1 ⟨h2, h3⟩ => ?_) fun _ _ z => z
  rw [if_pos h2]; exact h3
theorem w_sfz {i : Nat} {g : GS τ} {xs : List D} (e : ρ[i]? = some (.own xs)) (h : SatS (g (ρ.set i (.val (.lst xs))) st) k) : SatS (sFz i g ρ st) k := by
  unfold sFz PD.fz; rw [e]; exact h
theorem w_app {i : Nat} {g : GE τ} {xs : List D} (e : ρ[i]? = some (.own xs)) (h : Sat (g ρ st) (fun d st => borFree d = true ∧ xs.length < line ∧ k (.nx (ρ.set i (.own (xs ++ [d])))) st) (fun x st => k (.ex x ρ) st)) : SatS (sApp i g ρ st) k := by
  unfold sApp
  rw [e]
  show SatS (thenE (g ρ st) ρ _) k
  rw [SatS.thenE_iff]
  refine h.mono (fun d st1 ⟨h1, h2, h3⟩ => ?_) fun _ _ z => z
  show SatS (if borFree d = true ∧ xs.length < line then _ else none) k
  rw [if_pos ⟨h1, h2⟩]; exact h3
theorem w_put {i : Nat} {gv gk : GE τ} {xs : List D} (e : ρ[i]? = some (.own xs)) (h : Sat (gv ρ st) (fun d st => Sat (gk ρ st) (fun k' st => borFree d = true ∧ ∃ (z : Int) (j : Nat), k' = .int z ∧ ixN xs.length z = some j ∧ k (.nx (ρ.set i (.own (xs.set j d)))) st) (fun x st => k (.ex x ρ) st)) (fun x st => k (.ex x ρ) st)) : SatS (sPut i gv gk ρ st) k := by
  unfold sPut
  rw [e]
  show SatS (thenE (gv ρ st) ρ _) k
  rw [SatS.thenE_iff]
  refine h.mono (fun d st1 h1 => ?_) fun _ _ z => z
  rw [SatS.thenE_iff]
  refine h1.mono (fun k' st2 ⟨hb, z, j, e1, e2, q⟩ => ?_) fun _ _ z => z
  subst e1
  show SatS (if borFree d = true then _ else none) k
  rw [if_pos hb, e2]; exact q
theorem w_raise {cls fld : Str} {g : GE τ} (h : Sat (g ρ st) (fun d st => borFree d = true ∧ k (.ex ⟨cls, fld, d⟩ ρ) st) (fun x st => k (.ex x ρ) st)) : SatS (sRaise cls fld g ρ st) k := by
  unfold sRaise
  rw [SatS.thenE_iff]
  refine h.mono (fun c st1 ⟨h1, h2⟩ => ?_) fun _ _ z => z
  rw [if_pos h1]; exact h2
theorem w_putF {cls f : Str} {i : Nat} {g : GE τ} {fs : List (Str × D)} (e : ρ[i]? = some (.obj cls fs)) (hl : fs.length < 900) (h : Sat (g ρ st) (fun d st => borFree d = true ∧ k (.nx (ρ.set i (.obj cls (putD f d fs)))) st) (fun x st => k (.ex x ρ) st)) : SatS (sPutF cls f i g ρ st) k := by
  unfold sPutF
  rw [SatS.thenE_iff]
  refine h.mono (fun c st1 ⟨h1, h2⟩ => ?_) fun _ _ z => z
  rw [e]
  show SatS (if (cls = cls ∧ fs.length < 900) ∧ borFree c = true then _ else none) k
  rw [if_pos ⟨⟨rfl, hl⟩, h1⟩]; exact h2
theorem w_for {gi : GI τ} {t : D → Sl → Option Sl} {body : GS τ} (h : Sat (gi ρ st) (fun ds st => SatS (sForGo t body ds ρ st) k) (fun x st => k (.ex x ρ) st)) : SatS (sFor gi t body ρ st) k := SatS.for_iff.mpr h
/-- what becomes of an error in a try -/
def tryK (known : List Str) (hs : List Hd) (k : Fl → τ → Prop) : Fl → τ → Prop
  | .ex x ρ, st => x.cls ∈ known ∧ SatS (caught hs x ρ st) k
  | f, st => k f st
theorem w_try {known : List Str} {hs : List Hd} {g : GS τ} (h : SatS (g ρ st) (tryK known hs k)) : SatS (sTry known g hs ρ st) k := by
  unfold sTry
  cases e : g ρ st with
  | none => rw [e] at h; exact h.elim
  | some p =>
    obtain ⟨f, st'⟩ := p
    rw [e] at h
    cases f with
    | ex x ρ' =>
      obtain ⟨h1, h2⟩ := (show x.cls ∈ known ∧ SatS (caught hs x ρ' st') k from h)
      show SatS (if x.cls ∈ known then caught hs x ρ' st' else none) k
      rw [if_pos h1]; exact h2
    | nx _ => exact h
    | rt _ => exact h
    | rn _ => exact h
    | bk _ => exact h
    | ct _ => exact h
/-- a loop by a relation of what is left, the slots, the state -/
theorem w_loop {α : Type} {t : D → Sl → Option Sl} {body : GS τ} (emb : α → D) (I : List α → Sl → τ → Prop) (hd : ∀ ρ st, I [] ρ st → k (.nx ρ) st)
    (hs : ∀ x xs ρ st, I (x :: xs) ρ st → ∃ ρ1, t (emb x) ρ = some ρ1 ∧ SatS (body ρ1 st) (fun f st' => match f with
      | .nx ρ2 => I xs ρ2 st'
      | .ct ρ2 => I xs ρ2 st'
      | .bk ρ2 => k (.nx ρ2) st'
      | f => k f st')) : ∀ (xs : List α) (ρ : Sl) (st : τ), I xs ρ st → SatS (sForGo t body (xs.map emb) ρ st) k
  | [], ρ, st, h => hd ρ st h
  | x :: xs, ρ, st, h => by
    obtain ⟨ρ1, e, q⟩ := hs x xs ρ st h
    rw [List.map_cons, SatS.for_cons e]
    refine q.mono fun f st' r => ?_
    cases f with
    | nx ρ2 => exact w_loop emb I hd hs xs ρ2 st' r
    | ct ρ2 => exact w_loop emb I hd hs xs ρ2 st' r
    | bk ρ2 => exact r
    | rt d => exact r
    | rn d => exact r
    | ex x ρ => exact r
/-! defs -/
/-- how a def ends -/
def fnK (ok : D → τ → Prop) (er : Exn → τ → Prop) : Fl → τ → Prop
  | .rt d, st => ok d st
  | .rn xs, st => ok (.lst xs) st
  | .nx _, st => ok .non st
  | .ex x _, st => er x st
  | _, _ => False
theorem w_fn {N : Nat} {g : GS τ} {ds : List D} (h : SatS (g (ds.map slOf ++ List.replicate (N - ds.length) .un) st) (fnK ok er)) : Sat (gFn N g ds st) ok er := by
  unfold gFn
  cases e : g (ds.map slOf ++ List.replicate (N - ds.length) .un) st with
  | none => rw [e] at h; exact h.elim
  | some p =>
    obtain ⟨f, st'⟩ := p
    rw [e] at h
    cases f <;> exact h
def fnNK (okl : List D → τ → Prop) (er : Exn → τ → Prop) : Fl → τ → Prop
  | .rn xs, st => okl xs st
  | .ex x _, st => er x st
  | _, _ => False
theorem w_fnN {N : Nat} {g : GS τ} {ds : List D} (h : SatS (g (ds.map slOf ++ List.replicate (N - ds.length) .un) st) (fnNK okl er)) : Sat (gFnN N g ds st) okl er := by
  unfold gFnN
  cases e : g (ds.map slOf ++ List.replicate (N - ds.length) .un) st with
  | none => rw [e] at h; exact h.elim
  | some p =>
    obtain ⟨f, st'⟩ := p
    rw [e] at h
    cases f <;> exact h
def fnIK (cls : Str) (okf : List (Str × D) → τ → Prop) (er : Exn → τ → Prop) : Fl → τ → Prop
  | .nx ρ', st => ∃ fs, ρ'[0]? = some (.obj cls fs) ∧ okf fs st
  | .ex x _, st => er x st
  | _, _ => False
theorem w_fnI {N : Nat} {cls : Str} {g : GS τ} {ds : List D} {okf : List (Str × D) → τ → Prop} (h : SatS (g (.obj cls [] :: (ds.map slOf ++ List.replicate (N - (ds.length + 1)) .un)) st) (fnIK cls okf er)) : Sat (gFnI N cls g ds st) okf er := by
  unfold gFnI
  cases e : g (.obj cls [] :: (ds.map slOf ++ List.replicate (N - (ds.length + 1)) .un)) st with
  | none => rw [e] at h; exact h.elim
  | some p =>
    obtain ⟨f, st'⟩ := p
    rw [e] at h
    cases f with
    | nx ρ' =>
      obtain ⟨fs, e1, q⟩ := (show ∃ fs, ρ'[0]? = some (.obj cls fs) ∧ okf fs st' from h)
      show Sat (match (ρ'[0]? : Option SV) with | some (.obj C fs) => if C = cls then .ok fs st' else .stuck | _ => .stuck) okf er
      rw [e1]
      show Sat (if cls = cls then .ok fs st' else .stuck) okf er
      rw [if_pos rfl]; exact q
    | ex x _ => exact h
    | rt _ => exact h.elim
    | rn _ => exact h.elim
    | bk _ => exact h.elim
    | ct _ => exact h.elim
end
end PD

namespace PD
open PySem PySem.Spec PyProof.Rows L2
/-! ### what operators come to -/
theorem lt_rfl {i n : Nat} (h : Nat.blt i n = true) : i < n := Nat.blt_eq.mp h
@[simp] theorem o_add (a b : Int) : dAdd (.int a) (.int b) = some (.int (a + b)) := rfl
theorem o_addS {a b : Str} (h : a.length + b.length ≤ line) : dAdd (.str a) (.str b) = some (.str (a ++ b)) := by
  simp only [dAdd, oI, dAddS, oS, if_pos h, Option.none_or, Option.some_or]
theorem o_addL {a b : List D} (h : a.length + b.length ≤ line) : dAdd (.lst a) (.lst b) = some (.lst (a ++ b)) := by
  simp only [dAdd, oI, dAddS, oS, dAddL, oL, litems, if_pos h, Option.none_or, Option.some_or]
theorem o_addT {a b : List D} (h : a.length + b.length ≤ line) : dAdd (.tup a) (.tup b) = some (.tup (a ++ b)) := by
  simp only [dAdd, oI, dAddS, oS, dAddL, oL, litems, dAddT, oT, if_pos h, Option.none_or, Option.some_or]
@[simp] theorem o_sub (a b : Int) : dSub (.int a) (.int b) = some (.int (a - b)) := rfl
@[simp] theorem o_neg (a : Int) : dNeg (.int a) = some (.int (-a)) := rfl
@[simp] theorem o_not (a : Bool) : dNot (.bl a) = some (.bl (!a)) := rfl
@[simp] theorem o_lt (a b : Int) : dLt (.int a) (.int b) = some (.bl (decide (a < b))) := rfl
@[simp] theorem o_le (a b : Int) : dLe (.int a) (.int b) = some (.bl (decide (a ≤ b))) := rfl
@[simp] theorem o_gt (a b : Int) : dGt (.int a) (.int b) = some (.bl (decide (b < a))) := rfl
@[simp] theorem o_ge (a b : Int) : dGe (.int a) (.int b) = some (.bl (decide (b ≤ a))) := rfl
@[simp] theorem o_isN (d : D) : dIsN d .non = some (.bl (isNon d)) := rfl
@[simp] theorem o_notN (d : D) : dNotN d .non = some (.bl (!isNon d)) := rfl
theorem o_pow {a b : Int} (h : (decide (0 ≤ b) && (decide (b ≤ 1000000) && decide (a.natAbs < 2 ^ 64))) = true) : dPow (.int a) (.int b) = some (.int (a ^ b.toNat)) := by
  show (if _ then some (D.int (a ^ b.toNat)) else none) = _
  rw [if_pos h]
theorem o_mod {a b : Int} (h : b ≠ 0) : dMod (.int a) (.int b) = some (.int (a.fmod b)) := by
  show (if _ then some (D.int (a.fmod b)) else none) = _
  rw [if_pos (decide_eq_true h)]
theorem o_mul {a b : Int} (h : (smallI a || smallI b) = true) : dMul (.int a) (.int b) = some (.int (a * b)) := by
  show (if _ then some (D.int (a * b)) else none) = _
  rw [if_pos h]
@[simp] theorem o_lenS {s : Str} (h : s.length ≤ line) : o1 lenD [.str s] = some (.int s.length) := by
  show (if s.length ≤ line then some (D.int s.length) else none) = _
  rw [if_pos h]
@[simp] theorem o_lenT (ds : List D) : o1 lenD [.tup ds] = some (.int ds.length) := rfl
@[simp] theorem o_lenL (ds : List D) : o1 lenD [.lst ds] = some (.int ds.length) := rfl
@[simp] theorem o_lenB (ds : List D) : o1 lenD [.bor ds] = some (.int ds.length) := rfl
@[simp] theorem o_tupL (ds : List D) : o1 tupleD [.lst ds] = some (.tup ds) := rfl
@[simp] theorem o_tupB (ds : List D) : o1 tupleD [.bor ds] = some (.tup ds) := rfl
@[simp] theorem o_tupT (ds : List D) : o1 tupleD [.tup ds] = some (.tup ds) := rfl
theorem o_strI {i : Int} (h : i.natAbs.log2 < 1920) : o1 strD [.int i] = some (.str (PySem.Str.ofString (toString i))) := by
  show (if _ then some (D.str (PySem.Str.ofString (toString i))) else none) = _
  rw [if_pos h]
@[simp] theorem o_strS (s : Str) : o1 strD [.str s] = some (.str s) := rfl
theorem o_fmtI {i : Int} (h : i.natAbs.log2 < 1920) : fmtD (.int i) = some (.str (PySem.Str.ofString (toString i))) := by
  show (if _ then some (D.str (PySem.Str.ofString (toString i))) else none) = _
  rw [if_pos h]
theorem o_fmtS {s : Str} (h : s.length ≤ line) : fmtD (.str s) = some (.str s) := by
  show (if s.length ≤ line then some (D.str s) else none) = _
  rw [if_pos h]
@[simp] theorem o_intI (i : Int) : o1 intD [.int i] = some (.int i) := rfl
@[simp] theorem o_intB (b : Bool) : o1 intD [.bl b] = some (.int (if b then 1 else 0)) := rfl
theorem o_intS {s : Str} {n : Int} (h : s.length ≤ 640) (e : PySem.intText? s = some n) : o1 intD [.str s] = some (.int n) := by
  show (if s.length ≤ 640 then (PySem.intText? s).map D.int else none) = _
  rw [if_pos h, e]; rfl
@[simp] theorem o_eqI (a b : Int) : dEq (.int a) (.int b) = some (.bl (a == b)) := dEq_int a b
@[simp] theorem o_neI (a b : Int) : dNe (.int a) (.int b) = some (.bl (!(a == b))) := dNe_int a b
@[simp] theorem o_eqB (a b : Bool) : dEq (.bl a) (.bl b) = some (.bl (a == b)) := dEq_bl a b
@[simp] theorem o_neB (a b : Bool) : dNe (.bl a) (.bl b) = some (.bl (!(a == b))) := dNe_bl a b
theorem o_eqS {a b : Str} (h : sOk a = true) (k : sOk b = true) : dEq (.str a) (.str b) = some (.bl (a == b)) := dEq_str h k
theorem o_neS {a b : Str} (h : sOk a = true) (k : sOk b = true) : dNe (.str a) (.str b) = some (.bl (!(a == b))) := dNe_str h k
/-- data that may be compared -/
def cmpD (d : D) : Prop := okD d = true ∧ dptD d ≤ 64
theorem o_eqD {x y : D} (h : cmpD x) (k : cmpD y) : dEq x y = some (.bl (eqD x y)) := dEq_ok h.1 k.1 h.2 k.2
theorem o_neD {x y : D} (h : cmpD x) (k : cmpD y) : dNe x y = some (.bl (!eqD x y)) := dNe_ok h.1 k.1 h.2 k.2
mutual
/-- values alike where they are equal: lists and tuples of texts, numbers, truths, None; no number beside a truth -/
theorem eqv_refl : ∀ p : PyData, PyData.canLay0 p = true → PyData.eqv p p = true
  | .none, _ => by simp [PyData.eqv]
  | .bool b, _ => by simp [PyData.eqv]
  | .int i, _ => by simp [PyData.eqv]
  | .str s, _ => by simp [PyData.eqv]
  | .tuple xs, h => by
    simp only [PyData.eqv]
    exact eqv_reflAll xs (by simpa only [PyData.canLay0] using h)
  | .list xs, h => by
    simp only [PyData.eqv]
    exact eqv_reflAll xs (by simpa only [PyData.canLay0] using h)
  | .dict _, h => by simp [PyData.canLay0] at h
theorem eqv_reflAll : ∀ ps : List PyData, PyData.canLayAll0 ps = true → PyData.eqvAll ps ps = true
  | [], _ => by simp [PyData.eqvAll]
  | p :: ps, h => by
    simp only [PyData.canLayAll0, Bool.and_eq_true] at h
    simp only [PyData.eqvAll, eqv_refl p h.1, eqv_reflAll ps h.2, Bool.and_self]
end
theorem eqD_refl {d : D} (h : okD d = true) : eqD d d = true := by
  obtain ⟨p, e, c, _⟩ := okD_py d h
  simp only [eqD, e]
  exact eqv_refl p c
theorem eqD_tnil {xs : List D} (h : okDs xs = true) : eqD (.tup xs) (.tup []) = xs.isEmpty := by
  obtain ⟨ps, e, _, _⟩ := okDs_py xs h
  cases xs with
  | nil => simp [eqD, toPy, toPys, PyData.eqv, PyData.eqvAll]
  | cons d ds =>
    simp only [toPys] at e
    split at e
    · rename_i a r e1 e2
      simp [eqD, toPy, toPys, e1, e2, PyData.eqv, PyData.eqvAll]
    · cases e
theorem o_eqRefl {d : D} (h : cmpD d) : dEq d d = some (.bl true) := by rw [o_eqD h h, eqD_refl h.1]
theorem o_neRefl {d : D} (h : cmpD d) : dNe d d = some (.bl false) := by rw [o_neD h h, eqD_refl h.1]; rfl
theorem cmpD_nil : cmpD (.lst []) := ⟨by simp [okD, okDs], by simp [dptD, dptDs]⟩
theorem cmpD_tnil : cmpD (.tup []) := ⟨by simp [okD, okDs], by simp [dptD, dptDs]⟩
theorem o_eqNil {xs : List D} (h : cmpD (.lst xs)) : dEq (.lst xs) (.lst []) = some (.bl xs.isEmpty) := by
  rw [o_eqD h cmpD_nil, eqD_nil (by simpa only [okD] using h.1)]
theorem o_neNil {xs : List D} (h : cmpD (.lst xs)) : dNe (.lst xs) (.lst []) = some (.bl (!xs.isEmpty)) := by
  rw [o_neD h cmpD_nil, eqD_nil (by simpa only [okD] using h.1)]
theorem o_eqTNil {xs : List D} (h : cmpD (.tup xs)) : dEq (.tup xs) (.tup []) = some (.bl xs.isEmpty) := by
  rw [o_eqD h cmpD_tnil, eqD_tnil (by simpa only [okD] using h.1)]
/-- a list's items of depth n -/
theorem cmpD_lst {xs : List D} (n : Nat) (hn : n < 64) (h : ∀ x ∈ xs, okD x = true ∧ dptD x ≤ n) : cmpD (.lst xs) :=
  ⟨by simp only [okD]; exact okDs_all fun d hd => (h d hd).1, by
    simp only [dptD]
    have := dptDs_le fun d hd => (h d hd).2
    omega⟩
theorem cmpD_tup {xs : List D} (n : Nat) (hn : n < 64) (h : ∀ x ∈ xs, okD x = true ∧ dptD x ≤ n) : cmpD (.tup xs) :=
  ⟨by simp only [okD]; exact okDs_all fun d hd => (h d hd).1, by
    simp only [dptD]
    have := dptDs_le fun d hd => (h d hd).2
    omega⟩
theorem cmpD_str {s : Str} (h : sOk s = true) : cmpD (.str s) := ⟨by simp only [okD]; exact h, by simp only [dptD]; omega⟩
theorem cmpD_int (i : Int) : cmpD (.int i) := ⟨rfl, by simp only [dptD]; omega⟩
theorem cmpD_non : cmpD .non := ⟨rfl, by simp only [dptD]; omega⟩
@[simp] theorem isNon_non : isNon .non = true := rfl
@[simp] theorem isNon_int (i : Int) : isNon (.int i) = false := rfl
@[simp] theorem isNon_str (i : Str) : isNon (.str i) = false := rfl
@[simp] theorem isNon_tup (i : List D) : isNon (.tup i) = false := rfl
@[simp] theorem blOf_bl (b : Bool) : blOf (.bl b) = some b := rfl
@[simp] theorem slotD_val (d : D) : slotD (.val d) = some d := rfl
@[simp] theorem slotD_own (d : List D) : slotD (.own d) = some (.bor d) := rfl
@[simp] theorem slotD_bor (d : List D) : slotD (.bor d) = some (.bor d) := rfl
@[simp] theorem ownOf_own (d : List D) : ownOf (some (.own d)) = some d := rfl
@[simp] theorem intOf_int (i : Int) : intOf (.int i) = some i := rfl
@[simp] theorem strOf_str (i : Str) : strOf (.str i) = some i := rfl
@[simp] theorem items_tup (d : List D) : items (.tup d) = some d := rfl
@[simp] theorem items_lst (d : List D) : items (.lst d) = some d := rfl
@[simp] theorem items_bor (d : List D) : items (.bor d) = some d := rfl
@[simp] theorem litems_lst (d : List D) : litems (.lst d) = some d := rfl
@[simp] theorem litems_bor (d : List D) : litems (.bor d) = some d := rfl
@[simp] theorem iterD_tup (d : List D) : iterD (.tup d) = some d := rfl
@[simp] theorem iterD_lst (d : List D) : iterD (.lst d) = some d := rfl
@[simp] theorem iterD_bor (d : List D) : iterD (.bor d) = some d := rfl
@[simp] theorem iterD_str (z : Str) : iterD (.str z) = some (charsOf z) := rfl
@[simp] theorem bf_non : borFree .non = true := rfl
@[simp] theorem bf_bl (b : Bool) : borFree (.bl b) = true := rfl
@[simp] theorem bf_int (b : Int) : borFree (.int b) = true := rfl
@[simp] theorem bf_str (b : Str) : borFree (.str b) = true := rfl
@[simp] theorem bf_tup (b : List D) : borFree (.tup b) = true := rfl
@[simp] theorem bf_lst (b : List D) : borFree (.lst b) = true := rfl
@[simp] theorem bf_ins (c : Str) (b : List (Str × D)) : borFree (.ins c b) = true := rfl
@[simp] theorem slOf_bor (d : List D) : slOf (.bor d) = .bor d := rfl
@[simp] theorem slOf_non : slOf .non = .val .non := rfl
@[simp] theorem slOf_bl (d : Bool) : slOf (.bl d) = .val (.bl d) := rfl
@[simp] theorem slOf_int (d : Int) : slOf (.int d) = .val (.int d) := rfl
@[simp] theorem slOf_str (d : Str) : slOf (.str d) = .val (.str d) := rfl
@[simp] theorem slOf_tup (d : List D) : slOf (.tup d) = .val (.tup d) := rfl
@[simp] theorem slOf_lst (d : List D) : slOf (.lst d) = .val (.lst d) := rfl
@[simp] theorem slOf_ins (c : Str) (d : List (Str × D)) : slOf (.ins c d) = .val (.ins c d) := rfl
@[simp] theorem slOf_state : slOf .state = .val .state := rfl
@[simp] theorem slOf_cls (c : Str) : slOf (.cls c) = .val (.cls c) := rfl
@[simp] theorem selfF_val (c f : Str) (fs : List (Str × D)) : selfF c f (.val (.ins c fs)) = fs.lookup f := if_pos rfl
@[simp] theorem selfF_obj (c f : Str) (fs : List (Str × D)) : selfF c f (.obj c fs) = fs.lookup f := if_pos rfl
@[simp] theorem fldOf_ins (c f : Str) (fs : List (Str × D)) : fldOf c f (.ins c fs) = fs.lookup f := if_pos rfl
theorem sl_val {d : D} (h : borFree d = true) : slOf d = .val d := by cases d <;> first | rfl | cases h
end PD

namespace PD
open PySem PySem.Spec PyProof.Rows L2
/-! ### what a mirror comes to, as rules for simp that leave what follows alone -/
def Got {α : Type} (o : Option α) (P : α → Prop) : Prop := ∃ d, o = some d ∧ P d
def Br (c : Bool) (A B : Prop) : Prop := (c = true → A) ∧ (c = false → B)
def Ask (c : Prop) (A : Prop) : Prop := c ∧ A
@[simp] theorem Got_some {α : Type} {x : α} {P : α → Prop} : Got (some x) P ↔ P x := ⟨fun ⟨_, e, h⟩ => by cases e; exact h, fun h => ⟨x, rfl, h⟩⟩
theorem got_iff {α : Type} {x : α} {P : α → Prop} {Q : Prop} (h : Q ↔ P x) : Q ↔ Got (some x) P := h.trans Got_some.symm
@[simp] theorem Got_none {α : Type} {P : α → Prop} : Got none P ↔ False := ⟨fun ⟨_, e, _⟩ => (nomatch e), False.elim⟩
@[simp] theorem Br_true {A B : Prop} : Br true A B ↔ A := ⟨fun h => h.1 rfl, fun h => ⟨fun _ => h, nofun⟩⟩
@[simp] theorem Br_false {A B : Prop} : Br false A B ↔ B := ⟨fun h => h.2 rfl, fun h => ⟨nofun, fun _ => h⟩⟩
@[simp] theorem Ask_true {A : Prop} : Ask True A ↔ A := ⟨fun h => h.2, fun h => ⟨trivial, h⟩⟩
@[simp] theorem Ask_false {A : Prop} : Ask False A ↔ False := ⟨fun h => h.1, False.elim⟩
/-- a block that is still to be walked -/
def Run {τ : Type} (b : GS τ) (ρ : Sl) (st : τ) (k : Fl → τ → Prop) : Prop := SatS (b ρ st) k
theorem w_run {τ : Type} {b : GS τ} {ρ : Sl} {st : τ} {k : Fl → τ → Prop} (h : SatS (b ρ st) k) : Run b ρ st k := h
@[simp] theorem thenS_run {τ : Type} {b : GS τ} {ρ : Sl} {st : τ} {k : Fl → τ → Prop} : thenS b k (.nx ρ) st ↔ Run b ρ st k := Iff.rfl
theorem Ask.mk {c A : Prop} (h : c) (k : A) : Ask c A := ⟨h, k⟩
theorem Br.mk {c : Bool} {A B : Prop} (h : c = true → A) (k : c = false → B) : Br c A B := ⟨h, k⟩
theorem Got.mk {α : Type} {o : Option α} {P : α → Prop} {x : α} (e : o = some x) (h : P x) : Got o P := ⟨x, e, h⟩
/-- an own object of the class -/
def insOf (cls : Str) : D → Option (List (Str × D))
  | .ins C fs => if C = cls then some fs else none
  | _ => none
@[simp] theorem insOf_ins {cls : Str} {fs : List (Str × D)} : insOf cls (.ins cls fs) = some fs := if_pos rfl
def objOf (cls : Str) : Option SV → Option (List (Str × D))
  | some (.obj C fs) => if C = cls then some fs else none
  | _ => none
@[simp] theorem objOf_obj {cls : Str} {fs : List (Str × D)} : objOf cls (some (.obj cls fs)) = some fs := if_pos rfl
section
variable {τ : Type} {ok : D → τ → Prop} {okl : List D → τ → Prop} {okb : Bool → τ → Prop} {oko : Option Int → τ → Prop} {er : Exn → τ → Prop} {ρ : Sl} {st : τ} {k : Fl → τ → Prop}
theorem Br_iff {c : Bool} {A B : Prop} : Br c A B ↔ if c = true then A else B := by
  cases c
  · simp
  · simp
theorem s_of {α : Type} {o : Option α} {ok : α → τ → Prop} : Sat (Res.of o st) ok er ↔ Got o fun a => ok a st := by cases o with
  | none => simp [Res.of, Sat]
  | some a => simp [Res.of, Sat]
@[simp] theorem s_var {i : Nat} : Sat (gVar i ρ st) ok er ↔ Got (ρ[i]?.bind slotD) fun d => ok d st := s_of
@[simp] theorem s_c {d : D} : Sat (gC d ρ st) ok er ↔ ok d st := Iff.rfl
@[simp] theorem s_bin {op : D → D → Option D} {a b : GE τ} : Sat (gBin op a b ρ st) ok er ↔ Sat (a ρ st) (fun x st => Sat (b ρ st) (fun y st => Got (op x y) fun d => ok d st) er) er := by
  unfold gBin
  cases a ρ st with
  | ok x st1 =>
    show Sat ((b ρ st1).bind _) ok er ↔ Sat (b ρ st1) _ er
    cases b ρ st1 with
    | ok y st2 => exact s_of
    | err _ _ => exact Iff.rfl
    | stuck => exact Iff.rfl
  | err _ _ => exact Iff.rfl
  | stuck => exact Iff.rfl
@[simp] theorem s_un {op : D → Option D} {a : GE τ} : Sat (gUn op a ρ st) ok er ↔ Sat (a ρ st) (fun x st => Got (op x) fun d => ok d st) er := by
  unfold gUn
  cases a ρ st with
  | ok x st1 => exact s_of
  | err _ _ => exact Iff.rfl
  | stuck => exact Iff.rfl
@[simp] theorem s_isi {T : String} {a : GE τ} : Sat (gIsi T a ρ st) ok er ↔ Sat (a ρ st) (fun x st => Got (isiD T x) fun d => ok d st) er := s_un
@[simp] theorem s_cb {op : List D → Option D} {a : GA τ} : Sat (gCB op a ρ st) ok er ↔ Sat (a ρ st) (fun x st => Got (op x) fun d => ok d st) er := by
  unfold gCB
  cases a ρ st with
  | ok x st1 => exact s_of
  | err _ _ => exact Iff.rfl
  | stuck => exact Iff.rfl
theorem got_bl {d : D} {P : Bool → Prop} {R : Res τ D → Prop} (st : τ) : True := trivial
@[simp] theorem s_andV {a b : GE τ} : Sat (gAndV a b ρ st) ok er ↔ Sat (a ρ st) (fun d st => Got (blOf d) fun c => Br c (Sat (b ρ st) ok er) (ok (.bl false) st)) er := by
  unfold gAndV
  cases a ρ st with
  | ok x st1 =>
    show Sat ((Res.of (blOf x) st1).bind _) ok er ↔ Got (blOf x) _
    cases blOf x with
    | none => simp [Res.of, Res.bind, Sat]
    | some c => cases c <;> simp [Res.of, Res.bind]
  | err _ _ => exact Iff.rfl
  | stuck => exact Iff.rfl
@[simp] theorem s_orV {a b : GE τ} : Sat (gOrV a b ρ st) ok er ↔ Sat (a ρ st) (fun d st => Got (blOf d) fun c => Br c (ok (.bl true) st) (Sat (b ρ st) ok er)) er := by
  unfold gOrV
  cases a ρ st with
  | ok x st1 =>
    show Sat ((Res.of (blOf x) st1).bind _) ok er ↔ Got (blOf x) _
    cases blOf x with
    | none => simp [Res.of, Res.bind, Sat]
    | some c => cases c <;> simp [Res.of, Res.bind]
  | err _ _ => exact Iff.rfl
  | stuck => exact Iff.rfl
@[simp] theorem s_ifE {t : GT τ} {a b : GE τ} : Sat (gIf t a b ρ st) ok er ↔ Sat (t ρ st) (fun c st => Br c (Sat (a ρ st) ok er) (Sat (b ρ st) ok er)) er := by
  unfold gIf
  cases t ρ st with
  | ok c st1 => cases c <;> simp [Res.bind]
  | err _ _ => exact Iff.rfl
  | stuck => exact Iff.rfl
@[simp] theorem s_chain {op op' : D → D → Option D} {a b c : GE τ} : Sat (gChain op op' a b c ρ st) ok er ↔ Sat (a ρ st) (fun x st => Sat (b ρ st) (fun y st => Got ((op x y).bind blOf) fun z => Br z (Sat (c ρ st) (fun w st => Got (op' y w) fun d => ok d st) er) (ok (.bl false) st)) er) er := by
  unfold gChain
  cases a ρ st with
  | ok x st1 =>
    show Sat ((b ρ st1).bind _) ok er ↔ Sat (b ρ st1) _ er
    cases b ρ st1 with
    | ok y st2 =>
      show Sat ((Res.of ((op x y).bind blOf) st2).bind _) ok er ↔ Got ((op x y).bind blOf) _
      cases (op x y).bind blOf with
      | none => simp [Res.of, Res.bind, Sat]
      | some z =>
        cases z with
        | false => simp [Res.of, Res.bind]
        | true =>
          simp only [Got_some, Br_true]
          show Sat ((c ρ st2).bind _) ok er ↔ Sat (c ρ st2) _ er
          cases c ρ st2 with
          | ok w st3 => exact s_of
          | err _ _ => exact Iff.rfl
          | stuck => exact Iff.rfl
    | err _ _ => exact Iff.rfl
    | stuck => exact Iff.rfl
  | err _ _ => exact Iff.rfl
  | stuck => exact Iff.rfl
/-! tests -/
@[simp] theorem s_B {g : GE τ} : Sat (gB g ρ st) okb er ↔ Sat (g ρ st) (fun d st => Got (blOf d) fun c => okb c st) er := by
  unfold gB
  cases g ρ st with
  | ok x st1 => exact s_of
  | err _ _ => exact Iff.rfl
  | stuck => exact Iff.rfl
@[simp] theorem s_notT {t : GT τ} : Sat (gNot t ρ st) okb er ↔ Sat (t ρ st) (fun b st => okb (!b) st) er := by
  unfold gNot
  cases t ρ st <;> exact Iff.rfl
@[simp] theorem s_andT {t u : GT τ} : Sat (gAnd t u ρ st) okb er ↔ Sat (t ρ st) (fun b st => Br b (Sat (u ρ st) okb er) (okb false st)) er := by
  unfold gAnd
  cases t ρ st with
  | ok c st1 => cases c <;> simp [Res.bind]
  | err _ _ => exact Iff.rfl
  | stuck => exact Iff.rfl
@[simp] theorem s_orT {t u : GT τ} : Sat (gOr t u ρ st) okb er ↔ Sat (t ρ st) (fun b st => Br b (okb true st) (Sat (u ρ st) okb er)) er := by
  unfold gOr
  cases t ρ st with
  | ok c st1 => cases c <;> simp [Res.bind]
  | err _ _ => exact Iff.rfl
  | stuck => exact Iff.rfl
@[simp] theorem s_yes : Sat (gYes ρ st) okb er ↔ okb true st := Iff.rfl
/-! arguments, displays -/
@[simp] theorem s_nil : Sat (PD.gNil ρ st) okl er ↔ okl [] st := Iff.rfl
@[simp] theorem s_cons {a : GE τ} {r : GA τ} : Sat (PD.gCons a r ρ st) okl er ↔ Sat (a ρ st) (fun d st => Sat (r ρ st) (fun ds st => okl (d :: ds) st) er) er := by
  unfold PD.gCons
  cases a ρ st with
  | ok x st1 =>
    show Sat ((r ρ st1).bind _) okl er ↔ Sat (r ρ st1) _ er
    cases r ρ st1 <;> exact Iff.rfl
  | err _ _ => exact Iff.rfl
  | stuck => exact Iff.rfl
@[simp] theorem s_star {g : GE τ} {r : GA τ} : Sat (gStar g r ρ st) okl er ↔ Sat (g ρ st) (fun d st => Got (items d) fun xs => Sat (r ρ st) (fun ys st => okl (xs ++ ys) st) er) er := by
  unfold gStar
  cases g ρ st with
  | ok x st1 =>
    show Sat ((Res.of (items x) st1).bind _) okl er ↔ Got (items x) _
    cases items x with
    | none => simp [Res.of, Res.bind, Sat]
    | some xs =>
      simp only [Got_some]
      show Sat ((r ρ st1).bind _) okl er ↔ Sat (r ρ st1) _ er
      cases r ρ st1 <;> exact Iff.rfl
  | err _ _ => exact Iff.rfl
  | stuck => exact Iff.rfl
theorem sat_if {α : Type} {c : Prop} [Decidable c] {r : Res τ α} {ok : α → τ → Prop} {P : Prop} (h : Sat r ok er ↔ P) : Sat (if c then r else .stuck) ok er ↔ Ask c P := by
  by_cases hc : c
  · rw [if_pos hc, h]; exact ⟨fun q => ⟨hc, q⟩, fun q => q.2⟩
  · rw [if_neg hc]; exact ⟨fun q => q.elim, fun q => hc q.1⟩
@[simp] theorem s_tup {a : GA τ} : Sat (PD.gTup a ρ st) ok er ↔ Sat (a ρ st) (fun ds st => Ask (freeL ds = true) (ok (.tup ds) st)) er := by
  unfold PD.gTup
  cases a ρ st with
  | ok x st1 => exact sat_if Iff.rfl
  | err _ _ => exact Iff.rfl
  | stuck => exact Iff.rfl
@[simp] theorem s_lstN {a : GA τ} : Sat (gLstN a ρ st) okl er ↔ Sat (a ρ st) (fun ds st => Ask (freeL ds = true) (okl ds st)) er := by
  unfold gLstN
  cases a ρ st with
  | ok x st1 => exact sat_if Iff.rfl
  | err _ _ => exact Iff.rfl
  | stuck => exact Iff.rfl
@[simp] theorem s_listN {a : GE τ} : Sat (gListN (PD.gCons a PD.gNil) ρ st) okl er ↔ Sat (a ρ st) (fun d st => Got (items d) fun xs => okl xs st) er := by
  unfold gListN PD.gCons
  cases a ρ st with
  | ok x st1 => exact s_of
  | err _ _ => exact Iff.rfl
  | stuck => exact Iff.rfl
@[simp] theorem s_fz {g : GI τ} : Sat (gFz g ρ st) ok er ↔ Sat (g ρ st) (fun ds st => ok (.lst ds) st) er := by
  unfold gFz
  cases g ρ st <;> exact Iff.rfl
@[simp] theorem s_binN {op : D → D → Option (List D)} {a b : GE τ} : Sat (gBinN op a b ρ st) okl er ↔ Sat (a ρ st) (fun x st => Sat (b ρ st) (fun y st => Got (op x y) fun d => okl d st) er) er := by
  unfold gBinN
  cases a ρ st with
  | ok x st1 =>
    show Sat ((b ρ st1).bind _) okl er ↔ Sat (b ρ st1) _ er
    cases b ρ st1 with
    | ok y st2 => exact s_of
    | err _ _ => exact Iff.rfl
    | stuck => exact Iff.rfl
  | err _ _ => exact Iff.rfl
  | stuck => exact Iff.rfl
@[simp] theorem s_revN {a : GE τ} : Sat (gRevN a ρ st) okl er ↔ Sat (a ρ st) (fun x st => Got (litems x) fun ds => okl ds.reverse st) er := by
  unfold gRevN
  cases a ρ st with
  | ok x st1 =>
    show Sat (Res.of ((litems x).map List.reverse) st1) okl er ↔ Got (litems x) _
    cases litems x with
    | none => exact ⟨fun h => h.elim, fun ⟨_, e, _⟩ => (nomatch e)⟩
    | some xs => exact got_iff Iff.rfl
  | err _ _ => exact Iff.rfl
  | stuck => exact Iff.rfl
def strOf' : D → Option Str := strOf
@[simp] theorem s_m1N {op : Str → D → Option (List D)} {a b : GE τ} : Sat (gM1N op a b ρ st) okl er ↔ Sat (a ρ st) (fun x st => Got (strOf x) fun s => Sat (b ρ st) (fun y st => Got (op s y) fun d => okl d st) er) er := by
  unfold gM1N
  cases a ρ st with
  | ok x st1 =>
    cases x
    case str s =>
      show Sat ((b ρ st1).bind _) okl er ↔ Got (some s) _
      rw [Got_some]
      cases b ρ st1 with
      | ok y st2 => exact s_of
      | err _ _ => exact Iff.rfl
      | stuck => exact Iff.rfl
    all_goals exact ⟨fun h => h.elim, fun ⟨_, e, _⟩ => nomatch e⟩
  | err _ _ => exact Iff.rfl
  | stuck => exact Iff.rfl
@[simp] theorem s_m1 {op : Str → D → Option D} {a b : GE τ} : Sat (gM1 op a b ρ st) ok er ↔ Sat (a ρ st) (fun x st => Got (strOf x) fun s => Sat (b ρ st) (fun y st => Got (op s y) fun d => ok d st) er) er := by
  unfold gM1
  cases a ρ st with
  | ok x st1 =>
    cases x
    case str s =>
      show Sat ((b ρ st1).bind _) ok er ↔ Got (some s) _
      rw [Got_some]
      cases b ρ st1 with
      | ok y st2 => exact s_of
      | err _ _ => exact Iff.rfl
      | stuck => exact Iff.rfl
    all_goals exact ⟨fun h => h.elim, fun ⟨_, e, _⟩ => nomatch e⟩
  | err _ _ => exact Iff.rfl
  | stuck => exact Iff.rfl
@[simp] theorem s_noPart : Sat (gNoPart ρ st) oko er ↔ oko none st := Iff.rfl
@[simp] theorem s_part {g : GE τ} : Sat (gPart g ρ st) oko er ↔ Sat (g ρ st) (fun d st => Got (intOf d) fun i => oko (some i) st) er := by
  unfold gPart
  cases g ρ st with
  | ok x st1 =>
    show Sat ((Res.of (intOf x) st1).bind _) oko er ↔ Got (intOf x) _
    cases intOf x with
    | none => simp [Res.of, Res.bind, Sat]
    | some i => simp [Res.of, Res.bind]
  | err _ _ => exact Iff.rfl
  | stuck => exact Iff.rfl
@[simp] theorem s_sl {op : D → Option Int → Option Int → Option D} {a : GE τ} {l h : GO τ} : Sat (gSl op a l h ρ st) ok er ↔ Sat (a ρ st) (fun x st => Sat (l ρ st) (fun lo st => Sat (h ρ st) (fun hi st => Got (op x lo hi) fun d => ok d st) er) er) er := by
  unfold gSl
  cases a ρ st with
  | ok x st1 =>
    show Sat ((l ρ st1).bind _) ok er ↔ Sat (l ρ st1) _ er
    cases l ρ st1 with
    | ok lo st2 =>
      show Sat ((h ρ st2).bind _) ok er ↔ Sat (h ρ st2) _ er
      cases h ρ st2 with
      | ok hi st3 => exact s_of
      | err _ _ => exact Iff.rfl
      | stuck => exact Iff.rfl
    | err _ _ => exact Iff.rfl
    | stuck => exact Iff.rfl
  | err _ _ => exact Iff.rfl
  | stuck => exact Iff.rfl
@[simp] theorem s_slN {a : GE τ} {l h : GO τ} : Sat (gSlN a l h ρ st) okl er ↔ Sat (a ρ st) (fun x st => Sat (l ρ st) (fun lo st => Sat (h ρ st) (fun hi st => Got (slN x lo hi) fun d => okl d st) er) er) er := by
  unfold gSlN
  cases a ρ st with
  | ok x st1 =>
    show Sat ((l ρ st1).bind _) okl er ↔ Sat (l ρ st1) _ er
    cases l ρ st1 with
    | ok lo st2 =>
      show Sat ((h ρ st2).bind _) okl er ↔ Sat (h ρ st2) _ er
      cases h ρ st2 with
      | ok hi st3 => exact s_of
      | err _ _ => exact Iff.rfl
      | stuck => exact Iff.rfl
    | err _ _ => exact Iff.rfl
    | stuck => exact Iff.rfl
  | err _ _ => exact Iff.rfl
  | stuck => exact Iff.rfl
/-! calls -/
@[simp] theorem s_call {m : List D → τ → Res τ D} {a : GA τ} : Sat (gCall m a ρ st) ok er ↔ Sat (a ρ st) (fun ds st => Sat (m ds st) ok er) er := by
  unfold gCall
  cases a ρ st <;> exact Iff.rfl
@[simp] theorem s_callN {m : List D → τ → Res τ (List D)} {a : GA τ} : Sat (gCallN m a ρ st) okl er ↔ Sat (a ρ st) (fun ds st => Sat (m ds st) okl er) er := by
  unfold gCallN
  cases a ρ st <;> exact Iff.rfl
@[simp] theorem s_callK {m : List D → τ → Res τ D} {pm : List Nat} {a : GA τ} : Sat (gCallK m pm a ρ st) ok er ↔ Sat (a ρ st) (fun ds st => Sat (m (pm.map fun i => ds.getD i .non) st) ok er) er := by
  unfold gCallK
  cases a ρ st <;> exact Iff.rfl
theorem s_made {cls : Str} {r : Res τ (List (Str × D))} : Sat (r.bind fun fs st => .ok (.ins cls fs) st) ok er ↔ Sat r (fun fs st => ok (.ins cls fs) st) er := by
  cases r <;> exact Iff.rfl
@[simp] theorem s_make {cls : Str} {m : List D → τ → Res τ (List (Str × D))} {a : GA τ} : Sat (gMake cls m a ρ st) ok er ↔ Sat (a ρ st) (fun ds st => Sat (m ds st) (fun fs st => ok (.ins cls fs) st) er) er := by
  unfold gMake
  cases a ρ st with
  | ok ds st1 => exact s_made
  | err _ _ => exact Iff.rfl
  | stuck => exact Iff.rfl
@[simp] theorem s_makeK {cls : Str} {m : List D → τ → Res τ (List (Str × D))} {pm : List Nat} {a : GA τ} : Sat (gMakeK cls m pm a ρ st) ok er ↔ Sat (a ρ st) (fun ds st => Sat (m (pm.map fun i => ds.getD i .non) st) (fun fs st => ok (.ins cls fs) st) er) er := by
  unfold gMakeK
  cases a ρ st with
  | ok ds st1 => exact s_made
  | err _ _ => exact Iff.rfl
  | stuck => exact Iff.rfl
def clsAt (cls : Str) : Option SV → Option Unit
  | some (.val (.cls c)) => if c = cls then some () else none
  | _ => none
@[simp] theorem clsAt_cls {cls : Str} : clsAt cls (some (.val (.cls cls))) = some () := if_pos rfl
@[simp] theorem s_makeL {i : Nat} {cls : Str} {m : List D → τ → Res τ (List (Str × D))} {a : GA τ} : Sat (gMakeL i cls m a ρ st) ok er ↔ Got (clsAt cls ρ[i]?) fun _ => Sat (a ρ st) (fun ds st => Sat (m ds st) (fun fs st => ok (.ins cls fs) st) er) er := by
  unfold gMakeL
  cases ρ[i]? with
  | none => exact ⟨fun h => h.elim, fun ⟨_, e, _⟩ => nomatch e⟩
  | some s =>
    cases s
    case val d =>
      cases d
      case cls c =>
        show Sat (if c = cls then gMake cls m a ρ st else .stuck) ok er ↔ Got (if c = cls then some () else none) _
        by_cases h : c = cls
        · rw [if_pos h, if_pos h, Got_some]; exact s_make
        · rw [if_neg h, if_neg h]; exact ⟨fun h => h.elim, fun ⟨_, e, _⟩ => nomatch e⟩
      all_goals exact ⟨fun h => h.elim, fun ⟨_, e, _⟩ => nomatch e⟩
    all_goals exact ⟨fun h => h.elim, fun ⟨_, e, _⟩ => nomatch e⟩
theorem s_ins {α : Type} {cls : Str} {d : D} {r : List (Str × D) → Res τ α} {ok : α → τ → Prop} : Sat (match d with | .ins C fs => if C = cls then r fs else .stuck | _ => .stuck) ok er ↔ Got (insOf cls d) fun fs => Sat (r fs) ok er := by
  cases d
  case ins C fs =>
    show Sat (if C = cls then r fs else .stuck) ok er ↔ Got (if C = cls then some fs else none) _
    by_cases h : C = cls
    · rw [if_pos h, if_pos h, Got_some]
    · rw [if_neg h, if_neg h]; exact ⟨fun h => h.elim, fun ⟨_, e, _⟩ => nomatch e⟩
  all_goals exact ⟨fun h => h.elim, fun ⟨_, e, _⟩ => nomatch e⟩
@[simp] theorem s_prop {cls : Str} {m : List D → τ → Res τ D} {g : GE τ} : Sat (gProp cls m g ρ st) ok er ↔ Sat (g ρ st) (fun d st => Got (insOf cls d) fun fs => Sat (m [.ins cls fs] st) ok fun _ _ => False) er := by
  unfold gProp
  cases g ρ st with
  | ok d st1 =>
    cases d
    case ins C fs =>
      show Sat (if C = cls then noErr (m [.ins C fs] st1) else .stuck) ok er ↔ Got (if C = cls then some fs else none) _
      by_cases h : C = cls
      · subst h; rw [if_pos rfl, if_pos rfl, Got_some, Sat.noErr_iff]
      · rw [if_neg h, if_neg h]; exact ⟨fun h => h.elim, fun ⟨_, e, _⟩ => nomatch e⟩
    all_goals exact ⟨fun h => h.elim, fun ⟨_, e, _⟩ => nomatch e⟩
  | err _ _ => exact Iff.rfl
  | stuck => exact Iff.rfl
/-- an own object of the class with no field of the method's name -/
def methOf (cls n : Str) : D → Option (List (Str × D))
  | .ins C fs => if C = cls ∧ fs.lookup n = none then some fs else none
  | _ => none
theorem methOf_ins {cls n : Str} {fs : List (Str × D)} (h : fs.lookup n = none) : methOf cls n (.ins cls fs) = some fs := if_pos ⟨rfl, h⟩
@[simp] theorem s_meth {cls n : Str} {m : List D → τ → Res τ D} {g : GE τ} {a : GA τ} : Sat (gMeth cls n m g a ρ st) ok er ↔ Sat (g ρ st) (fun d st => Got (methOf cls n d) fun fs => Sat (a ρ st) (fun ds st => Sat (m (.ins cls fs :: ds) st) ok er) er) er := by
  unfold gMeth
  cases g ρ st with
  | ok d st1 =>
    cases d
    case ins C fs =>
      show Sat (if C = cls ∧ fs.lookup n = none then (a ρ st1).bind fun ds st => m (.ins C fs :: ds) st else .stuck) ok er ↔ Got (if C = cls ∧ fs.lookup n = none then some fs else none) _
      by_cases h : C = cls ∧ fs.lookup n = none
      · obtain ⟨rfl, hl⟩ := h
        rw [if_pos ⟨rfl, hl⟩, if_pos ⟨rfl, hl⟩, Got_some]
        cases a ρ st1 <;> exact Iff.rfl
      · rw [if_neg h, if_neg h]; exact ⟨fun h => h.elim, fun ⟨_, e, _⟩ => nomatch e⟩
    all_goals exact ⟨fun h => h.elim, fun ⟨_, e, _⟩ => nomatch e⟩
  | err _ _ => exact Iff.rfl
  | stuck => exact Iff.rfl
@[simp] theorem s_methK {cls n : Str} {m : List D → τ → Res τ D} {pm : List Nat} {g : GE τ} {a : GA τ} : Sat (gMethK cls n m pm g a ρ st) ok er ↔ Sat (g ρ st) (fun d st => Got (methOf cls n d) fun fs => Sat (a ρ st) (fun ds st => Sat (m (.ins cls fs :: pm.map fun i => ds.getD i .non) st) ok er) er) er := by
  unfold gMethK
  cases g ρ st with
  | ok d st1 =>
    cases d
    case ins C fs =>
      show Sat (if C = cls ∧ fs.lookup n = none then (a ρ st1).bind fun ds st => m (.ins C fs :: pm.map fun i => ds.getD i .non) st else .stuck) ok er ↔ Got (if C = cls ∧ fs.lookup n = none then some fs else none) _
      by_cases h : C = cls ∧ fs.lookup n = none
      · obtain ⟨rfl, hl⟩ := h
        rw [if_pos ⟨rfl, hl⟩, if_pos ⟨rfl, hl⟩, Got_some]
        cases a ρ st1 <;> exact Iff.rfl
      · rw [if_neg h, if_neg h]; exact ⟨fun h => h.elim, fun ⟨_, e, _⟩ => nomatch e⟩
    all_goals exact ⟨fun h => h.elim, fun ⟨_, e, _⟩ => nomatch e⟩
  | err _ _ => exact Iff.rfl
  | stuck => exact Iff.rfl
@[simp] theorem s_meth0 {cls n : Str} {m : List D → τ → Res τ D} {g : GE τ} : Sat (gMeth0 cls n m g ρ st) ok er ↔ Sat (g ρ st) (fun d st => Got (methOf cls n d) fun fs => Sat (m [.ins cls fs] st) ok er) er := by
  unfold gMeth0
  cases g ρ st with
  | ok d st1 =>
    cases d
    case ins C fs =>
      show Sat (if C = cls ∧ fs.lookup n = none then m [.ins C fs] st1 else .stuck) ok er ↔ Got (if C = cls ∧ fs.lookup n = none then some fs else none) _
      by_cases h : C = cls ∧ fs.lookup n = none
      · obtain ⟨rfl, hl⟩ := h
        rw [if_pos ⟨rfl, hl⟩, if_pos ⟨rfl, hl⟩, Got_some]
      · rw [if_neg h, if_neg h]; exact ⟨fun h => h.elim, fun ⟨_, e, _⟩ => nomatch e⟩
    all_goals exact ⟨fun h => h.elim, fun ⟨_, e, _⟩ => nomatch e⟩
  | err _ _ => exact Iff.rfl
  | stuck => exact Iff.rfl
@[simp] theorem s_cmeth {cls : Str} {m : List D → τ → Res τ D} {a : GA τ} : Sat (gCMeth cls m a ρ st) ok er ↔ Sat (a ρ st) (fun ds st => Sat (m (.cls cls :: ds) st) ok er) er := by
  unfold gCMeth
  cases a ρ st <;> exact Iff.rfl
@[simp] theorem s_cmethK {cls : Str} {m : List D → τ → Res τ D} {pm : List Nat} {a : GA τ} : Sat (gCMethK cls m pm a ρ st) ok er ↔ Sat (a ρ st) (fun ds st => Sat (m (.cls cls :: pm.map fun i => ds.getD i .non) st) ok er) er := by
  unfold gCMethK
  cases a ρ st <;> exact Iff.rfl
@[simp] theorem s_strO {cls : Str} {m : List D → τ → Res τ D} {g : GE τ} : Sat (gStrO cls m g ρ st) ok er ↔ Sat (g ρ st) (fun d st => Got (insOf cls d) fun fs => Sat (m [.ins cls fs] st) (fun z st => Got (strOf z) fun y => ok (.str y) st) fun _ _ => False) er := by
  unfold gStrO
  cases g ρ st with
  | ok d st1 =>
    cases d
    case ins C fs =>
      show Sat (if C = cls then (noErr (m [.ins C fs] st1)).bind _ else .stuck) ok er ↔ Got (if C = cls then some fs else none) _
      by_cases h : C = cls
      · subst h
        rw [if_pos rfl, if_pos rfl, Got_some]
        cases m [.ins C fs] st1 with
        | ok z st2 =>
          show Sat ((Res.of (strOf z) st2).bind _) ok er ↔ Got (strOf z) _
          cases strOf z with
          | none => simp [Res.of, Res.bind, Sat]
          | some y => simp [Res.of, Res.bind]
        | err _ _ => exact ⟨fun h => h.elim, fun h => h.elim⟩
        | stuck => exact Iff.rfl
      · rw [if_neg h, if_neg h]; exact ⟨fun h => h.elim, fun ⟨_, e, _⟩ => nomatch e⟩
    all_goals exact ⟨fun h => h.elim, fun ⟨_, e, _⟩ => nomatch e⟩
  | err _ _ => exact Iff.rfl
  | stuck => exact Iff.rfl
@[simp] theorem s_eqO {neg : Bool} {known : List Str} {cls : Str} {m : List D → τ → Res τ D} {a b : GE τ} : Sat (gEqO neg known cls m a b ρ st) ok er ↔ Sat (a ρ st) (fun x st => Sat (b ρ st) (fun y st => Got (insOf cls x) fun fs => Ask (okTy known y = true) (Sat (m [.ins cls fs, y] st) (fun z st => Got (blOf z) fun c => ok (.bl (neg != c)) st) fun _ _ => False)) er) er := by
  unfold gEqO
  cases a ρ st with
  | ok x st1 =>
    show Sat ((b ρ st1).bind _) ok er ↔ Sat (b ρ st1) _ er
    cases b ρ st1 with
    | ok y st2 =>
      cases x
      case ins C fs =>
        show Sat (if C = cls ∧ okTy known y = true then (noErr (m [.ins C fs, y] st2)).bind _ else .stuck) ok er ↔ Got (if C = cls then some fs else none) _
        by_cases h : C = cls
        · subst h
          rw [if_pos rfl, Got_some]
          by_cases hy : okTy known y = true
          · rw [if_pos ⟨rfl, hy⟩]
            have e : ∀ P : Prop, Ask (okTy known y = true) P ↔ P := fun P => ⟨fun q => q.2, fun q => ⟨hy, q⟩⟩
            rw [e]
            cases m [.ins C fs, y] st2 with
            | ok z st3 =>
              show Sat ((Res.of (blOf z) st3).bind _) ok er ↔ Got (blOf z) _
              cases blOf z with
              | none => simp [Res.of, Res.bind, Sat]
              | some c => simp [Res.of, Res.bind]
            | err _ _ => exact ⟨fun h => h.elim, fun h => h.elim⟩
            | stuck => exact Iff.rfl
          · rw [if_neg (fun q => hy q.2)]; exact ⟨fun h => h.elim, fun q => absurd q.1 hy⟩
        · rw [if_neg (fun q => h q.1), if_neg h]; exact ⟨fun h => h.elim, fun ⟨_, e, _⟩ => nomatch e⟩
      all_goals exact ⟨fun h => h.elim, fun ⟨_, e, _⟩ => nomatch e⟩
    | err _ _ => exact Iff.rfl
    | stuck => exact Iff.rfl
  | err _ _ => exact Iff.rfl
  | stuck => exact Iff.rfl
@[simp] theorem s_fld {cls f : Str} {g : GE τ} : Sat (gFld cls f g ρ st) ok er ↔ Sat (g ρ st) (fun d st => Got (fldOf cls f d) fun e => ok e st) er := by
  unfold gFld
  cases g ρ st with
  | ok d st1 => exact s_of
  | err _ _ => exact Iff.rfl
  | stuck => exact Iff.rfl
@[simp] theorem s_self {cls f : Str} {i : Nat} : Sat (gSelf cls f i ρ st) ok er ↔ Got (ρ[i]?.bind (selfF cls f)) fun d => ok d st := s_of
@[simp] theorem s_js_nil {acc : Str} : Sat (gJs [] acc ρ st) ok er ↔ ok (.str acc) st := Iff.rfl
@[simp] theorem s_js {g : GE τ} {gs : List (GE τ)} {acc : Str} : Sat (gJs (g :: gs) acc ρ st) ok er ↔ Sat (g ρ st) (fun d st => Got (strOf d) fun y => Ask ((acc ++ y).length ≤ line) (Sat (gJs gs (acc ++ y) ρ st) ok er)) er := by
  show Sat ((g ρ st).bind fun d st => (Res.of (strOf d) st).bind fun y st => if (acc ++ y).length ≤ line then gJs gs (acc ++ y) ρ st else .stuck) ok er ↔ _
  cases g ρ st with
  | ok d st1 =>
    show Sat ((Res.of (strOf d) st1).bind _) ok er ↔ Got (strOf d) _
    cases strOf d with
    | none => simp [Res.of, Res.bind, Sat]
    | some y =>
      rw [Got_some]
      exact sat_if Iff.rfl
  | err _ _ => exact Iff.rfl
  | stuck => exact Iff.rfl
/-! what is walked -/
@[simp] theorem s_it {g : GE τ} : Sat (gIt g ρ st) okl er ↔ Sat (g ρ st) (fun d st => Got (iterD d) fun ds => okl ds st) er := by
  unfold gIt
  cases g ρ st with
  | ok d st1 => exact s_of
  | err _ _ => exact Iff.rfl
  | stuck => exact Iff.rfl
@[simp] theorem s_itF {g : GE τ} : Sat (gItF g ρ st) okl er ↔ Sat (g ρ st) (fun d st => Ask (borFree d = true) (Got (iterD d) fun ds => okl ds st)) er := by
  unfold gItF
  cases g ρ st with
  | ok d st1 => exact sat_if s_of
  | err _ _ => exact Iff.rfl
  | stuck => exact Iff.rfl
@[simp] theorem s_rng1 {a : GA τ} : Sat (gRng1 a ρ st) okl er ↔ Sat (a ρ st) (fun d st => Got (rng1 d) fun ds => okl ds st) er := by
  unfold gRng1
  cases a ρ st with
  | ok d st1 => exact s_of
  | err _ _ => exact Iff.rfl
  | stuck => exact Iff.rfl
@[simp] theorem s_rng2 {a : GA τ} : Sat (gRng2 a ρ st) okl er ↔ Sat (a ρ st) (fun d st => Got (rng2 d) fun ds => okl ds st) er := by
  unfold gRng2
  cases a ρ st with
  | ok d st1 => exact s_of
  | err _ _ => exact Iff.rfl
  | stuck => exact Iff.rfl
@[simp] theorem s_lc {gi : GI τ} {tg : D → Sl → Option Sl} {c : GT τ} {e : GE τ} {vs : List Nat} : Sat (gLc gi tg c e vs ρ st) okl er ↔ Sat (gi ρ st) (fun ds st => Ask (ds.length ≤ line) (Sat (lcGo tg c e (wipeS ρ vs) ds st) okl er)) er := by
  unfold gLc
  cases gi ρ st with
  | ok d st1 => exact sat_if Iff.rfl
  | err _ _ => exact Iff.rfl
  | stuck => exact Iff.rfl
/-! statements -/
@[simp] theorem s_next : SatS (sNext ρ st) k ↔ k (.nx ρ) st := Iff.rfl
@[simp] theorem s_break : SatS (sBreak ρ st) k ↔ k (.bk ρ) st := Iff.rfl
@[simp] theorem s_cont : SatS (sCont ρ st) k ↔ k (.ct ρ) st := Iff.rfl
theorem s_then {α : Type} {r : Res τ α} {f : α → τ → RS τ} {P : α → τ → Prop} (h : ∀ a st, SatS (f a st) k ↔ P a st) : SatS (PD.thenE r ρ f) k ↔ Sat r P (fun x st => k (.ex x ρ) st) := by
  cases r with
  | ok a st1 => exact h a st1
  | err _ _ => exact Iff.rfl
  | stuck => exact Iff.rfl
theorem sats_if {c : Prop} [Decidable c] {r : RS τ} {P : Prop} (h : SatS r k ↔ P) : SatS (if c then r else none) k ↔ Ask c P := by
  by_cases hc : c
  · rw [if_pos hc, h]; exact ⟨fun q => ⟨hc, q⟩, fun q => q.2⟩
  · rw [if_neg hc]; exact ⟨fun q => q.elim, fun q => hc q.1⟩
@[simp] theorem s_if {t : GT τ} {a b : GS τ} : SatS (sIf t a b ρ st) k ↔ Sat (t ρ st) (fun c st => Br c (Run a ρ st k) (Run b ρ st k)) (fun x st => k (.ex x ρ) st) :=
  s_then fun c st1 => by cases c <;> simp [Run]
@[simp] theorem s_ret {g : GE τ} : SatS (sRet g ρ st) k ↔ Sat (g ρ st) (fun d st => Ask (borFree d = true) (k (.rt d) st)) (fun x st => k (.ex x ρ) st) :=
  s_then fun d st1 => sats_if Iff.rfl
@[simp] theorem s_retN {g : GI τ} : SatS (sRetN g ρ st) k ↔ Sat (g ρ st) (fun d st => k (.rn d) st) (fun x st => k (.ex x ρ) st) :=
  s_then fun d st1 => Iff.rfl
@[simp] theorem s_retO {i : Nat} : SatS (sRetO i ρ st) k ↔ Got (ownOf ρ[i]?) fun xs => k (.rn xs) st := by
  unfold sRetO
  cases ρ[i]? with
  | none => exact ⟨fun h => h.elim, fun ⟨_, e, _⟩ => nomatch e⟩
  | some s =>
    cases s
    case own xs => exact got_iff Iff.rfl
    all_goals exact ⟨fun h => h.elim, fun ⟨_, e, _⟩ => nomatch e⟩
@[simp] theorem s_retV : SatS (sRetV ρ st) k ↔ k (.rt .non) st := Iff.rfl
@[simp] theorem s_drop {g : GE τ} : SatS (sDrop g ρ st) k ↔ Sat (g ρ st) (fun d st => k (.nx ρ) st) (fun x st => k (.ex x ρ) st) :=
  s_then fun d st1 => Iff.rfl
@[simp] theorem s_asg {t : D → Sl → Option Sl} {g : GE τ} : SatS (sAsg t g ρ st) k ↔ Sat (g ρ st) (fun d st => Ask (borFree d = true) (Got (t d ρ) fun ρ' => k (.nx ρ') st)) (fun x st => k (.ex x ρ) st) :=
  s_then fun d st1 => sats_if (by
    cases t d ρ with
    | none => exact ⟨fun h => h.elim, fun ⟨_, e, _⟩ => nomatch e⟩
    | some ρ' => exact got_iff Iff.rfl)
@[simp] theorem s_own {i : Nat} {g : GI τ} : SatS (sOwn i g ρ st) k ↔ Sat (g ρ st) (fun ds st => Ask (i < ρ.length) (k (.nx (ρ.set i (.own ds))) st)) (fun x st => k (.ex x ρ) st) :=
  s_then fun d st1 => sats_if Iff.rfl
@[simp] theorem s_sfz {i : Nat} {g : GS τ} : SatS (sFz i g ρ st) k ↔ SatS (g (fz i ρ) st) k := Iff.rfl
@[simp] theorem s_app {i : Nat} {g : GE τ} : SatS (sApp i g ρ st) k ↔ Got (ownOf ρ[i]?) fun xs => Sat (g ρ st) (fun d st => Ask (borFree d = true ∧ xs.length < line) (k (.nx (ρ.set i (.own (xs ++ [d])))) st)) (fun x st => k (.ex x ρ) st) := by
  unfold sApp
  cases ownOf ρ[i]? with
  | none => exact ⟨fun h => h.elim, fun ⟨_, e, _⟩ => nomatch e⟩
  | some xs =>
    rw [Got_some]
    exact s_then fun d st1 => sats_if Iff.rfl
@[simp] theorem s_put {i : Nat} {gv gk : GE τ} : SatS (sPut i gv gk ρ st) k ↔ Got (ownOf ρ[i]?) fun xs => Sat (gv ρ st) (fun d st => Sat (gk ρ st) (fun k' st => Got (intOf k') fun z => Ask (borFree d = true) (Got (ixN xs.length z) fun j => k (.nx (ρ.set i (.own (xs.set j d)))) st)) (fun x st => k (.ex x ρ) st)) (fun x st => k (.ex x ρ) st) := by
  unfold sPut
  cases ownOf ρ[i]? with
  | none => exact ⟨fun h => h.elim, fun ⟨_, e, _⟩ => nomatch e⟩
  | some xs =>
    rw [Got_some]
    refine s_then fun d st1 => s_then fun k' st2 => ?_
    cases intOf k' with
    | none => exact ⟨fun h => h.elim, fun ⟨_, e, _⟩ => nomatch e⟩
    | some z =>
      rw [Got_some]
      refine sats_if ?_
      cases ixN xs.length z with
      | none => exact ⟨fun h => h.elim, fun ⟨_, e, _⟩ => nomatch e⟩
      | some j => exact got_iff Iff.rfl
@[simp] theorem s_appPop {i j : Nat} {g : GE τ} (hij : i ≠ j) : SatS (sAppPop i j g ρ st) k ↔ Got (ownOf ρ[i]?) fun xs => Got (ownOf ρ[j]?) fun ys => Sat (g ρ st) (fun d st => Got (intOf d) fun z => Ask (xs.length < line ∧ 0 ≤ z ∧ z < 2 ^ 63) (Got ys[z.toNat]? fun y => k (.nx ((ρ.set j (.own (ys.eraseIdx z.toNat))).set i (.own (xs ++ [y])))) st)) (fun x st => k (.ex x ρ) st) := by
  unfold sAppPop
  cases ownOf ρ[i]? with
  | none => exact ⟨fun h => h.elim, fun ⟨_, e, _⟩ => nomatch e⟩
  | some xs =>
    cases ownOf ρ[j]? with
    | none => exact ⟨fun h => h.elim, fun ⟨_, e, h⟩ => by cases e; obtain ⟨_, e, _⟩ := h; cases e⟩
    | some ys =>
      rw [Got_some, Got_some, if_pos ⟨⟨rfl, rfl⟩, hij⟩]
      refine s_then fun d st1 => ?_
      cases intOf d with
      | none => exact ⟨fun h => h.elim, fun ⟨_, e, _⟩ => nomatch e⟩
      | some z =>
        rw [Got_some]
        refine sats_if ?_
        cases ys[z.toNat]? with
        | none => exact ⟨fun h => h.elim, fun ⟨_, e, _⟩ => nomatch e⟩
        | some y => exact got_iff Iff.rfl
@[simp] theorem s_raise {cls fld : Str} {g : GE τ} : SatS (sRaise cls fld g ρ st) k ↔ Sat (g ρ st) (fun d st => Ask (borFree d = true) (k (.ex ⟨cls, fld, d⟩ ρ) st)) (fun x st => k (.ex x ρ) st) :=
  s_then fun d st1 => sats_if Iff.rfl
@[simp] theorem s_putF {cls f : Str} {i : Nat} {g : GE τ} : SatS (sPutF cls f i g ρ st) k ↔ Sat (g ρ st) (fun d st => Got (objOf cls ρ[i]?) fun fs => Ask (fs.length < 900 ∧ borFree d = true) (k (.nx (ρ.set i (.obj cls (putD f d fs)))) st)) (fun x st => k (.ex x ρ) st) :=
  s_then fun d st1 => by
    cases ρ[i]? with
    | none => exact ⟨fun h => h.elim, fun ⟨_, e, _⟩ => nomatch e⟩
    | some s =>
      cases s
      case obj C fs =>
        show SatS (if (C = cls ∧ fs.length < 900) ∧ borFree d = true then _ else none) k ↔ Got (if C = cls then some fs else none) _
        by_cases h : C = cls
        · subst h
          rw [if_pos (show C = C from rfl), Got_some]
          by_cases h2 : fs.length < 900 ∧ borFree d = true
          · rw [if_pos ⟨⟨rfl, h2.1⟩, h2.2⟩]; exact ⟨fun q => ⟨h2, q⟩, fun q => q.2⟩
          · rw [if_neg (fun q => h2 ⟨q.1.2, q.2⟩)]; exact ⟨fun q => q.elim, fun q => h2 q.1⟩
        · rw [if_neg (fun q => h q.1.1), if_neg h]; exact ⟨fun h => h.elim, fun ⟨_, e, _⟩ => nomatch e⟩
      all_goals exact ⟨fun h => h.elim, fun ⟨_, e, _⟩ => nomatch e⟩
@[simp] theorem s_try {known : List Str} {hs : List Hd} {g : GS τ} : SatS (sTry known g hs ρ st) k ↔ SatS (g ρ st) (tryK known hs k) := by
  unfold sTry
  cases g ρ st with
  | none => exact Iff.rfl
  | some p =>
    obtain ⟨f, st'⟩ := p
    cases f with
    | ex x ρ' => 
      show SatS (if x.cls ∈ known then caught hs x ρ' st' else none) k ↔ (x.cls ∈ known ∧ SatS (caught hs x ρ' st') k)
      by_cases h : x.cls ∈ known
      · rw [if_pos h]; exact ⟨fun q => ⟨h, q⟩, fun q => q.2⟩
      · rw [if_neg h]; exact ⟨fun q => q.elim, fun q => h q.1⟩
    | nx _ => exact Iff.rfl
    | rt _ => exact Iff.rfl
    | rn _ => exact Iff.rfl
    | bk _ => exact Iff.rfl
    | ct _ => exact Iff.rfl
/-! ends -/
@[simp] theorem tryK_rt {known : List Str} {hs : List Hd} {d : D} : tryK known hs k (.rt d) st ↔ k (.rt d) st := Iff.rfl
@[simp] theorem tryK_rn {known : List Str} {hs : List Hd} {d : List D} : tryK known hs k (.rn d) st ↔ k (.rn d) st := Iff.rfl
@[simp] theorem tryK_nx {known : List Str} {hs : List Hd} : tryK known hs k (.nx ρ) st ↔ k (.nx ρ) st := Iff.rfl
@[simp] theorem fnK_rt {d : D} : fnK ok er (.rt d) st ↔ ok d st := Iff.rfl
@[simp] theorem fnK_rn {d : List D} : fnK ok er (.rn d) st ↔ ok (.lst d) st := Iff.rfl
@[simp] theorem fnK_nx : fnK ok er (.nx ρ) st ↔ ok .non st := Iff.rfl
@[simp] theorem fnK_ex {x : Exn} : fnK ok er (.ex x ρ) st ↔ er x st := Iff.rfl
@[simp] theorem fnNK_rn {d : List D} : fnNK okl er (.rn d) st ↔ okl d st := Iff.rfl
@[simp] theorem fnNK_ex {x : Exn} : fnNK okl er (.ex x ρ) st ↔ er x st := Iff.rfl
@[simp] theorem fnIK_nx {cls : Str} {okf : List (Str × D) → τ → Prop} : fnIK cls okf er (.nx ρ) st ↔ Got (objOf cls ρ[0]?) fun fs => okf fs st := by
  show (∃ fs, ρ[0]? = some (.obj cls fs) ∧ okf fs st) ↔ _
  cases ρ[0]? with
  | none => exact ⟨fun ⟨_, e, _⟩ => (nomatch e), fun ⟨_, e, _⟩ => (nomatch e)⟩
  | some s =>
    cases s
    case obj C fs =>
      constructor
      · rintro ⟨fs', e, h⟩
        cases e
        rw [objOf_obj, Got_some]; exact h
      · rintro ⟨fs', e, h⟩
        have e : (if C = cls then some fs else none) = some fs' := e
        by_cases hc : C = cls
        · subst hc; rw [if_pos rfl] at e; cases e; exact ⟨_, rfl, h⟩
        · rw [if_neg hc] at e; cases e
    all_goals exact ⟨fun ⟨_, e, _⟩ => (nomatch e), fun ⟨_, e, _⟩ => (nomatch e)⟩
@[simp] theorem fnIK_ex {cls : Str} {okf : List (Str × D) → τ → Prop} {x : Exn} : fnIK cls okf er (.ex x ρ) st ↔ er x st := Iff.rfl
theorem eq_ok {α : Type} {r : Res τ α} {x : α} (h : Sat r (fun d st' => d = x ∧ st' = st) fun _ _ => False) : r = .ok x st := by
  cases r with
  | ok a st1 => obtain ⟨rfl, rfl⟩ := h; rfl
  | err _ _ => exact h.elim
  | stuck => exact h.elim
theorem eq_err {α : Type} {r : Res τ α} {x : Exn} (h : Sat r (fun _ _ => False) fun e st' => e = x ∧ st' = st) : r = .err x st := by
  cases r with
  | ok _ _ => exact h.elim
  | err e st1 => obtain ⟨rfl, rfl⟩ := h; rfl
  | stuck => exact h.elim
end
theorem kb_NoneType_int : kitB "NoneType" "int" = some false := by decide +kernel
theorem kb_bool_int : kitB "bool" "int" = some true := by decide +kernel
theorem kb_int_int : kitB "int" "int" = some true := by decide +kernel
theorem kb_str_int : kitB "str" "int" = some false := by decide +kernel
theorem kb_tuple_int : kitB "tuple" "int" = some false := by decide +kernel
theorem kb_list_int : kitB "list" "int" = some false := by decide +kernel
theorem kb_dict_int : kitB "dict" "int" = some false := by decide +kernel
@[simp] theorem isi_int_non  : isiD "int" (.non) = some (.bl false) := by show (kitB "NoneType" "int").map D.bl = _; rw [kb_NoneType_int]; rfl
@[simp] theorem isi_int_bl (b : Bool) : isiD "int" (.bl b) = some (.bl true) := by show (kitB "bool" "int").map D.bl = _; rw [kb_bool_int]; rfl
@[simp] theorem isi_int_int (b : Int) : isiD "int" (.int b) = some (.bl true) := by show (kitB "int" "int").map D.bl = _; rw [kb_int_int]; rfl
@[simp] theorem isi_int_str (b : Str) : isiD "int" (.str b) = some (.bl false) := by show (kitB "str" "int").map D.bl = _; rw [kb_str_int]; rfl
@[simp] theorem isi_int_tup (b : List D) : isiD "int" (.tup b) = some (.bl false) := by show (kitB "tuple" "int").map D.bl = _; rw [kb_tuple_int]; rfl
@[simp] theorem isi_int_lst (b : List D) : isiD "int" (.lst b) = some (.bl false) := by show (kitB "list" "int").map D.bl = _; rw [kb_list_int]; rfl
@[simp] theorem isi_int_bor (b : List D) : isiD "int" (.bor b) = some (.bl false) := by show (kitB "list" "int").map D.bl = _; rw [kb_list_int]; rfl
@[simp] theorem isi_int_dct (b : List (D × D)) : isiD "int" (.dct b) = some (.bl false) := by show (kitB "dict" "int").map D.bl = _; rw [kb_dict_int]; rfl
theorem kb_NoneType_bool : kitB "NoneType" "bool" = some false := by decide +kernel
theorem kb_bool_bool : kitB "bool" "bool" = some true := by decide +kernel
theorem kb_int_bool : kitB "int" "bool" = some false := by decide +kernel
theorem kb_str_bool : kitB "str" "bool" = some false := by decide +kernel
theorem kb_tuple_bool : kitB "tuple" "bool" = some false := by decide +kernel
theorem kb_list_bool : kitB "list" "bool" = some false := by decide +kernel
theorem kb_dict_bool : kitB "dict" "bool" = some false := by decide +kernel
@[simp] theorem isi_bool_non  : isiD "bool" (.non) = some (.bl false) := by show (kitB "NoneType" "bool").map D.bl = _; rw [kb_NoneType_bool]; rfl
@[simp] theorem isi_bool_bl (b : Bool) : isiD "bool" (.bl b) = some (.bl true) := by show (kitB "bool" "bool").map D.bl = _; rw [kb_bool_bool]; rfl
@[simp] theorem isi_bool_int (b : Int) : isiD "bool" (.int b) = some (.bl false) := by show (kitB "int" "bool").map D.bl = _; rw [kb_int_bool]; rfl
@[simp] theorem isi_bool_str (b : Str) : isiD "bool" (.str b) = some (.bl false) := by show (kitB "str" "bool").map D.bl = _; rw [kb_str_bool]; rfl
@[simp] theorem isi_bool_tup (b : List D) : isiD "bool" (.tup b) = some (.bl false) := by show (kitB "tuple" "bool").map D.bl = _; rw [kb_tuple_bool]; rfl
@[simp] theorem isi_bool_lst (b : List D) : isiD "bool" (.lst b) = some (.bl false) := by show (kitB "list" "bool").map D.bl = _; rw [kb_list_bool]; rfl
@[simp] theorem isi_bool_bor (b : List D) : isiD "bool" (.bor b) = some (.bl false) := by show (kitB "list" "bool").map D.bl = _; rw [kb_list_bool]; rfl
@[simp] theorem isi_bool_dct (b : List (D × D)) : isiD "bool" (.dct b) = some (.bl false) := by show (kitB "dict" "bool").map D.bl = _; rw [kb_dict_bool]; rfl
theorem kb_NoneType_str : kitB "NoneType" "str" = some false := by decide +kernel
theorem kb_bool_str : kitB "bool" "str" = some false := by decide +kernel
theorem kb_int_str : kitB "int" "str" = some false := by decide +kernel
theorem kb_str_str : kitB "str" "str" = some true := by decide +kernel
theorem kb_tuple_str : kitB "tuple" "str" = some false := by decide +kernel
theorem kb_list_str : kitB "list" "str" = some false := by decide +kernel
theorem kb_dict_str : kitB "dict" "str" = some false := by decide +kernel
@[simp] theorem isi_str_non  : isiD "str" (.non) = some (.bl false) := by show (kitB "NoneType" "str").map D.bl = _; rw [kb_NoneType_str]; rfl
@[simp] theorem isi_str_bl (b : Bool) : isiD "str" (.bl b) = some (.bl false) := by show (kitB "bool" "str").map D.bl = _; rw [kb_bool_str]; rfl
@[simp] theorem isi_str_int (b : Int) : isiD "str" (.int b) = some (.bl false) := by show (kitB "int" "str").map D.bl = _; rw [kb_int_str]; rfl
@[simp] theorem isi_str_str (b : Str) : isiD "str" (.str b) = some (.bl true) := by show (kitB "str" "str").map D.bl = _; rw [kb_str_str]; rfl
@[simp] theorem isi_str_tup (b : List D) : isiD "str" (.tup b) = some (.bl false) := by show (kitB "tuple" "str").map D.bl = _; rw [kb_tuple_str]; rfl
@[simp] theorem isi_str_lst (b : List D) : isiD "str" (.lst b) = some (.bl false) := by show (kitB "list" "str").map D.bl = _; rw [kb_list_str]; rfl
@[simp] theorem isi_str_bor (b : List D) : isiD "str" (.bor b) = some (.bl false) := by show (kitB "list" "str").map D.bl = _; rw [kb_list_str]; rfl
@[simp] theorem isi_str_dct (b : List (D × D)) : isiD "str" (.dct b) = some (.bl false) := by show (kitB "dict" "str").map D.bl = _; rw [kb_dict_str]; rfl
theorem kb_NoneType_tuple : kitB "NoneType" "tuple" = some false := by decide +kernel
theorem kb_bool_tuple : kitB "bool" "tuple" = some false := by decide +kernel
theorem kb_int_tuple : kitB "int" "tuple" = some false := by decide +kernel
theorem kb_str_tuple : kitB "str" "tuple" = some false := by decide +kernel
theorem kb_tuple_tuple : kitB "tuple" "tuple" = some true := by decide +kernel
theorem kb_list_tuple : kitB "list" "tuple" = some false := by decide +kernel
theorem kb_dict_tuple : kitB "dict" "tuple" = some false := by decide +kernel
@[simp] theorem isi_tuple_non  : isiD "tuple" (.non) = some (.bl false) := by show (kitB "NoneType" "tuple").map D.bl = _; rw [kb_NoneType_tuple]; rfl
@[simp] theorem isi_tuple_bl (b : Bool) : isiD "tuple" (.bl b) = some (.bl false) := by show (kitB "bool" "tuple").map D.bl = _; rw [kb_bool_tuple]; rfl
@[simp] theorem isi_tuple_int (b : Int) : isiD "tuple" (.int b) = some (.bl false) := by show (kitB "int" "tuple").map D.bl = _; rw [kb_int_tuple]; rfl
@[simp] theorem isi_tuple_str (b : Str) : isiD "tuple" (.str b) = some (.bl false) := by show (kitB "str" "tuple").map D.bl = _; rw [kb_str_tuple]; rfl
@[simp] theorem isi_tuple_tup (b : List D) : isiD "tuple" (.tup b) = some (.bl true) := by show (kitB "tuple" "tuple").map D.bl = _; rw [kb_tuple_tuple]; rfl
@[simp] theorem isi_tuple_lst (b : List D) : isiD "tuple" (.lst b) = some (.bl false) := by show (kitB "list" "tuple").map D.bl = _; rw [kb_list_tuple]; rfl
@[simp] theorem isi_tuple_bor (b : List D) : isiD "tuple" (.bor b) = some (.bl false) := by show (kitB "list" "tuple").map D.bl = _; rw [kb_list_tuple]; rfl
@[simp] theorem isi_tuple_dct (b : List (D × D)) : isiD "tuple" (.dct b) = some (.bl false) := by show (kitB "dict" "tuple").map D.bl = _; rw [kb_dict_tuple]; rfl
theorem kb_NoneType_list : kitB "NoneType" "list" = some false := by decide +kernel
theorem kb_bool_list : kitB "bool" "list" = some false := by decide +kernel
theorem kb_int_list : kitB "int" "list" = some false := by decide +kernel
theorem kb_str_list : kitB "str" "list" = some false := by decide +kernel
theorem kb_tuple_list : kitB "tuple" "list" = some false := by decide +kernel
theorem kb_list_list : kitB "list" "list" = some true := by decide +kernel
theorem kb_dict_list : kitB "dict" "list" = some false := by decide +kernel
@[simp] theorem isi_list_non  : isiD "list" (.non) = some (.bl false) := by show (kitB "NoneType" "list").map D.bl = _; rw [kb_NoneType_list]; rfl
@[simp] theorem isi_list_bl (b : Bool) : isiD "list" (.bl b) = some (.bl false) := by show (kitB "bool" "list").map D.bl = _; rw [kb_bool_list]; rfl
@[simp] theorem isi_list_int (b : Int) : isiD "list" (.int b) = some (.bl false) := by show (kitB "int" "list").map D.bl = _; rw [kb_int_list]; rfl
@[simp] theorem isi_list_str (b : Str) : isiD "list" (.str b) = some (.bl false) := by show (kitB "str" "list").map D.bl = _; rw [kb_str_list]; rfl
@[simp] theorem isi_list_tup (b : List D) : isiD "list" (.tup b) = some (.bl false) := by show (kitB "tuple" "list").map D.bl = _; rw [kb_tuple_list]; rfl
@[simp] theorem isi_list_lst (b : List D) : isiD "list" (.lst b) = some (.bl true) := by show (kitB "list" "list").map D.bl = _; rw [kb_list_list]; rfl
@[simp] theorem isi_list_bor (b : List D) : isiD "list" (.bor b) = some (.bl true) := by show (kitB "list" "list").map D.bl = _; rw [kb_list_list]; rfl
@[simp] theorem isi_list_dct (b : List (D × D)) : isiD "list" (.dct b) = some (.bl false) := by show (kitB "dict" "list").map D.bl = _; rw [kb_dict_list]; rfl
theorem kb_NoneType_dict : kitB "NoneType" "dict" = some false := by decide +kernel
theorem kb_bool_dict : kitB "bool" "dict" = some false := by decide +kernel
theorem kb_int_dict : kitB "int" "dict" = some false := by decide +kernel
theorem kb_str_dict : kitB "str" "dict" = some false := by decide +kernel
theorem kb_tuple_dict : kitB "tuple" "dict" = some false := by decide +kernel
theorem kb_list_dict : kitB "list" "dict" = some false := by decide +kernel
theorem kb_dict_dict : kitB "dict" "dict" = some true := by decide +kernel
@[simp] theorem isi_dict_non  : isiD "dict" (.non) = some (.bl false) := by show (kitB "NoneType" "dict").map D.bl = _; rw [kb_NoneType_dict]; rfl
@[simp] theorem isi_dict_bl (b : Bool) : isiD "dict" (.bl b) = some (.bl false) := by show (kitB "bool" "dict").map D.bl = _; rw [kb_bool_dict]; rfl
@[simp] theorem isi_dict_int (b : Int) : isiD "dict" (.int b) = some (.bl false) := by show (kitB "int" "dict").map D.bl = _; rw [kb_int_dict]; rfl
@[simp] theorem isi_dict_str (b : Str) : isiD "dict" (.str b) = some (.bl false) := by show (kitB "str" "dict").map D.bl = _; rw [kb_str_dict]; rfl
@[simp] theorem isi_dict_tup (b : List D) : isiD "dict" (.tup b) = some (.bl false) := by show (kitB "tuple" "dict").map D.bl = _; rw [kb_tuple_dict]; rfl
@[simp] theorem isi_dict_lst (b : List D) : isiD "dict" (.lst b) = some (.bl false) := by show (kitB "list" "dict").map D.bl = _; rw [kb_list_dict]; rfl
@[simp] theorem isi_dict_bor (b : List D) : isiD "dict" (.bor b) = some (.bl false) := by show (kitB "list" "dict").map D.bl = _; rw [kb_list_dict]; rfl
@[simp] theorem isi_dict_dct (b : List (D × D)) : isiD "dict" (.dct b) = some (.bl true) := by show (kitB "dict" "dict").map D.bl = _; rw [kb_dict_dict]; rfl
@[simp] theorem tgName_eq {i : Nat} {d : D} {ρ : Sl} : tgName i d ρ = if i < ρ.length then some (ρ.set i (.val d)) else none := rfl
@[simp] theorem tgTup_eq {n : Nat} {u : List D → Sl → Option Sl} {ds : List D} {ρ : Sl} : tgTup n u (.tup ds) ρ = if ds.length = n then u ds ρ else none := rfl
@[simp] theorem tgCons_eq {t : D → Sl → Option Sl} {u : List D → Sl → Option Sl} {d : D} {ds : List D} {ρ : Sl} : tgCons t u (d :: ds) ρ = (t d ρ).bind (u ds) := rfl
@[simp] theorem tgNil_eq {ρ : Sl} : tgNil [] ρ = some ρ := rfl
@[simp] theorem fz_eq {i : Nat} {ρ : Sl} : fz i ρ = match ρ[i]? with
  | some (.own xs) => ρ.set i (.val (.lst xs))
  | _ => ρ := rfl
@[simp] theorem freeL_nil : freeL [] = true := rfl
@[simp] theorem freeL_cons {d : D} {ds : List D} : freeL (d :: ds) = (borFree d && (ds.all borFree && decide (ds.length + 1 ≤ line))) := by
  simp only [freeL, List.all_cons, List.length_cons, Bool.and_assoc]
@[simp] theorem line_val : line = 16777216 := rfl
@[simp] theorem dIn_eq {x y : D} : dIn x y = (inD x y).map .bl := rfl
@[simp] theorem dNotIn_eq {x y : D} : dNotIn x y = (inD x y).map fun b => .bl (!b) := rfl
@[simp] theorem wipeS_nil {ρ : Sl} : wipeS ρ [] = ρ := rfl
@[simp] theorem wipeS_cons {ρ : Sl} {v : Nat} {vs : List Nat} : wipeS ρ (v :: vs) = (wipeS ρ vs).set v .un := rfl
theorem atI_nat {α : Type} (xs : List α) (n : Nat) : L2.atI xs (n : Int) = xs[n]? := by
  unfold L2.atI L2.ixN
  by_cases h : n < xs.length
  · simp [h]
  · simp [h]
@[simp] theorem atI_0 {α : Type} (xs : List α) : L2.atI xs 0 = xs[0]? := atI_nat xs 0
@[simp] theorem atI_1 {α : Type} (xs : List α) : L2.atI xs 1 = xs[1]? := atI_nat xs 1
@[simp] theorem atI_2 {α : Type} (xs : List α) : L2.atI xs 2 = xs[2]? := atI_nat xs 2
@[simp] theorem atI_3 {α : Type} (xs : List α) : L2.atI xs 3 = xs[3]? := atI_nat xs 3
@[simp] theorem atI_4 {α : Type} (xs : List α) : L2.atI xs 4 = xs[4]? := atI_nat xs 4
@[simp] theorem atI_5 {α : Type} (xs : List α) : L2.atI xs 5 = xs[5]? := atI_nat xs 5
@[simp] theorem atI_6 {α : Type} (xs : List α) : L2.atI xs 6 = xs[6]? := atI_nat xs 6
@[simp] theorem atI_7 {α : Type} (xs : List α) : L2.atI xs 7 = xs[7]? := atI_nat xs 7
@[simp] theorem atI_8 {α : Type} (xs : List α) : L2.atI xs 8 = xs[8]? := atI_nat xs 8
@[simp] theorem atI_9 {α : Type} (xs : List α) : L2.atI xs 9 = xs[9]? := atI_nat xs 9
@[simp] theorem atI_10 {α : Type} (xs : List α) : L2.atI xs 10 = xs[10]? := atI_nat xs 10
@[simp] theorem atI_11 {α : Type} (xs : List α) : L2.atI xs 11 = xs[11]? := atI_nat xs 11
@[simp] theorem atI_12 {α : Type} (xs : List α) : L2.atI xs 12 = xs[12]? := atI_nat xs 12
@[simp] theorem atI_13 {α : Type} (xs : List α) : L2.atI xs 13 = xs[13]? := atI_nat xs 13
@[simp] theorem atI_14 {α : Type} (xs : List α) : L2.atI xs 14 = xs[14]? := atI_nat xs 14
@[simp] theorem atI_15 {α : Type} (xs : List α) : L2.atI xs 15 = xs[15]? := atI_nat xs 15
@[simp] theorem atI_16 {α : Type} (xs : List α) : L2.atI xs 16 = xs[16]? := atI_nat xs 16
@[simp] theorem atI_17 {α : Type} (xs : List α) : L2.atI xs 17 = xs[17]? := atI_nat xs 17
@[simp] theorem atI_18 {α : Type} (xs : List α) : L2.atI xs 18 = xs[18]? := atI_nat xs 18
@[simp] theorem ixD_tI {ds : List D} {i : Int} : ixD (.tup ds) (.int i) = L2.atI ds i := rfl
@[simp] theorem ixD_lI {ds : List D} {i : Int} : ixD (.lst ds) (.int i) = L2.atI ds i := rfl
@[simp] theorem ixD_bI {ds : List D} {i : Int} : ixD (.bor ds) (.int i) = L2.atI ds i := rfl
theorem ixN_of {n : Nat} {i : Nat} (h : i < n) : ixN n (i : Int) = some i := by
  simp [ixN]; omega
theorem ixD_tup {ds : List D} {i : Nat} {d : D} (h : ds[i]? = some d) : ixD (.tup ds) (.int (i : Nat)) = some d := by
  have hl : i < ds.length := (List.getElem?_eq_some_iff.mp h).1
  show L2.atI ds (i : Int) = some d
  unfold L2.atI
  rw [ixN_of hl]; exact h
theorem ixD_lst {ds : List D} {i : Nat} {d : D} (h : ds[i]? = some d) : ixD (.lst ds) (.int (i : Nat)) = some d := ixD_tup (ds := ds) h
theorem ixD_bor {ds : List D} {i : Nat} {d : D} (h : ds[i]? = some d) : ixD (.bor ds) (.int (i : Nat)) = some d := ixD_tup (ds := ds) h
end PD

namespace PD
open PySem PySem.Spec PyProof.Rows L2
section
variable {τ : Type} {P : Pm} {R : τ → Hp → Prop} {W : WX}
/-- for x in name: a value, or a list that somebody else owns -/
def gItV (i : Nat) : GI τ := fun ρ st => match ρ[i]? with
  | some (.bor xs) => .ok xs st
  | _ => gItF (gVar i) ρ st
theorem evs_forV {K : PySem.W.Frag} (hK : K = P.K) {vs : List Nat} {i : Nat} {g : TG} {tb : TS} {t : D → Sl → Option Sl} {body : GS τ} (ht : TgD P R vs g t) (hb : EvS P R W tb body) : EvS P R W (tFor (iAll K (tVar i)) g tb) (sFor (gItV i) t body) := by
  intro F B M H σ ρ st w D hs
  have other : SatS (sFor (gItF (gVar i)) t body ρ st) (EndK P R W F M H (Own ρ σ) D) → tFor (iAll K (tVar i)) g tb D σ H := fun h => evs_for (evj_all hK (ev_var i)) ht hb F B M H σ ρ st w D h
  unfold sFor gItV at hs
  cases e : ρ[i]? with
  | none => rw [e] at hs; exact other hs
  | some s =>
    rw [e] at hs
    cases s
    case bor ds =>
      subst hK
      replace hs : SatS (sForGo t body ds ρ st) (EndK P R W F M H (Own ρ σ) D) := hs
      obtain ⟨o, e2, a, us, rfl, ea, rs⟩ := w.slot e
      have hHa := w.pre.b _ _ ea
      have nM : M a = none := (w.pre.bm a).resolve_left (ne_some ea)
      have nO : ¬ Own ρ σ a := fun ⟨j, s, h1, h0, h2⟩ => by
        by_cases hj : j = i
        · subst hj; rw [e] at h1; cases h1; cases h0
        · exact w.dj j i s _ a hj h1 e h0 rfl h2 e2
      have ok : ItOk P F (fun b => if b = a then some (.lst us) else none) (Itl P.K a) ds := itok_list (fun H' _ b => .of (b _ _ (if_pos rfl))) rs
      have bo : ∀ {F2 M2 H2 : Hp} {O2 : Addr → Prop}, ExtS F M H (Own ρ σ) F2 M2 H2 O2 → Same (fun b => if b = a then some (.lst us) else none) H2 := fun E b o q => by
        replace q : (if b = a then some (HO.lst us) else none) = some o := q
        by_cases hb : b = a
        · subst hb; rw [if_pos rfl] at q; cases q; exact E.keep _ _ hHa nM nO
        · rw [if_neg hb] at q; cases q
      refine .inl ⟨.ref a, e2, a, rfl, ⟨us, .of hHa⟩, ?_⟩
      refine ⟨fun i m σ2 H2 => m = ds.length - i ∧ i ≤ ds.length ∧ ∃ F2 B2 M2 ρ2 st2, ExtS F M H (Own ρ σ) F2 M2 H2 (Own ρ2 σ2) ∧ WI P R F2 B2 M2 H2 σ2 ρ2 st2 ∧ SatS (sForGo t body (ds.drop i) ρ2 st2) (EndK P R W F M H (Own ρ σ) D), ⟨_, rfl, Nat.zero_le _, F, B, M, ρ, st, .of (.refl w.pre), w, hs⟩, ?_⟩
      rintro i m σ2 H2 ⟨rfl, hi, F2, B2, M2, ρ2, st2, E2, w2, sat⟩
      by_cases hlt : i < ds.length
      · have hdrop : ds.drop i = ds[i] :: ds.drop (i + 1) := List.drop_eq_getElem_cons hlt
        rw [hdrop] at sat
        refine .inr ⟨ok.go i H2 (E2.ff.trans E2.f) (bo E2) hlt, fun σ' H' => i + 1 ≤ ds.length ∧ ∃ F2 B2 M2 ρ2 st2, ExtS F M H (Own ρ σ) F2 M2 H' (Own ρ2 σ') ∧ WI P R F2 B2 M2 H' σ' ρ2 st2 ∧ SatS (sForGo t body (ds.drop (i + 1)) ρ2 st2) (EndK P R W F M H (Own ρ σ) D), fun σ' H' ⟨hl, q⟩ => ⟨ds.length - (i + 1), by omega, rfl, hl, q⟩, fun x H' y => ?_⟩
        obtain ⟨d, F3, hd, E3, r3⟩ := ok.yld i F2 B2 M2 H2 x H' hlt w2.pre E2.ff (bo E2) y
        rw [List.getElem?_eq_getElem hlt] at hd
        cases hd
        have w3 := w2.ext E3 w2.r
        unfold sForGo at sat
        cases e : t ds[i] ρ2 with
        | none => rw [e] at sat; exact sat.elim
        | some ρ3 =>
          rw [e] at sat
          refine ht F3 B2 M2 H' σ2 ρ2 st2 _ x ρ3 w3 r3 e _ fun σ4 w4 l4 o4 own4 => ?_
          have E4 : ExtS F M H (Own ρ σ) F3 M2 H' (Own ρ3 σ4) := E2.trans ((ExtS.of E3).sub own4)
          refine hb F3 B2 M2 H' σ4 ρ3 st2 w4 _ ?_
          cases e5 : body ρ3 st2 with
          | none =>
            have sat : SatS (match body ρ3 st2 with | some (.nx ρ2, st2) => sForGo t body (ds.drop (i + 1)) ρ2 st2 | some (.ct ρ2, st2) => sForGo t body (ds.drop (i + 1)) ρ2 st2 | some (.bk ρ2, st2) => some (.nx ρ2, st2) | r => r) (EndK P R W F M H (Own ρ σ) D) := sat
            rw [e5] at sat; exact sat.elim
          | some p =>
            obtain ⟨f, st5⟩ := p
            have sat : SatS (match body ρ3 st2 with | some (.nx ρ2, st2) => sForGo t body (ds.drop (i + 1)) ρ2 st2 | some (.ct ρ2, st2) => sForGo t body (ds.drop (i + 1)) ρ2 st2 | some (.bk ρ2, st2) => some (.nx ρ2, st2) | r => r) (EndK P R W F M H (Own ρ σ) D) := sat
            rw [e5] at sat
            cases f with
            | nx ρ5 => exact fun F6 B6 M6 H6 σ6 E6 w6 => ⟨hlt, F6, B6, M6, ρ5, st5, E4.trans E6, w6, sat⟩
            | ct ρ5 => exact fun F6 B6 M6 H6 σ6 E6 w6 => ⟨hlt, F6, B6, M6, ρ5, st5, E4.trans E6, w6, sat⟩
            | bk ρ5 => exact fun F6 B6 M6 H6 σ6 E6 w6 => (show EndK P R W F M H (Own ρ σ) D (.nx ρ5) st5 from sat) F6 B6 M6 H6 σ6 (E4.trans E6) w6
            | rt d => (have q := EndK.trans (W := W) (D := D) (f := .rt d) sat E4); exact q
            | rn d => (have q := EndK.trans (W := W) (D := D) (f := .rn d) sat E4); exact q
            | ex x ρ5 => (have q := EndK.trans (W := W) (D := D) (f := .ex x ρ5) sat E4); exact q
      · have hn : ds.drop i = [] := List.drop_eq_nil_of_le (by omega)
        rw [hn] at sat
        refine .inl ⟨ok.stop i H2 (E2.ff.trans E2.f) (bo E2) (by omega), ?_⟩
        exact (show EndK P R W F M H (Own ρ σ) D (.nx ρ2) st2 from sat) F2 B2 M2 H2 σ2 E2 w2
    all_goals exact other hs
def itV : Option SV → Option (List D)
  | some (.bor xs) => some xs
  | some (.val d) => if borFree d = true then iterD d else none
  | _ => none
@[simp] theorem itV_bor {xs : List D} : itV (some (.bor xs)) = some xs := rfl
@[simp] theorem itV_val {d : D} : itV (some (.val d)) = if borFree d = true then iterD d else none := rfl
@[simp] theorem s_itV {i : Nat} {ρ : Sl} {st : τ} {okl : List D → τ → Prop} {er : Exn → τ → Prop} : Sat (gItV i ρ st) okl er ↔ Got (itV ρ[i]?) fun ds => okl ds st := by
  unfold gItV gItF gVar
  cases ρ[i]? with
  | none => exact ⟨fun h => h.elim, fun ⟨_, e, _⟩ => (nomatch e)⟩
  | some s =>
    cases s
    case bor xs => exact got_iff Iff.rfl
    case val d =>
      show Sat (if borFree d = true then Res.of (iterD d) st else .stuck) okl er ↔ Got (if borFree d = true then iterD d else none) _
      by_cases h : borFree d = true
      · rw [if_pos h, if_pos h]; exact s_of
      · rw [if_neg h, if_neg h]; exact ⟨fun h => h.elim, fun ⟨_, e, _⟩ => (nomatch e)⟩
    case own xs => exact ⟨fun h => h.elim, fun ⟨_, e, _⟩ => (nomatch e)⟩
    all_goals exact ⟨fun h => h.elim, fun ⟨_, e, _⟩ => (nomatch e)⟩
end
end PD

/-! == and != of data with empty dicts -/
namespace PySem.SeqAt
open AutoSeq1 (wpAny_loadPart')
open MeetsSeq MeetsSeq2 MeetsSeq3 SeqRoads2
def IsD (h : Heap) (a : Addr) : Prop := ∃ o es ep, h.get? a = some o ∧ o.ExactDict ∧ o.data = .dict es ep
def IsD0 (h : Heap) (a : Addr) : Prop := (a == sysModules) = false ∧ ∃ o ep, h.get? a = some o ∧ o.ExactDict ∧ o.data = .dict #[] ep
theorem IsD0.d {h : Heap} {a : Addr} (x : IsD0 h a) : IsD h a := by obtain ⟨_, o, ep, r⟩ := x; exact ⟨o, _, ep, r⟩
theorem IsD.typeIs {s : Shared} {a : Addr} (x : IsD s.heap a) : s.TypeIs (.ref a) "dict" := by obtain ⟨o, es, ep, h, c, _⟩ := x; exact ⟨o, h, c.1⟩
section
variable {prog : Program} {w : World} {A : Around} {E : Value → Shared → Prop} {s : Shared}

theorem dict_eq_declines {d : Addr} {y : Value} {T : String} {Q : Value → Shared → Prop} (hd : IsD s.heap d) (hy : s.TypeIs y T) (hsub : isSubtype (.type T) (.type "dict") = pure false) (h : Q .notImplemented s) :
    wpAny (model prog w) A (call (.builtin "dict.__eq__") [.ref d, y]) Q E s := by
  refine wpAny_call_entry F.slot_dict_eq hd.typeIs F.entry_dict_eq ?_ (F.args_dict_eq_2 _ _)
  show wpAny _ _ (Builtin.Dict.dictSlotArgs "__eq__" ⟨[.ref d, y], []⟩ >>= _) _ _ s
  refine wpAny_bind ?_
  unfold Builtin.Dict.dictSlotArgs
  refine wpAny_bind (wpAny_notOrdered_dict hd.typeIs ?_)
  show wpAny _ _ (pure (Value.ref d, y)) _ _ s
  refine wpAny_pure ?_
  refine wpAny_bind (wpAny_isInstance (T := T) hy hsub ?_)
  simp only [Bool.not_false, if_true]
  exact wpAny_bind (wpAny_rule (wpAny_pure ⟨_, rfl, h⟩))

theorem dict_ne_declines {d : Addr} {y : Value} {T : String} {Q : Value → Shared → Prop} (hd : IsD s.heap d) (hy : s.TypeIs y T) (hsub : isSubtype (.type T) (.type "dict") = pure false) (h : Q .notImplemented s) :
    wpAny (model prog w) A (call (.builtin "dict.__ne__") [.ref d, y]) Q E s := by
  refine wpAny_call_entry F.slot_dict_ne hd.typeIs F.entry_dict_ne ?_ (F.args_dict_ne_2 _ _)
  show wpAny _ _ (Builtin.Dict.dictSlotArgs "__ne__" ⟨[.ref d, y], []⟩ >>= _) _ _ s
  refine wpAny_bind ?_
  unfold Builtin.Dict.dictSlotArgs
  refine wpAny_bind (wpAny_notOrdered_dict hd.typeIs ?_)
  show wpAny _ _ (pure (Value.ref d, y)) _ _ s
  refine wpAny_pure ?_
  refine wpAny_bind (wpAny_isInstance (T := T) hy hsub ?_)
  simp only [Bool.not_false, if_true]
  exact wpAny_bind (wpAny_rule (wpAny_pure ⟨_, rfl, h⟩))

end

theorem list_eq_declines_dict (l b : Addr) (items : Array Value) (n : Nat) (dd : Option Addr) (sl : Array (Option Value)) (es : Array DictEntry) (ep : Nat) :
    Meets (Builtin.«list.__eq__» ⟨[.ref l, .ref b], []⟩) (fun _ R s => s.heap.get? l = some { cls := .type "list", dict := dd, data := .seq items n, slots := sl } ∧ s.heap.get? b = some { cls := .type "dict", dict := none, data := .dict es ep, slots := #[] } ∧ R (.ok (.ret .notImplemented)) s) :=
  .of_wp fun prog w A R s h => by obtain ⟨hp, g, d, tk, os⟩ := s; obtain ⟨hl, hb, h⟩ := h; have f1 := F.sub_dict_list; wp_walk using wpAny_loadPart' hl, wpAny_loadPart' hb; exact ⟨_, rfl, h⟩

theorem tuple_eq_declines_dict (l b : Addr) (items : Array Value) (n : Nat) (dd : Option Addr) (sl : Array (Option Value)) (es : Array DictEntry) (ep : Nat) :
    Meets (Builtin.«tuple.__eq__» ⟨[.ref l, .ref b], []⟩) (fun _ R s => s.heap.get? l = some { cls := .type "tuple", dict := dd, data := .seq items n, slots := sl } ∧ s.heap.get? b = some { cls := .type "dict", dict := none, data := .dict es ep, slots := #[] } ∧ R (.ok (.ret .notImplemented)) s) :=
  .of_wp fun prog w A R s h => by obtain ⟨hp, g, d, tk, os⟩ := s; obtain ⟨hl, hb, h⟩ := h; have f1 := F.sub_dict_tuple; wp_walk using wpAny_loadPart' hl, wpAny_loadPart' hb; exact ⟨_, rfl, h⟩

theorem int_eq_declines_dict_bool (b : Bool) (l : Addr) (es : Array DictEntry) (ep : Nat) :
    Meets (Builtin.«int.__eq__» ⟨[.bool b, .ref l], []⟩) (fun _ R s => s.heap.get? l = some { cls := .type "dict", dict := none, data := .dict es ep, slots := #[] } ∧ R (.ok (.ret .notImplemented)) s) :=
  .of_wp fun prog w A R s h => by obtain ⟨hp, g, d, tk, os⟩ := s; obtain ⟨hl, h⟩ := h; wp_walk using wpAny_loadPart' hl, wpAny_load hl; exact ⟨_, rfl, h⟩

theorem int_eq_declines_dict_int (b : Int) (u : Tok) (l : Addr) (es : Array DictEntry) (ep : Nat) :
    Meets (Builtin.«int.__eq__» ⟨[.int b u, .ref l], []⟩) (fun _ R s => s.heap.get? l = some { cls := .type "dict", dict := none, data := .dict es ep, slots := #[] } ∧ R (.ok (.ret .notImplemented)) s) :=
  .of_wp fun prog w A R s h => by obtain ⟨hp, g, d, tk, os⟩ := s; obtain ⟨hl, h⟩ := h; wp_walk using wpAny_loadPart' hl, wpAny_load hl; exact ⟨_, rfl, h⟩

theorem str_eq_declines_dict_str (b : Str) (u : Tok) (l : Addr) (es : Array DictEntry) (ep : Nat) :
    Meets (Builtin.«str.__eq__» ⟨[.str b u, .ref l], []⟩) (fun _ R s => s.heap.get? l = some { cls := .type "dict", dict := none, data := .dict es ep, slots := #[] } ∧ R (.ok (.ret .notImplemented)) s) :=
  .of_wp fun prog w A R s h => by obtain ⟨hp, g, d, tk, os⟩ := s; obtain ⟨hl, h⟩ := h; wp_walk using wpAny_loadPart' hl, wpAny_load hl; exact ⟨_, rfl, h⟩

theorem list_ne_declines_dict (l b : Addr) (items : Array Value) (n : Nat) (dd : Option Addr) (sl : Array (Option Value)) (es : Array DictEntry) (ep : Nat) :
    Meets (Builtin.«list.__ne__» ⟨[.ref l, .ref b], []⟩) (fun _ R s => s.heap.get? l = some { cls := .type "list", dict := dd, data := .seq items n, slots := sl } ∧ s.heap.get? b = some { cls := .type "dict", dict := none, data := .dict es ep, slots := #[] } ∧ R (.ok (.ret .notImplemented)) s) :=
  .of_wp fun prog w A R s h => by obtain ⟨hp, g, d, tk, os⟩ := s; obtain ⟨hl, hb, h⟩ := h; have f1 := F.sub_dict_list; wp_walk using wpAny_loadPart' hl, wpAny_loadPart' hb; exact ⟨_, rfl, h⟩

theorem tuple_ne_declines_dict (l b : Addr) (items : Array Value) (n : Nat) (dd : Option Addr) (sl : Array (Option Value)) (es : Array DictEntry) (ep : Nat) :
    Meets (Builtin.«tuple.__ne__» ⟨[.ref l, .ref b], []⟩) (fun _ R s => s.heap.get? l = some { cls := .type "tuple", dict := dd, data := .seq items n, slots := sl } ∧ s.heap.get? b = some { cls := .type "dict", dict := none, data := .dict es ep, slots := #[] } ∧ R (.ok (.ret .notImplemented)) s) :=
  .of_wp fun prog w A R s h => by obtain ⟨hp, g, d, tk, os⟩ := s; obtain ⟨hl, hb, h⟩ := h; have f1 := F.sub_dict_tuple; wp_walk using wpAny_loadPart' hl, wpAny_loadPart' hb; exact ⟨_, rfl, h⟩

theorem int_ne_declines_dict_bool (b : Bool) (l : Addr) (es : Array DictEntry) (ep : Nat) :
    Meets (Builtin.«int.__ne__» ⟨[.bool b, .ref l], []⟩) (fun _ R s => s.heap.get? l = some { cls := .type "dict", dict := none, data := .dict es ep, slots := #[] } ∧ R (.ok (.ret .notImplemented)) s) :=
  .of_wp fun prog w A R s h => by obtain ⟨hp, g, d, tk, os⟩ := s; obtain ⟨hl, h⟩ := h; wp_walk using wpAny_loadPart' hl, wpAny_load hl; exact ⟨_, rfl, h⟩

theorem int_ne_declines_dict_int (b : Int) (u : Tok) (l : Addr) (es : Array DictEntry) (ep : Nat) :
    Meets (Builtin.«int.__ne__» ⟨[.int b u, .ref l], []⟩) (fun _ R s => s.heap.get? l = some { cls := .type "dict", dict := none, data := .dict es ep, slots := #[] } ∧ R (.ok (.ret .notImplemented)) s) :=
  .of_wp fun prog w A R s h => by obtain ⟨hp, g, d, tk, os⟩ := s; obtain ⟨hl, h⟩ := h; wp_walk using wpAny_loadPart' hl, wpAny_load hl; exact ⟨_, rfl, h⟩

theorem str_ne_declines_dict_str (b : Str) (u : Tok) (l : Addr) (es : Array DictEntry) (ep : Nat) :
    Meets (Builtin.«str.__ne__» ⟨[.str b u, .ref l], []⟩) (fun _ R s => s.heap.get? l = some { cls := .type "dict", dict := none, data := .dict es ep, slots := #[] } ∧ R (.ok (.ret .notImplemented)) s) :=
  .of_wp fun prog w A R s h => by obtain ⟨hp, g, d, tk, os⟩ := s; obtain ⟨hl, h⟩ := h; wp_walk using wpAny_loadPart' hl, wpAny_load hl; exact ⟨_, rfl, h⟩

section
variable {A : Around} {s : Shared}
theorem IsD0.of (prog : Program) (w : World) {h : Heap} {a : Addr} (x : IsD0 h a) : h.DictOf (L2.mixKind prog w) a [] := by
  obtain ⟨_, o, ep, h1, h2, h3⟩ := x
  exact ⟨o, #[], ep, h1, h2, h3, by intro e he; simp at he, .nil, by simp⟩
theorem IsD.ne_list {h : Heap} {d l : Addr} {vs : Array Value} (x : IsD h d) (hl : h.IsList l vs) : d ≠ l := fun e => by
  subst e
  obtain ⟨o, _, _, ho, hc, _⟩ := x
  obtain ⟨o2, ho2, hc2, _⟩ := hl
  rw [ho] at ho2
  cases ho2
  rw [hc.1] at hc2
  exact absurd hc2 (by simp)
theorem IsD.ne_tuple {h : Heap} {d l : Addr} {vs : Array Value} (x : IsD h d) (hl : h.IsTuple l vs) : d ≠ l := fun e => by
  subst e
  obtain ⟨o, _, _, ho, hc, _⟩ := x
  obtain ⟨o2, ho2, hc2, _⟩ := hl
  rw [ho] at ho2
  cases ho2
  rw [hc.1] at hc2
  exact absurd hc2 (by simp)

theorem RcAt.dict_none {d : Addr} (hd : IsD s.heap d) (hu : A.units < cLine) : RcAt A s (.ref d) .none false := fun prog w E Q h => by
  obtain ⟨⟨cls, dd, data, sl⟩, es, ep, ho, ⟨hc, hdd, hsl⟩, hdt⟩ := id hd
  simp only at hc hdd hsl hdt
  subst hc hdd hsl hdt
  exact rc_eq_decline_or (k := false) hd.typeIs rfl (by decide) F.sub_NoneType_dict F.slot_dict_eq F.slot_NoneType_eq_refl
    (fun _ hq => dict_eq_declines hd rfl F.sub_NoneType_dict hq)
    (fun _ hq => call_gives F.slot_NoneType_eq_refl rfl F.entry_NoneType_eq (F.args_NoneType_eq_2 _ _) (NoneType___eq___none_ref_0 d) hq)
    (fun _ hq => wpAny_of_eq (rfl : isSame (.ref d) .none = pure false) hq) (.inr hu) h
theorem RcAt.none_dict {d : Addr} (hd : IsD s.heap d) (hu : A.units < cLine) : RcAt A s .none (.ref d) false := fun prog w E Q h => by
  obtain ⟨⟨cls, dd, data, sl⟩, es, ep, ho, ⟨hc, hdd, hsl⟩, hdt⟩ := id hd
  simp only at hc hdd hsl hdt
  subst hc hdd hsl hdt
  exact rc_eq_decline_or (k := false) rfl hd.typeIs (by decide) F.sub_dict_NoneType F.slot_NoneType_eq F.slot_dict_eq_refl
    (fun _ hq => call_gives F.slot_NoneType_eq rfl F.entry_NoneType_eq (F.args_NoneType_eq_2 _ _) (NoneType___eq___none_ref_0 d) hq)
    (fun _ hq => dict_eq_declines hd rfl F.sub_NoneType_dict hq)
    (fun _ hq => wpAny_of_eq (rfl : isSame .none (.ref d) = pure false) hq) (.inr hu) h

theorem EqAt.dict_none {d : Addr} (hd : IsD s.heap d) (hu : A.units < cLine) : EqAt A s (.ref d) .none false := fun prog w E Q h => by
  unfold eqBool
  refine wpAny_holding ?_
  refine wpAny_ite_split (fun hab => absurd (eq_of_beq hab) nofun) (fun _ => ?_)
  exact wpAny_bind (RcAt.dict_none hd hu prog w E _ (wpAny_truthy_bool h))

theorem EqAt.none_dict {d : Addr} (hd : IsD s.heap d) (hu : A.units < cLine) : EqAt A s .none (.ref d) false := fun prog w E Q h => by
  unfold eqBool
  refine wpAny_holding ?_
  refine wpAny_ite_split (fun hab => absurd (eq_of_beq hab) nofun) (fun _ => ?_)
  exact wpAny_bind (RcAt.none_dict hd hu prog w E _ (wpAny_truthy_bool h))

theorem RcAt.dict_bool {d : Addr} (b : Bool) (hd : IsD s.heap d) (hu : A.units < cLine) : RcAt A s (.ref d) (.bool b) false := fun prog w E Q h => by
  obtain ⟨⟨cls, dd, data, sl⟩, es, ep, ho, ⟨hc, hdd, hsl⟩, hdt⟩ := id hd
  simp only at hc hdd hsl hdt
  subst hc hdd hsl hdt
  exact rc_eq_decline_or (k := false) hd.typeIs rfl (by decide) F.sub_bool_dict F.slot_dict_eq F.slot_bool_eq_refl
    (fun _ hq => dict_eq_declines hd rfl F.sub_bool_dict hq)
    (fun _ hq => call_meets F.slot_bool_eq_refl rfl F.entry_int_eq (F.args_int_eq_2 _ _) (int_eq_declines_dict_bool b d es ep) ⟨ho, hq⟩)
    (fun _ hq => wpAny_of_eq (rfl : isSame (.ref d) (.bool b) = pure false) hq) (.inr hu) h
theorem RcAt.bool_dict {d : Addr} (b : Bool) (hd : IsD s.heap d) (hu : A.units < cLine) : RcAt A s (.bool b) (.ref d) false := fun prog w E Q h => by
  obtain ⟨⟨cls, dd, data, sl⟩, es, ep, ho, ⟨hc, hdd, hsl⟩, hdt⟩ := id hd
  simp only at hc hdd hsl hdt
  subst hc hdd hsl hdt
  exact rc_eq_decline_or (k := false) rfl hd.typeIs (by decide) F.sub_dict_bool F.slot_bool_eq F.slot_dict_eq_refl
    (fun _ hq => call_meets F.slot_bool_eq rfl F.entry_int_eq (F.args_int_eq_2 _ _) (int_eq_declines_dict_bool b d es ep) ⟨ho, hq⟩)
    (fun _ hq => dict_eq_declines hd rfl F.sub_bool_dict hq)
    (fun _ hq => wpAny_of_eq (rfl : isSame (.bool b) (.ref d) = pure false) hq) (.inr hu) h

theorem EqAt.dict_bool {d : Addr} (b : Bool) (hd : IsD s.heap d) (hu : A.units < cLine) : EqAt A s (.ref d) (.bool b) false := fun prog w E Q h => by
  unfold eqBool
  refine wpAny_holding ?_
  refine wpAny_ite_split (fun hab => absurd (eq_of_beq hab) nofun) (fun _ => ?_)
  exact wpAny_bind (RcAt.dict_bool b hd hu prog w E _ (wpAny_truthy_bool h))

theorem EqAt.bool_dict {d : Addr} (b : Bool) (hd : IsD s.heap d) (hu : A.units < cLine) : EqAt A s (.bool b) (.ref d) false := fun prog w E Q h => by
  unfold eqBool
  refine wpAny_holding ?_
  refine wpAny_ite_split (fun hab => absurd (eq_of_beq hab) nofun) (fun _ => ?_)
  exact wpAny_bind (RcAt.bool_dict b hd hu prog w E _ (wpAny_truthy_bool h))

theorem RcAt.dict_int {d : Addr} (b : Int) (u : Tok) (hd : IsD s.heap d) (hu : A.units < cLine) : RcAt A s (.ref d) (.int b u) false := fun prog w E Q h => by
  obtain ⟨⟨cls, dd, data, sl⟩, es, ep, ho, ⟨hc, hdd, hsl⟩, hdt⟩ := id hd
  simp only at hc hdd hsl hdt
  subst hc hdd hsl hdt
  exact rc_eq_decline_or (k := false) hd.typeIs (typeIs_int s b u) (by decide) F.sub_int_dict F.slot_dict_eq F.slot_int_eq_refl
    (fun _ hq => dict_eq_declines hd (typeIs_int s b u) F.sub_int_dict hq)
    (fun _ hq => call_meets F.slot_int_eq_refl (typeIs_int s b u) F.entry_int_eq (F.args_int_eq_2 _ _) (int_eq_declines_dict_int b u d es ep) ⟨ho, hq⟩)
    (fun _ hq => wpAny_of_eq (rfl : isSame (.ref d) (.int b u) = pure false) hq) (.inr hu) h
theorem RcAt.int_dict {d : Addr} (b : Int) (u : Tok) (hd : IsD s.heap d) (hu : A.units < cLine) : RcAt A s (.int b u) (.ref d) false := fun prog w E Q h => by
  obtain ⟨⟨cls, dd, data, sl⟩, es, ep, ho, ⟨hc, hdd, hsl⟩, hdt⟩ := id hd
  simp only at hc hdd hsl hdt
  subst hc hdd hsl hdt
  exact rc_eq_decline_or (k := false) (typeIs_int s b u) hd.typeIs (by decide) F.sub_dict_int F.slot_int_eq F.slot_dict_eq_refl
    (fun _ hq => call_meets F.slot_int_eq (typeIs_int s b u) F.entry_int_eq (F.args_int_eq_2 _ _) (int_eq_declines_dict_int b u d es ep) ⟨ho, hq⟩)
    (fun _ hq => dict_eq_declines hd (typeIs_int s b u) F.sub_int_dict hq)
    (fun _ hq => wpAny_of_eq (rfl : isSame (.int b u) (.ref d) = pure false) hq) (.inr hu) h

theorem EqAt.dict_int {d : Addr} (b : Int) (u : Tok) (hd : IsD s.heap d) (hu : A.units < cLine) : EqAt A s (.ref d) (.int b u) false := fun prog w E Q h => by
  unfold eqBool
  refine wpAny_holding ?_
  refine wpAny_ite_split (fun hab => absurd (eq_of_beq hab) nofun) (fun _ => ?_)
  exact wpAny_bind (RcAt.dict_int b u hd hu prog w E _ (wpAny_truthy_bool h))

theorem EqAt.int_dict {d : Addr} (b : Int) (u : Tok) (hd : IsD s.heap d) (hu : A.units < cLine) : EqAt A s (.int b u) (.ref d) false := fun prog w E Q h => by
  unfold eqBool
  refine wpAny_holding ?_
  refine wpAny_ite_split (fun hab => absurd (eq_of_beq hab) nofun) (fun _ => ?_)
  exact wpAny_bind (RcAt.int_dict b u hd hu prog w E _ (wpAny_truthy_bool h))

theorem RcAt.dict_str {d : Addr} (b : Str) (u : Tok) (hd : IsD s.heap d) (hu : A.units < cLine) : RcAt A s (.ref d) (.str b u) false := fun prog w E Q h => by
  obtain ⟨⟨cls, dd, data, sl⟩, es, ep, ho, ⟨hc, hdd, hsl⟩, hdt⟩ := id hd
  simp only at hc hdd hsl hdt
  subst hc hdd hsl hdt
  exact rc_eq_decline_or (k := false) hd.typeIs (typeIs_str s b u) (by decide) F.sub_str_dict F.slot_dict_eq F.slot_str_eq_refl
    (fun _ hq => dict_eq_declines hd (typeIs_str s b u) F.sub_str_dict hq)
    (fun _ hq => call_meets F.slot_str_eq_refl (typeIs_str s b u) F.entry_str_eq (F.args_str_eq_2 _ _) (str_eq_declines_dict_str b u d es ep) ⟨ho, hq⟩)
    (fun _ hq => wpAny_of_eq (rfl : isSame (.ref d) (.str b u) = pure false) hq) (.inr hu) h
theorem RcAt.str_dict {d : Addr} (b : Str) (u : Tok) (hd : IsD s.heap d) (hu : A.units < cLine) : RcAt A s (.str b u) (.ref d) false := fun prog w E Q h => by
  obtain ⟨⟨cls, dd, data, sl⟩, es, ep, ho, ⟨hc, hdd, hsl⟩, hdt⟩ := id hd
  simp only at hc hdd hsl hdt
  subst hc hdd hsl hdt
  exact rc_eq_decline_or (k := false) (typeIs_str s b u) hd.typeIs (by decide) F.sub_dict_str F.slot_str_eq F.slot_dict_eq_refl
    (fun _ hq => call_meets F.slot_str_eq (typeIs_str s b u) F.entry_str_eq (F.args_str_eq_2 _ _) (str_eq_declines_dict_str b u d es ep) ⟨ho, hq⟩)
    (fun _ hq => dict_eq_declines hd (typeIs_str s b u) F.sub_str_dict hq)
    (fun _ hq => wpAny_of_eq (rfl : isSame (.str b u) (.ref d) = pure false) hq) (.inr hu) h

theorem EqAt.dict_str {d : Addr} (b : Str) (u : Tok) (hd : IsD s.heap d) (hu : A.units < cLine) : EqAt A s (.ref d) (.str b u) false := fun prog w E Q h => by
  unfold eqBool
  refine wpAny_holding ?_
  refine wpAny_ite_split (fun hab => absurd (eq_of_beq hab) nofun) (fun _ => ?_)
  exact wpAny_bind (RcAt.dict_str b u hd hu prog w E _ (wpAny_truthy_bool h))

theorem EqAt.str_dict {d : Addr} (b : Str) (u : Tok) (hd : IsD s.heap d) (hu : A.units < cLine) : EqAt A s (.str b u) (.ref d) false := fun prog w E Q h => by
  unfold eqBool
  refine wpAny_holding ?_
  refine wpAny_ite_split (fun hab => absurd (eq_of_beq hab) nofun) (fun _ => ?_)
  exact wpAny_bind (RcAt.str_dict b u hd hu prog w E _ (wpAny_truthy_bool h))

theorem RcAt.dict_list {d l : Addr} {items : Array Value} (hd : IsD s.heap d) (hl : s.heap.IsList l items) (hu : A.units < cLine) : RcAt A s (.ref d) (.ref l) false := fun prog w E Q h => by
  obtain ⟨⟨cls, dd, data, sl⟩, es, ep, ho, ⟨hc, hdd, hsl⟩, hdt⟩ := id hd
  simp only at hc hdd hsl hdt
  subst hc hdd hsl hdt
  obtain ⟨⟨cls2, dd2, data2, sl2⟩, ho2, hc2, n2, hd2⟩ := id hl
  simp only at hc2 hd2
  subst hc2 hd2
  exact rc_eq_decline_or (k := false) hd.typeIs ⟨_, ho2, rfl⟩ (by decide) F.sub_list_dict F.slot_dict_eq F.slot_list_eq_refl
    (fun _ hq => dict_eq_declines (T := "list") hd ⟨_, ho2, rfl⟩ F.sub_list_dict hq)
    (fun _ hq => call_meets F.slot_list_eq_refl ⟨_, ho2, rfl⟩ F.entry_list_eq (F.args_list_eq_2 _ _) (list_eq_declines_dict l d items n2 dd2 sl2 es ep) ⟨ho2, ho, hq⟩)
    (fun _ hq => wpAny_isSame_ref_other (hd.ne_list hl) ho ho2 (by simp) hq) (.inr hu) h
theorem RcAt.list_dict {d l : Addr} {items : Array Value} (hd : IsD s.heap d) (hl : s.heap.IsList l items) (hu : A.units < cLine) : RcAt A s (.ref l) (.ref d) false := fun prog w E Q h => by
  obtain ⟨⟨cls, dd, data, sl⟩, es, ep, ho, ⟨hc, hdd, hsl⟩, hdt⟩ := id hd
  simp only at hc hdd hsl hdt
  subst hc hdd hsl hdt
  obtain ⟨⟨cls2, dd2, data2, sl2⟩, ho2, hc2, n2, hd2⟩ := id hl
  simp only at hc2 hd2
  subst hc2 hd2
  exact rc_eq_decline_or (k := false) ⟨_, ho2, rfl⟩ hd.typeIs (by decide) F.sub_dict_list F.slot_list_eq F.slot_dict_eq_refl
    (fun _ hq => call_meets F.slot_list_eq ⟨_, ho2, rfl⟩ F.entry_list_eq (F.args_list_eq_2 _ _) (list_eq_declines_dict l d items n2 dd2 sl2 es ep) ⟨ho2, ho, hq⟩)
    (fun _ hq => dict_eq_declines (T := "list") hd ⟨_, ho2, rfl⟩ F.sub_list_dict hq)
    (fun _ hq => wpAny_isSame_ref_other (hd.ne_list hl).symm ho2 ho (by simp) hq) (.inr hu) h

theorem EqAt.dict_list {d l : Addr} {items : Array Value} (hd : IsD s.heap d) (hl : s.heap.IsList l items) (hu : A.units < cLine) : EqAt A s (.ref d) (.ref l) false := .of_refs (hd.ne_list hl) (.dict_list hd hl hu)
theorem EqAt.list_dict {d l : Addr} {items : Array Value} (hd : IsD s.heap d) (hl : s.heap.IsList l items) (hu : A.units < cLine) : EqAt A s (.ref l) (.ref d) false := .of_refs (hd.ne_list hl).symm (.list_dict hd hl hu)

theorem RcAt.dict_tuple {d l : Addr} {items : Array Value} (hd : IsD s.heap d) (hl : s.heap.IsTuple l items) (hu : A.units < cLine) : RcAt A s (.ref d) (.ref l) false := fun prog w E Q h => by
  obtain ⟨⟨cls, dd, data, sl⟩, es, ep, ho, ⟨hc, hdd, hsl⟩, hdt⟩ := id hd
  simp only at hc hdd hsl hdt
  subst hc hdd hsl hdt
  obtain ⟨⟨cls2, dd2, data2, sl2⟩, ho2, hc2, n2, hd2⟩ := id hl
  simp only at hc2 hd2
  subst hc2 hd2
  exact rc_eq_decline_or (k := false) hd.typeIs ⟨_, ho2, rfl⟩ (by decide) F.sub_tuple_dict F.slot_dict_eq F.slot_tuple_eq_refl
    (fun _ hq => dict_eq_declines (T := "tuple") hd ⟨_, ho2, rfl⟩ F.sub_tuple_dict hq)
    (fun _ hq => call_meets F.slot_tuple_eq_refl ⟨_, ho2, rfl⟩ F.entry_tuple_eq (F.args_tuple_eq_2 _ _) (tuple_eq_declines_dict l d items n2 dd2 sl2 es ep) ⟨ho2, ho, hq⟩)
    (fun _ hq => wpAny_isSame_ref_other (hd.ne_tuple hl) ho ho2 (by simp) hq) (.inr hu) h
theorem RcAt.tuple_dict {d l : Addr} {items : Array Value} (hd : IsD s.heap d) (hl : s.heap.IsTuple l items) (hu : A.units < cLine) : RcAt A s (.ref l) (.ref d) false := fun prog w E Q h => by
  obtain ⟨⟨cls, dd, data, sl⟩, es, ep, ho, ⟨hc, hdd, hsl⟩, hdt⟩ := id hd
  simp only at hc hdd hsl hdt
  subst hc hdd hsl hdt
  obtain ⟨⟨cls2, dd2, data2, sl2⟩, ho2, hc2, n2, hd2⟩ := id hl
  simp only at hc2 hd2
  subst hc2 hd2
  exact rc_eq_decline_or (k := false) ⟨_, ho2, rfl⟩ hd.typeIs (by decide) F.sub_dict_tuple F.slot_tuple_eq F.slot_dict_eq_refl
    (fun _ hq => call_meets F.slot_tuple_eq ⟨_, ho2, rfl⟩ F.entry_tuple_eq (F.args_tuple_eq_2 _ _) (tuple_eq_declines_dict l d items n2 dd2 sl2 es ep) ⟨ho2, ho, hq⟩)
    (fun _ hq => dict_eq_declines (T := "tuple") hd ⟨_, ho2, rfl⟩ F.sub_tuple_dict hq)
    (fun _ hq => wpAny_isSame_ref_other' (hd.ne_tuple hl).symm ho2 ho (by simp) hq) (.inr hu) h

theorem EqAt.dict_tuple {d l : Addr} {items : Array Value} (hd : IsD s.heap d) (hl : s.heap.IsTuple l items) (hu : A.units < cLine) : EqAt A s (.ref d) (.ref l) false := .of_refs (hd.ne_tuple hl) (.dict_tuple hd hl hu)
theorem EqAt.tuple_dict {d l : Addr} {items : Array Value} (hd : IsD s.heap d) (hl : s.heap.IsTuple l items) (hu : A.units < cLine) : EqAt A s (.ref l) (.ref d) false := .of_refs (hd.ne_tuple hl).symm (.tuple_dict hd hl hu)

theorem RcAt.dict0_dict0 {d l : Addr} (hd : IsD0 s.heap d) (hl : IsD0 s.heap l) (hu : A.units < cLine) : RcAt A s (.ref d) (.ref l) true := fun prog w E Q h => by
  show wpAny _ _ (compareOp .Eq _ _) _ _ _
  exact PySem.W.keq_eq (r := true) hd.1 hl.1 (hd.of prog w) (hl.of prog w) hu (fun _ => .nil) (by simpa using h)

theorem RcNeAt.dict_none {d : Addr} (hd : IsD s.heap d) (hu : A.units < cLine) : RcNeAt A s (.ref d) .none true := fun prog w E Q h => by
  obtain ⟨⟨cls, dd, data, sl⟩, es, ep, ho, ⟨hc, hdd, hsl⟩, hdt⟩ := id hd
  simp only at hc hdd hsl hdt
  subst hc hdd hsl hdt
  exact rc_ne_decline_or (k := false) hd.typeIs rfl (by decide) F.sub_NoneType_dict F.slot_dict_ne F.slot_NoneType_ne_refl
    (fun _ hq => dict_ne_declines hd rfl F.sub_NoneType_dict hq)
    (fun _ hq => call_gives F.slot_NoneType_ne_refl rfl F.entry_NoneType_ne (F.args_NoneType_ne_2 _ _) (NoneType___ne___none_ref_0 d) hq)
    (fun _ hq => wpAny_of_eq (rfl : isSame (.ref d) .none = pure false) hq) (.inr hu) h
theorem RcNeAt.none_dict {d : Addr} (hd : IsD s.heap d) (hu : A.units < cLine) : RcNeAt A s .none (.ref d) true := fun prog w E Q h => by
  obtain ⟨⟨cls, dd, data, sl⟩, es, ep, ho, ⟨hc, hdd, hsl⟩, hdt⟩ := id hd
  simp only at hc hdd hsl hdt
  subst hc hdd hsl hdt
  exact rc_ne_decline_or (k := false) rfl hd.typeIs (by decide) F.sub_dict_NoneType F.slot_NoneType_ne F.slot_dict_ne_refl
    (fun _ hq => call_gives F.slot_NoneType_ne rfl F.entry_NoneType_ne (F.args_NoneType_ne_2 _ _) (NoneType___ne___none_ref_0 d) hq)
    (fun _ hq => dict_ne_declines hd rfl F.sub_NoneType_dict hq)
    (fun _ hq => wpAny_of_eq (rfl : isSame .none (.ref d) = pure false) hq) (.inr hu) h

theorem RcNeAt.dict_bool {d : Addr} (b : Bool) (hd : IsD s.heap d) (hu : A.units < cLine) : RcNeAt A s (.ref d) (.bool b) true := fun prog w E Q h => by
  obtain ⟨⟨cls, dd, data, sl⟩, es, ep, ho, ⟨hc, hdd, hsl⟩, hdt⟩ := id hd
  simp only at hc hdd hsl hdt
  subst hc hdd hsl hdt
  exact rc_ne_decline_or (k := false) hd.typeIs rfl (by decide) F.sub_bool_dict F.slot_dict_ne F.slot_bool_ne_refl
    (fun _ hq => dict_ne_declines hd rfl F.sub_bool_dict hq)
    (fun _ hq => call_meets F.slot_bool_ne_refl rfl F.entry_int_ne (F.args_int_ne_2 _ _) (int_ne_declines_dict_bool b d es ep) ⟨ho, hq⟩)
    (fun _ hq => wpAny_of_eq (rfl : isSame (.ref d) (.bool b) = pure false) hq) (.inr hu) h
theorem RcNeAt.bool_dict {d : Addr} (b : Bool) (hd : IsD s.heap d) (hu : A.units < cLine) : RcNeAt A s (.bool b) (.ref d) true := fun prog w E Q h => by
  obtain ⟨⟨cls, dd, data, sl⟩, es, ep, ho, ⟨hc, hdd, hsl⟩, hdt⟩ := id hd
  simp only at hc hdd hsl hdt
  subst hc hdd hsl hdt
  exact rc_ne_decline_or (k := false) rfl hd.typeIs (by decide) F.sub_dict_bool F.slot_bool_ne F.slot_dict_ne_refl
    (fun _ hq => call_meets F.slot_bool_ne rfl F.entry_int_ne (F.args_int_ne_2 _ _) (int_ne_declines_dict_bool b d es ep) ⟨ho, hq⟩)
    (fun _ hq => dict_ne_declines hd rfl F.sub_bool_dict hq)
    (fun _ hq => wpAny_of_eq (rfl : isSame (.bool b) (.ref d) = pure false) hq) (.inr hu) h

theorem RcNeAt.dict_int {d : Addr} (b : Int) (u : Tok) (hd : IsD s.heap d) (hu : A.units < cLine) : RcNeAt A s (.ref d) (.int b u) true := fun prog w E Q h => by
  obtain ⟨⟨cls, dd, data, sl⟩, es, ep, ho, ⟨hc, hdd, hsl⟩, hdt⟩ := id hd
  simp only at hc hdd hsl hdt
  subst hc hdd hsl hdt
  exact rc_ne_decline_or (k := false) hd.typeIs (typeIs_int s b u) (by decide) F.sub_int_dict F.slot_dict_ne F.slot_int_ne_refl
    (fun _ hq => dict_ne_declines hd (typeIs_int s b u) F.sub_int_dict hq)
    (fun _ hq => call_meets F.slot_int_ne_refl (typeIs_int s b u) F.entry_int_ne (F.args_int_ne_2 _ _) (int_ne_declines_dict_int b u d es ep) ⟨ho, hq⟩)
    (fun _ hq => wpAny_of_eq (rfl : isSame (.ref d) (.int b u) = pure false) hq) (.inr hu) h
theorem RcNeAt.int_dict {d : Addr} (b : Int) (u : Tok) (hd : IsD s.heap d) (hu : A.units < cLine) : RcNeAt A s (.int b u) (.ref d) true := fun prog w E Q h => by
  obtain ⟨⟨cls, dd, data, sl⟩, es, ep, ho, ⟨hc, hdd, hsl⟩, hdt⟩ := id hd
  simp only at hc hdd hsl hdt
  subst hc hdd hsl hdt
  exact rc_ne_decline_or (k := false) (typeIs_int s b u) hd.typeIs (by decide) F.sub_dict_int F.slot_int_ne F.slot_dict_ne_refl
    (fun _ hq => call_meets F.slot_int_ne (typeIs_int s b u) F.entry_int_ne (F.args_int_ne_2 _ _) (int_ne_declines_dict_int b u d es ep) ⟨ho, hq⟩)
    (fun _ hq => dict_ne_declines hd (typeIs_int s b u) F.sub_int_dict hq)
    (fun _ hq => wpAny_of_eq (rfl : isSame (.int b u) (.ref d) = pure false) hq) (.inr hu) h

theorem RcNeAt.dict_str {d : Addr} (b : Str) (u : Tok) (hd : IsD s.heap d) (hu : A.units < cLine) : RcNeAt A s (.ref d) (.str b u) true := fun prog w E Q h => by
  obtain ⟨⟨cls, dd, data, sl⟩, es, ep, ho, ⟨hc, hdd, hsl⟩, hdt⟩ := id hd
  simp only at hc hdd hsl hdt
  subst hc hdd hsl hdt
  exact rc_ne_decline_or (k := false) hd.typeIs (typeIs_str s b u) (by decide) F.sub_str_dict F.slot_dict_ne F.slot_str_ne_refl
    (fun _ hq => dict_ne_declines hd (typeIs_str s b u) F.sub_str_dict hq)
    (fun _ hq => call_meets F.slot_str_ne_refl (typeIs_str s b u) F.entry_str_ne (F.args_str_ne_2 _ _) (str_ne_declines_dict_str b u d es ep) ⟨ho, hq⟩)
    (fun _ hq => wpAny_of_eq (rfl : isSame (.ref d) (.str b u) = pure false) hq) (.inr hu) h
theorem RcNeAt.str_dict {d : Addr} (b : Str) (u : Tok) (hd : IsD s.heap d) (hu : A.units < cLine) : RcNeAt A s (.str b u) (.ref d) true := fun prog w E Q h => by
  obtain ⟨⟨cls, dd, data, sl⟩, es, ep, ho, ⟨hc, hdd, hsl⟩, hdt⟩ := id hd
  simp only at hc hdd hsl hdt
  subst hc hdd hsl hdt
  exact rc_ne_decline_or (k := false) (typeIs_str s b u) hd.typeIs (by decide) F.sub_dict_str F.slot_str_ne F.slot_dict_ne_refl
    (fun _ hq => call_meets F.slot_str_ne (typeIs_str s b u) F.entry_str_ne (F.args_str_ne_2 _ _) (str_ne_declines_dict_str b u d es ep) ⟨ho, hq⟩)
    (fun _ hq => dict_ne_declines hd (typeIs_str s b u) F.sub_str_dict hq)
    (fun _ hq => wpAny_of_eq (rfl : isSame (.str b u) (.ref d) = pure false) hq) (.inr hu) h

theorem RcNeAt.dict_list {d l : Addr} {items : Array Value} (hd : IsD s.heap d) (hl : s.heap.IsList l items) (hu : A.units < cLine) : RcNeAt A s (.ref d) (.ref l) true := fun prog w E Q h => by
  obtain ⟨⟨cls, dd, data, sl⟩, es, ep, ho, ⟨hc, hdd, hsl⟩, hdt⟩ := id hd
  simp only at hc hdd hsl hdt
  subst hc hdd hsl hdt
  obtain ⟨⟨cls2, dd2, data2, sl2⟩, ho2, hc2, n2, hd2⟩ := id hl
  simp only at hc2 hd2
  subst hc2 hd2
  exact rc_ne_decline_or (k := false) hd.typeIs ⟨_, ho2, rfl⟩ (by decide) F.sub_list_dict F.slot_dict_ne F.slot_list_ne_refl
    (fun _ hq => dict_ne_declines (T := "list") hd ⟨_, ho2, rfl⟩ F.sub_list_dict hq)
    (fun _ hq => call_meets F.slot_list_ne_refl ⟨_, ho2, rfl⟩ F.entry_list_ne (F.args_list_ne_2 _ _) (list_ne_declines_dict l d items n2 dd2 sl2 es ep) ⟨ho2, ho, hq⟩)
    (fun _ hq => wpAny_isSame_ref_other (hd.ne_list hl) ho ho2 (by simp) hq) (.inr hu) h
theorem RcNeAt.list_dict {d l : Addr} {items : Array Value} (hd : IsD s.heap d) (hl : s.heap.IsList l items) (hu : A.units < cLine) : RcNeAt A s (.ref l) (.ref d) true := fun prog w E Q h => by
  obtain ⟨⟨cls, dd, data, sl⟩, es, ep, ho, ⟨hc, hdd, hsl⟩, hdt⟩ := id hd
  simp only at hc hdd hsl hdt
  subst hc hdd hsl hdt
  obtain ⟨⟨cls2, dd2, data2, sl2⟩, ho2, hc2, n2, hd2⟩ := id hl
  simp only at hc2 hd2
  subst hc2 hd2
  exact rc_ne_decline_or (k := false) ⟨_, ho2, rfl⟩ hd.typeIs (by decide) F.sub_dict_list F.slot_list_ne F.slot_dict_ne_refl
    (fun _ hq => call_meets F.slot_list_ne ⟨_, ho2, rfl⟩ F.entry_list_ne (F.args_list_ne_2 _ _) (list_ne_declines_dict l d items n2 dd2 sl2 es ep) ⟨ho2, ho, hq⟩)
    (fun _ hq => dict_ne_declines (T := "list") hd ⟨_, ho2, rfl⟩ F.sub_list_dict hq)
    (fun _ hq => wpAny_isSame_ref_other (hd.ne_list hl).symm ho2 ho (by simp) hq) (.inr hu) h

theorem RcNeAt.dict_tuple {d l : Addr} {items : Array Value} (hd : IsD s.heap d) (hl : s.heap.IsTuple l items) (hu : A.units < cLine) : RcNeAt A s (.ref d) (.ref l) true := fun prog w E Q h => by
  obtain ⟨⟨cls, dd, data, sl⟩, es, ep, ho, ⟨hc, hdd, hsl⟩, hdt⟩ := id hd
  simp only at hc hdd hsl hdt
  subst hc hdd hsl hdt
  obtain ⟨⟨cls2, dd2, data2, sl2⟩, ho2, hc2, n2, hd2⟩ := id hl
  simp only at hc2 hd2
  subst hc2 hd2
  exact rc_ne_decline_or (k := false) hd.typeIs ⟨_, ho2, rfl⟩ (by decide) F.sub_tuple_dict F.slot_dict_ne F.slot_tuple_ne_refl
    (fun _ hq => dict_ne_declines (T := "tuple") hd ⟨_, ho2, rfl⟩ F.sub_tuple_dict hq)
    (fun _ hq => call_meets F.slot_tuple_ne_refl ⟨_, ho2, rfl⟩ F.entry_tuple_ne (F.args_tuple_ne_2 _ _) (tuple_ne_declines_dict l d items n2 dd2 sl2 es ep) ⟨ho2, ho, hq⟩)
    (fun _ hq => wpAny_isSame_ref_other (hd.ne_tuple hl) ho ho2 (by simp) hq) (.inr hu) h
theorem RcNeAt.tuple_dict {d l : Addr} {items : Array Value} (hd : IsD s.heap d) (hl : s.heap.IsTuple l items) (hu : A.units < cLine) : RcNeAt A s (.ref l) (.ref d) true := fun prog w E Q h => by
  obtain ⟨⟨cls, dd, data, sl⟩, es, ep, ho, ⟨hc, hdd, hsl⟩, hdt⟩ := id hd
  simp only at hc hdd hsl hdt
  subst hc hdd hsl hdt
  obtain ⟨⟨cls2, dd2, data2, sl2⟩, ho2, hc2, n2, hd2⟩ := id hl
  simp only at hc2 hd2
  subst hc2 hd2
  exact rc_ne_decline_or (k := false) ⟨_, ho2, rfl⟩ hd.typeIs (by decide) F.sub_dict_tuple F.slot_tuple_ne F.slot_dict_ne_refl
    (fun _ hq => call_meets F.slot_tuple_ne ⟨_, ho2, rfl⟩ F.entry_tuple_ne (F.args_tuple_ne_2 _ _) (tuple_ne_declines_dict l d items n2 dd2 sl2 es ep) ⟨ho2, ho, hq⟩)
    (fun _ hq => dict_ne_declines (T := "tuple") hd ⟨_, ho2, rfl⟩ F.sub_tuple_dict hq)
    (fun _ hq => wpAny_isSame_ref_other' (hd.ne_tuple hl).symm ho2 ho (by simp) hq) (.inr hu) h

theorem RcNeAt.dict0_dict0 {d l : Addr} (hd : IsD0 s.heap d) (hl : IsD0 s.heap l) (hu : A.units < cLine) : RcNeAt A s (.ref d) (.ref l) false := fun prog w E Q h => by
  show wpAny _ _ (compareOp .NotEq _ _) _ _ _
  exact PySem.W.keq_ne (r := true) hd.1 hl.1 (hd.of prog w) (hl.of prog w) hu (fun _ => .nil) (by simpa using h)

theorem EqAt.dict0_dict0 {d l : Addr} (hd : IsD0 s.heap d) (hl : IsD0 s.heap l) (hu : A.units < cLine) : EqAt A s (.ref d) (.ref l) true := by
  by_cases e : d = l
  · subst e; exact EqAt.same _
  · exact .of_refs e (.dict0_dict0 hd hl hu)
end
end PySem.SeqAt

/-! data with empty dicts in it: == and != -/
namespace PySem.SeqAt
inductive EP where
  | non | bl (b : Bool) | int (i : Int) | str (s : Str) | list (xs : List EP) | tuple (xs : List EP) | dict0
mutual
def EP.eqv : EP → EP → Bool
  | .non, .non => true
  | .bl a, .bl b => a == b
  | .bl a, .int j => (if a then 1 else 0) == j
  | .int i, .bl b => i == (if b then 1 else 0)
  | .int i, .int j => i == j
  | .str x, .str y => x == y
  | .list xs, .list ys => EP.eqvs xs ys
  | .tuple xs, .tuple ys => EP.eqvs xs ys
  | .dict0, .dict0 => true
  | .non, .bl _ | .non, .int _ | .non, .str _ | .non, .list _ | .non, .tuple _ | .non, .dict0 => false
  | .bl _, .non | .bl _, .str _ | .bl _, .list _ | .bl _, .tuple _ | .bl _, .dict0 => false
  | .int _, .non | .int _, .str _ | .int _, .list _ | .int _, .tuple _ | .int _, .dict0 => false
  | .str _, .non | .str _, .bl _ | .str _, .int _ | .str _, .list _ | .str _, .tuple _ | .str _, .dict0 => false
  | .list _, .non | .list _, .bl _ | .list _, .int _ | .list _, .str _ | .list _, .tuple _ | .list _, .dict0 => false
  | .tuple _, .non | .tuple _, .bl _ | .tuple _, .int _ | .tuple _, .str _ | .tuple _, .list _ | .tuple _, .dict0 => false
  | .dict0, .non | .dict0, .bl _ | .dict0, .int _ | .dict0, .str _ | .dict0, .list _ | .dict0, .tuple _ => false
def EP.eqvs : List EP → List EP → Bool
  | [], [] => true
  | x :: xs, y :: ys => EP.eqv x y && EP.eqvs xs ys
  | [], _ :: _ => false
  | _ :: _, [] => false
end
mutual
def EP.depth : EP → Nat
  | .list xs => EP.depths xs + 1
  | .tuple xs => EP.depths xs + 1
  | _ => 0
def EP.depths : List EP → Nat
  | [] => 0
  | x :: xs => max (EP.depth x) (EP.depths xs)
end
mutual
/-- what stands at a value, told with empty dicts -/
inductive RdE (h : Heap) : Value → EP → Prop
  | non : RdE h .none .non
  | bl (b : Bool) : RdE h (.bool b) (.bl b)
  | int (i : Int) (t : Tok) : RdE h (.int i t) (.int i)
  | str (x : Str) (t : Tok) : RdE h (.str x t) (.str x)
  | list {l : Addr} {vs : Array Value} {xs : List EP} : h.IsList l vs → RdEs h vs.toList xs → RdE h (.ref l) (.list xs)
  | tuple {l : Addr} {vs : Array Value} {xs : List EP} : h.IsTuple l vs → RdEs h vs.toList xs → RdE h (.ref l) (.tuple xs)
  | dict0 {l : Addr} : IsD0 h l → RdE h (.ref l) .dict0
inductive RdEs (h : Heap) : List Value → List EP → Prop
  | nil : RdEs h [] []
  | cons {v : Value} {vs : List Value} {x : EP} {xs : List EP} : RdE h v x → RdEs h vs xs → RdEs h (v :: vs) (x :: xs)
end
theorem RdEs.length {h : Heap} : ∀ {vs : List Value} {xs : List EP}, RdEs h vs xs → vs.length = xs.length
  | [], [], _ => rfl
  | _ :: vs, _ :: xs, .cons _ r => congrArg (· + 1) (RdEs.length r)
theorem isList_fun {h : Heap} {l : Addr} {a b : Array Value} (x : h.IsList l a) (y : h.IsList l b) : a = b := by
  obtain ⟨o, ho, _, n, hd⟩ := x
  obtain ⟨o2, ho2, _, n2, hd2⟩ := y
  rw [ho] at ho2
  cases ho2
  rw [hd] at hd2
  cases hd2
  rfl
theorem isTuple_fun {h : Heap} {l : Addr} {a b : Array Value} (x : h.IsTuple l a) (y : h.IsTuple l b) : a = b := by
  obtain ⟨o, ho, _, n, hd⟩ := x
  obtain ⟨o2, ho2, _, n2, hd2⟩ := y
  rw [ho] at ho2
  cases ho2
  rw [hd] at hd2
  cases hd2
  rfl
theorem list_ne_tuple {h : Heap} {l b : Addr} {items items2 : Array Value} (hl : h.IsList l items) (hb : h.IsTuple b items2) : l ≠ b := fun e => by
  subst e
  obtain ⟨o, ho, hc, _⟩ := hl
  obtain ⟨o2, ho2, hc2, _⟩ := hb
  rw [ho] at ho2
  cases ho2
  rw [hc] at hc2
  exact absurd hc2 (by simp)
mutual
theorem RdE.uniq {h : Heap} : ∀ (x y : EP) (v : Value), RdE h v x → RdE h v y → x = y
  | .non, y, v, a, b => by cases a; cases b; rfl
  | .bl _, y, v, a, b => by cases a; cases b; rfl
  | .int _, y, v, a, b => by cases a; cases b; rfl
  | .str _, y, v, a, b => by cases a; cases b; rfl
  | .list xs, y, v, a, b => by
    cases a with
    | list h1 h2 => cases b with
      | list k1 k2 => cases isList_fun h1 k1; rw [RdEs.uniq xs _ _ h2 k2]
      | tuple k1 k2 => exact absurd rfl (list_ne_tuple h1 k1)
      | dict0 k => exact absurd rfl (k.d.ne_list h1)
  | .tuple xs, y, v, a, b => by
    cases a with
    | tuple h1 h2 => cases b with
      | tuple k1 k2 => cases isTuple_fun h1 k1; rw [RdEs.uniq xs _ _ h2 k2]
      | list k1 k2 => exact absurd rfl (list_ne_tuple k1 h1)
      | dict0 k => exact absurd rfl (k.d.ne_tuple h1)
  | .dict0, y, v, a, b => by
    cases a with
    | dict0 h => cases b with
      | tuple k1 k2 => exact absurd rfl (h.d.ne_tuple k1)
      | list k1 k2 => exact absurd rfl (h.d.ne_list k1)
      | dict0 k => rfl
theorem RdEs.uniq {h : Heap} : ∀ (xs ys : List EP) (vs : List Value), RdEs h vs xs → RdEs h vs ys → xs = ys
  | [], ys, vs, a, b => by cases a; cases b; rfl
  | x :: xs, ys, vs, a, b => by
    cases a with
    | cons h1 h2 => cases b with
      | cons k1 k2 => rw [RdE.uniq x _ _ h1 k1, RdEs.uniq xs _ _ h2 k2]
end
mutual
theorem EP.eqv_refl : ∀ x : EP, EP.eqv x x = true
  | .non => rfl
  | .bl _ => by simp [EP.eqv]
  | .int _ => by simp [EP.eqv]
  | .str _ => by simp [EP.eqv]
  | .list xs => EP.eqvs_refl xs
  | .tuple xs => EP.eqvs_refl xs
  | .dict0 => rfl
theorem EP.eqvs_refl : ∀ xs : List EP, EP.eqvs xs xs = true
  | [] => rfl
  | x :: xs => by simp only [EP.eqvs, EP.eqv_refl x, EP.eqvs_refl xs, Bool.and_true]
end
abbrev pairE (xs ys : List EP) (j : Nat) : Bool := EP.eqv (xs.getD j .non) (ys.getD j .non)
theorem eqvs_eq : ∀ xs ys : List EP, ((List.range (min xs.length ys.length)).all (pairE xs ys) && xs.length == ys.length) = EP.eqvs xs ys
  | [], [] => rfl
  | [], _ :: _ => by simp [EP.eqvs]
  | _ :: _, [] => by simp [EP.eqvs]
  | x :: xs, y :: ys => by
    have ih := eqvs_eq xs ys
    have e1 : min (x :: xs).length (y :: ys).length = min xs.length ys.length + 1 := by simp only [List.length_cons]; omega
    have e2 : ((x :: xs).length == (y :: ys).length) = (xs.length == ys.length) := by simp
    have e3 : (List.range (min xs.length ys.length + 1)).all (pairE (x :: xs) (y :: ys)) = (EP.eqv x y && (List.range (min xs.length ys.length)).all (pairE xs ys)) := by
      rw [List.range_succ_eq_map, List.all_cons, List.all_map]
      first | rfl | simp [pairE, Function.comp_def]
    rw [e1, e2, e3, EP.eqvs, ← ih, Bool.and_assoc]
theorem eqvs_same_length {xs ys : List EP} (h : xs.length = ys.length) : (List.range xs.length).all (pairE xs ys) = EP.eqvs xs ys := by
  have := eqvs_eq xs ys
  rw [← h, Nat.min_self] at this
  simpa using this
theorem eqvs_other_length {xs ys : List EP} (h : xs.length ≠ ys.length) : EP.eqvs xs ys = false := by
  rw [← eqvs_eq xs ys]
  simp [h]

mutual
theorem eqAt_e : ∀ (x y : EP) (A : Around) (s : Shared) (a b : Value), RdE s.heap a x → RdE s.heap b y → A.units + min x.depth y.depth < cLine → EqAt A s a b (EP.eqv x y)
  | .non, _, A, s, _, _, ra, rb, hu => by
    have hh := room_here hu
    cases ra
    cases rb with
    | non => exact EqAt.same _
    | bl y => exact EqAt.none_bool y 
    | int y u => exact EqAt.none_int y u 
    | str y u => exact EqAt.none_str y u 
    | @list l' vs' ys k1 k2 => exact EqAt.none_list  k1 hh
    | @tuple l' vs' ys k1 k2 => exact EqAt.none_tuple  k1 hh
    | dict0 k1 => exact EqAt.none_dict  k1.d hh
  | .bl x, _, A, s, _, _, ra, rb, hu => by
    have hh := room_here hu
    cases ra
    cases rb with
    | non => exact EqAt.bool_none x 
    | bl y => exact EqAt.bool_bool x y 
    | int y u => exact EqAt.bool_int x y u 
    | str y u => exact EqAt.bool_str x y u 
    | @list l' vs' ys k1 k2 => exact EqAt.bool_list x k1 hh
    | @tuple l' vs' ys k1 k2 => exact EqAt.bool_tuple x k1 hh
    | dict0 k1 => exact EqAt.bool_dict x k1.d hh
  | .int x, _, A, s, _, _, ra, rb, hu => by
    have hh := room_here hu
    cases ra with
    | int _ t =>
      cases rb with
      | non => exact EqAt.int_none x t 
      | bl y => exact EqAt.int_bool x t y 
      | int y u => exact EqAt.int_int x t y u 
      | str y u => exact EqAt.int_str x t y u 
      | @list l' vs' ys k1 k2 => exact EqAt.int_list x t k1 hh
      | @tuple l' vs' ys k1 k2 => exact EqAt.int_tuple x t k1 hh
      | dict0 k1 => exact EqAt.int_dict x t k1.d hh
  | .str x, _, A, s, _, _, ra, rb, hu => by
    have hh := room_here hu
    cases ra with
    | str _ t =>
      cases rb with
      | non => exact EqAt.str_none x t 
      | bl y => exact EqAt.str_bool x t y 
      | int y u => exact EqAt.str_int x t y u 
      | str y u => exact EqAt.str_str x t y u 
      | @list l' vs' ys k1 k2 => exact EqAt.str_list x t k1 hh
      | @tuple l' vs' ys k1 k2 => exact EqAt.str_tuple x t k1 hh
      | dict0 k1 => exact EqAt.str_dict x t k1.d hh
  | .list xs, _, A, s, _, _, ra, rb, hu => by
    have hh := room_here hu
    cases ra with
    | @list l vs _ h1 h2 =>
      cases rb with
      | non => exact EqAt.list_none  h1 hh
      | bl y => exact EqAt.list_bool y h1 hh
      | int y u => exact EqAt.list_int y u h1 hh
      | str y u => exact EqAt.list_str y u h1 hh
      | @list l' vs' ys k1 k2 =>
        have n1 : vs.size = xs.length := by simpa using h2.length
        have n2 : vs'.size = ys.length := by simpa using k2.length
        show EqAt A s (.ref l) (.ref l') (EP.eqvs xs ys)
        by_cases hll : l = l'
        · subst hll
          have e : EP.list xs = EP.list ys := RdE.uniq _ _ _ (.list h1 h2) (.list k1 k2)
          injection e with e
          subst e
          rw [EP.eqvs_refl xs]
          exact EqAt.same _
        · by_cases hsz : vs.size = vs'.size
          · rw [← eqvs_same_length (by omega : xs.length = ys.length), ← n1]
            refine EqAt.of_refs hll (RcAt.lists h1 k1 hsz hh fun j j1 j2 => ?_)
            have := eqAt_es xs ys A.in1 s vs.toList vs'.toList h2 k2 (room_in hu) j (by simpa using j1) (by simpa using j2)
            simpa using this
          · rw [eqvs_other_length (by omega : xs.length ≠ ys.length)]
            exact EqAt.of_refs hll (RcAt.lists_lengths h1 k1 (by simpa using hsz) hh)
      | @tuple l' vs' ys k1 k2 => exact EqAt.list_tuple  h1 k1 hh
      | dict0 k1 => exact EqAt.list_dict  k1.d h1 hh
  | .tuple xs, _, A, s, _, _, ra, rb, hu => by
    have hh := room_here hu
    cases ra with
    | @tuple l vs _ h1 h2 =>
      cases rb with
      | non => exact EqAt.tuple_none  h1 hh
      | bl y => exact EqAt.tuple_bool y h1 hh
      | int y u => exact EqAt.tuple_int y u h1 hh
      | str y u => exact EqAt.tuple_str y u h1 hh
      | @list l' vs' ys k1 k2 => exact EqAt.tuple_list  h1 k1 hh
      | @tuple l' vs' ys k1 k2 =>
        have n1 : vs.size = xs.length := by simpa using h2.length
        have n2 : vs'.size = ys.length := by simpa using k2.length
        show EqAt A s (.ref l) (.ref l') (EP.eqvs xs ys)
        by_cases hll : l = l'
        · subst hll
          have e : EP.tuple xs = EP.tuple ys := RdE.uniq _ _ _ (.tuple h1 h2) (.tuple k1 k2)
          injection e with e
          subst e
          rw [EP.eqvs_refl xs]
          exact EqAt.same _
        · rw [← eqvs_eq xs ys, ← n1, ← n2]
          refine EqAt.of_refs hll (RcAt.tuples h1 k1 hh fun j j1 j2 => ?_)
          have := eqAt_es xs ys A.in1 s vs.toList vs'.toList h2 k2 (room_in hu) j (by simpa using j1) (by simpa using j2)
          simpa using this
      | dict0 k1 => exact EqAt.tuple_dict  k1.d h1 hh
  | .dict0, _, A, s, _, _, ra, rb, hu => by
    have hh := room_here hu
    cases ra with
    | dict0 h1 =>
      cases rb with
      | non => exact EqAt.dict_none  h1.d hh
      | bl y => exact EqAt.dict_bool y h1.d hh
      | int y u => exact EqAt.dict_int y u h1.d hh
      | str y u => exact EqAt.dict_str y u h1.d hh
      | @list l' vs' ys k1 k2 => exact EqAt.dict_list  h1.d k1 hh
      | @tuple l' vs' ys k1 k2 => exact EqAt.dict_tuple  h1.d k1 hh
      | dict0 k1 => exact EqAt.dict0_dict0 h1 k1 hh
theorem eqAt_es : ∀ (xs ys : List EP) (A : Around) (s : Shared) (vs ws : List Value), RdEs s.heap vs xs → RdEs s.heap ws ys → A.units + min (EP.depths xs) (EP.depths ys) < cLine →
    ∀ j (h1 : j < vs.length) (h2 : j < ws.length), EqAt A s vs[j] ws[j] (pairE xs ys j)
  | [], _, _, _, _, _, ra, _, _, j, h1, _ => by cases ra; exact absurd h1 (Nat.not_lt_zero _)
  | _ :: _, [], _, _, _, _, _, rb, _, j, _, h2 => by cases rb; exact absurd h2 (Nat.not_lt_zero _)
  | x :: xs, y :: ys, A, s, _, _, ra, rb, hu, j, h1, h2 => by
    cases ra with
    | cons r rs =>
      cases rb with
      | cons r' rs' =>
        cases j with
        | zero => exact eqAt_e x y A s _ _ r r' (room_head hu)
        | succ j => exact eqAt_es xs ys A s _ _ rs rs' (room_tail hu) j (Nat.lt_of_succ_lt_succ h1) (Nat.lt_of_succ_lt_succ h2)
end
theorem rcAt_e {x y : EP} {A : Around} {s : Shared} {a b : Value} (ra : RdE s.heap a x) (rb : RdE s.heap b y) (hu : A.units + min x.depth y.depth < cLine) : RcAt A s a b (EP.eqv x y) := by
  have hh := room_here hu
  cases ra with
  | non =>
    cases rb with
    | non => exact RcAt.none_none  
    | bl y => exact RcAt.none_bool y 
    | int y u => exact RcAt.none_int y u 
    | str y u => exact RcAt.none_str y u 
    | @list l' vs' ys k1 k2 => exact RcAt.none_list  k1 hh
    | @tuple l' vs' ys k1 k2 => exact RcAt.none_tuple  k1 hh
    | dict0 k1 => exact RcAt.none_dict  k1.d hh
  | bl x =>
    cases rb with
    | non => exact RcAt.bool_none x 
    | bl y => exact RcAt.bool_bool x y 
    | int y u => exact RcAt.bool_int x y u 
    | str y u => exact RcAt.bool_str x y u 
    | @list l' vs' ys k1 k2 => exact RcAt.bool_list x k1 hh
    | @tuple l' vs' ys k1 k2 => exact RcAt.bool_tuple x k1 hh
    | dict0 k1 => exact RcAt.bool_dict x k1.d hh
  | int x t =>
    cases rb with
    | non => exact RcAt.int_none x t 
    | bl y => exact RcAt.int_bool x t y 
    | int y u => exact RcAt.int_int x t y u 
    | str y u => exact RcAt.int_str x t y u 
    | @list l' vs' ys k1 k2 => exact RcAt.int_list x t k1 hh
    | @tuple l' vs' ys k1 k2 => exact RcAt.int_tuple x t k1 hh
    | dict0 k1 => exact RcAt.int_dict x t k1.d hh
  | str x t =>
    cases rb with
    | non => exact RcAt.str_none x t 
    | bl y => exact RcAt.str_bool x t y 
    | int y u => exact RcAt.str_int x t y u 
    | str y u => exact RcAt.str_str x t y u 
    | @list l' vs' ys k1 k2 => exact RcAt.str_list x t k1 hh
    | @tuple l' vs' ys k1 k2 => exact RcAt.str_tuple x t k1 hh
    | dict0 k1 => exact RcAt.str_dict x t k1.d hh
  | @list l vs xs h1 h2 =>
    cases rb with
    | non => exact RcAt.list_none  h1 hh
    | bl y => exact RcAt.list_bool y h1 hh
    | int y u => exact RcAt.list_int y u h1 hh
    | str y u => exact RcAt.list_str y u h1 hh
    | @list l' vs' ys k1 k2 =>
      have n1 : vs.size = xs.length := by simpa using h2.length
      have n2 : vs'.size = ys.length := by simpa using k2.length
      have he : ∀ j (j1 : j < vs.size) (j2 : j < vs'.size), EqAt A.in1 s vs[j] vs'[j] (pairE xs ys j) := fun j j1 j2 => by
        have := eqAt_es xs ys A.in1 s vs.toList vs'.toList h2 k2 (room_in hu) j (by simpa using j1) (by simpa using j2)
        simpa using this
      show RcAt A s (.ref l) (.ref l') (EP.eqvs xs ys)
      by_cases hsz : vs.size = vs'.size
      · rw [← eqvs_same_length (by omega : xs.length = ys.length), ← n1]
        exact RcAt.lists h1 k1 hsz hh he
      · rw [eqvs_other_length (by omega : xs.length ≠ ys.length)]
        exact RcAt.lists_lengths h1 k1 (by simpa using hsz) hh
    | @tuple l' vs' ys k1 k2 => exact RcAt.list_tuple  h1 k1 hh
    | dict0 k1 => exact RcAt.list_dict  k1.d h1 hh
  | @tuple l vs xs h1 h2 =>
    cases rb with
    | non => exact RcAt.tuple_none  h1 hh
    | bl y => exact RcAt.tuple_bool y h1 hh
    | int y u => exact RcAt.tuple_int y u h1 hh
    | str y u => exact RcAt.tuple_str y u h1 hh
    | @list l' vs' ys k1 k2 => exact RcAt.tuple_list  h1 k1 hh
    | @tuple l' vs' ys k1 k2 =>
      have n1 : vs.size = xs.length := by simpa using h2.length
      have n2 : vs'.size = ys.length := by simpa using k2.length
      have he : ∀ j (j1 : j < vs.size) (j2 : j < vs'.size), EqAt A.in1 s vs[j] vs'[j] (pairE xs ys j) := fun j j1 j2 => by
        have := eqAt_es xs ys A.in1 s vs.toList vs'.toList h2 k2 (room_in hu) j (by simpa using j1) (by simpa using j2)
        simpa using this
      show RcAt A s (.ref l) (.ref l') (EP.eqvs xs ys)
      rw [← eqvs_eq xs ys, ← n1, ← n2]
      exact RcAt.tuples h1 k1 hh he
    | dict0 k1 => exact RcAt.tuple_dict  k1.d h1 hh
  | dict0 h1 =>
    cases rb with
    | non => exact RcAt.dict_none  h1.d hh
    | bl y => exact RcAt.dict_bool y h1.d hh
    | int y u => exact RcAt.dict_int y u h1.d hh
    | str y u => exact RcAt.dict_str y u h1.d hh
    | @list l' vs' ys k1 k2 => exact RcAt.dict_list  h1.d k1 hh
    | @tuple l' vs' ys k1 k2 => exact RcAt.dict_tuple  h1.d k1 hh
    | dict0 k1 => exact RcAt.dict0_dict0 h1 k1 hh
theorem rcNeAt_e {x y : EP} {A : Around} {s : Shared} {a b : Value} (ra : RdE s.heap a x) (rb : RdE s.heap b y) (hu : A.units + min x.depth y.depth < cLine) : RcNeAt A s a b (!EP.eqv x y) := by
  have hh := room_here hu
  cases ra with
  | non =>
    cases rb with
    | non => exact RcNeAt.none_none  
    | bl y => exact RcNeAt.none_bool y 
    | int y u => exact RcNeAt.none_int y u 
    | str y u => exact RcNeAt.none_str y u 
    | @list l' vs' ys k1 k2 => exact RcNeAt.none_list  k1 hh
    | @tuple l' vs' ys k1 k2 => exact RcNeAt.none_tuple  k1 hh
    | dict0 k1 => exact RcNeAt.none_dict  k1.d hh
  | bl x =>
    cases rb with
    | non => exact RcNeAt.bool_none x 
    | bl y => exact RcNeAt.bool_bool x y 
    | int y u => exact RcNeAt.bool_int x y u 
    | str y u => exact RcNeAt.bool_str x y u 
    | @list l' vs' ys k1 k2 => exact RcNeAt.bool_list x k1 hh
    | @tuple l' vs' ys k1 k2 => exact RcNeAt.bool_tuple x k1 hh
    | dict0 k1 => exact RcNeAt.bool_dict x k1.d hh
  | int x t =>
    cases rb with
    | non => exact RcNeAt.int_none x t 
    | bl y => exact RcNeAt.int_bool x t y 
    | int y u => exact RcNeAt.int_int x t y u 
    | str y u => exact RcNeAt.int_str x t y u 
    | @list l' vs' ys k1 k2 => exact RcNeAt.int_list x t k1 hh
    | @tuple l' vs' ys k1 k2 => exact RcNeAt.int_tuple x t k1 hh
    | dict0 k1 => exact RcNeAt.int_dict x t k1.d hh
  | str x t =>
    cases rb with
    | non => exact RcNeAt.str_none x t 
    | bl y => exact RcNeAt.str_bool x t y 
    | int y u => exact RcNeAt.str_int x t y u 
    | str y u => exact RcNeAt.str_str x t y u 
    | @list l' vs' ys k1 k2 => exact RcNeAt.str_list x t k1 hh
    | @tuple l' vs' ys k1 k2 => exact RcNeAt.str_tuple x t k1 hh
    | dict0 k1 => exact RcNeAt.str_dict x t k1.d hh
  | @list l vs xs h1 h2 =>
    cases rb with
    | non => exact RcNeAt.list_none  h1 hh
    | bl y => exact RcNeAt.list_bool y h1 hh
    | int y u => exact RcNeAt.list_int y u h1 hh
    | str y u => exact RcNeAt.list_str y u h1 hh
    | @list l' vs' ys k1 k2 =>
      have n1 : vs.size = xs.length := by simpa using h2.length
      have n2 : vs'.size = ys.length := by simpa using k2.length
      have he : ∀ j (j1 : j < vs.size) (j2 : j < vs'.size), EqAt A.in1 s vs[j] vs'[j] (pairE xs ys j) := fun j j1 j2 => by
        have := eqAt_es xs ys A.in1 s vs.toList vs'.toList h2 k2 (room_in hu) j (by simpa using j1) (by simpa using j2)
        simpa using this
      show RcNeAt A s (.ref l) (.ref l') (!EP.eqvs xs ys)
      by_cases hsz : vs.size = vs'.size
      · rw [← eqvs_same_length (by omega : xs.length = ys.length), ← n1]
        exact RcNeAt.lists h1 k1 hsz hh he
      · rw [eqvs_other_length (by omega : xs.length ≠ ys.length)]
        exact RcNeAt.lists_lengths h1 k1 (by simpa using hsz) hh
    | @tuple l' vs' ys k1 k2 => exact RcNeAt.list_tuple  h1 k1 hh
    | dict0 k1 => exact RcNeAt.list_dict  k1.d h1 hh
  | @tuple l vs xs h1 h2 =>
    cases rb with
    | non => exact RcNeAt.tuple_none  h1 hh
    | bl y => exact RcNeAt.tuple_bool y h1 hh
    | int y u => exact RcNeAt.tuple_int y u h1 hh
    | str y u => exact RcNeAt.tuple_str y u h1 hh
    | @list l' vs' ys k1 k2 => exact RcNeAt.tuple_list  h1 k1 hh
    | @tuple l' vs' ys k1 k2 =>
      have n1 : vs.size = xs.length := by simpa using h2.length
      have n2 : vs'.size = ys.length := by simpa using k2.length
      have he : ∀ j (j1 : j < vs.size) (j2 : j < vs'.size), EqAt A.in1 s vs[j] vs'[j] (pairE xs ys j) := fun j j1 j2 => by
        have := eqAt_es xs ys A.in1 s vs.toList vs'.toList h2 k2 (room_in hu) j (by simpa using j1) (by simpa using j2)
        simpa using this
      show RcNeAt A s (.ref l) (.ref l') (!EP.eqvs xs ys)
      rw [← eqvs_eq xs ys, ← n1, ← n2]
      exact RcNeAt.tuples h1 k1 hh he
    | dict0 k1 => exact RcNeAt.tuple_dict  k1.d h1 hh
  | dict0 h1 =>
    cases rb with
    | non => exact RcNeAt.dict_none  h1.d hh
    | bl y => exact RcNeAt.dict_bool y h1.d hh
    | int y u => exact RcNeAt.dict_int y u h1.d hh
    | str y u => exact RcNeAt.dict_str y u h1.d hh
    | @list l' vs' ys k1 k2 => exact RcNeAt.dict_list  h1.d k1 hh
    | @tuple l' vs' ys k1 k2 => exact RcNeAt.dict_tuple  h1.d k1 hh
    | dict0 k1 => exact RcNeAt.dict0_dict0 h1 k1 hh
end PySem.SeqAt

/-! == and != of data with empty dicts in it, in the layer -/
namespace PD
open PySem PySem.Spec PyProof.Rows L2
open PySem.SeqAt (EP RdE RdEs IsD0)
mutual
inductive De (K : PySem.W.Frag) (H : Hp) : V → EP → Prop
  | non : De K H .non .non
  | bl (b : Bool) : De K H (.bl b) (.bl b)
  | int (i : Int) : De K H (.int i) (.int i)
  | str (x : Str) : De K H (.str x) (.str x)
  | lst {a : Addr} {xs : List V} {ds : List EP} : SqL K H a xs → DeAll K H xs ds → De K H (.ref a) (.list ds)
  | tup {a : Addr} {xs : List V} {ds : List EP} : SqT K H a xs → DeAll K H xs ds → De K H (.ref a) (.tuple ds)
  | dct {a : Addr} : H a = some (.dK []) ∨ H a = some (.dT []) → De K H (.ref a) .dict0
inductive DeAll (K : PySem.W.Frag) (H : Hp) : List V → List EP → Prop
  | nil : DeAll K H [] []
  | cons {v : V} {vs : List V} {d : EP} {ds : List EP} : De K H v d → DeAll K H vs ds → DeAll K H (v :: vs) (d :: ds)
end
section
variable {X : Cx} {pins : List (Addr × Obj)} {σ : L2.St} {H : Hp} {s : Shared}
theorem isD0_of (I : Inv X pins σ H s) {a : Addr} (h : H a = some (.dK []) ∨ H a = some (.dT [])) : IsD0 s.heap a := by
  rcases h with h | h
  · obtain ⟨_, y, vs, kv, o, es, ep, ho, ex, hd, _, hp, _⟩ := (show ObjOk X.prog X.w H s.heap a (.dK []) from I.hok a _ h)
    have e : vs = [] := by
      have := kv.length
      cases vs with
      | nil => rfl
      | cons _ _ => simp at this
    subst e
    have e2 : es = #[] := by
      rcases es with ⟨l⟩
      cases l with
      | nil => rfl
      | cons _ _ => cases hp
    subst e2
    exact ⟨y, o, ep, ho, ex, hd⟩
  · obtain ⟨_, y, xs, kv, o, es, ep, ho, ex, hd, hp, _⟩ := (show ObjOk X.prog X.w H s.heap a (.dT []) from I.hok a _ h)
    cases kv
    have e2 : es = #[] := by
      rcases es with ⟨l⟩
      cases l with
      | nil => rfl
      | cons _ _ => simp at hp
    subst e2
    exact ⟨y, o, ep, ho, ex, hd⟩
mutual
theorem De.reads (I : Inv X pins σ H s) : ∀ (d : EP) (v : V) (u : Value), De X.K H v d → RelV v u → RdE s.heap u d
  | .non, _, _, h, r => by
    cases h
    cases r
    exact .non
  | .bl b, _, _, h, r => by
    cases h
    cases r
    exact .bl b
  | .int i, _, _, h, r => by
    cases h
    obtain ⟨t, rfl⟩ := r
    exact .int i t
  | .str x, _, _, h, r => by
    cases h
    obtain ⟨t, rfl⟩ := r
    exact .str x t
  | .list ds, _, _, h, r => by
    cases h with
    | lst hs ha =>
      cases r
      obtain ⟨its, rv, ⟨o, n, ho, hc, _, hd⟩, _⟩ := I.list hs
      exact .list ⟨o, ho, hc, n, hd⟩ (De.readsAll I ds _ its ha rv)
  | .tuple ds, _, _, h, r => by
    cases h with
    | tup hs ha =>
      cases r
      obtain ⟨its, rv, ⟨o, ho, hc, n, hd⟩, _⟩ := I.tuple hs
      exact .tuple ⟨o, ho, hc, n, hd⟩ (De.readsAll I ds _ its ha rv)
  | .dict0, _, _, h, r => by
    cases h with
    | dct hh =>
      cases r
      exact .dict0 (isD0_of I hh)
theorem De.readsAll (I : Inv X pins σ H s) : ∀ (ds : List EP) (vs : List V) (us : List Value), DeAll X.K H vs ds → Vals vs us → RdEs s.heap us ds
  | [], _, _, h, r => by
    cases h
    cases r
    exact .nil
  | d :: ds, _, _, h, r => by
    cases h with
    | cons h1 h2 =>
      cases r with
      | cons r1 r2 => exact .cons (De.reads I d _ _ h1 r1) (De.readsAll I ds _ _ h2 r2)
end
def rEqG (K : PySem.W.Frag) : R2 := fun x y H Q => ∃ d e, De K H x d ∧ De K H y e ∧ min d.depth e.depth ≤ 64 ∧ Q (.bl (EP.eqv d e)) H
def rNeG (K : PySem.W.Frag) : R2 := fun x y H Q => ∃ d e, De K H x d ∧ De K H y e ∧ min d.depth e.depth ≤ 64 ∧ Q (.bl (!EP.eqv d e)) H
theorem op_eqG (hu : X.A.units + 64 < cLine) : OpR X (compareOp .Eq) (rEqG X.K) := by
  intro pins s σ H x y v u Q I rx ry h
  obtain ⟨d, e, hd, he, hm, q⟩ := h
  exact SeqAt.rcAt_e (De.reads I d x v hd rx) (De.reads I e y u he ry) (by omega) _ _ _ _ ⟨.bl _, H, I, rfl, q⟩
theorem op_neG (hu : X.A.units + 64 < cLine) : OpR X (compareOp .NotEq) (rNeG X.K) := by
  intro pins s σ H x y v u Q I rx ry h
  obtain ⟨d, e, hd, he, hm, q⟩ := h
  exact SeqAt.rcNeAt_e (De.reads I d x v hd rx) (De.reads I e y u he ry) (by omega) _ _ _ _ ⟨.bl _, H, I, rfl, q⟩
theorem k_eqG {K : PySem.W.Frag} (hu : X.A.units + 64 < cLine) (h : X.K = K := by rfl) : OpR X (compareOp .Eq) (rEqG K) := by subst h; exact op_eqG hu
theorem k_neG {K : PySem.W.Frag} (hu : X.A.units + 64 < cLine) (h : X.K = K := by rfl) : OpR X (compareOp .NotEq) (rNeG K) := by subst h; exact op_neG hu
end
mutual
def toE : D → EP
  | .non => .non
  | .bl b => .bl b
  | .int i => .int i
  | .str s => .str s
  | .tup xs => .tuple (toEs xs)
  | .lst xs => .list (toEs xs)
  | .bor xs => .list (toEs xs)
  | .scr xs => .list (toEs xs)
  | _ => .dict0
def toEs : List D → List EP
  | [] => []
  | d :: ds => toE d :: toEs ds
end
mutual
def okE : D → Bool
  | .non => true
  | .bl _ => true
  | .int _ => true
  | .str _ => true
  | .tup xs => okEs xs
  | .lst xs => okEs xs
  | .bor xs => okEs xs
  | .scr xs => okEs xs
  | .dct [] => true
  | _ => false
def okEs : List D → Bool
  | [] => true
  | d :: ds => okE d && okEs ds
end
section
variable {τ : Type} {P : Pm} {R : τ → Hp → Prop} {W : WX}
mutual
theorem toE_de {F H : Hp} (h : Same F H) : ∀ (d : D) (v : V), Rep P F d v → okE d = true → De P.K H v (toE d)
  | .non, v, r, q => by simp only [Rep] at r; subst r; exact .non
  | .bl b, v, r, q => by simp only [Rep] at r; subst r; exact .bl b
  | .int i, v, r, q => by simp only [Rep] at r; subst r; exact .int i
  | .str i, v, r, q => by simp only [Rep] at r; subst r; exact .str i
  | .tup xs, v, r, q => by
    simp only [Rep] at r; simp only [okE] at q
    obtain ⟨a, vs, rfl, hs, rs⟩ := r
    refine .tup ?_ (toEs_de h xs vs rs q)
    rcases hs with (q | ⟨o, q⟩) | q
    · exact .inl (.inl (h _ _ q))
    · exact .inl (.inr ⟨o, h _ _ q⟩)
    · exact .inr q
  | .lst xs, v, r, q => by
    simp only [Rep] at r; simp only [okE] at q
    obtain ⟨a, vs, rfl, hs, rs⟩ := r
    exact .lst (.of (h _ _ hs)) (toEs_de h xs vs rs q)
  | .bor xs, v, r, q => by simp only [Rep] at r
  | .scr xs, v, r, q => by
    simp only [Rep] at r; simp only [okE] at q
    obtain ⟨a, vs, rfl, hs, rs⟩ := r
    exact .lst (h.seq hs) (toEs_de h xs vs rs q)
  | .dct [], v, r, q => by
    simp only [Rep, RepK, RepT] at r
    obtain ⟨a, rfl, ⟨ks, e, rfl⟩ | ⟨ks, e, rfl⟩⟩ := r
    · exact .dct (.inl (h _ _ e))
    · exact .dct (.inr (h _ _ e))
  | .dct (_ :: _), v, r, q => by simp only [okE] at q; cases q
  | .ins _ _, v, r, q => by simp only [okE] at q; cases q
  | .state, v, r, q => by simp only [okE] at q; cases q
  | .cls _, v, r, q => by simp only [okE] at q; cases q
theorem toEs_de {F H : Hp} (h : Same F H) : ∀ (ds : List D) (vs : List V), Reps P F ds vs → okEs ds = true → DeAll P.K H vs (toEs ds)
  | [], vs, r, q => by simp only [Reps] at r; subst r; exact .nil
  | d :: ds, vs, r, q => by
    obtain ⟨v, ws, rfl, r1, rs⟩ := r.uncons
    simp only [okEs, Bool.and_eq_true] at q
    exact .cons (toE_de h d v r1 q.1) (toEs_de h ds ws rs q.2)
end
theorem toE_deB {F B M H : Hp} (p : Pre F B M H) {d : D} {v : V} (r : RepB P F B d v) (q : okE d = true) : De P.K H v (toE d) := by
  cases d
  case bor xs =>
    obtain ⟨a, vs, rfl, hs, rs⟩ := r
    simp only [okE] at q
    exact .lst (.of (p.b _ _ hs)) (toEs_de p.f xs vs rs q)
  all_goals exact toE_de p.f _ v r q
/-- data that may be compared, empty dicts among it -/
def cmpE (x y : D) : Prop := okE x = true ∧ okE y = true ∧ min (toE x).depth (toE y).depth ≤ 64
instance {x y : D} : Decidable (cmpE x y) := by unfold cmpE; exact inferInstance
def eqE (x y : D) : Bool := EP.eqv (toE x) (toE y)
def dEqG (x y : D) : Option D := if cmpE x y then some (.bl (eqE x y)) else none
def dNeG (x y : D) : Option D := if cmpE x y then some (.bl (!eqE x y)) else none
theorem opd_eqG : OpD P (rEqG P.K) dEqG := by
  intro F B M H x y dx dy d p rx ry e Q q
  obtain ⟨⟨h1, h2, h3⟩, e⟩ := if_some e
  cases e
  exact ⟨_, _, toE_deB p rx h1, toE_deB p ry h2, h3, q F H _ (.refl p) rfl⟩
theorem opd_neG : OpD P (rNeG P.K) dNeG := by
  intro F B M H x y dx dy d p rx ry e Q q
  obtain ⟨⟨h1, h2, h3⟩, e⟩ := if_some e
  cases e
  exact ⟨_, _, toE_deB p rx h1, toE_deB p ry h2, h3, q F H _ (.refl p) rfl⟩
end
theorem g_eq {x y : D} (h : cmpE x y) : dEqG x y = some (.bl (eqE x y)) := if_pos h
theorem g_ne {x y : D} (h : cmpE x y) : dNeG x y = some (.bl (!eqE x y)) := if_pos h
end PD

/-! the display of an empty dict -/
namespace PD
open PySem PySem.Spec PyProof.Rows L2
section
variable {τ : Type} {P : Pm} {R : τ → Hp → Prop} {W : WX}
theorem ev_dct0 : EvD P R W tDNewK (gC (.dct [])) := by
  intro F B M H σ ρ st w Q hs
  intro p hp
  exact hs _ M _ _ (.new w.pre hp) w.r (Rep.b (by simp only [Rep]; exact ⟨p, rfl, .inl ⟨[], upd_same, rfl⟩⟩))
end
end PD

/-! a + b, a | b by an own method, both objects of the same class -/
namespace PD
open PySem PySem.Spec PyProof.Rows L2
theorem cmpBack_rel {x : V} {u : Value} {Q : Value → Shared → Prop} {s : Shared} (r : RelV x u) (h : Q u s) : PySem.W.CmpBack Q u s := by
  cases x with
  | non => cases (show u = Value.none from r); exact h
  | bl b => cases (show u = Value.bool b from r); exact h
  | int i => obtain ⟨t, rfl⟩ := (show ∃ t, u = Value.int i t from r); exact h
  | str i => obtain ⟨t, rfl⟩ := (show ∃ t, u = Value.str i t from r); exact h
  | byt i => obtain ⟨t, rfl⟩ := (show ∃ t, u = Value.bytes i t from r); exact h
  | flt i => obtain ⟨t, rfl⟩ := (show ∃ t, u = Value.float i t from r); exact h
  | ref a => cases (show u = Value.ref a from r); exact h
  | ty n => cases (show u = Value.type n from r); exact h
def rBinW (C : Addr) (sp : Sp) (E : XK) : R2 := fun x y H Q => ∃ a dx fs b dx2 fs2, x = .ref a ∧ H a = some (.ins C dx fs) ∧ y = .ref b ∧ H b = some (.ins C dx2 fs2) ∧ sp [x, y] H Q E
def tBinW (C : Addr) (sp : Sp) (E : L2.St → XK) (ta tb : TE) : TE := fun σ H Q => ta σ H fun x H1 => tb σ H1 fun y H2 => rBinW C sp (E σ) x y H2 Q
section
variable {X : Cx}
theorem pe_binW {W : WX} {k : Nat} {f C : Addr} {fd : FuncData} {ps : List Str} {sp : Sp} {op : Operator} {l r : Expr} {pos : Pos} {ta tb : TE} (hl : PE X l ta) (hR : PE X r tb) (hc : PySem.W.selfFirst X.K C = true)
    (hs : PySem.W.findIn X.K (.ref C) (PySem.dunder op.info.2) = some (some (.ref f))) (hf : PySem.W.isFn X.K (.ref f) = true) (F : FnOk X.prog X.w X.K X.mg X.base (L2.CX X.prog X.w) k f fd ps sp) (hr : Room k X.A)
    (hb : Binds X.K fd ps []) (tk : Takes X W) : PE X (.BinOp l op r pos) (tBinW C sp (WE W) ta tb) := by
  refine ⟨fun pins s σ H Q I h => ?_⟩
  refine wpAny_BinOp (binT hl hR I h fun v u s2 x y H2 I2 rx ry q => ?_)
  obtain ⟨a, dx, fs, b, dx2, fs2, rfl, ea, rfl, eb, q⟩ := q
  cases (show v = Value.ref a from rx)
  cases (show u = Value.ref b from ry)
  obtain ⟨mA, J, _⟩ := ins_get I2.hok ea
  obtain ⟨od, J, _⟩ := J.look
  obtain ⟨mB, J2, _⟩ := ins_get I2.hok eb
  obtain ⟨od2, J2, _⟩ := J2.look
  obtain ⟨m, hF⟩ := I2.fr
  refine PySem.W.binop_K hF I2.ok.mod.kin J J2.type hc hs hf (wpAny_mono (run_fnS (us := [.ref a, .ref b]) (vs := [.ref a, .ref b]) F hr hb (passAt tk σ) I2 (.cons rfl (.cons rfl .nil)) q) (fun v s' hq => ?_) fun _ _ z => z)
  obtain ⟨x, H', I', r, q'⟩ := hq
  exact cmpBack_rel r ⟨x, H', I', r, q'⟩
end
section
variable {τ : Type} {P : Pm} {Rf : Addr → τ → Hp → Prop} {W : WX}
def gBinO (cls : Str) (m : List D → τ → Res τ D) (a b : GE τ) : GE τ := fun ρ st => (a ρ st).bind fun x st => (b ρ st).bind fun y st => if isC cls x = true ∧ isC cls y = true then m [x, y] st else .stuck
theorem ev_binO {cls : Str} {C : Addr} {m : List D → τ → Res τ D} {ta tb : TE} {ga gb : GE τ} (hC : P.mg cls = some (.ref C)) (ha : EvD P (Rf P.sa) W ta ga) (hb : EvD P (Rf P.sa) W tb gb) :
    EvD P (Rf P.sa) W (tBinW C (spD P.K P.mg Rf 2 m) (WE W) ta tb) (gBinO cls m ga gb) := by
  intro F B M H σ ρ st w Q h
  refine ha F B M H σ ρ st w _ (h.bind.mono (fun x st1 h1 F1 M1 H1 v1 E1 R1 r1 => ?_) fun _ _ z => z)
  have w1 := w.ext E1 R1
  refine hb F1 B M1 H1 σ ρ st1 w1 _ (h1.bind.mono (fun y st2 h2 F2 M2 H2 v2 E2 R2 r2 => ?_) fun _ _ z => KX.ext P _ z E1)
  have p2 := w1.pre.ext E2
  obtain ⟨⟨hx, hy⟩, h4⟩ := Sat.ite h2
  cases x
  case ins D0 fs =>
    cases y
    case ins D1 gs =>
      obtain rfl : D0 = cls := beq_iff_eq.mp hx
      obtain rfl : D1 = D0 := beq_iff_eq.mp hy
      have r1' := RepB.mono E2.ff r1
      obtain ⟨a0, dx, vs, rfl, ea, rs⟩ := ins_rep hC p2 r1'
      obtain ⟨b0, dx2, vs2, rfl, eb, rs2⟩ := ins_rep hC p2 r2
      refine ⟨a0, dx, vs, b0, dx2, vs2, rfl, ea, rfl, eb, rfl, P.sa, P.xa, F2, B, M2, [.ins _ fs, .ins _ gs], st2, p2, R2, ⟨_, _, rfl, r1', _, _, rfl, r2, rfl⟩, ?_⟩
      exact h4.mono (fun d st3 h3 F' M' H' v E r r3 => h3 F' M' H' v ((E1.trans E2).trans E) r r3.b) fun x st3 h3 F' M' H' c dd E r x => h3 F' M' H' c dd ((E1.trans E2).trans E) r x
    all_goals exact absurd hy Bool.false_ne_true
  all_goals exact absurd hx Bool.false_ne_true
end
section
variable {τ : Type} {ρ : Sl} {st : τ} {ok : D → τ → Prop} {er : Exn → τ → Prop}
@[simp] theorem s_binO {cls : Str} {m : List D → τ → Res τ D} {a b : GE τ} : Sat (gBinO cls m a b ρ st) ok er ↔ Sat (a ρ st) (fun x st => Sat (b ρ st) (fun y st => Ask (isC cls x = true ∧ isC cls y = true) (Sat (m [x, y] st) ok er)) er) er := by
  unfold gBinO
  cases a ρ st with
  | stuck => exact Iff.rfl
  | err x st => exact Iff.rfl
  | ok x st =>
    show Sat ((b ρ st).bind _) ok er ↔ Sat (b ρ st) _ er
    cases b ρ st with
    | stuck => exact Iff.rfl
    | err x st => exact Iff.rfl
    | ok y st => exact sat_if Iff.rfl
end
section
variable (Pr : Program) (w : World) (K : PySem.W.Frag) (mg : Str → Option Value) (base : Heap)
structure CalB (lvl : Nat) (d : Str) (ps : List Str) (sp : Sp) (C : Addr) : Prop where
  ex : ∃ f fd, PySem.W.selfFirst K C = true ∧ PySem.W.findIn K (.ref C) d = some (some (.ref f)) ∧ PySem.W.isFn K (.ref f) = true ∧ Binds K fd ps [] ∧ FnOk Pr w K mg base (L2.CX Pr w) lvl f fd ps sp
end
theorem pe_bin {X : Cx} {W : WX} {lvl : Nat} {d : Str} {ps : List Str} {sp : Sp} {C : Addr} {op : Operator} {l r : Expr} {pos : Pos} {ta tb : TE} (c : CalB X.prog X.w X.K X.mg X.base lvl d ps sp C) (hd : PySem.dunder op.info.2 = d) (hr : Room lvl X.A) (tk : Takes X W) (hl : PE X l ta) (hR : PE X r tb) :
    PE X (.BinOp l op r pos) (tBinW C sp (WE W) ta tb) := by
  subst hd
  obtain ⟨f, fd, hc, hs, hf, hb, F⟩ := c.ex
  exact pe_binW hl hR hc hs hf F hr hb tk
end PD

/-! sets of ints out of lists; sorted of them, any length -/
namespace L2
open PySem PySem.Spec PyProof.Rows
section
variable {P : Program} {w : World} {A : Around} {E : Value → Shared → Prop} {s : Shared}
set_option maxHeartbeats 3200000 in
theorem call_set_lstI {l : Addr} {items : Array Value} (ns : List Int) {Q : Value → Shared → Prop} (hh : A.handled = none) (hl : s.heap.IsList l items) (hit : IntsAre items.toList ns) (hb : ns.length + 1 < scanBound)
    (h : ∀ (h' : Heap) (tk c : Nat), SetR w h' s.heap.objs.size (fun j => decide (j ∈ ns)) c → c ≤ ns.length → (∀ b o, s.heap.get? b = some o → h'.get? b = some o) → Q (.ref s.heap.objs.size) { s with heap := h', toks := tk }) :
    wpAny (model P w) A (call (.type "set") [.ref l]) Q E s := by
  have hisz : items.size = ns.length := by
    have q := IntsAre.length hit
    rw [Array.length_toList] at q
    exact q
  obtain ⟨c, tl, hmro⟩ := F.called_set.mro
  have hmade := F.called_set.made
  have hsub := F.called_set.sub
  refine wpAny_call (codeAny_of_tree ?_)
  show wpAny _ _ (callAny (.type "set") _) _ _ _
  refine wpAny_pure ⟨Code.quiet_builtin _ (by decide +kernel), codeAny_builtin F.entry_type_call ?_⟩
  rw [Around.under_plain (weight_type_call_type "set" [.ref l] []) rfl]
  have h1 := F.called_set.notType
  have h2 := F.called_set.canCreate
  have hct := F.typeCall_set_1 (.ref l)
  repeat (any_goals (first | assumption | wp_step))

  refine codeAny_mono (code_set_led1 (.ref l) (E := E) (Q₁ := fun obj s₁ => obj = .ref s.heap.objs.size ∧ s₁ = { s with heap := s.heap.push { cls := .type "set", dict := none, data := .set #[] 0 (.fresh 0 0 (!w.params.followText "set-order")) } }) ⟨rfl, rfl⟩) fun r s₁ hr => ?_
  cases r with
  | error e => exact hr
  | ok fl =>
    cases fl with
    | ret obj =>
      obtain ⟨rfl, rfl⟩ := hr
      have hS : (s.heap.push { cls := .type "set", dict := none, data := .set #[] 0 (.fresh 0 0 (!w.params.followText "set-order")) }).get? s.heap.objs.size = some { cls := .type "set", dict := none, data := .set #[] 0 (.fresh 0 0 (!w.params.followText "set-order")) } := Heap.get?_push_size _ rfl
      have hT : Shared.TypeIs { s with heap := s.heap.push { cls := .type "set", dict := none, data := .set #[] 0 (.fresh 0 0 (!w.params.followText "set-order")) } } (.ref s.heap.objs.size) "set" := ⟨_, hS, rfl⟩
      have hli := F.called_set.init.lookup
      have hbi := F.called_set.init.bind (.ref s.heap.objs.size)
      repeat (any_goals (first | assumption | wp_step))

      refine codeAny_mono (codeAny_call_builtin (R := wants (fun r s₂ => r = .none ∧ ∃ h' tk c, s₂ = { s with heap := h', toks := tk } ∧ SetR w h' s.heap.objs.size (fun j => decide (j ∈ ns)) c ∧ c ≤ ns.length ∧
          (∀ b o, s.heap.get? b = some o → h'.get? b = some o)) E) F.called_set.init.plain F.entry_set_init (check_set_init_1 hT ?_)) fun r₂ s₂ hr₂ => ?_
      · obtain ⟨ol, hol, hcl, nl, hdl⟩ := hl
        obtain ⟨ocls, odict, odata, oslots⟩ := ol
        simp only at hcl hdl
        subst hcl; subst hdl
        have hol' : (s.heap.push { cls := .type "set", dict := none, data := .set #[] 0 (.fresh 0 0 (!w.params.followText "set-order")) }).get? l = some { cls := .type "list", dict := odict, data := .seq items nl, slots := oslots } := Heap.get?_push_of_some _ hol
        have hsls := F.sub_list_set
        have hslf := F.sub_list_frozenset
        have hne : (Value.type "list" == Value.type "dict") = false := by decide
        have hl1 : (s.heap.push { cls := .type "set", dict := none, data := .set #[] 0 (.fresh 0 0 (!w.params.followText "set-order")) }).IsList l items := ⟨_, hol', rfl, nl, rfl⟩
        unfold Builtin.«set.__init__» noKeywords Builtin.Frozenset.updateFrom
        generalize hPI : pyIter = PI
        wp_walk
        subst hPI

        refine wpAny_pyIter_list hl1 ?_
        refine wpAny_bind (wpAny_runValue ?_)
        have hlS : l < s.heap.objs.size := Heap.lt_size hol
        have hh3 : A.in1.in1.in1.handled = none := by simp [hh]
        have hz1 : (s.heap.push { cls := .type "set", dict := none, data := .set #[] 0 (.fresh 0 0 (!w.params.followText "set-order")) }).objs.size = s.heap.objs.size + 1 := Heap.size_push ..
        have hneI : l ≠ (s.heap.push { cls := .type "set", dict := none, data := .set #[] 0 (.fresh 0 0 (!w.params.followText "set-order")) }).objs.size := by
          rw [Heap.size_push]; exact Nat.ne_of_lt (Nat.lt_succ_of_lt hlS)
        have hSf : s.heap.objs.size ∉ [(s.heap.push { cls := .type "set", dict := none, data := .set #[] 0 (.fresh 0 0 (!w.params.followText "set-order")) }).objs.size, l] := by
          rw [Heap.size_push]; simp only [List.mem_cons, List.mem_singleton, List.not_mem_nil, or_false, not_or]
          exact ⟨Nat.ne_of_lt (Nat.lt_succ_self _), Nat.ne_of_gt hlS⟩
        have hval : ∀ (i : Nat) (v : Value), items[i]? = some v → ∃ k t, ns[i]? = some k ∧ v = .int k t := fun i v hv => by
          have hi : i < ns.length := by rw [← hisz]; exact (Array.getElem?_eq_some_iff.mp hv).1
          obtain ⟨t, e⟩ := PyProof.Rows.IntsAre.int_at hit i v (by rw [Array.getElem?_toList]; exact hv)
          refine ⟨ns[i], t, List.getElem?_eq_getElem hi, ?_⟩
          rw [e, List.getD_eq_getElem?_getD, List.getElem?_eq_getElem hi] <;> rfl
        refine set_update_ints ((Walks.list hh3 _ l hneI items).toS) s.heap.objs.size
          hSf ns hisz hb hval (items.size - 0) 0 _ (by omega) (Nat.zero_le _)
          ⟨⟨_, Heap.get?_push_size _ rfl, rfl, rfl⟩, (hl1.push _)⟩ ?hS0 ?hR
        case hS0 =>
          have hget : ((s.heap.push { cls := .type "set", dict := none, data := .set #[] 0 (.fresh 0 0 (!w.params.followText "set-order")) }).push { cls := .type "list_iterator", data := .fields #[.ref l, .int 0 0] }).get? s.heap.objs.size
              = some { cls := .type "set", dict := none, data := .set #[] 0 (.fresh 0 0 (!w.params.followText "set-order")) } := Heap.get?_push_of_some _ hS
          exact ⟨0, Nat.le_refl 0, setR_new_at hget⟩
        case hR =>
          intro s' c' hm hc' hS'
          obtain ⟨h', g2, d', tk', os'⟩ := s'
          have eg : g2 = s.gens := hm.gens
          have ed : d' = s.drawn := hm.drawn
          have eo : os' = s.os := hm.os
          subst eg; subst ed; subst eo
          show wpAny _ _ _ _ _ _
          refine wpAny_pure ?_
          show wpAny _ _ (ret Value.none) _ _ _
          rw [hisz] at hc'
          refine wpAny_pure ⟨rfl, h', tk', c', rfl, hS', hc', fun b o e => ?_⟩
          have hb0 : b < s.heap.objs.size := Heap.lt_size e
          have hb1 : b ≠ s.heap.objs.size := Nat.ne_of_lt hb0
          have hb2 : b ≠ (s.heap.push { cls := .type "set", dict := none, data := .set #[] 0 (.fresh 0 0 (!w.params.followText "set-order")) }).objs.size := by
            rw [Heap.size_push]; exact Nat.ne_of_lt (Nat.lt_succ_of_lt hb0)
          exact hm.heap b o (by simp only [List.mem_cons, List.mem_singleton, List.not_mem_nil, or_false, not_or]; exact ⟨hb1, hb2⟩) (Heap.get?_push_of_some _ (Heap.get?_push_of_some _ e))

      · cases r₂ with
        | error e => exact hr₂
        | ok fl₂ =>
          cases fl₂ with
          | ret r =>
            obtain ⟨rfl, h', tk, c', rfl, hS', hc', hk'⟩ := hr₂
            repeat (any_goals (first | assumption | wp_step))
            exact h _ _ _ hS' hc' hk'
          | _ => exact hr₂.elim
    | _ => exact hr.elim

end
end L2

/-! sets of ints out of lists; sorted of them, any length -/
namespace L2
open PySem PySem.Spec PyProof.Rows
section
variable {P : Program} {w : World} {A : Around} {E : Value → Shared → Prop} {s : Shared} {a : Addr} {es : Array (Int × Value)} {ep : Nat} {t : SetTable}
theorem sorted_setA {S : Int → Bool} {n : Nat} {Q : Value → Shared → Prop} (R : SetR w s.heap a S n) (hh : A.handled = none) (hL : n ≤ sizeLine)
    (hQ : ∀ s' p (out : Array Value) (c : Nat) (ns : List Int), (∀ b o, s.heap.get? b = some o → s'.heap.get? b = some o) → s'.gens = s.gens → s'.os = s.os → s.heap.objs.size ≤ p →
      s'.heap.get? p = some (seqObj "list" out c) → IntsAre out.toList ns → ns.Pairwise (· < ·) → (∀ k, k ∈ ns ↔ S k = true) → ns.length = n → Q (.ref p) s') :
    wpAny (model P w) A (call (.builtin "sorted") [.ref a]) Q E s := by
  obtain ⟨o, es, ep, t, ho, hex, hd, g, nd, hm, hb, hf, hn, hr, hl⟩ := R
  refine Calls.call_function_entry kind_sorted plain_sorted entry_sorted (args_sorted1 _) ?_
  unfold Builtin.«sorted»
  refine wpAny_bind (m := checkCount "sorted" 1 1 _) (wpAny_pure ?_)
  refine wpAny_bind (collect_set (A := A.in1) hh ⟨o, ho, hex.1, hd⟩ hf hb hr hl fun s1 vs k1 hz g1 o1 pm => ?_)
  have hvl : vs.length = n := by rw [pm.length_eq, List.length_map, Array.length_toList]; exact hn
  have hI : IntsAre vs (vs.map Builtin.Re.reRawOf) := ints_of vs fun v hv => by
    obtain ⟨e, he, q⟩ := List.mem_map.mp (pm.mem_iff.mp hv)
    obtain ⟨k, tk, h1, _⟩ := g e he
    exact ⟨k, tk, by rw [← q]; exact h1⟩
  have pk : (vs.map Builtin.Re.reRawOf).Perm (es.toList.map keyOf) := by
    have q := pm.map Builtin.Re.reRawOf
    rw [List.map_map] at q
    exact q
  refine wpAny_bind (wpAny_newList ?_ (by rw [hvl]; exact hL))
  have hoL : (s1.heap.push (seqObj "list" vs.toArray 0)).get? s1.heap.objs.size = some (seqObj "list" vs.toArray 0) := Heap.get?_push_size _ rfl
  refine wpAny_bind (wpAny_holding (wpAny_call_entry slot_list_sort ⟨_, hoL, rfl⟩ entry_list_sort (list_sort_treeAny hoL hI (by rw [hvl]; exact hL) fun out ns' a1 a2 a3 => ⟨_, rfl, ?_⟩) (args_list_sort _)))
  obtain ⟨c, hc⟩ := sortedHeap_at (vs := vs) (out := out) hoL
  have pn : ns'.Perm (es.toList.map keyOf) := a2.trans pk
  refine wpAny_pure ⟨_, rfl, hQ _ s1.heap.objs.size out c ns' (fun b u e => ?_) g1 o1 hz hc a1 (lt_of_le_nodup ns' a3 (pn.nodup_iff.mpr nd)) (fun k => by rw [pn.mem_iff, ← hm k]) ?_⟩
  · have q := k1 b u e
    have hlt := Heap.lt_size q
    show (sortedHeap (s1.heap.push (seqObj "list" vs.toArray 0)) s1.heap.objs.size vs out).get? b = some u
    rw [sortedHeap_old (Nat.ne_of_lt hlt) (by rw [size_push']; exact Nat.lt_succ_of_lt hlt)]
    exact Heap.get?_push_of_some _ q
  · rw [pn.length_eq, List.length_map, Array.length_toList]; exact hn
end
section
variable {X : Cx}
/-- sorted(found), any number -/
def rSortedSetA (w : World) : List V → Hp → VK → Prop := fun vs H Q => ∃ (a : Addr) (S : Int → Bool) (n : Nat), vs = [V.ref a] ∧ H a = some (SetO w a S n) ∧ n ≤ sizeLine ∧
  ∀ (ns : List Int) (p : Addr), ns.Pairwise (· < ·) → (∀ k : Int, k ∈ ns ↔ S k = true) → ns.length = n → H p = none → Q (.ref p) (upd H p (.lst (ns.map V.int)))
theorem cr_sortedSetA (hc : X.calm = true) : CallR X (.builtin "sorted") (rSortedSetA X.w) := by
  intro pins s σ H vs us Q I r h
  obtain ⟨a, S, n, rfl, ha, h64, q⟩ := h
  have R := setO_get I ha
  rw [Vals.ref1 r]
  refine sorted_setA R (I.ok.hd hc) h64 fun s' p out c ns k g o hp hg hi hs hm hl => ?_
  have hlen : (ns.map V.int).length ≤ sizeLine := by rw [List.length_map, hl]; exact h64
  have hn : H p = none := I.hok.fresh hp
  have J : Inv X pins σ (upd H p (.lst (ns.map V.int))) { s with heap := s'.heap, gens := s'.gens, drawn := s'.drawn, toks := s'.toks } :=
    I.call (ch := []) (Un.laid k hp hn) (I.hok.laid k hp ⟨hlen, out.toList, c, vals_of_ints hi, hg⟩) (by rw [g]; exact I.bare) (fun _ z => nomatch z)
  have e : s' = { s with heap := s'.heap, gens := s'.gens, drawn := s'.drawn, toks := s'.toks } := by
    cases s'
    cases s
    cases o
    rfl
  rw [e]
  exact ⟨.ref p, _, J, rfl, q ns p hs hm hl hn⟩
/-- set(list of ints) -/
def rSetI (K : PySem.W.Frag) (w : World) : List V → Hp → VK → Prop := fun vs H Q => ∃ (l : Addr) (ns : List Int), vs = [V.ref l] ∧ SqL K H l (ns.map V.int) ∧ ns.length + 1 < scanBound ∧
  ∀ a c, H a = none → c ≤ ns.length → Q (.ref a) (upd H a (SetO w a (fun j => decide (j ∈ ns)) c))
theorem cr_setI (hc : X.calm = true) : CallR X (.type "set") (rSetI X.K X.w) := by
  intro pins s σ H vs us Q I r h
  obtain ⟨l, ns, rfl, hl, hb, q⟩ := h
  rw [Vals.ref1 r]
  obtain ⟨its, rv, pl, hz⟩ := I.list hl
  refine call_set_lstI ns (I.ok.hd hc) pl.isList (by simpa using _root_.RZ.intsAre_vals rv) hb fun h' tk c R hcn k => ?_
  have hn : H s.heap.objs.size = none := I.hok.fresh (Nat.le_refl _)
  exact ⟨.ref s.heap.objs.size, upd H s.heap.objs.size (SetO X.w s.heap.objs.size (fun j => decide (j ∈ ns)) c), I.laid (t' := tk) k (Nat.le_refl _) (setO_new R), rfl, q _ _ hn hcn⟩
end
end L2

set_option maxHeartbeats 2000000
/-! set comprehensions of whole numbers -/
namespace PpSet
open PySem PySem.Spec PyProof.Rows L2
section
variable {X : Cx}
theorem addI_ok {pins : List (Addr × Obj)} {σ : L2.St} {H : Hp} {s : Shared} {E : Value → Shared → Prop} {D : Addr} {S : Int → Bool} {n : Nat} {y : Int} {tz : Tok} {Q : Value → Shared → Prop} (I : Inv X pins σ H s) (hD : H D = some (SetO X.w D S n)) (room : n + 1 < scanBound)
    (h : ∀ s', Inv X pins σ (upd H D (SetO X.w D (fun j => S j || decide (j = y)) (if S y = true then n else n + 1))) s' → Q .none s') : wpAny (model X.prog X.w) X.A (call (.builtin "set.add") [.ref D, .int y tz]) Q E s := by
  have R := setO_get I hD
  refine setR_add R room fun h' sb new => ?_
  have he : ∃ u, h'.get? D = some u := by
    have ⟨o, _, _, _, ho, _⟩ := new
    exact ⟨o, ho⟩
  exact h _ (I.write (e := D) (t' := s.toks + 1) (by rw [hD]; trivial) (.inl rfl) (fun b u hb hu => (sb.2 b hb).trans hu) he (setO_new new))
/-- {elt for target in iter if ..}, elt a whole number: D the new set -/
def tScI (w : World) (wi : TI) (g : TG) (tt : TT) (te : TE) (vs : List Nat) : TE := fun σ H Q => wi σ H fun J H1 => ∀ D, H1 D = none → ∃ W : Nat → Nat → Hp → Prop, (∃ m, W 0 m (upd H1 D (SetO w D (fun _ => false) 0))) ∧ ∀ i m H, W i m H →
  (J.stop i H ∧ Q (.ref D) H) ∨ (J.go i H ∧ ∃ Nx : Hp → Prop, (∀ H', Nx H' → ∃ m', m' < m ∧ W (i + 1) m' H') ∧ ∀ x H', J.yld i H x H' → g x (wipe σ vs) H' fun σ2 H2 => wipe σ2 vs = wipe σ vs ∧ tt σ2 H2 fun b H3 =>
    if b = true then te σ2 H3 fun y H4 => ∃ (c : Int) (S : Int → Bool) (n : Nat), y = .int c ∧ H4 D = some (SetO w D S n) ∧ n + 1 < scanBound ∧ Nx (upd H4 D (SetO w D (fun j => S j || decide (j = c)) (if S c = true then n else n + 1))) else Nx H3)
theorem sc_coreI {pins : List (Addr × Obj)} {s : Shared} {σ : L2.St} {H : Hp} {Q : VK} {elt tg iter : Expr} {ifs : List Expr} {scope : Scope} {own : List (PySem.Str × Nat)} {pos pos' : Pos} {wi : TI} {g : TG} {tt : TT} {te : TE} {use : Option (Value → Sem Unit)} {Qf : Value → Shared → Prop}
    (hc : X.calm = true) (hN : X.N.Nodup) (I : Inv X pins σ H s) (hi : PI X tg iter wi) (ok : BlkOk X.N X.env.scope scope own)
    (hg : ∀ (s : Shared) (H : Hp) (C : Addr) (cl : List (PySem.Str × Addr)) (fp : List Addr), PG (X.blk s H scope (compEnvC scope cl C X.env) fp) tg g) (ht : ∀ (s : Shared) (H : Hp) (C : Addr) (cl : List (PySem.Str × Addr)) (fp : List Addr), PTs (X.blk s H scope (compEnvC scope cl C X.env) fp) ifs tt)
    (he : ∀ (s : Shared) (H : Hp) (C : Addr) (cl : List (PySem.Str × Addr)) (fp : List Addr), PE (X.blk s H scope (compEnvC scope cl C X.env) fp) elt te) (hs : ∀ x, foldedSetIterable iter X.env x = pure x)
    (h : tScI X.w wi g tt te (own.map (·.2)) σ H Q)
    (hRR : ∀ D C s' m H', Inv X pins σ H' s' → Q (.ref D) H' → s'.heap.Ns C m → FpOk X pins H' C → compPost (model X.prog X.w) X.A X.xe use Qf (.ref D) C (.ok .next) s') :
    wpAny (model X.prog X.w) X.A (comprehension (.SetComp elt [⟨tg, iter, ifs, 0⟩] scope pos) scope X.env pos' (newSet (.type "set")) false (eval iter X.env) use) Qf X.xe s := by
  have hfree : ∀ y ∈ scope.names, y.2 = .free → ∃ c, X.env.cells.lookup y.1 = some c := fun y hy e => by
    rcases ok.free y hy e with k | k
    · exact I.ok.has _ (.inl k)
    · exact I.ok.has _ (.inr k)
  refine wpAny_comprehension_free (use := use) rfl hs (closure_ok hfree) ok.kind (fun y hy e => by rw [ok.uniq y hy, e])
    (thn (hi.run pins s σ H _ I h) fun xv s1 hx => thn hx fun itv s2 h2 => ?_)
  obtain ⟨it, fp, tn, J, H2, e, I2, T, st2, f2, q⟩ := h2
  subst e
  refine newSet_ok (newEnv_comp ?_)
  generalize hD : s2.heap.objs.size = D
  have hDn : H2 D = none := I2.hok.fresh (Nat.le_of_eq hD)
  obtain ⟨W, ⟨m0, w0⟩, turn⟩ := q D hDn
  -- the new list
  generalize hs3 : ({ s2 with heap := s2.heap.push { cls := .type "set", dict := none, data := .set #[] 0 (.fresh 0 0 (!X.w.params.followText "set-order")) } } : Shared) = s3
  have I3 : Inv X pins σ (upd H2 D (SetO X.w D (fun _ => false) 0)) s3 := by
    rw [← hs3]
    refine I2.laid (t' := s2.toks) (fun b o e => Heap.get?_push_of_some _ e) (Nat.le_of_eq hD) ?_
    rw [← hD]
    exact setO_new (setR_fresh X.w)
  have h3 : s3.heap = s2.heap.push { cls := .type "set", dict := none, data := .set #[] 0 (.fresh 0 0 (!X.w.params.followText "set-order")) } := by rw [← hs3]
  have sz : ∀ b ∈ fp, b < s2.heap.objs.size := fun b hb => by
    obtain ⟨o, e, _⟩ := T.obj _ _ st2 b hb
    exact Heap.lt_size e
  have f3 : ∀ b ∈ fp, FpOk X pins (upd H2 D (SetO X.w D (fun _ => false) 0)) b ∧ b < s3.heap.objs.size := fun b hb => by
    have hlt := sz b hb
    refine ⟨⟨?_, (f2 b hb).2⟩, by rw [h3, Heap.size_push]; exact Nat.lt_succ_of_lt hlt⟩
    rw [upd_ne (by rw [← hD]; exact Nat.ne_of_lt hlt)]
    exact (f2 b hb).1
  have st3 : tn 0 s3.heap := T.keep _ _ _ st2 fun b _ o e => by rw [h3]; exact Heap.get?_push_of_some _ e
  have I4 := block_start I3 ok hN f3
  have pg := hg s3 (upd H2 D (SetO X.w D (fun _ => false) 0)) s3.heap.objs.size (cellsFrom (s3.heap.objs.size + 1) scope.names (cloFrom X.env.cells scope.names [])) fp
  have pt := ht s3 (upd H2 D (SetO X.w D (fun _ => false) 0)) s3.heap.objs.size (cellsFrom (s3.heap.objs.size + 1) scope.names (cloFrom X.env.cells scope.names [])) fp
  have pe := he s3 (upd H2 D (SetO X.w D (fun _ => false) 0)) s3.heap.objs.size (cellsFrom (s3.heap.objs.size + 1) scope.names (cloFrom X.env.cells scope.names [])) fp
  show codeAny _ _ (.compStart (.SetComp elt [⟨tg, iter, ifs, 0⟩] scope pos) 0 (.ref it) (.ref D) (compEnvC scope (cellsFrom (s3.heap.objs.size + 1) scope.names (cloFrom X.env.cells scope.names [])) s3.heap.objs.size X.env)) (compPost (model X.prog X.w) X.A X.xe use Qf (.ref D) s3.heap.objs.size) { s3 with heap := pushCells (s3.heap.push { cls := .type "dict", data := .dict #[] }) scope.names }
  have nfp : ∀ b ∈ fp, (upd H2 D (SetO X.w D (fun _ => false) 0)) b = none := fun b hb => (f3 b hb).1.1
  generalize hce : compEnvC scope (cellsFrom (s3.heap.objs.size + 1) scope.names (cloFrom X.env.cells scope.names [])) s3.heap.objs.size X.env = ce at I4 pg pt pe ⊢
  have cL : ce.locals = s3.heap.objs.size := by subst hce; rfl
  generalize hH3 : upd H2 D (SetO X.w D (fun _ => false) 0) = H3 at I3 I4 pg pt pe w0 nfp f3
  generalize hs4 : ({ s3 with heap := pushCells (s3.heap.push { cls := .type "dict", data := .dict #[] }) scope.names } : Shared) = s4 at I4 ⊢
  have st4 : tn 0 s4.heap := T.keep _ _ _ st3 fun b _ o e => by rw [← hs4]; exact pushCells_keeps _ _ _ _ (Heap.get?_push_of_some _ e)
  have stat : ∀ {σ' : L2.St} {H' : Hp} {s' : Shared}, Inv (X.blk s3 H3 scope ce fp) [] σ' H' s' → (∀ b ∈ fp, H' b = none) → ∀ b ∈ fp, FpOk (X.blk s3 H3 scope ce fp) [] H' b := fun {σ' H' s'} I' hn b hb =>
    ⟨hn b hb, (I'.ok.exf b hb).1, I'.ok.exfs b hb, .inl hb, fun x c e => (I'.ok.exf b hb).2 x c e, fun p hp => absurd (show p ∈ ([] : List (Addr × Obj)) ++ [] from hp) (by simp)⟩
  have loop : codeAny (model X.prog X.w) X.A (.compLoop (.SetComp elt [⟨tg, iter, ifs, 0⟩] scope pos) 0 (.ref it) (.ref D) ce) (compPost (model X.prog X.w) X.A X.xe use Qf (.ref D) s3.heap.objs.size) s4 := by
    refine compLoopS_any (fun n s' => ∃ i H', Inv (X.blk s3 H3 scope ce fp) [] (wipe σ (own.map (·.2))) H' s' ∧ tn i s'.heap ∧ (∀ b ∈ fp, H' b = none) ∧ W i n H') ?_ m0 ⟨0, H3, I4, st4, nfp, w0⟩
    rintro n s5 ⟨i, H5, I5, st5, n5, w5⟩
    rcases turn i n H5 w5 with ⟨stop, qq⟩ | ⟨go, Nx, hNx, step⟩
    · have td := T.done (X.blk s3 H3 scope ce fp) rfl rfl rfl hc i [] s5 _ H5 (fun _ _ => False) I5 (stat I5 n5) st5 stop
      refine thnF td fun r s6 ⟨hr, I6⟩ => ?_
      subst hr
      -- back in the def's context
      have I7 : Inv X pins σ H5 s6 := I3.call' (ch := fp) I6.os I6.base I6.hok I6.bare fun b hb => ⟨(f3 b hb).1.2.2.2.1, (f3 b hb).1.2.1, (f3 b hb).1.2.2.2.2.1, (f3 b hb).1.2.2.2.2.2⟩
      have nC : H5 s3.heap.objs.size = none := by
        have z : H5 ce.locals = none := I6.free
        rw [cL] at z
        exact z
      obtain ⟨m, hn, _⟩ := I6.loc
      have hn : s6.heap.Ns ce.locals m := hn
      rw [cL] at hn
      exact hRR D s3.heap.objs.size s6 m H5 I7 qq hn (I3.fpOk (Nat.le_refl _) nC)
    · have ti := T.item (X.blk s3 H3 scope ce fp) rfl rfl rfl hc i [] s5 _ H5 (fun _ _ => False) I5 (stat I5 n5) st5 go
      refine thnF ti fun r s6 ⟨u, hr, h6⟩ => ?_
      subst hr
      refine thnF h6 fun _ s7 ⟨x, H7, I7, r7, y7, st7, n7⟩ => ?_
      have I7' := I7.pinned (stat I7 n7) (T.obj _ _ st7)
      refine thnF (pg.run _ s7 _ H7 x u _ I7' r7 (step x H7 y7)) fun _ s8 ⟨σ8, H8, I8, hw8, q8⟩ => ?_
      refine thnF (pt.run _ s8 σ8 H8 _ I8 q8) fun b s9 ⟨H9, I9, q9⟩ => ?_
      -- the turn's end
      have fin : ∀ {s' : Shared} {H' : Hp}, Inv (X.blk s3 H3 scope ce fp) ([] ++ pinsAt fp s7.heap) σ8 H' s' → Nx H' → ∃ m, m < n ∧ ∃ i H', Inv (X.blk s3 H3 scope ce fp) [] (wipe σ (own.map (·.2))) H' s' ∧ tn i s'.heap ∧ (∀ b ∈ fp, H' b = none) ∧ W i m H' := fun {s' H'} I' nx => by
        obtain ⟨m', hm, w'⟩ := hNx H' nx
        have pin' : ∀ b ∈ fp, ∀ o, s7.heap.get? b = some o → s'.heap.get? b = some o ∧ H' b = none := fun b hb o e =>
          let z := I'.pin (b, o) (List.mem_append_right _ (List.mem_append_right _ (mem_pinsAt hb e)))
          ⟨z.1, z.2.1⟩
        have hl : (wipe σ (own.map (·.2))).length = σ8.length := by rw [← hw8, wipe_length]
        refine ⟨m', hm, i + 1, H', (I'.unpinned (pins := [])).weak hl (fun j v e => ?_), T.keep _ _ _ st7 fun b hb o e => (pin' b hb o e).1, fun b hb => ?_, w'⟩
        · rw [← hw8] at e
          exact (wipe_some e).1
        · obtain ⟨o, e, _⟩ := T.obj _ _ st7 b hb
          exact (pin' b hb o e).2
      cases b with
      | false =>
        simp only [Bool.false_eq_true, if_false] at q9 ⊢
        exact fin I9 q9
      | true =>
        simp only [if_true] at q9 ⊢
        refine thnF (pe.run _ s9 σ8 H9 _ I9 q9) fun z s10 ⟨yv, H10, I10, r10, cb, S0, n0, ey, hD10, hz10, nx⟩ => ?_
        subst ey
        obtain ⟨tz, rfl⟩ := (show ∃ t, z = Value.int cb t from r10)
        exact addI_ok (X := X.blk s3 H3 scope ce fp) I10 hD10 hz10 fun s11 I11 => fin I11 nx
  exact codeAny_compStart_set loop (T.self X.A 0 _ _ _ st4 loop)
/-- as a value -/
theorem pe_scI {elt tg iter : Expr} {ifs : List Expr} {scope : Scope} {own : List (PySem.Str × Nat)} {pos : Pos} {wi : TI} {g : TG} {tt : TT} {te : TE} (hc : X.calm = true) (hN : X.N.Nodup) (hi : PI X tg iter wi) (ok : BlkOk X.N X.env.scope scope own)
    (hg : ∀ (s : Shared) (H : Hp) (C : Addr) (cl : List (PySem.Str × Addr)) (fp : List Addr), PG (X.blk s H scope (compEnvC scope cl C X.env) fp) tg g) (ht : ∀ (s : Shared) (H : Hp) (C : Addr) (cl : List (PySem.Str × Addr)) (fp : List Addr), PTs (X.blk s H scope (compEnvC scope cl C X.env) fp) ifs tt)
    (he : ∀ (s : Shared) (H : Hp) (C : Addr) (cl : List (PySem.Str × Addr)) (fp : List Addr), PE (X.blk s H scope (compEnvC scope cl C X.env) fp) elt te) (hs : ∀ x, foldedSetIterable iter X.env x = pure x := by intro _; rfl) :
    PE X (.SetComp elt [⟨tg, iter, ifs, 0⟩] scope pos) (tScI X.w wi g tt te (own.map (·.2))) := by
  refine ⟨fun pins s σ H Q I h => ?_⟩
  rw [eval_SetComp]
  refine sc_coreI hc hN I hi ok hg ht he hs h fun D C s' m H' I' q hn f => ⟨m, hn, fun h'' sb => ?_⟩
  obtain ⟨f0, f1, f2, f3, f4, f5⟩ := f
  exact ⟨.ref D, H', I'.turned (t' := s'.toks) (fun b o hb e => (sb.2 b hb).trans e) f0 f1 f3 f4 f5, rfl, q⟩
end
end PpSet

/-! sorted({..}), sorted(set(..)) of whole numbers, the data side -/
namespace PD
open PySem PySem.Spec PyProof.Rows L2
/-! ### the sorted list of the different numbers -/
def insU (x : Int) : List Int → List Int
  | [] => [x]
  | y :: ys => if x < y then x :: y :: ys else if x = y then y :: ys else y :: insU x ys
def sortU : List Int → List Int
  | [] => []
  | x :: xs => insU x (sortU xs)
theorem mem_insU (x k : Int) : ∀ l, k ∈ insU x l ↔ k = x ∨ k ∈ l
  | [] => by simp [insU]
  | y :: ys => by
    rw [insU]
    split
    · simp
    · split
      · rename_i e; subst e; simp
      · simp only [List.mem_cons, mem_insU x k ys]
        constructor
        · rintro (h | h | h)
          · exact .inr (.inl h)
          · exact .inl h
          · exact .inr (.inr h)
        · rintro (h | h | h)
          · exact .inr (.inl h)
          · exact .inl h
          · exact .inr (.inr h)
theorem insU_lt (x : Int) : ∀ l : List Int, l.Pairwise (· < ·) → (insU x l).Pairwise (· < ·)
  | [], _ => by simp [insU]
  | y :: ys, h => by
    obtain ⟨h1, h2⟩ := List.pairwise_cons.mp h
    rw [insU]
    split
    · rename_i hlt
      refine List.pairwise_cons.mpr ⟨fun z hz => ?_, h⟩
      rcases List.mem_cons.mp hz with rfl | hz
      · exact hlt
      · exact Int.lt_trans hlt (h1 z hz)
    · split
      · exact h
      · refine List.pairwise_cons.mpr ⟨fun z hz => ?_, insU_lt x ys h2⟩
        rcases (mem_insU x z ys).mp hz with rfl | hz
        · omega
        · exact h1 z hz
theorem mem_sortU (k : Int) : ∀ l, k ∈ sortU l ↔ k ∈ l
  | [] => by simp [sortU]
  | x :: xs => by rw [sortU, mem_insU, mem_sortU k xs, List.mem_cons]
theorem sortU_lt : ∀ l, (sortU l).Pairwise (· < ·)
  | [] => .nil
  | x :: xs => insU_lt x _ (sortU_lt xs)
theorem lt_unique : ∀ {a b : List Int}, a.Pairwise (· < ·) → b.Pairwise (· < ·) → (∀ k, k ∈ a ↔ k ∈ b) → a = b
  | [], [], _, _, _ => rfl
  | [], y :: ys, _, _, h => absurd ((h y).mpr (.head _)) (by simp)
  | x :: xs, [], _, _, h => absurd ((h x).mp (.head _)) (by simp)
  | x :: xs, y :: ys, ha, hb, h => by
    obtain ⟨a1, a2⟩ := List.pairwise_cons.mp ha
    obtain ⟨b1, b2⟩ := List.pairwise_cons.mp hb
    have e : x = y := by
      have h1 : x = y ∨ x ∈ ys := List.mem_cons.mp ((h x).mp (.head _))
      have h2 : y = x ∨ y ∈ xs := List.mem_cons.mp ((h y).mpr (.head _))
      rcases h1 with h1 | h1
      · exact h1
      · rcases h2 with h2 | h2
        · exact h2.symm
        · have := b1 x h1; have := a1 y h2; omega
    subst e
    refine congrArg (x :: ·) (lt_unique a2 b2 fun k => ⟨fun hk => ?_, fun hk => ?_⟩)
    · rcases List.mem_cons.mp ((h k).mp (.tail _ hk)) with rfl | h'
      · have := a1 k hk; omega
      · exact h'
    · rcases List.mem_cons.mp ((h k).mpr (.tail _ hk)) with rfl | h'
      · have := b1 k hk; omega
      · exact h'
def ival : D → Int
  | .int i => i
  | _ => 0
def sortD (ds : List D) : List D := (sortU (ds.map ival)).map .int
section
variable {τ : Type} {P : Pm} {R : τ → Hp → Prop} {W : WX}
def gIntE (e : GE τ) : GE τ := fun ρ st => (e ρ st).bind fun y st => match y with
  | .int i => .ok (.int i) st
  | _ => .stuck
def gSc (gi : GI τ) (tg : D → Sl → Option Sl) (c : GT τ) (e : GE τ) (vs : List Nat) : GI τ := fun ρ st => (gi ρ st).bind fun ds st =>
  if ds.length + 1 < 4000 then (lcGo tg c (gIntE e) (wipeS ρ vs) ds st).bind fun ys st => .ok (sortD ys) st else .stuck
theorem Sat.intE {r : Res τ D} {ok : D → τ → Prop} {er : Exn → τ → Prop} (h : Sat (r.bind fun y st => match y with
  | .int i => .ok (.int i) st
  | _ => .stuck) ok er) : Sat r (fun y st => ∃ i, y = .int i ∧ ok (.int i) st) er := by
  cases r with
  | stuck => exact h
  | err x st => exact h
  | ok y st => cases y <;> first | exact ⟨_, rfl, h⟩ | exact (show False from h).elim
theorem reps_ints {F : Hp} : ∀ l : List Int, Reps P F (l.map D.int) (l.map V.int)
  | [] => .nil
  | x :: xs => Reps.cons rfl (reps_ints xs)
theorem evn_sc {w : World} {wi : TI} {g : TG} {tt : TT} {te : TE} {vs : List Nat} {gi : GI τ} {tg : D → Sl → Option Sl} {c : GT τ} {e : GE τ} (hi : EvI P R W wi gi) (hg : TgD P R vs g tg) (ht : EvT P R W0 tt c) (he : EvD P R W0 te e) :
    EvN P R W (tCB (rSortedSetA w) (tCons (PpSet.tScI w wi g tt te vs) tNil)) (gSc gi tg c e vs) := by
  intro F B M H σ ρ st w0 Q hs
  refine hi F B M H σ ρ st w0 _ ((Sat.bind hs).mono (fun ds st1 h1 F1 M1 H1 J E1 R1 ok => ?_) fun _ _ z => z)
  obtain ⟨hline, h1⟩ := Sat.ite h1
  intro Dd hD
  have w1 := w0.ext E1 R1
  have none0 : ∀ {F2 M2 H2 : Hp} {p : Addr}, Ext F M H F2 M2 H2 → H2 p = none → H p = none := fun {F2 M2 H2 p} E hp => by
    cases e : H p with
    | none => rfl
    | some o => exact absurd hp (E.there p (ne_some e))
  refine ⟨fun i m H2 => ∃ F2 M2 st2 acc, m = ds.length - i ∧ i ≤ ds.length ∧ Ext F1 M1 H1 F2 M2 H2 ∧ F2 Dd = none ∧ M2 Dd = none ∧ (∃ S n, H2 Dd = some (SetO w Dd S n) ∧ (∀ k, S k = decide (k ∈ acc)) ∧ n ≤ i) ∧ R st2 M2 ∧
    Sat (lcGo tg c (gIntE e) (wipeS ρ vs) (ds.drop i) st2) (fun ys st3 => ∀ F' M' H' a vs, Ext F M H F' M' H' → R st3 M' → H a = none → F' a = none → M' a = none → H' a = some (.lst vs) → Reps P F' ((sortU (acc ++ ys.map ival)).map D.int) vs → Q (.ref a) H') (fun _ _ => True), ?_, ?_⟩
  · refine ⟨_, F1, M1, st1, [], rfl, Nat.zero_le _, (Ext.own w1.pre hD), w1.pre.f.none hD, w1.pre.m.none hD, ⟨_, _, upd_same, fun k => by simp, Nat.le_refl _⟩, R1, ?_⟩
    exact (Sat.bind h1).mono (fun _ _ z => z) fun _ _ _ => trivial
  · rintro i m H2 ⟨F2, M2, st2, acc, rfl, hi, E2, fD, mD, ⟨S, n, hD2, hS, hn⟩, R2, sat⟩
    have w2 : WI P R F2 B M2 H2 (L2.wipe σ vs) (wipeS ρ vs) st2 := (w1.ext E2 R2).wipe vs
    by_cases hlt : i < ds.length
    · refine .inr ⟨ok.go i H2 (E2.ff.trans E2.f) w2.pre.b hlt, _, fun H' q => ⟨ds.length - (i + 1), by omega, q⟩, fun x H' y => ?_⟩
      obtain ⟨d, F3, hd, E3, r3⟩ := ok.yld i F2 B M2 H2 x H' hlt w2.pre E2.ff w2.pre.b y
      have hdrop : ds.drop i = d :: ds.drop (i + 1) := by
        have h := List.drop_eq_getElem_cons hlt
        rw [List.getElem?_eq_getElem hlt] at hd
        cases hd
        exact h
      rw [hdrop] at sat
      obtain ⟨ρ1, e1, sat⟩ := Sat.of (Sat.bind sat)
      have w3 := w2.ext E3 R2
      have hD3 := E3.keep _ _ hD2 mD
      have fD3 : F3 Dd = none := E3.newF _ (ne_some hD2) fD
      refine hg F3 B M2 H' _ _ st2 d x ρ1 w3 r3 e1 _ fun σ4 w4 l4 o4 _ => ⟨?_, ?_⟩
      · apply List.ext_getElem?
        intro j
        rw [wipe_get, wipe_get, l4, L2.wipe_length]
        by_cases hj : j ∈ vs
        · rw [if_pos hj, if_pos hj]
        · rw [if_neg hj, if_neg hj, (o4 j hj).1, wipe_get, if_neg hj]
      · refine ht F3 B M2 H' σ4 ρ1 st2 w4 _ (Sat.noErr (Sat.bind sat) |>.mono (fun b st5 h5 F5 M5 H5 E5 R5 => ?_) fun _ _ z => z)
        have w5 := w4.ext E5 R5
        have hD5 := E5.keep _ _ hD3 mD
        have fD5 : F5 Dd = none := E5.newF _ (ne_some hD3) fD3
        have mD5 : M5 Dd = none := E5.newM _ (ne_some hD3) mD
        cases b with
        | false =>
          refine iteF ⟨F5, M5, st5, acc, rfl, hlt, (E2.trans E3).trans E5, fD5, mD5, ⟨S, n, hD5, hS, by omega⟩, R5, Sat.ff h5⟩
        | true =>
          refine iteT (he F5 B M5 H5 σ4 ρ1 st5 w5 _ (Sat.intE (Sat.noErr (Sat.bind (Sat.tt h5))) |>.mono (fun y st6 h6 F6 M6 H6 v E6 R6 r6 => ?_) fun _ _ z => z))
          obtain ⟨z, rfl, h6⟩ := h6
          obtain ⟨bf, h6⟩ := Sat.ite h6
          have hv : v = .int z := r6
          have hD6 := E6.keep _ _ hD5 mD5
          have fD6 : F6 Dd = none := E6.newF _ (ne_some hD5) fD5
          have mD6 : M6 Dd = none := E6.newM _ (ne_some hD5) mD5
          refine ⟨z, S, n, hv, hD6, ?_, F6, M6, st6, acc ++ [z], rfl, hlt, (((E2.trans E3).trans E5).trans E6).out hD fD6 mD6, fD6, mD6, ⟨_, _, upd_same, fun k => ?_, ?_⟩, R6, ?_⟩
          · unfold scanBound; omega
          · rw [hS k]; simp [List.mem_append]
          · split <;> omega
          · refine (Sat.bind h6).mono (fun ys st7 h7 => ?_) fun _ _ z => z
            have e : acc ++ [z] ++ ys.map ival = acc ++ (D.int z :: ys).map ival := by rw [List.append_assoc]; rfl
            rw [e]; exact h7
    · have hn0 : ds.drop i = [] := List.drop_eq_nil_of_le (by omega)
      rw [hn0] at sat
      have q' : ∀ F' M' H' a vs, Ext F M H F' M' H' → R st2 M' → H a = none → F' a = none → M' a = none → H' a = some (.lst vs) → Reps P F' ((sortU (acc ++ [])).map D.int) vs → Q (.ref a) H' := sat
      rw [List.append_nil] at q'
      refine .inl ⟨ok.stop i H2 (E2.ff.trans E2.f) w2.pre.b (by omega), Dd, S, n, rfl, hD2, ?_, fun ns p h1 h2 h3 hp => ?_⟩
      · rw [line_eq]; unfold line; omega
      · have en : ns = sortU acc := lt_unique h1 (sortU_lt acc) fun k => by rw [h2 k, hS k, mem_sortU]; simp
        have E12 := E1.trans E2
        subst en
        exact q' F2 M2 _ p _ (E12.trans (.own w2.pre hp)) R2 (none0 E12 hp) (w2.pre.f.none hp) (w2.pre.m.none hp) upd_same (reps_ints _)
end
end PD

/-! sorted(set(list of whole numbers)); the kit side with the world named -/
namespace PD
open PySem PySem.Spec PyProof.Rows L2
section
variable {X : Cx}
theorem k_sortedSet (w : World) (hc : X.calm = true) (h : X.w = w := by rfl) : CallR X (.builtin "sorted") (rSortedSetA w) := by subst h; exact cr_sortedSetA hc
theorem k_setI (K : PySem.W.Frag) (w : World) (hc : X.calm = true) (h : X.K = K := by rfl) (h2 : X.w = w := by rfl) : CallR X (.type "set") (rSetI K w) := by subst h h2; exact cr_setI hc
theorem k_scI (w : World) {elt tg iter : Expr} {ifs : List Expr} {scope : Scope} {own : List (PySem.Str × Nat)} {pos : Pos} {wi : TI} {g : TG} {tt : TT} {te : TE} (hc : X.calm = true) (hN : X.N.Nodup) (hi : PI X tg iter wi) (ok : BlkOk X.N X.env.scope scope own)
    (hg : ∀ (s : Shared) (H : Hp) (C : Addr) (cl : List (PySem.Str × Addr)) (fp : List Addr), PG (X.blk s H scope (compEnvC scope cl C X.env) fp) tg g) (ht : ∀ (s : Shared) (H : Hp) (C : Addr) (cl : List (PySem.Str × Addr)) (fp : List Addr), PTs (X.blk s H scope (compEnvC scope cl C X.env) fp) ifs tt)
    (he : ∀ (s : Shared) (H : Hp) (C : Addr) (cl : List (PySem.Str × Addr)) (fp : List Addr), PE (X.blk s H scope (compEnvC scope cl C X.env) fp) elt te) (h : X.w = w := by rfl) (hs : ∀ x, foldedSetIterable iter X.env x = pure x := by intro _; rfl) :
    PE X (.SetComp elt [⟨tg, iter, ifs, 0⟩] scope pos) (PpSet.tScI w wi g tt te (own.map (·.2))) := by subst h; exact PpSet.pe_scI hc hN hi ok hg ht he hs
end
section
variable {τ : Type} {P : Pm} {R : τ → Hp → Prop} {W : WX}
def gSortSet (g : GE τ) : GI τ := fun ρ st => (g ρ st).bind fun d st => match (litems d).bind intsOf with
  | some ns => if ns.length + 1 < 4000 then .ok ((sortU ns).map .int) st else .stuck
  | none => .stuck
theorem evn_sortSet {w : World} {te : TE} {g : GE τ} (h : EvD P R W te g) : EvN P R W (tCB (rSortedSetA w) (tCons (tCB (rSetI P.K w) (tCons te tNil)) tNil)) (gSortSet g) := by
  intro F B M H σ ρ st w0 Q hs
  refine h F B M H σ ρ st w0 _ ((Sat.bind hs).mono (fun d st1 h1 F1 M1 H1 v E1 R1 r1 => ?_) fun _ _ z => z)
  have w1 := w0.ext E1 R1
  cases e : (litems d).bind intsOf with
  | none => rw [e] at h1; exact (show False from h1).elim
  | some ns =>
    rw [e] at h1
    obtain ⟨hl, q⟩ := Sat.ite h1
    obtain ⟨l, rfl, hq⟩ := ints_at w1.pre r1 e
    refine ⟨l, ns, rfl, hq, by unfold scanBound; omega, fun a c ha hc => ⟨a, _, c, rfl, upd_same, by rw [line_eq]; unfold line; omega, fun ms p m1 m2 m3 hp => ?_⟩⟩
    have em : ms = sortU ns := lt_unique m1 (sortU_lt ns) fun k => by rw [m2 k, mem_sortU]; simp
    subst em
    have hap : a ≠ p := fun z => by subst z; rw [upd_same] at hp; cases hp
    have hp1 : H1 p = none := by rw [upd_ne (Ne.symm hap)] at hp; exact hp
    have none0 : ∀ {b : Addr}, H1 b = none → H b = none := fun {b} hb => by
      cases e : H b with
      | none => rfl
      | some o => exact absurd hb (E1.there b (ne_some e))
    have Ea := Ext.own (o := SetO w a (fun j => decide (j ∈ ns)) c) w1.pre ha
    exact q F1 M1 _ p _ (E1.trans (Ea.trans (.own (w1.pre.ext Ea) hp))) R1 (none0 hp1) (w1.pre.f.none hp1) (w1.pre.m.none hp1) upd_same (reps_ints _)
end
def isIntD : D → Option Int
  | .int i => some i
  | _ => none
@[simp] theorem isIntD_int (i : Int) : isIntD (.int i) = some i := rfl
section
variable {τ : Type} {ρ : Sl} {st : τ} {okl : List D → τ → Prop} {er : Exn → τ → Prop}
@[simp] theorem s_sortSet {g : GE τ} : Sat (gSortSet g ρ st) okl er ↔ Sat (g ρ st) (fun d st => Got ((litems d).bind intsOf) fun ns => Ask (ns.length + 1 < 4000) (okl ((sortU ns).map .int) st)) er := by
  unfold gSortSet
  cases g ρ st with
  | stuck => exact Iff.rfl
  | err x st => exact Iff.rfl
  | ok d st =>
    show Sat (match (litems d).bind intsOf with | some ns => if ns.length + 1 < 4000 then Res.ok ((sortU ns).map D.int) st else .stuck | none => .stuck) okl er ↔ Got ((litems d).bind intsOf) fun ns => Ask (ns.length + 1 < 4000) (okl ((sortU ns).map .int) st)
    generalize (litems d).bind intsOf = o
    cases o with
    | none => exact ⟨fun h => h.elim, fun ⟨_, e, _⟩ => (nomatch e)⟩
    | some ns => exact got_iff (sat_if Iff.rfl)
@[simp] theorem s_sc {gi : GI τ} {tg : D → Sl → Option Sl} {c : GT τ} {e : GE τ} {vs : List Nat} : Sat (gSc gi tg c e vs ρ st) okl er ↔ Sat (gi ρ st) (fun ds st => Ask (ds.length + 1 < 4000) (Sat (lcGo tg c (gIntE e) (wipeS ρ vs) ds st) (fun ys st => okl (sortD ys) st) er)) er := by
  unfold gSc
  cases gi ρ st with
  | stuck => exact Iff.rfl
  | err x st => exact Iff.rfl
  | ok ds st =>
    refine sat_if ?_
    cases lcGo tg c (gIntE e) (wipeS ρ vs) ds st with
    | stuck => exact Iff.rfl
    | err x st => exact Iff.rfl
    | ok ys st => exact Iff.rfl
@[simp] theorem s_intE {e : GE τ} {ok : D → τ → Prop} : Sat (gIntE e ρ st) ok er ↔ Sat (e ρ st) (fun d st => Got (isIntD d) fun i => ok (.int i) st) er := by
  unfold gIntE
  cases e ρ st with
  | stuck => exact Iff.rfl
  | err x st => exact Iff.rfl
  | ok d st => cases d <;> first | exact got_iff Iff.rfl | exact ⟨fun h => h.elim, fun ⟨_, e, _⟩ => nomatch e⟩
end
end PD

/-! == of two lists of objects with their own __eq__, True at every place -/
namespace PD
open PySem PySem.Spec PyProof.Rows L2
def rEqL (C : Addr) (sp : Sp) : R2 := fun x y H Q => ∃ (a b : Addr) (xs ys : List V) (J : Nat → Hp → Prop), x = .ref a ∧ y = .ref b ∧ xs.length = ys.length ∧ J 0 H ∧ (∀ H', J xs.length H' → Q (.bl true) H') ∧
  (∀ i H', J i H' → H' a = some (.lst xs) ∧ H' b = some (.lst ys)) ∧
  ∀ i H' u v, xs[i]? = some u → ys[i]? = some v → J i H' → (∃ p q dx fs dy gs, u = .ref p ∧ v = .ref q ∧ H' p = some (.ins C dx fs) ∧ H' q = some (.ins C dy gs)) ∧ (u = v → J (i + 1) H') ∧ sp [u, v] H' (fun z H'' => z = .bl true ∧ J (i + 1) H'') XN
section
variable {X : Cx}
theorem op_eqL {k : Nat} {f C : Addr} {fd : FuncData} {ps : List Str} {sp : Sp} (F : FnOk X.prog X.w X.K X.mg X.base (L2.CX X.prog X.w) k f fd ps sp) (hr : Room (k + 1) X.A) (hs : PySem.W.findIn X.K (.ref C) "__eq__" = some (some (.ref f))) (hf : PySem.W.isFn X.K (.ref f) = true) (hb : Binds X.K fd ps []) :
    OpR X (compareOp .Eq) (rEqL C sp) := by
  intro pins s σ H x y v u Q I rx ry h
  obtain ⟨a, b, xs, ys, J, rfl, rfl, hlen, j0, hfin, hlst, hturn⟩ := h
  cases (show v = Value.ref a from rx)
  cases (show u = Value.ref b from ry)
  show wpAny (model X.prog X.w) X.A (richCompare .Eq (.ref a) (.ref b)) (EP X pins σ Q) X.xe s
  refine GQ.rc_listG (N := xs.length) hr.units0 (fun i s' => ∃ H', Inv X pins σ H' s' ∧ J i H') (fun i s' q => ?_) (fun s' q => ?_) ⟨H, I, j0⟩
  · obtain ⟨H1, I1, j1⟩ := q
    obtain ⟨la, lb⟩ := hlst i H1 j1
    obtain ⟨z, its, n1, r, e⟩ := (show ObjOk X.prog X.w H1 s'.heap a (.lst xs) from I1.hok a _ la)
    obtain ⟨z2, its2, n2, r2, e2⟩ := (show ObjOk X.prog X.w H1 s'.heap b (.lst ys) from I1.hok b _ lb)
    refine ⟨its.toArray, its2.toArray, n1, n2, e, e2, by rw [List.size_toArray, ← r.length], by rw [List.size_toArray, ← r2.length, hlen], fun h1 h2 => ?_⟩
    have hx : i < xs.length := by rw [r.length]; simpa using h1
    have hy : i < ys.length := by rw [r2.length]; simpa using h2
    obtain ⟨u1, eu1, ru1⟩ := r.get (List.getElem?_eq_getElem hx)
    obtain ⟨v1, ev1, rv1⟩ := r2.get (List.getElem?_eq_getElem hy)
    have eu : its.toArray[i] = u1 := by
      have := (List.getElem?_eq_some_iff.mp eu1).2
      simpa using this
    have ev : its2.toArray[i] = v1 := by
      have := (List.getElem?_eq_some_iff.mp ev1).2
      simpa using this
    rw [eu, ev]
    obtain ⟨⟨p, q, dx, fs, dy, gs, ep, eq, hp, hq⟩, hsame, hsp⟩ := hturn i H1 _ _ (List.getElem?_eq_getElem hx) (List.getElem?_eq_getElem hy) j1
    rw [ep] at ru1 hsame hsp
    rw [eq] at rv1 hsame hsp
    cases (show u1 = Value.ref p from ru1)
    cases (show v1 = Value.ref q from rv1)
    by_cases hab : p = q
    · subst hab
      exact SeqAt.EqAt.same (A := X.A.in1) (s := s') (.ref p) X.prog X.w X.xe _ ⟨rfl, H1, I1, hsame rfl⟩
    · refine GQ.eqBool_refG hab ?_
      obtain ⟨mA, Jp, _⟩ := ins_get I1.hok hp
      obtain ⟨od, Jp, _⟩ := Jp.look
      obtain ⟨mB, Jq, _⟩ := ins_get I1.hok hq
      obtain ⟨od2, Jq, _⟩ := Jq.look
      obtain ⟨m, hF⟩ := I1.fr
      refine PySem.W.cmp_K (op := .Eq) (tb := .ref C) hr.in1.units0 hF I1.ok.mod.kin Jp Jq.type (by simp [PySem.W.notFirst]) hs hf (thn (run_at F hr.in1 I1.env0.in1 I1 hb (.cons (show RelV (V.ref p) (Value.ref p) from rfl) (.cons (show RelV (V.ref q) (Value.ref q) from rfl) .nil)) hsp) fun w1 s1 ⟨v2, H2, I2, rv2, ez, j2⟩ => ?_)
      subst ez
      cases (show w1 = Value.bool true from rv2)
      exact ⟨true, rfl, rfl, H2, I2, j2⟩
  · obtain ⟨H1, I1, j1⟩ := q
    exact ⟨.bl true, H1, I1, rfl, hfin H1 j1⟩
end
end PD

/-! the same, the data side -/
namespace PD
open PySem PySem.Spec PyProof.Rows L2
section
variable {τ : Type} {P : Pm} {Rf : Addr → τ → Hp → Prop} {W : WX}
/-- a list that is read -/
def rlst : D → Option (List D)
  | .lst xs => some xs
  | .bor xs => some xs
  | _ => none
def trueAt (cls : Str) (m : List D → τ → Res τ D) (x y : D) (st : τ) : Bool := isC cls x && (isC cls y && match m [x, y] st with
  | .ok (.bl b) _ => b
  | _ => false)
def allEq (cls : Str) (m : List D → τ → Res τ D) : List D → List D → τ → Bool
  | [], [], _ => true
  | x :: xs, y :: ys, st => trueAt cls m x y st && allEq cls m xs ys st
  | _, _, _ => false
def gEqL (cls : Str) (m : List D → τ → Res τ D) (a b : GE τ) : GE τ := fun ρ st => (a ρ st).bind fun x st => (b ρ st).bind fun y st => match rlst x, rlst y with
  | some xs, some ys => if allEq cls m xs ys st = true then .ok (.bl true) st else .stuck
  | _, _ => .stuck
theorem allEq_len {cls : Str} {m : List D → τ → Res τ D} {st : τ} : ∀ {xs ys : List D}, allEq cls m xs ys st = true → xs.length = ys.length
  | [], [], _ => rfl
  | [], _ :: _, h => by simp [allEq] at h
  | _ :: _, [], h => by simp [allEq] at h
  | x :: xs, y :: ys, h => by
    simp only [allEq, Bool.and_eq_true] at h
    exact congrArg (· + 1) (allEq_len h.2)
theorem allEq_at {cls : Str} {m : List D → τ → Res τ D} {st : τ} : ∀ {xs ys : List D} {i : Nat} {x y : D}, allEq cls m xs ys st = true → xs[i]? = some x → ys[i]? = some y → trueAt cls m x y st = true
  | [], _, _, _, _, _, h, _ => by simp at h
  | _ :: _, [], _, _, _, _, _, h => by simp at h
  | x :: xs, y :: ys, 0, _, _, h, h1, h2 => by
    simp only [allEq, Bool.and_eq_true] at h
    cases h1
    cases h2
    exact h.1
  | x :: xs, y :: ys, i + 1, _, _, h, h1, h2 => by
    simp only [allEq, Bool.and_eq_true] at h
    exact allEq_at h.2 h1 h2
theorem rlst_rep {F B M H : Hp} {d : D} {v : V} {xs : List D} (p : Pre F B M H) (r : RepB P F B d v) (e : rlst d = some xs) :
    ∃ a vs, v = .ref a ∧ Reps P F xs vs ∧ ∀ {F' M' H' : Hp}, Ext F M H F' M' H' → H' a = some (.lst vs) := by
  cases d
  case lst ys =>
    cases e
    obtain ⟨a, vs, rfl, hs, rs⟩ := (by simpa only [RepB, Rep] using r)
    exact ⟨a, vs, rfl, rs, fun E => E.f _ _ (E.ff _ _ hs)⟩
  case bor ys =>
    cases e
    obtain ⟨a, vs, rfl, hs, rs⟩ := r
    exact ⟨a, vs, rfl, rs, fun E => (p.ext E).b _ _ hs⟩
  all_goals cases e
theorem ev_eqL {cls : Str} {C : Addr} {m : List D → τ → Res τ D} {ta tb : TE} {ga gb : GE τ} (hC : P.mg cls = some (.ref C)) (pm : ∀ ds st d st', m ds st = .ok d st' → st' = st) (ha : EvD P (Rf P.sa) W ta ga) (hb : EvD P (Rf P.sa) W tb gb) :
    EvD P (Rf P.sa) W (tOp (rEqL C (spD P.K P.mg Rf 2 m)) ta tb) (gEqL cls m ga gb) := by
  intro F B M H σ ρ st w Q h
  refine ha F B M H σ ρ st w _ (h.bind.mono (fun x st1 h1 F1 M1 H1 v1 E1 R1 r1 => ?_) fun _ _ z => z)
  have w1 := w.ext E1 R1
  refine hb F1 B M1 H1 σ ρ st1 w1 _ (h1.bind.mono (fun y st2 h2 F2 M2 H2 v2 E2 R2 r2 => ?_) fun _ _ z => KX.ext P _ z E1)
  have p2 := w1.pre.ext E2
  have r1' := RepB.mono E2.ff r1
  cases ex : rlst x with
  | none => rw [ex] at h2; exact (show False from h2).elim
  | some xs =>
    cases ey : rlst y with
    | none => rw [ex, ey] at h2; exact (show False from h2).elim
    | some ys =>
      rw [ex, ey] at h2
      obtain ⟨hall, q⟩ := Sat.ite h2
      obtain ⟨a, vs, rfl, rs, ka⟩ := rlst_rep p2 r1' ex
      obtain ⟨b, us, rfl, rs2, kb⟩ := rlst_rep p2 r2 ey
      have q' : ∀ F' M' H' v, Ext F M H F' M' H' → Rf P.sa st2 M' → RepB P F' B (.bl true) v → Q v H' := q
      refine ⟨a, b, vs, us, fun _ H' => ∃ F' M', Ext F2 M2 H2 F' M' H' ∧ Rf P.sa st2 M', rfl, rfl, by rw [← rs.length, ← rs2.length]; exact allEq_len hall, ⟨F2, M2, .refl p2, R2⟩, fun H' ⟨F', M', E, r⟩ => q' F' M' H' _ ((E1.trans E2).trans E) r rfl,
        fun i H' ⟨F', M', E, r⟩ => ⟨ka E, kb E⟩, fun i H' u v eu ev ⟨F', M', E, r⟩ => ?_⟩
      obtain ⟨dx, ex1, rx⟩ := rs.getV eu
      obtain ⟨dy, ey1, ry⟩ := rs2.getV ev
      have ht := allEq_at hall ex1 ey1
      unfold trueAt at ht
      simp only [Bool.and_eq_true] at ht
      obtain ⟨cx, cy, ht⟩ := ht
      have p3 := p2.ext E
      have rx3 : RepB P F' B dx u := (rx.mono E.ff).b
      have ry3 : RepB P F' B dy v := (ry.mono E.ff).b
      have hx : ∃ fs, dx = .ins cls fs := by
        cases dx <;> first | exact absurd cx Bool.false_ne_true | exact ⟨_, by rw [← (beq_iff_eq.mp cx)]⟩
      have hy : ∃ fs, dy = .ins cls fs := by
        cases dy <;> first | exact absurd cy Bool.false_ne_true | exact ⟨_, by rw [← (beq_iff_eq.mp cy)]⟩
      obtain ⟨fx, rfl⟩ := hx
      obtain ⟨fy, rfl⟩ := hy
      obtain ⟨p, dxa, vx, rfl, hp, _⟩ := ins_rep hC p3 rx3
      obtain ⟨p', dya, vy, rfl, hp', _⟩ := ins_rep hC p3 ry3
      refine ⟨⟨p, p', dxa, vx, dya, vy, rfl, rfl, hp, hp'⟩, fun _ => ⟨F', M', E, r⟩, rfl, P.sa, P.xa, F', B, M', [.ins cls fx, .ins cls fy], st2, p3, r, ⟨_, _, rfl, rx3, _, _, rfl, ry3, rfl⟩, ?_⟩
      cases em : m [.ins cls fx, .ins cls fy] st2 with
      | stuck => rw [em] at ht; cases ht
      | err x st => rw [em] at ht; cases ht
      | ok d st3 =>
        rw [em] at ht
        have hst := pm _ _ _ _ em
        subst hst
        cases d <;> first | exact absurd ht Bool.false_ne_true | skip
        rename_i bb
        have hbb : bb = true := ht
        subst hbb
        exact fun F'' M'' H'' z E3 r3 rz => ⟨by simpa only [Rep] using rz, F'', M'', E.trans E3, r3⟩
end
end PD

/-! a, b = e, f -/
namespace PD
open PySem PySem.Spec PyProof.Rows L2
section
variable {τ : Type} {P : Pm} {R : τ → Hp → Prop} {W : WX}
def sPar (i j : Nat) (ga : GA τ) : GS τ := fun ρ st => thenE (ga ρ st) ρ fun ds st => match ds with
  | [x, y] => if (borFree x = true ∧ borFree y = true) ∧ i < ρ.length ∧ j < ρ.length then some (.nx ((ρ.set i (.val x)).set j (.val y)), st) else none
  | _ => none
theorem own_set {ρ : Sl} {σ : L2.St} {i : Nat} {d : D} {v : V} (h : i < ρ.length) : ∀ a, Own (ρ.set i (.val d)) (σ.set i (some v)) a → Own ρ σ a := fun a ⟨j, xs, h1, h0, h2⟩ => by
  by_cases hj : i = j
  · subst hj
    rw [List.getElem?_set_self h] at h1
    cases h1
    cases h0
  · rw [List.getElem?_set_ne hj] at h1 h2
    exact ⟨j, xs, h1, h0, h2⟩
theorem evs_par {i j : Nat} {ta : TA} {ga : GA τ} (h : EvA P R W ta ga) : EvS P R W (tPar i j ta) (sPar i j ga) := by
  intro F B M H σ ρ st w D hs
  refine h F B M H σ ρ st w _ (hs.thenE.mono (fun ds st1 h1 F1 M1 H1 vs E1 R1 rs => ?_) fun x st1 z => EndK.kx w z)
  cases ds with
  | nil => exact (show False from h1).elim
  | cons x ds =>
    cases ds with
    | nil => exact (show False from h1).elim
    | cons y ds =>
      cases ds with
      | cons _ _ => exact (show False from h1).elim
      | nil =>
        obtain ⟨⟨⟨b1, b2⟩, hi, hj⟩, h1⟩ := SatS.ite h1
        obtain ⟨v, ws, rfl, r1, v2, ws2, rfl, r2, rfl⟩ := rs
        have w2 := ((w.ext E1 R1).set (i := i) (r1.rep b1)).set (i := j) (r2.rep b2)
        exact ⟨v, v2, rfl, (show EndK P R W F M H (Own ρ σ) D (.nx ((ρ.set i (.val x)).set j (.val y))) st1 from h1) F1 B M1 H1 _ ((ExtS.of E1).sub fun a ha => own_set hi a (own_set (by rw [List.length_set]; exact hj) a ha)) w2⟩
end
section
variable {τ : Type} {ρ : Sl} {st : τ} {k : Fl → τ → Prop}
def twoOf : List D → Option (D × D)
  | [x, y] => some (x, y)
  | _ => none
@[simp] theorem twoOf_two (x y : D) : twoOf [x, y] = some (x, y) := rfl
@[simp] theorem s_par {i j : Nat} {ga : GA τ} : SatS (sPar i j ga ρ st) k ↔ Sat (ga ρ st) (fun ds st => Got (twoOf ds) fun p => Ask ((borFree p.1 = true ∧ borFree p.2 = true) ∧ i < ρ.length ∧ j < ρ.length) (k (.nx ((ρ.set i (.val p.1)).set j (.val p.2))) st)) (fun x st => k (.ex x ρ) st) := by
  unfold sPar
  refine s_then fun ds st1 => ?_
  match ds with
  | [] => exact ⟨fun h => h.elim, fun ⟨_, e, _⟩ => (nomatch e)⟩
  | [_] => exact ⟨fun h => h.elim, fun ⟨_, e, _⟩ => (nomatch e)⟩
  | [x, y] => exact got_iff (sats_if Iff.rfl)
  | _ :: _ :: _ :: _ => exact ⟨fun h => h.elim, fun ⟨_, e, _⟩ => (nomatch e)⟩
end
end PD

/-! defs that leave the state as it is; == of lists of objects -/
namespace PD
open PySem PySem.Spec PyProof.Rows L2
section
variable {X : Cx} {lvl : Nat} {ps : List Str} {sp : Sp} {C : Addr}
theorem opr_eqL (K : PySem.W.Frag) (c : CalQ X.prog X.w X.K X.mg X.base lvl ps sp C) (hr : Room (lvl + 1) X.A) : OpR X (compareOp .Eq) (rEqL C sp) := by
  obtain ⟨f, fd, hs, hf, _, _, hb, F⟩ := c.ex
  exact op_eqL F hr hs hf hb
end
section
variable {τ : Type}
def PureE {α : Type} (g : Sl → τ → Res τ α) : Prop := ∀ ρ st d st', g ρ st = .ok d st' → st' = st
theorem pure_bind {α β : Type} {g : Sl → τ → Res τ α} {f : α → Sl → τ → Res τ β} (h : PureE g) (k : ∀ a, PureE (f a)) : PureE (fun ρ st => (g ρ st).bind fun a st => f a ρ st) := by
  intro ρ st d st' e0
  have e : (g ρ st).bind (fun a st => f a ρ st) = .ok d st' := e0
  clear e0
  generalize hr : g ρ st = r at e
  cases r with
  | stuck => cases e
  | err x s => cases e
  | ok a s =>
    have h1 := h _ _ _ _ hr
    have e3 : f a ρ s = .ok d st' := e
    rw [h1] at e3
    exact k a _ _ _ _ e3
theorem pure_of {α : Type} {o : Sl → Option α} : PureE (fun ρ (st : τ) => Res.of (o ρ) st) := by
  intro ρ st d st' e
  have e : Res.of (o ρ) st = .ok d st' := e
  cases e1 : o ρ with
  | none => rw [e1] at e; cases e
  | some a => rw [e1] at e; cases e; rfl
theorem pureE_var {i : Nat} : PureE (gVar i : GE τ) := pure_of
theorem pureE_self {cls f : Str} {i : Nat} : PureE (gSelf cls f i : GE τ) := pure_of
theorem pureE_fld {cls f : Str} {g : GE τ} (h : PureE g) : PureE (gFld cls f g) := pure_bind h fun a => pure_of (o := fun _ => fldOf cls f a)
theorem pureE_un {op : D → Option D} {g : GE τ} (h : PureE g) : PureE (gUn op g) := pure_bind h fun a => pure_of (o := fun _ => op a)
theorem pureE_bin {op : D → D → Option D} {a b : GE τ} (h : PureE a) (k : PureE b) : PureE (gBin op a b) := pure_bind h fun x => pure_bind k fun y => pure_of (o := fun _ => op x y)
theorem pureE_and {a b : GE τ} (h : PureE a) (k : PureE b) : PureE (gAndV a b) := pure_bind h fun d => pure_bind (pure_of (o := fun _ => blOf d)) fun c ρ st x st' e => by
  have e : (if c = true then b ρ st else .ok (.bl false) st) = .ok x st' := e
  split at e
  · exact k _ _ _ _ e
  · cases e; rfl
/-- a def that is one return of such a value -/
theorem pure_fn {N : Nat} {g : GE τ} (h : PureE g) : ∀ ds st d st', gFn N (sRet g) ds st = .ok d st' → st' = st := by
  intro ds st d st' e
  unfold gFn sRet thenE at e
  generalize (ds.map slOf ++ List.replicate (N - ds.length) SV.un) = ρ at e
  cases e1 : g ρ st with
  | stuck => rw [e1] at e; cases e
  | err x s => rw [e1] at e; cases e
  | ok a s =>
    have h1 := h _ _ _ _ e1
    subst h1
    rw [e1] at e
    by_cases hb : borFree a = true
    · simp [hb] at e
      exact e.2.symm
    · simp [hb] at e
end
section
variable {τ : Type} {ρ : Sl} {st : τ} {ok : D → τ → Prop} {er : Exn → τ → Prop}
@[simp] theorem s_eqL {cls : Str} {m : List D → τ → Res τ D} {a b : GE τ} : Sat (gEqL cls m a b ρ st) ok er ↔ Sat (a ρ st) (fun x st => Sat (b ρ st) (fun y st => Got (rlst x) fun xs => Got (rlst y) fun ys => Ask (allEq cls m xs ys st = true) (ok (.bl true) st)) er) er := by
  unfold gEqL
  cases a ρ st with
  | stuck => exact Iff.rfl
  | err x st => exact Iff.rfl
  | ok x st =>
    show Sat ((b ρ st).bind _) ok er ↔ Sat (b ρ st) _ er
    cases b ρ st with
    | stuck => exact Iff.rfl
    | err x st => exact Iff.rfl
    | ok y st =>
      show Sat (match rlst x, rlst y with | some xs, some ys => if allEq cls m xs ys st = true then Res.ok (.bl true) st else .stuck | _, _ => .stuck) ok er ↔ Got (rlst x) fun xs => Got (rlst y) fun ys => Ask (allEq cls m xs ys st = true) (ok (.bl true) st)
      cases rlst x with
      | none => exact ⟨fun h => h.elim, fun ⟨_, e, _⟩ => (nomatch e)⟩
      | some xs =>
        cases rlst y with
        | none => exact ⟨fun h => h.elim, fun ⟨_, _, _, e, _⟩ => (nomatch e)⟩
        | some ys => exact got_iff (got_iff (sat_if Iff.rfl))
end
end PD

namespace PD
open PySem PySem.Spec PyProof.Rows L2
structure Txt (mg : Str → Option Value) : Prop where
  n_abs : mg "abs" = none
  n_bool : mg "bool" = none
  n_int : mg "int" = none
  n_isinstance : mg "isinstance" = none
  n_len : mg "len" = none
  n_list : mg "list" = none
  n_max : mg "max" = none
  n_range : mg "range" = none
  n_set : mg "set" = none
  n_sorted : mg "sorted" = none
  n_str : mg "str" = none
  n_sum : mg "sum" = none
  n_tuple : mg "tuple" = none
  c_MOST_STEPS : ∃ t, mg "MOST_STEPS" = some (.int 40 t)
section
variable {Pr : Program} {w : World} {K : PySem.W.Frag} {mg : Str → Option Value} {base : Heap}
abbrev sx_BadCount : Stmt := inClass (topS 2) 0
theorem scx_BadCount : FnScope ["self", "count"] ["self", "count"] (defScope sx_BadCount) := ⟨rfl, rfl, rfl, by decide +kernel, rfl, by decide +kernel, by decide +kernel⟩
theorem okx_BadCount {f C TA : Addr} {fd : FuncData} (B : BaseX K mg "TailError" TA) (F : Fun K "__init__" "BadCount.__init__" sx_BadCount f fd) : FnOk Pr w K mg base (L2.CX Pr w) 1 f fd ["self", "count"] (spXI K C "count") :=
  fn_x F scx_BadCount fun cdv A outer s H E => by
    have sc := scx_BadCount
    exact pss_cons (ps_expr (pe_binit (by rfl) B (pa_cons (pv 0) (pa_cons pe_str pa_nil)))) (pss_one (ps_ost (pv 0) (pv 1)))
abbrev sx_BadSteps : Stmt := inClass (topS 5) 0
theorem scx_BadSteps : FnScope ["self", "value"] ["self", "value"] (defScope sx_BadSteps) := ⟨rfl, rfl, rfl, by decide +kernel, rfl, by decide +kernel, by decide +kernel⟩
theorem okx_BadSteps {f C TA : Addr} {fd : FuncData} (B : BaseX K mg "TailError" TA) (F : Fun K "__init__" "BadSteps.__init__" sx_BadSteps f fd) : FnOk Pr w K mg base (L2.CX Pr w) 1 f fd ["self", "value"] (spXI K C "value") :=
  fn_x F scx_BadSteps fun cdv A outer s H E => by
    have sc := scx_BadSteps
    exact pss_cons (ps_expr (pe_binit (by rfl) B (pa_cons (pv 0) (pa_cons pe_str pa_nil)))) (pss_one (ps_ost (pv 0) (pv 1)))
abbrev sx_BadNumber : Stmt := inClass (topS 4) 0
theorem scx_BadNumber : FnScope ["self", "value"] ["self", "value"] (defScope sx_BadNumber) := ⟨rfl, rfl, rfl, by decide +kernel, rfl, by decide +kernel, by decide +kernel⟩
theorem okx_BadNumber {f C TA : Addr} {fd : FuncData} (B : BaseX K mg "TailError" TA) (F : Fun K "__init__" "BadNumber.__init__" sx_BadNumber f fd) : FnOk Pr w K mg base (L2.CX Pr w) 1 f fd ["self", "value"] (spXI K C "value") :=
  fn_x F scx_BadNumber fun cdv A outer s H E => by
    have sc := scx_BadNumber
    exact pss_cons (ps_expr (pe_binit (by rfl) B (pa_cons (pv 0) (pa_cons pe_str pa_nil)))) (pss_one (ps_ost (pv 0) (pv 1)))
abbrev s_law_steps : Stmt := topS 20
abbrev n_law_steps : List Str := ["_law_state", "_law_told_here", "_law_turn", "_law_time", "_law_amount"]
theorem sc_law_steps : FnScope n_law_steps ["_law_state"] (defScope s_law_steps) := ⟨rfl, rfl, rfl, by decide +kernel, rfl, by decide +kernel, by decide +kernel⟩
def b_law_steps : GS St1 :=
    (sSeq (sOwn 1 (gLstN gNil))
    (sSeq (sAsg (tgTup 2 (tgCons (tgName 3) (tgCons (tgName 4) tgNil))) (gTup (gCons (gUn dNeg (gC (.int 1))) (gCons (gC (.int 0)) gNil))))
    (sSeq (sFor (gRng1 (gCons (gCall m_law_take (gCons (gVar 0) (gCons (gBin ixD (gFz (gLstN (gCons (gC (.int 2)) (gCons (gC (.int 4)) (gCons (gC (.int 7)) gNil))))) (gCall m_law_take (gCons (gVar 0) (gCons (gC (.int 3)) gNil)))) gNil))) gNil)) (tgName 2) (sSeq (sAsg (tgName 3) (gBin dAdd (gBin dAdd (gVar 3) (gC (.int 1))) (gCall m_law_take (gCons (gVar 0) (gCons (gBin ixD (gFz (gLstN (gCons (gC (.int 2)) (gCons (gC (.int 6)) (gCons (gBin dPow (gC (.int 10)) (gC (.int 9))) gNil))))) (gCall m_law_take (gCons (gVar 0) (gCons (gC (.int 3)) gNil)))) gNil)))))
    (sSeq (sAsg (tgName 4) (gBin dAdd (gBin dAdd (gVar 4) (gC (.int 1))) (gCall m_law_take (gCons (gVar 0) (gCons (gBin ixD (gFz (gLstN (gCons (gC (.int 1)) (gCons (gC (.int 3)) (gCons (gBin dPow (gC (.int 10)) (gC (.int 20))) gNil))))) (gCall m_law_take (gCons (gVar 0) (gCons (gC (.int 3)) gNil)))) gNil)))))
    (sApp 1 (gTup (gCons (gVar 3) (gCons (gVar 4) gNil)))))))
    (sRetO 1))))
def m_law_steps : List D → St1 → Res St1 (List D) := gFnN 5 b_law_steps
theorem ok_law_steps {f : Addr} {fd : FuncData} (T : Txt mg) (F : Fun K "_law_steps" "_law_steps" s_law_steps f fd) (c_law_take : Cal Pr w K mg base 1 "_law_take" ["_law_state", "_law_limit"] (spD K mg RB 2 m_law_take)) : FnOk Pr w K mg base (L2.CX Pr w) 2 f fd ["_law_state"] (spN K mg RB 1 m_law_steps) :=
  fn_n F sc_law_steps rfl (by decide) fun sa xa cdv A outer s H E hr => by
    have sc := sc_law_steps
    have tk : Takes (cxOf (L2.CX Pr w) Pr w K mg base n_law_steps "_law_steps" (defScope s_law_steps) f cdv A outer s H E) (fun c d _ H' => E c d H') := takes_of rfl rfl rfl rfl
    refine ⟨_, (pss_cons (ps_set (i := 1) sc.nd rfl (by first | exact Or.inl rfl | exact Or.inr rfl) (pe_lst pa_nil))
      (pss_cons (ps_asg (pe_tup (pa_cons (pe_un un_neg pe_int) (pa_cons pe_int pa_nil))) (k_tup K (n := 2) (by rfl) (pgs_cons (pg_name (i := 3) sc.nd rfl (by first | exact Or.inl rfl | exact Or.inr rfl)) (pgs_cons (pg_name (i := 4) sc.nd rfl (by first | exact Or.inl rfl | exact Or.inr rfl)) pgs_nil))))
      (pss_cons (ps_for (passes_of rfl) rfl (pi_range1 rfl T.n_range (pa_cons (pe_cal c_law_take (hr.mono (by decide)) tk (pa_cons (pv 0) (pa_cons (pe_ix (k_ix K) (pe_lst (pa_cons pe_int (pa_cons pe_int (pa_cons pe_int pa_nil)))) (pe_cal c_law_take (hr.mono (by decide)) tk (pa_cons (pv 0) (pa_cons pe_int pa_nil))) (fun _ _ => rfl)) pa_nil))) pa_nil)) (pg_name (i := 2) sc.nd rfl (by first | exact Or.inl rfl | exact Or.inr rfl)) (pss_cons (ps_set (i := 3) sc.nd rfl (by first | exact Or.inl rfl | exact Or.inr rfl) (pe_op (k_add K) (pe_op (k_add K) (pv 3) pe_int) (pe_cal c_law_take (hr.mono (by decide)) tk (pa_cons (pv 0) (pa_cons (pe_ix (k_ix K) (pe_lst (pa_cons pe_int (pa_cons pe_int (pa_cons (pe_op op_pow pe_int pe_int) pa_nil)))) (pe_cal c_law_take (hr.mono (by decide)) tk (pa_cons (pv 0) (pa_cons pe_int pa_nil))) (fun _ _ => rfl)) pa_nil)))))
      (pss_cons (ps_set (i := 4) sc.nd rfl (by first | exact Or.inl rfl | exact Or.inr rfl) (pe_op (k_add K) (pe_op (k_add K) (pv 4) pe_int) (pe_cal c_law_take (hr.mono (by decide)) tk (pa_cons (pv 0) (pa_cons (pe_ix (k_ix K) (pe_lst (pa_cons pe_int (pa_cons pe_int (pa_cons (pe_op op_pow pe_int pe_int) pa_nil)))) (pe_cal c_law_take (hr.mono (by decide)) tk (pa_cons (pv 0) (pa_cons pe_int pa_nil))) (fun _ _ => rfl)) pa_nil)))))
      (pss_one (ps_expr (k_app K (pv 1) (pe_tup (pa_cons (pv 3) (pa_cons (pv 4) pa_nil)))))))))
      (pss_one (ps_ret (pv 1)))))), ?_⟩
    exact (evs_seq (evs_own (i := 1) (evn_lst eva_nil))
      (evs_seq (evs_asg (vs := [3, 4]) (ev_tup (eva_cons (ev_un und_neg ev_int) (eva_cons ev_int eva_nil))) (tgd_tup rfl (tgsd_cons (tgd_name (by decide)) (tgsd_cons (tgd_name (by decide)) tgsd_nil))))
      (evs_seq (evs_for (vs := [2]) (evj_rng1 (eva_cons (evd_call (Rf := RB) (gCons_len (gCons_len gNil_len)) (eva_cons (ev_var 0) (eva_cons (ev_op opd_ix (EvN.evd (evn_lst (eva_cons ev_int (eva_cons ev_int (eva_cons ev_int eva_nil))))) (evd_call (Rf := RB) (gCons_len (gCons_len gNil_len)) (eva_cons (ev_var 0) (eva_cons ev_int eva_nil)))) eva_nil))) eva_nil)) (tgd_name (by decide)) (evs_seq (evs_asg (ev_op opd_add (ev_op opd_add (ev_var 3) ev_int) (evd_call (Rf := RB) (gCons_len (gCons_len gNil_len)) (eva_cons (ev_var 0) (eva_cons (ev_op opd_ix (EvN.evd (evn_lst (eva_cons ev_int (eva_cons ev_int (eva_cons (ev_op opd_pow ev_int ev_int) eva_nil))))) (evd_call (Rf := RB) (gCons_len (gCons_len gNil_len)) (eva_cons (ev_var 0) (eva_cons ev_int eva_nil)))) eva_nil)))) (tgd_name (vs := [3]) (by decide)))
      (evs_seq (evs_asg (ev_op opd_add (ev_op opd_add (ev_var 4) ev_int) (evd_call (Rf := RB) (gCons_len (gCons_len gNil_len)) (eva_cons (ev_var 0) (eva_cons (ev_op opd_ix (EvN.evd (evn_lst (eva_cons ev_int (eva_cons ev_int (eva_cons (ev_op opd_pow ev_int ev_int) eva_nil))))) (evd_call (Rf := RB) (gCons_len (gCons_len gNil_len)) (eva_cons (ev_var 0) (eva_cons ev_int eva_nil)))) eva_nil)))) (tgd_name (vs := [4]) (by decide)))
      (evs_app (i := 1) (ev_tup (eva_cons (ev_var 3) (eva_cons (ev_var 4) eva_nil)))))))
      (evs_retO 1))))
abbrev s_law_many : Stmt := topS 22
abbrev n_law_many : List Str := ["_law_state", "_law_begin", "_law_width", "_law_k"]
theorem sc_law_many : FnScope n_law_many ["_law_state"] (defScope s_law_many) := ⟨rfl, rfl, rfl, by decide +kernel, rfl, by decide +kernel, by decide +kernel⟩
def b_law_many : GS St1 :=
    (sSeq (sIf (gB (gBin dGt (gCall m_law_take (gCons (gVar 0) (gCons (gC (.int 4)) gNil))) (gC (.int 0)))) (sRet (gFz (gCallN m_law_steps (gCons (gVar 0) gNil)))) sNext)
    (sSeq (sAsg (tgTup 2 (tgCons (tgName 1) (tgCons (tgName 2) tgNil))) (gTup (gCons (gCall m_law_take (gCons (gVar 0) (gCons (gC (.int 3)) gNil))) (gCons (gBin dAdd (gC (.int 1)) (gCall m_law_take (gCons (gVar 0) (gCons (gC (.int 3)) gNil)))) gNil))))
    (sRet (gFz (gLc (gRng1 (gCons (gBin dAdd (gC (.int 20)) (gCall m_law_take (gCons (gVar 0) (gCons (gC (.int 21)) gNil)))) gNil)) (tgName 3) gYes (gTup (gCons (gBin dAdd (gVar 1) (gBin dMul (gVar 2) (gVar 3))) (gCons (gBin dAdd (gC (.int 1)) (gBin dMul (gC (.int 2)) (gVar 3))) gNil))) [3])))))
def m_law_many : List D → St1 → Res St1 D := gFn 4 b_law_many
theorem ok_law_many {f : Addr} {fd : FuncData} (T : Txt mg) (F : Fun K "_law_many" "_law_many" s_law_many f fd) (c_law_take : Cal Pr w K mg base 1 "_law_take" ["_law_state", "_law_limit"] (spD K mg RB 2 m_law_take)) (c_law_steps : Cal Pr w K mg base 2 "_law_steps" ["_law_state"] (spN K mg RB 1 m_law_steps)) : FnOk Pr w K mg base (L2.CX Pr w) 3 f fd ["_law_state"] (spD K mg RB 1 m_law_many) :=
  fn_d F sc_law_many rfl (by decide) fun sa xa cdv A outer s H E hr => by
    have sc := sc_law_many
    have tk : Takes (cxOf (L2.CX Pr w) Pr w K mg base n_law_many "_law_many" (defScope s_law_many) f cdv A outer s H E) (fun c d _ H' => E c d H') := takes_of rfl rfl rfl rfl
    refine ⟨_, (pss_cons (ps_if (pt_cmpR op_gt (pe_cal c_law_take (hr.mono (by decide)) tk (pa_cons (pv 0) (pa_cons pe_int pa_nil))) pe_int (nomark _)) (pss_one (ps_ret (pe_cal c_law_steps (hr.mono (by decide)) tk (pa_cons (pv 0) pa_nil)))) pss_nil)
      (pss_cons (ps_asg (pe_tup (pa_cons (pe_cal c_law_take (hr.mono (by decide)) tk (pa_cons (pv 0) (pa_cons pe_int pa_nil))) (pa_cons (pe_op (k_add K) pe_int (pe_cal c_law_take (hr.mono (by decide)) tk (pa_cons (pv 0) (pa_cons pe_int pa_nil)))) pa_nil))) (k_tup K (n := 2) (by rfl) (pgs_cons (pg_name (i := 1) sc.nd rfl (by first | exact Or.inl rfl | exact Or.inr rfl)) (pgs_cons (pg_name (i := 2) sc.nd rfl (by first | exact Or.inl rfl | exact Or.inr rfl)) pgs_nil))))
      (pss_one (ps_ret (pe_lc (own := [("_law_k", 3)]) rfl sc.nd (pi_range1 rfl T.n_range (pa_cons (pe_op (k_add K) pe_int (pe_cal c_law_take (hr.mono (by decide)) tk (pa_cons (pv 0) (pa_cons pe_int pa_nil)))) pa_nil)) (blkOk_by (N := n_law_many) (sc := defScope s_law_many) (by decide +kernel)) (fun _ _ _ _ _ => (pg_name (i := 3) sc.nd rfl (by first | exact Or.inl rfl | exact Or.inr rfl))) (fun _ _ _ _ _ => pts_nil) (fun _ _ _ _ _ => (pe_tup (pa_cons (pe_op (k_add K) (pv 1) (pe_op op_mul (pv 2) (pv 3))) (pa_cons (pe_op (k_add K) pe_int (pe_op op_mul pe_int (pv 3))) pa_nil))))))))), ?_⟩
    exact (evs_seq (evs_if (evt_test (ev_op opd_gt (evd_call (Rf := RB) (gCons_len (gCons_len gNil_len)) (eva_cons (ev_var 0) (eva_cons ev_int eva_nil))) ev_int)) (evs_ret (EvN.evd (evn_call (Rf := RB) (gCons_len gNil_len) (eva_cons (ev_var 0) eva_nil)))) evs_next)
      (evs_seq (evs_asg (vs := [1, 2]) (ev_tup (eva_cons (evd_call (Rf := RB) (gCons_len (gCons_len gNil_len)) (eva_cons (ev_var 0) (eva_cons ev_int eva_nil))) (eva_cons (ev_op opd_add ev_int (evd_call (Rf := RB) (gCons_len (gCons_len gNil_len)) (eva_cons (ev_var 0) (eva_cons ev_int eva_nil)))) eva_nil))) (tgd_tup rfl (tgsd_cons (tgd_name (by decide)) (tgsd_cons (tgd_name (by decide)) tgsd_nil))))
      (evs_ret (EvN.evd (evn_lc (vs := [3]) (EvJ.evi (evj_rng1 (eva_cons (ev_op opd_add ev_int (evd_call (Rf := RB) (gCons_len (gCons_len gNil_len)) (eva_cons (ev_var 0) (eva_cons ev_int eva_nil)))) eva_nil))) (tgd_name (by decide)) evt_yes (ev_tup (eva_cons (ev_op opd_add (ev_var 1) (ev_op opd_mul (ev_var 2) (ev_var 3))) (eva_cons (ev_op opd_add ev_int (ev_op opd_mul ev_int (ev_var 3))) eva_nil))))))))
abbrev s_is_number : Stmt := topS 9
abbrev n_is_number : List Str := ["value", "low"]
theorem sc_is_number : FnScope n_is_number ["value", "low"] (defScope s_is_number) := ⟨rfl, rfl, rfl, by decide +kernel, rfl, by decide +kernel, by decide +kernel⟩
def b_is_number : GS St1 :=
    (sRet (gAndV (gIsi "int" (gVar 0)) (gAndV (gUn dNot (gIsi "bool" (gVar 0))) (gBin dGe (gVar 0) (gVar 1)))))
def m_is_number : List D → St1 → Res St1 D := gFn 2 b_is_number
theorem ok_is_number {f : Addr} {fd : FuncData} (T : Txt mg) (F : Fun K "is_number" "is_number" s_is_number f fd) : FnOk Pr w K mg base (L2.CX Pr w) 1 f fd ["value", "low"] (spD K mg RB 2 m_is_number) :=
  fn_d F sc_is_number rfl (by decide) fun sa xa cdv A outer s H E hr => by
    have sc := sc_is_number
    have tk : Takes (cxOf (L2.CX Pr w) Pr w K mg base n_is_number "is_number" (defScope s_is_number) f cdv A outer s H E) (fun c d _ H' => E c d H') := takes_of rfl rfl rfl rfl
    refine ⟨_, (pss_one (ps_ret (pe_and (pe_callB (k_isi K) (by rfl) T.n_isinstance boot_isi (pa_cons (pv 0) (pa_cons (pe_bltn (v := .ty "int") (by rfl) T.n_int boot_x_int rfl) pa_nil))) (pe_and (pe_not (pe_callB (k_isi K) (by rfl) T.n_isinstance boot_isi (pa_cons (pv 0) (pa_cons (pe_bltn (v := .ty "bool") (by rfl) T.n_bool boot_x_bool rfl) pa_nil)))) (pe_one (pe_cmpR op_ge (pv 0) (pv 1) (nomark _))))))), ?_⟩
    exact (evs_ret (ev_andV (ev_isi (T := "int") (ev_var 0)) (ev_andV (ev_notV (ev_isi (T := "bool") (ev_var 0))) (ev_op opd_ge (ev_var 0) (ev_var 1)))))
abbrev s_is_step : Stmt := topS 11
abbrev n_is_step : List Str := ["value", "before"]
theorem sc_is_step : FnScope n_is_step ["value", "before"] (defScope s_is_step) := ⟨rfl, rfl, rfl, by decide +kernel, rfl, by decide +kernel, by decide +kernel⟩
def b_is_step : GS St1 :=
    (sSeq (sIf (gOr (gNot (gB (gIsi "tuple" (gVar 0)))) (gB (gBin dNeG (gCB (o1 lenD) (gCons (gVar 0) gNil)) (gC (.int 2))))) (sRet (gC (.bl false))) sNext)
    (sRet (gAndV (gCall m_is_number (gCons (gBin ixD (gVar 0) (gC (.int 0))) (gCons (gBin dAdd (gBin ixD (gVar 1) (gC (.int 0))) (gC (.int 1))) gNil))) (gCall m_is_number (gCons (gBin ixD (gVar 0) (gC (.int 1))) (gCons (gBin dAdd (gBin ixD (gVar 1) (gC (.int 1))) (gC (.int 1))) gNil))))))
def m_is_step : List D → St1 → Res St1 D := gFn 2 b_is_step
theorem ok_is_step {f : Addr} {fd : FuncData} (T : Txt mg) (F : Fun K "is_step" "is_step" s_is_step f fd) (c_is_number : Cal Pr w K mg base 1 "is_number" ["value", "low"] (spD K mg RB 2 m_is_number)) : FnOk Pr w K mg base (L2.CX Pr w) 2 f fd ["value", "before"] (spD K mg RB 2 m_is_step) :=
  fn_d F sc_is_step rfl (by decide) fun sa xa cdv A outer s H E hr => by
    have sc := sc_is_step
    have tk : Takes (cxOf (L2.CX Pr w) Pr w K mg base n_is_step "is_step" (defScope s_is_step) f cdv A outer s H E) (fun c d _ H' => E c d H') := takes_of rfl rfl rfl rfl
    refine ⟨_, (pss_cons (ps_if (PW.pt (pw_or (pt_not (pt_val (pe_callB (k_isi K) (by rfl) T.n_isinstance boot_isi (pa_cons (pv 0) (pa_cons (pe_bltn (v := .ty "tuple") (by rfl) T.n_tuple boot_x_tuple rfl) pa_nil))))) (pw_or1 (pt_cmpR (k_neG hr.units) (pe_callB (k_len K) (by rfl) T.n_len boot_x_len (pa_cons (pv 0) pa_nil)) pe_int (nomark _))))) (pss_one (ps_ret pe_bl)) pss_nil)
      (pss_one (ps_ret (pe_and (pe_cal c_is_number (hr.mono (by decide)) tk (pa_cons (pe_ix (k_ix K) (pv 0) pe_int (fun _ _ => rfl)) (pa_cons (pe_op (k_add K) (pe_ix (k_ix K) (pv 1) pe_int (fun _ _ => rfl)) pe_int) pa_nil))) (pe_one (pe_cal c_is_number (hr.mono (by decide)) tk (pa_cons (pe_ix (k_ix K) (pv 0) pe_int (fun _ _ => rfl)) (pa_cons (pe_op (k_add K) (pe_ix (k_ix K) (pv 1) pe_int (fun _ _ => rfl)) pe_int) pa_nil)))))))), ?_⟩
    exact (evs_seq (evs_if (evt_or (evt_not (evt_B (ev_isi (T := "tuple") (ev_var 0)))) (evt_test (ev_op opd_neG (ev_cb calld_len (eva_cons (ev_var 0) eva_nil)) ev_int))) (evs_ret ev_bl) evs_next)
      (evs_ret (ev_andV (evd_call (Rf := RB) (gCons_len (gCons_len gNil_len)) (eva_cons (ev_op opd_ix (ev_var 0) ev_int) (eva_cons (ev_op opd_add (ev_op opd_ix (ev_var 1) ev_int) ev_int) eva_nil))) (evd_call (Rf := RB) (gCons_len (gCons_len gNil_len)) (eva_cons (ev_op opd_ix (ev_var 0) ev_int) (eva_cons (ev_op opd_add (ev_op opd_ix (ev_var 1) ev_int) ev_int) eva_nil))))))
abbrev s_Cost_init : Stmt := inClass (topS 15) 0
abbrev n_Cost_init : List Str := ["self", "steps", "before", "step"]
theorem sc_Cost_init : FnScope n_Cost_init ["self", "steps"] (defScope s_Cost_init) := ⟨rfl, rfl, rfl, by decide +kernel, rfl, by decide +kernel, by decide +kernel⟩
def b_Cost_init : GS St1 :=
    (sSeq (sIf (gB (gBin dGt (gCB (o1 lenD) (gCons (gVar 1) gNil)) (gC (.int 40)))) (sRaise "BadCount" "count" (gCB (o1 lenD) (gCons (gVar 1) gNil))) sNext)
    (sSeq (sAsg (tgName 2) (gTup (gCons (gUn dNeg (gC (.int 1))) (gCons (gC (.int 0)) gNil))))
    (sSeq (sFor (gItV 1) (tgName 3) (sSeq (sIf (gNot (gB (gCall m_is_step (gCons (gVar 3) (gCons (gVar 2) gNil))))) (sRaise "BadSteps" "value" (gVar 3)) sNext)
    (sAsg (tgName 2) (gVar 3))))
    (sPutF "Cost" "pairs" 0 (gCB (o1 tupleD) (gCons (gVar 1) gNil))))))
def m_Cost_init : List D → St1 → Res St1 (List (Str × D)) := gFnI 4 "Cost" b_Cost_init
theorem ok_Cost_init {f : Addr} {fd : FuncData} {A_BadCount A_BadSteps A_Cost : Addr} (T : Txt mg) (F : Fun K "__init__" "Cost.__init__" s_Cost_init f fd) (x_BadCount : CalX Pr w K mg base "BadCount" "count" "count" A_BadCount) (c_is_step : Cal Pr w K mg base 2 "is_step" ["value", "before"] (spD K mg RB 2 m_is_step)) (x_BadSteps : CalX Pr w K mg base "BadSteps" "value" "value" A_BadSteps) (cc_Cost : ClsK K mg "Cost" ["pairs"] A_Cost) : FnOk Pr w K mg base (L2.CX Pr w) 3 f fd ["self", "steps"] (spI K mg RB 1 "Cost" m_Cost_init) :=
  fn_i F sc_Cost_init rfl (by decide) fun sa xa cdv A outer s H E hr => by
    have sc := sc_Cost_init
    have tk : Takes (cxOf (L2.CX Pr w) Pr w K mg base n_Cost_init "Cost.__init__" (defScope s_Cost_init) f cdv A outer s H E) (fun c d _ H' => E c d H') := takes_of rfl rfl rfl rfl
    refine ⟨_, (pss_cons (ps_if (pt_cmpR op_gt (pe_callB (k_len K) (by rfl) T.n_len boot_x_len (pa_cons (pv 1) pa_nil)) (pe_gint T.c_MOST_STEPS) (nomark _)) (pss_one (ps_raiseX x_BadCount hr (by decide) tk (pe_callB (k_len K) (by rfl) T.n_len boot_x_len (pa_cons (pv 1) pa_nil)))) pss_nil)
      (pss_cons (ps_set (i := 2) sc.nd rfl (by first | exact Or.inl rfl | exact Or.inr rfl) (pe_tup (pa_cons (pe_un un_neg pe_int) (pa_cons pe_int pa_nil))))
      (pss_cons (ps_for (passes_of rfl) rfl (k_it K (pv 1)) (pg_name (i := 3) sc.nd rfl (by first | exact Or.inl rfl | exact Or.inr rfl)) (pss_cons (ps_if (pt_not (pt_val (pe_cal c_is_step (hr.mono (by decide)) tk (pa_cons (pv 3) (pa_cons (pv 2) pa_nil))))) (pss_one (ps_raiseX x_BadSteps hr (by decide) tk (pv 3))) pss_nil)
      (pss_one (ps_set (i := 2) sc.nd rfl (by first | exact Or.inl rfl | exact Or.inr rfl) (pv 3)))))
      (pss_one (ps_fld (pv 0) (pe_callTy (k_tuple K) (by rfl) T.n_tuple boot_x_tuple (pa_cons (pv 1) pa_nil)) rfl))))), ?_⟩
    exact (evs_seq (evs_if (evt_test (ev_op opd_gt (ev_cb calld_len (eva_cons (ev_var 1) eva_nil)) ev_int)) (evs_raiseX x_BadCount (ev_cb calld_len (eva_cons (ev_var 1) eva_nil))) evs_next)
      (evs_seq (evs_asg (ev_tup (eva_cons (ev_un und_neg ev_int) (eva_cons ev_int eva_nil))) (tgd_name (vs := [2]) (by decide)))
      (evs_seq (evs_forV (vs := [3]) (i := 1) rfl (tgd_name (by decide)) (evs_seq (evs_if (evt_not (evt_B (evd_call (Rf := RB) (gCons_len (gCons_len gNil_len)) (eva_cons (ev_var 3) (eva_cons (ev_var 2) eva_nil))))) (evs_raiseX x_BadSteps (ev_var 3)) evs_next)
      (evs_asg (ev_var 3) (tgd_name (vs := [2]) (by decide)))))
      (evs_putF (cc_Cost.f (by decide)) (ev_cb calld_tuple (eva_cons (ev_var 1) eva_nil))))))
abbrev s_law_shuffled : Stmt := topS 19
abbrev n_law_shuffled : List Str := ["_law_state", "_law_items", "_law_left", "_law_told_here", "_law_k"]
theorem sc_law_shuffled : FnScope n_law_shuffled ["_law_state", "_law_items"] (defScope s_law_shuffled) := ⟨rfl, rfl, rfl, by decide +kernel, rfl, by decide +kernel, by decide +kernel⟩
def b_law_shuffled : GS St1 :=
    (sSeq (sOwn 2 (gListN (gCons (gVar 1) gNil)))
    (sSeq (sOwn 3 (gLstN gNil))
    (sSeq (sFor (gRng1 (gCons (gCB (o1 lenD) (gCons (gVar 1) gNil)) gNil)) (tgName 4) (sAppPop 3 2 (gCall m_law_take (gCons (gVar 0) (gCons (gCB (o1 lenD) (gCons (gVar 2) gNil)) gNil)))))
    (sRetO 3))))
def m_law_shuffled : List D → St1 → Res St1 (List D) := gFnN 5 b_law_shuffled
theorem ok_law_shuffled {f : Addr} {fd : FuncData} (T : Txt mg) (F : Fun K "_law_shuffled" "_law_shuffled" s_law_shuffled f fd) (c_law_take : Cal Pr w K mg base 1 "_law_take" ["_law_state", "_law_limit"] (spD K mg RB 2 m_law_take)) : FnOk Pr w K mg base (L2.CX Pr w) 2 f fd ["_law_state", "_law_items"] (spN K mg RB 2 m_law_shuffled) :=
  fn_n F sc_law_shuffled rfl (by decide) fun sa xa cdv A outer s H E hr => by
    have sc := sc_law_shuffled
    have tk : Takes (cxOf (L2.CX Pr w) Pr w K mg base n_law_shuffled "_law_shuffled" (defScope s_law_shuffled) f cdv A outer s H E) (fun c d _ H' => E c d H') := takes_of rfl rfl rfl rfl
    refine ⟨_, (pss_cons (ps_set (i := 2) sc.nd rfl (by first | exact Or.inl rfl | exact Or.inr rfl) (pe_callTy (k_list K) (by rfl) T.n_list boot_x_list (pa_cons (pv 1) pa_nil)))
      (pss_cons (ps_set (i := 3) sc.nd rfl (by first | exact Or.inl rfl | exact Or.inr rfl) (pe_lst pa_nil))
      (pss_cons (ps_for (passes_of rfl) rfl (pi_range1 rfl T.n_range (pa_cons (pe_callB (k_len K) (by rfl) T.n_len boot_x_len (pa_cons (pv 1) pa_nil)) pa_nil)) (pg_name (i := 4) sc.nd rfl (by first | exact Or.inl rfl | exact Or.inr rfl)) (pss_one (ps_expr (k_app K (pv 3) (k_popAt K (pv 2) (pe_cal c_law_take (hr.mono (by decide)) tk (pa_cons (pv 0) (pa_cons (pe_callB (k_len K) (by rfl) T.n_len boot_x_len (pa_cons (pv 2) pa_nil)) pa_nil))))))))
      (pss_one (ps_ret (pv 3)))))), ?_⟩
    exact (evs_seq (evs_own (i := 2) (evn_list (eva_cons (ev_var 1) eva_nil)))
      (evs_seq (evs_own (i := 3) (evn_lst eva_nil))
      (evs_seq (evs_for (vs := [4]) (evj_rng1 (eva_cons (ev_cb calld_len (eva_cons (ev_var 1) eva_nil)) eva_nil)) (tgd_name (by decide)) (evs_appPop (i := 3) (j := 2) (evd_call (Rf := RB) (gCons_len (gCons_len gNil_len)) (eva_cons (ev_var 0) (eva_cons (ev_cb calld_len (eva_cons (ev_var 2) eva_nil)) eva_nil)))))
      (evs_retO 3))))
abbrev s_law_at : Stmt := topS 21
abbrev n_law_at : List Str := ["_law_steps_here", "_law_time", "_law_amount", "_law_begin", "_law_later"]
theorem sc_law_at : FnScope n_law_at ["_law_steps_here", "_law_time"] (defScope s_law_at) := ⟨rfl, rfl, rfl, by decide +kernel, rfl, by decide +kernel, by decide +kernel⟩
def b_law_at : GS St1 :=
    (sSeq (sAsg (tgName 2) (gC (.int 0)))
    (sSeq (sFor (gItV 0) (tgTup 2 (tgCons (tgName 3) (tgCons (tgName 4) tgNil))) (sIf (gB (gBin dLe (gVar 3) (gVar 1))) (sAsg (tgName 2) (gVar 4)) sNext))
    (sRet (gVar 2))))
def m_law_at : List D → St1 → Res St1 D := gFn 5 b_law_at
theorem ok_law_at {f : Addr} {fd : FuncData} (T : Txt mg) (F : Fun K "_law_at" "_law_at" s_law_at f fd) : FnOk Pr w K mg base (L2.CX Pr w) 1 f fd ["_law_steps_here", "_law_time"] (spD K mg RB 2 m_law_at) :=
  fn_d F sc_law_at rfl (by decide) fun sa xa cdv A outer s H E hr => by
    have sc := sc_law_at
    have tk : Takes (cxOf (L2.CX Pr w) Pr w K mg base n_law_at "_law_at" (defScope s_law_at) f cdv A outer s H E) (fun c d _ H' => E c d H') := takes_of rfl rfl rfl rfl
    refine ⟨_, (pss_cons (ps_set (i := 2) sc.nd rfl (by first | exact Or.inl rfl | exact Or.inr rfl) pe_int)
      (pss_cons (ps_for (passes_of rfl) rfl (k_it K (pv 0)) (k_tup K (n := 2) (by rfl) (pgs_cons (pg_name (i := 3) sc.nd rfl (by first | exact Or.inl rfl | exact Or.inr rfl)) (pgs_cons (pg_name (i := 4) sc.nd rfl (by first | exact Or.inl rfl | exact Or.inr rfl)) pgs_nil))) (pss_one (ps_if (pt_cmpR op_le (pv 3) (pv 1) (nomark _)) (pss_one (ps_set (i := 2) sc.nd rfl (by first | exact Or.inl rfl | exact Or.inr rfl) (pv 4))) pss_nil)))
      (pss_one (ps_ret (pv 2))))), ?_⟩
    exact (evs_seq (evs_asg ev_int (tgd_name (vs := [2]) (by decide)))
      (evs_seq (evs_forV (vs := [3, 4]) (i := 0) rfl (tgd_tup rfl (tgsd_cons (tgd_name (by decide)) (tgsd_cons (tgd_name (by decide)) tgsd_nil))) (evs_if (evt_test (ev_op opd_le (ev_var 3) (ev_var 1))) (evs_asg (ev_var 4) (tgd_name (vs := [2]) (by decide))) evs_next))
      (evs_ret (ev_var 2))))
abbrev s_law_joined : Stmt := topS 23
abbrev n_law_joined : List Str := ["_law_one", "_law_other", "_law_greater", "_law_told_here", "_law_time", "_law_pair", "_law_amount", "_law_step"]
theorem sc_law_joined : FnScope n_law_joined ["_law_one", "_law_other", "_law_greater"] (defScope s_law_joined) := ⟨rfl, rfl, rfl, by decide +kernel, rfl, by decide +kernel, by decide +kernel⟩
def b_law_joined : GS St1 :=
    (sSeq (sOwn 3 (gLstN gNil))
    (sSeq (sFor (gItF (gFz (gSortSet (gFz (gLc (gIt (gBin dAdd (gVar 0) (gVar 1))) (tgName 7) gYes (gBin ixD (gVar 7) (gC (.int 0))) [7]))))) (tgName 4) (sSeq (sAsg (tgName 5) (gFz (gLstN (gCons (gCall m_law_at (gCons (gVar 0) (gCons (gVar 4) gNil))) (gCons (gCall m_law_at (gCons (gVar 1) (gCons (gVar 4) gNil))) gNil)))))
    (sSeq (sAsg (tgName 6) (gBin ixD (gFz (gLstN (gCons (gCB (o1 sumD) (gCons (gVar 5) gNil)) (gCons (gCB (o1 maxD) (gCons (gVar 5) gNil)) gNil)))) (gVar 2)))
    (sIf (gOr (gAnd (gB (gBin dEqG (gVar 3) (gFz (gLstN gNil)))) (gB (gBin dGt (gVar 6) (gC (.int 0))))) (gAnd (gB (gBin dNeG (gVar 3) (gFz (gLstN gNil)))) (gB (gBin dGt (gVar 6) (gBin ixD (gBin ixD (gVar 3) (gUn dNeg (gC (.int 1)))) (gC (.int 1))))))) (sApp 3 (gTup (gCons (gVar 4) (gCons (gVar 6) gNil)))) sNext))))
    (sRetO 3)))
def m_law_joined : List D → St1 → Res St1 D := gFn 8 b_law_joined
theorem ok_law_joined {f : Addr} {fd : FuncData} (T : Txt mg) (F : Fun K "_law_joined" "_law_joined" s_law_joined f fd) (c_law_at : Cal Pr w K mg base 1 "_law_at" ["_law_steps_here", "_law_time"] (spD K mg RB 2 m_law_at)) : FnOk Pr w K mg base (L2.CX Pr w) 2 f fd ["_law_one", "_law_other", "_law_greater"] (spD K mg RB 3 m_law_joined) :=
  fn_d F sc_law_joined rfl (by decide) fun sa xa cdv A outer s H E hr => by
    have sc := sc_law_joined
    have tk : Takes (cxOf (L2.CX Pr w) Pr w K mg base n_law_joined "_law_joined" (defScope s_law_joined) f cdv A outer s H E) (fun c d _ H' => E c d H') := takes_of rfl rfl rfl rfl
    refine ⟨_, (pss_cons (ps_set (i := 3) sc.nd rfl (by first | exact Or.inl rfl | exact Or.inr rfl) (pe_lst pa_nil))
      (pss_cons (ps_for (passes_of rfl) rfl (k_it K (pe_callB (k_sortedSet w rfl) (by rfl) T.n_sorted boot_x_sorted (pa_cons (pe_callTy (k_setI K w rfl) (by rfl) T.n_set boot_x_set (pa_cons (pe_lc (own := [("_law_step", 7)]) rfl sc.nd (k_it K (pe_op (k_add K) (pv 0) (pv 1))) (blkOk_by (N := n_law_joined) (sc := defScope s_law_joined) (by decide +kernel)) (fun _ _ _ _ _ => (pg_name (i := 7) sc.nd rfl (by first | exact Or.inl rfl | exact Or.inr rfl))) (fun _ _ _ _ _ => pts_nil) (fun _ _ _ _ _ => (pe_ix (k_ix K) (pv 7) pe_int (fun _ _ => rfl)))) pa_nil)) pa_nil))) (pg_name (i := 4) sc.nd rfl (by first | exact Or.inl rfl | exact Or.inr rfl)) (pss_cons (ps_set (i := 5) sc.nd rfl (by first | exact Or.inl rfl | exact Or.inr rfl) (pe_lst (pa_cons (pe_cal c_law_at (hr.mono (by decide)) tk (pa_cons (pv 0) (pa_cons (pv 4) pa_nil))) (pa_cons (pe_cal c_law_at (hr.mono (by decide)) tk (pa_cons (pv 1) (pa_cons (pv 4) pa_nil))) pa_nil))))
      (pss_cons (ps_set (i := 6) sc.nd rfl (by first | exact Or.inl rfl | exact Or.inr rfl) (pe_ix (k_ix K) (pe_lst (pa_cons (pe_callB (k_sum K rfl) (by rfl) T.n_sum boot_x_sum (pa_cons (pv 5) pa_nil)) (pa_cons (pe_callB (k_max K rfl) (by rfl) T.n_max boot_x_max (pa_cons (pv 5) pa_nil)) pa_nil))) (pv 2) (fun _ _ => rfl)))
      (pss_one (ps_if (PW.pt (pw_or (PW.pt (pw_and (pt_cmpR (k_eqG hr.units) (pv 3) (pe_lst pa_nil) (nomark _)) (pw_and1 (pt_cmpR op_gt (pv 6) pe_int (nomark _))))) (pw_or1 (PW.pt (pw_and (pt_cmpR (k_neG hr.units) (pv 3) (pe_lst pa_nil) (nomark _)) (pw_and1 (pt_cmpR op_gt (pv 6) (pe_ix (k_ix K) (pe_ix (k_ix K) (pv 3) (pe_un un_neg pe_int) (fun _ _ => rfl)) pe_int (fun _ _ => rfl)) (nomark _)))))))) (pss_one (ps_expr (k_app K (pv 3) (pe_tup (pa_cons (pv 4) (pa_cons (pv 6) pa_nil)))))) pss_nil)))))
      (pss_one (ps_ret (pv 3))))), ?_⟩
    exact (evs_seq (evs_own (i := 3) (evn_lst eva_nil))
      (evs_seq (evs_for (vs := [4]) (evj_all rfl (EvN.evd (evn_sortSet (w := w) (EvN.evd (evn_lc (vs := [7]) (evi_all rfl (ev_op opd_add (ev_var 0) (ev_var 1))) (tgd_name (by decide)) evt_yes (ev_op opd_ix (ev_var 7) ev_int)))))) (tgd_name (by decide)) (evs_seq (evs_asg (EvN.evd (evn_lst (eva_cons (evd_call (Rf := RB) (gCons_len (gCons_len gNil_len)) (eva_cons (ev_var 0) (eva_cons (ev_var 4) eva_nil))) (eva_cons (evd_call (Rf := RB) (gCons_len (gCons_len gNil_len)) (eva_cons (ev_var 1) (eva_cons (ev_var 4) eva_nil))) eva_nil)))) (tgd_name (vs := [5]) (by decide)))
      (evs_seq (evs_asg (ev_op opd_ix (EvN.evd (evn_lst (eva_cons (ev_cb calld_sum (eva_cons (ev_var 5) eva_nil)) (eva_cons (ev_cb calld_max (eva_cons (ev_var 5) eva_nil)) eva_nil)))) (ev_var 2)) (tgd_name (vs := [6]) (by decide)))
      (evs_if (evt_or (evt_and (evt_test (ev_op opd_eqG (ev_var 3) (EvN.evd (evn_lst eva_nil)))) (evt_test (ev_op opd_gt (ev_var 6) ev_int))) (evt_and (evt_test (ev_op opd_neG (ev_var 3) (EvN.evd (evn_lst eva_nil)))) (evt_test (ev_op opd_gt (ev_var 6) (ev_op opd_ix (ev_op opd_ix (ev_var 3) (ev_un und_neg ev_int)) ev_int))))) (evs_app (i := 3) (ev_tup (eva_cons (ev_var 4) (eva_cons (ev_var 6) eva_nil)))) evs_next))))
      (evs_retO 3)))
abbrev s_Cost_steps : Stmt := inClass (topS 15) 6
abbrev n_Cost_steps : List Str := ["self"]
theorem sc_Cost_steps : FnScope n_Cost_steps ["self"] (defScope s_Cost_steps) := ⟨rfl, rfl, rfl, by decide +kernel, rfl, by decide +kernel, by decide +kernel⟩
def b_Cost_steps : GS St1 :=
    (sRet (gSelf "Cost" "pairs" 0))
def m_Cost_steps : List D → St1 → Res St1 D := gFn 1 b_Cost_steps
theorem ok_Cost_steps {f : Addr} {fd : FuncData} {A_Cost : Addr} (T : Txt mg) (F : Fun K "steps" "Cost.steps" s_Cost_steps f fd) (cc_Cost : ClsK K mg "Cost" ["pairs"] A_Cost) : FnOk Pr w K mg base (L2.CX Pr w) 1 f fd ["self"] (spD K mg RB 1 m_Cost_steps) :=
  fn_d F sc_Cost_steps rfl (by decide) fun sa xa cdv A outer s H E hr => by
    have sc := sc_Cost_steps
    have tk : Takes (cxOf (L2.CX Pr w) Pr w K mg base n_Cost_steps "Cost.steps" (defScope s_Cost_steps) f cdv A outer s H E) (fun c d _ H' => E c d H') := takes_of rfl rfl rfl rfl
    refine ⟨_, (pss_one (ps_ret (k_fld K (pv 0)))), ?_⟩
    exact (evs_ret (ev_self (cc_Cost.f (by decide))))
abbrev s_amount_at : Stmt := topS 12
abbrev n_amount_at : List Str := ["pairs", "time", "begin", "amount"]
theorem sc_amount_at : FnScope n_amount_at ["pairs", "time"] (defScope s_amount_at) := ⟨rfl, rfl, rfl, by decide +kernel, rfl, by decide +kernel, by decide +kernel⟩
def b_amount_at : GS St1 :=
    (sRet (gCB (o1 maxD) (gCons (gFz (gLstN (gCons (gC (.int 0)) (gStar (gFz (gLc (gIt (gVar 0)) (tgTup 2 (tgCons (tgName 2) (tgCons (tgName 3) tgNil))) (gB (gBin dLe (gVar 2) (gVar 1))) (gVar 3) [2, 3])) gNil)))) gNil)))
def m_amount_at : List D → St1 → Res St1 D := gFn 4 b_amount_at
theorem ok_amount_at {f : Addr} {fd : FuncData} (T : Txt mg) (F : Fun K "amount_at" "amount_at" s_amount_at f fd) : FnOk Pr w K mg base (L2.CX Pr w) 1 f fd ["pairs", "time"] (spD K mg RB 2 m_amount_at) :=
  fn_d F sc_amount_at rfl (by decide) fun sa xa cdv A outer s H E hr => by
    have sc := sc_amount_at
    have tk : Takes (cxOf (L2.CX Pr w) Pr w K mg base n_amount_at "amount_at" (defScope s_amount_at) f cdv A outer s H E) (fun c d _ H' => E c d H') := takes_of rfl rfl rfl rfl
    refine ⟨_, (pss_one (ps_ret (pe_callB (k_max K rfl) (by rfl) T.n_max boot_x_max (pa_cons (pe_lst (pa_cons pe_int (k_star K (pe_lc (own := [("begin", 2), ("amount", 3)]) rfl sc.nd (k_it K (pv 0)) (blkOk_by (N := n_amount_at) (sc := defScope s_amount_at) (by decide +kernel)) (fun _ _ _ _ _ => (k_tup K (n := 2) (by rfl) (pgs_cons (pg_name (i := 2) sc.nd rfl (by first | exact Or.inl rfl | exact Or.inr rfl)) (pgs_cons (pg_name (i := 3) sc.nd rfl (by first | exact Or.inl rfl | exact Or.inr rfl)) pgs_nil)))) (fun _ _ _ _ _ => pts_one (pt_cmpR op_le (pv 2) (pv 1) (nomark _))) (fun _ _ _ _ _ => (pv 3))) pa_nil))) pa_nil)))), ?_⟩
    exact (evs_ret (ev_cb calld_max (eva_cons (EvN.evd (evn_lst (eva_cons ev_int (eva_star (EvN.evd (evn_lc (vs := [2, 3]) (evi_all rfl (ev_var 0)) (tgd_tup rfl (tgsd_cons (tgd_name (by decide)) (tgsd_cons (tgd_name (by decide)) tgsd_nil))) (evt_test (ev_op opd_le (ev_var 2) (ev_var 1))) (ev_var 3))) eva_nil)))) eva_nil)))
abbrev s_moments : Stmt := topS 13
abbrev n_moments : List Str := ["one", "other", "times", "time", "step"]
theorem sc_moments : FnScope n_moments ["one", "other"] (defScope s_moments) := ⟨rfl, rfl, rfl, by decide +kernel, rfl, by decide +kernel, by decide +kernel⟩
def b_moments : GS St1 :=
    (sSeq (sAsg (tgName 2) (gFz (gSc (gIt (gBin dAdd (gVar 0) (gVar 1))) (tgName 4) gYes (gBin ixD (gVar 4) (gC (.int 0))) [4])))
    (sRet (gFz (gLc (gIt (gVar 2)) (tgName 3) gYes (gTup (gCons (gVar 3) (gCons (gCall m_amount_at (gCons (gVar 0) (gCons (gVar 3) gNil))) (gCons (gCall m_amount_at (gCons (gVar 1) (gCons (gVar 3) gNil))) gNil)))) [3]))))
def m_moments : List D → St1 → Res St1 D := gFn 5 b_moments
theorem ok_moments {f : Addr} {fd : FuncData} (T : Txt mg) (F : Fun K "moments" "moments" s_moments f fd) (c_amount_at : Cal Pr w K mg base 1 "amount_at" ["pairs", "time"] (spD K mg RB 2 m_amount_at)) : FnOk Pr w K mg base (L2.CX Pr w) 2 f fd ["one", "other"] (spD K mg RB 2 m_moments) :=
  fn_d F sc_moments rfl (by decide) fun sa xa cdv A outer s H E hr => by
    have sc := sc_moments
    have tk : Takes (cxOf (L2.CX Pr w) Pr w K mg base n_moments "moments" (defScope s_moments) f cdv A outer s H E) (fun c d _ H' => E c d H') := takes_of rfl rfl rfl rfl
    refine ⟨_, (pss_cons (ps_set (i := 2) sc.nd rfl (by first | exact Or.inl rfl | exact Or.inr rfl) (pe_callB (k_sortedSet w rfl) (by rfl) T.n_sorted boot_x_sorted (pa_cons (k_scI w (own := [("step", 4)]) rfl sc.nd (k_it K (pe_op (k_add K) (pv 0) (pv 1))) (blkOk_by (N := n_moments) (sc := defScope s_moments) (by decide +kernel)) (fun _ _ _ _ _ => (pg_name (i := 4) sc.nd rfl (by first | exact Or.inl rfl | exact Or.inr rfl))) (fun _ _ _ _ _ => pts_nil) (fun _ _ _ _ _ => (pe_ix (k_ix K) (pv 4) pe_int (fun _ _ => rfl)))) pa_nil)))
      (pss_one (ps_ret (pe_lc (own := [("time", 3)]) rfl sc.nd (k_it K (pv 2)) (blkOk_by (N := n_moments) (sc := defScope s_moments) (by decide +kernel)) (fun _ _ _ _ _ => (pg_name (i := 3) sc.nd rfl (by first | exact Or.inl rfl | exact Or.inr rfl))) (fun _ _ _ _ _ => pts_nil) (fun _ _ _ _ _ => (pe_tup (pa_cons (pv 3) (pa_cons (pe_cal c_amount_at (hr.mono (by decide)) takes0 (pa_cons (pv 0) (pa_cons (pv 3) pa_nil))) (pa_cons (pe_cal c_amount_at (hr.mono (by decide)) takes0 (pa_cons (pv 1) (pa_cons (pv 3) pa_nil))) pa_nil))))))))), ?_⟩
    exact (evs_seq (evs_asg (EvN.evd (evn_sc (w := w) (vs := [4]) (evi_all rfl (ev_op opd_add (ev_var 0) (ev_var 1))) (tgd_name (by decide)) evt_yes (ev_op opd_ix (ev_var 4) ev_int))) (tgd_name (vs := [2]) (by decide)))
      (evs_ret (EvN.evd (evn_lc (vs := [3]) (evi_all rfl (ev_var 2)) (tgd_name (by decide)) evt_yes (ev_tup (eva_cons (ev_var 3) (eva_cons (evd_call (Rf := RB) (gCons_len (gCons_len gNil_len)) (eva_cons (ev_var 0) (eva_cons (ev_var 3) eva_nil))) (eva_cons (evd_call (Rf := RB) (gCons_len (gCons_len gNil_len)) (eva_cons (ev_var 1) (eva_cons (ev_var 3) eva_nil))) eva_nil))))))))
abbrev s_rising : Stmt := topS 14
abbrev n_rising : List Str := ["steps", "found", "time", "amount", "step"]
theorem sc_rising : FnScope n_rising ["steps"] (defScope s_rising) := ⟨rfl, rfl, rfl, by decide +kernel, rfl, by decide +kernel, by decide +kernel⟩
def b_rising : GS St1 :=
    (sSeq (sOwn 1 (gLstN gNil))
    (sSeq (sFor (gItV 0) (tgTup 2 (tgCons (tgName 2) (tgCons (tgName 3) tgNil))) (sIf (gB (gBin dGt (gVar 3) (gCB (o1 maxD) (gCons (gFz (gLstN (gCons (gC (.int 0)) (gStar (gFz (gLc (gIt (gVar 1)) (tgName 4) gYes (gBin ixD (gVar 4) (gC (.int 1))) [4])) gNil)))) gNil)))) (sApp 1 (gTup (gCons (gVar 2) (gCons (gVar 3) gNil)))) sNext))
    (sRetO 1)))
def m_rising : List D → St1 → Res St1 D := gFn 5 b_rising
theorem ok_rising {f : Addr} {fd : FuncData} (T : Txt mg) (F : Fun K "rising" "rising" s_rising f fd) : FnOk Pr w K mg base (L2.CX Pr w) 1 f fd ["steps"] (spD K mg RB 1 m_rising) :=
  fn_d F sc_rising rfl (by decide) fun sa xa cdv A outer s H E hr => by
    have sc := sc_rising
    have tk : Takes (cxOf (L2.CX Pr w) Pr w K mg base n_rising "rising" (defScope s_rising) f cdv A outer s H E) (fun c d _ H' => E c d H') := takes_of rfl rfl rfl rfl
    refine ⟨_, (pss_cons (ps_set (i := 1) sc.nd rfl (by first | exact Or.inl rfl | exact Or.inr rfl) (pe_lst pa_nil))
      (pss_cons (ps_for (passes_of rfl) rfl (k_it K (pv 0)) (k_tup K (n := 2) (by rfl) (pgs_cons (pg_name (i := 2) sc.nd rfl (by first | exact Or.inl rfl | exact Or.inr rfl)) (pgs_cons (pg_name (i := 3) sc.nd rfl (by first | exact Or.inl rfl | exact Or.inr rfl)) pgs_nil))) (pss_one (ps_if (pt_cmpR op_gt (pv 3) (pe_callB (k_max K rfl) (by rfl) T.n_max boot_x_max (pa_cons (pe_lst (pa_cons pe_int (k_star K (pe_lc (own := [("step", 4)]) rfl sc.nd (k_it K (pv 1)) (blkOk_by (N := n_rising) (sc := defScope s_rising) (by decide +kernel)) (fun _ _ _ _ _ => (pg_name (i := 4) sc.nd rfl (by first | exact Or.inl rfl | exact Or.inr rfl))) (fun _ _ _ _ _ => pts_nil) (fun _ _ _ _ _ => (pe_ix (k_ix K) (pv 4) pe_int (fun _ _ => rfl)))) pa_nil))) pa_nil)) (nomark _)) (pss_one (ps_expr (k_app K (pv 1) (pe_tup (pa_cons (pv 2) (pa_cons (pv 3) pa_nil)))))) pss_nil)))
      (pss_one (ps_ret (pv 1))))), ?_⟩
    exact (evs_seq (evs_own (i := 1) (evn_lst eva_nil))
      (evs_seq (evs_forV (vs := [2, 3]) (i := 0) rfl (tgd_tup rfl (tgsd_cons (tgd_name (by decide)) (tgsd_cons (tgd_name (by decide)) tgsd_nil))) (evs_if (evt_test (ev_op opd_gt (ev_var 3) (ev_cb calld_max (eva_cons (EvN.evd (evn_lst (eva_cons ev_int (eva_star (EvN.evd (evn_lc (vs := [4]) (evi_all rfl (ev_var 1)) (tgd_name (by decide)) evt_yes (ev_op opd_ix (ev_var 4) ev_int))) eva_nil)))) eva_nil)))) (evs_app (i := 1) (ev_tup (eva_cons (ev_var 2) (eva_cons (ev_var 3) eva_nil)))) evs_next))
      (evs_retO 1)))
abbrev s_Cost_add : Stmt := inClass (topS 15) 3
abbrev n_Cost_add : List Str := ["self", "other", "time", "at", "more"]
theorem sc_Cost_add : FnScope n_Cost_add ["self", "other"] (defScope s_Cost_add) := ⟨rfl, rfl, rfl, by decide +kernel, rfl, by decide +kernel, by decide +kernel⟩
def b_Cost_add : GS St1 :=
    (sRet (gMake "Cost" m_Cost_init (gCons (gCall m_rising (gCons (gFz (gLc (gIt (gCall m_moments (gCons (gSelf "Cost" "pairs" 0) (gCons (gFld "Cost" "pairs" (gVar 1)) gNil)))) (tgTup 3 (tgCons (tgName 2) (tgCons (tgName 3) (tgCons (tgName 4) tgNil)))) gYes (gTup (gCons (gVar 2) (gCons (gBin dAdd (gVar 3) (gVar 4)) gNil))) [2, 3, 4])) gNil)) gNil)))
def m_Cost_add : List D → St1 → Res St1 D := gFn 5 b_Cost_add
theorem ok_Cost_add {f : Addr} {fd : FuncData} {A_Cost : Addr} (T : Txt mg) (F : Fun K "__add__" "Cost.__add__" s_Cost_add f fd) (cc_Cost : ClsK K mg "Cost" ["pairs"] A_Cost) (cm_Cost : CalM Pr w K mg base 3 "Cost" ["self", "steps"] (spI K mg RB 1 "Cost" m_Cost_init) A_Cost) (c_moments : Cal Pr w K mg base 2 "moments" ["one", "other"] (spD K mg RB 2 m_moments)) (c_rising : Cal Pr w K mg base 1 "rising" ["steps"] (spD K mg RB 1 m_rising)) : FnOk Pr w K mg base (L2.CX Pr w) 5 f fd ["self", "other"] (spD K mg RB 2 m_Cost_add) :=
  fn_d F sc_Cost_add rfl (by decide) fun sa xa cdv A outer s H E hr => by
    have sc := sc_Cost_add
    have tk : Takes (cxOf (L2.CX Pr w) Pr w K mg base n_Cost_add "Cost.__add__" (defScope s_Cost_add) f cdv A outer s H E) (fun c d _ H' => E c d H') := takes_of rfl rfl rfl rfl
    refine ⟨_, (pss_one (ps_ret (pe_mk cm_Cost (hr.mono (by decide)) tk (pa_cons (pe_cal c_rising (hr.mono (by decide)) tk (pa_cons (pe_lc (own := [("time", 2), ("at", 3), ("more", 4)]) rfl sc.nd (k_it K (pe_cal c_moments (hr.mono (by decide)) tk (pa_cons (k_fld K (pv 0)) (pa_cons (k_fld K (pv 1)) pa_nil)))) (blkOk_by (N := n_Cost_add) (sc := defScope s_Cost_add) (by decide +kernel)) (fun _ _ _ _ _ => (k_tup K (n := 3) (by rfl) (pgs_cons (pg_name (i := 2) sc.nd rfl (by first | exact Or.inl rfl | exact Or.inr rfl)) (pgs_cons (pg_name (i := 3) sc.nd rfl (by first | exact Or.inl rfl | exact Or.inr rfl)) (pgs_cons (pg_name (i := 4) sc.nd rfl (by first | exact Or.inl rfl | exact Or.inr rfl)) pgs_nil))))) (fun _ _ _ _ _ => pts_nil) (fun _ _ _ _ _ => (pe_tup (pa_cons (pv 2) (pa_cons (pe_op (k_add K) (pv 3) (pv 4)) pa_nil))))) pa_nil)) pa_nil)))), ?_⟩
    exact (evs_ret (evd_make (Rf := RB) cc_Cost.at_ (gCons_len gNil_len) (eva_cons (evd_call (Rf := RB) (gCons_len gNil_len) (eva_cons (EvN.evd (evn_lc (vs := [2, 3, 4]) (evi_all rfl (evd_call (Rf := RB) (gCons_len (gCons_len gNil_len)) (eva_cons (ev_self (cc_Cost.f (by decide))) (eva_cons (ev_fld (cc_Cost.f (by decide)) (ev_var 1)) eva_nil)))) (tgd_tup rfl (tgsd_cons (tgd_name (by decide)) (tgsd_cons (tgd_name (by decide)) (tgsd_cons (tgd_name (by decide)) tgsd_nil)))) evt_yes (ev_tup (eva_cons (ev_var 2) (eva_cons (ev_op opd_add (ev_var 3) (ev_var 4)) eva_nil))))) eva_nil)) eva_nil)))
abbrev s_Cost_or : Stmt := inClass (topS 15) 4
abbrev n_Cost_or : List Str := ["self", "other", "time", "at", "more"]
theorem sc_Cost_or : FnScope n_Cost_or ["self", "other"] (defScope s_Cost_or) := ⟨rfl, rfl, rfl, by decide +kernel, rfl, by decide +kernel, by decide +kernel⟩
def b_Cost_or : GS St1 :=
    (sRet (gMake "Cost" m_Cost_init (gCons (gCall m_rising (gCons (gFz (gLc (gIt (gCall m_moments (gCons (gSelf "Cost" "pairs" 0) (gCons (gFld "Cost" "pairs" (gVar 1)) gNil)))) (tgTup 3 (tgCons (tgName 2) (tgCons (tgName 3) (tgCons (tgName 4) tgNil)))) gYes (gTup (gCons (gVar 2) (gCons (gCB max2D (gCons (gVar 3) (gCons (gVar 4) gNil))) gNil))) [2, 3, 4])) gNil)) gNil)))
def m_Cost_or : List D → St1 → Res St1 D := gFn 5 b_Cost_or
theorem ok_Cost_or {f : Addr} {fd : FuncData} {A_Cost : Addr} (T : Txt mg) (F : Fun K "__or__" "Cost.__or__" s_Cost_or f fd) (cc_Cost : ClsK K mg "Cost" ["pairs"] A_Cost) (cm_Cost : CalM Pr w K mg base 3 "Cost" ["self", "steps"] (spI K mg RB 1 "Cost" m_Cost_init) A_Cost) (c_moments : Cal Pr w K mg base 2 "moments" ["one", "other"] (spD K mg RB 2 m_moments)) (c_rising : Cal Pr w K mg base 1 "rising" ["steps"] (spD K mg RB 1 m_rising)) : FnOk Pr w K mg base (L2.CX Pr w) 5 f fd ["self", "other"] (spD K mg RB 2 m_Cost_or) :=
  fn_d F sc_Cost_or rfl (by decide) fun sa xa cdv A outer s H E hr => by
    have sc := sc_Cost_or
    have tk : Takes (cxOf (L2.CX Pr w) Pr w K mg base n_Cost_or "Cost.__or__" (defScope s_Cost_or) f cdv A outer s H E) (fun c d _ H' => E c d H') := takes_of rfl rfl rfl rfl
    refine ⟨_, (pss_one (ps_ret (pe_mk cm_Cost (hr.mono (by decide)) tk (pa_cons (pe_cal c_rising (hr.mono (by decide)) tk (pa_cons (pe_lc (own := [("time", 2), ("at", 3), ("more", 4)]) rfl sc.nd (k_it K (pe_cal c_moments (hr.mono (by decide)) tk (pa_cons (k_fld K (pv 0)) (pa_cons (k_fld K (pv 1)) pa_nil)))) (blkOk_by (N := n_Cost_or) (sc := defScope s_Cost_or) (by decide +kernel)) (fun _ _ _ _ _ => (k_tup K (n := 3) (by rfl) (pgs_cons (pg_name (i := 2) sc.nd rfl (by first | exact Or.inl rfl | exact Or.inr rfl)) (pgs_cons (pg_name (i := 3) sc.nd rfl (by first | exact Or.inl rfl | exact Or.inr rfl)) (pgs_cons (pg_name (i := 4) sc.nd rfl (by first | exact Or.inl rfl | exact Or.inr rfl)) pgs_nil))))) (fun _ _ _ _ _ => pts_nil) (fun _ _ _ _ _ => (pe_tup (pa_cons (pv 2) (pa_cons (pe_callB (call_max2 rfl) (by rfl) T.n_max boot_x_max (pa_cons (pv 3) (pa_cons (pv 4) pa_nil))) pa_nil))))) pa_nil)) pa_nil)))), ?_⟩
    exact (evs_ret (evd_make (Rf := RB) cc_Cost.at_ (gCons_len gNil_len) (eva_cons (evd_call (Rf := RB) (gCons_len gNil_len) (eva_cons (EvN.evd (evn_lc (vs := [2, 3, 4]) (evi_all rfl (evd_call (Rf := RB) (gCons_len (gCons_len gNil_len)) (eva_cons (ev_self (cc_Cost.f (by decide))) (eva_cons (ev_fld (cc_Cost.f (by decide)) (ev_var 1)) eva_nil)))) (tgd_tup rfl (tgsd_cons (tgd_name (by decide)) (tgsd_cons (tgd_name (by decide)) (tgsd_cons (tgd_name (by decide)) tgsd_nil)))) evt_yes (ev_tup (eva_cons (ev_var 2) (eva_cons (ev_cb calld_max2 (eva_cons (ev_var 3) (eva_cons (ev_var 4) eva_nil))) eva_nil))))) eva_nil)) eva_nil)))
abbrev s_law_told : Stmt := topS 24
abbrev n_law_told : List Str := ["_law_way", "_law_one", "_law_other", "e"]
theorem sc_law_told : FnScope n_law_told ["_law_way", "_law_one", "_law_other"] (defScope s_law_told) := ⟨rfl, rfl, rfl, by decide +kernel, rfl, by decide +kernel, by decide +kernel⟩
def b_law_told : GS St1 :=
    (sTry ["BadCount", "BadText", "BadNumber", "BadSteps"] (sSeq (sIf (gB (gBin dEqG (gVar 0) (gC (.int 0)))) (sRet (gTup (gCons (gC (.str (PySem.Str.ofString "told"))) (gCons (gProp "Cost" m_Cost_steps (gBinO "Cost" m_Cost_add (gVar 1) (gVar 2))) gNil)))) sNext)
    (sRet (gTup (gCons (gC (.str (PySem.Str.ofString "told"))) (gCons (gProp "Cost" m_Cost_steps (gBinO "Cost" m_Cost_or (gVar 1) (gVar 2))) gNil))))) (⟨"BadCount", "count", some 3, hdT (PySem.Str.ofString "count")⟩ :: []))
def m_law_told : List D → St1 → Res St1 D := gFn 4 b_law_told
theorem ok_law_told {f : Addr} {fd : FuncData} {A_BadCount A_Cost : Addr} (T : Txt mg) (F : Fun K "_law_told" "_law_told" s_law_told f fd) (cc_Cost : ClsK K mg "Cost" ["pairs"] A_Cost) (cp_Cost_steps : CalP Pr w K mg base 1 "steps" (spD K mg RB 1 m_Cost_steps) A_Cost) (cb_Cost_add : CalB Pr w K mg base 5 "__add__" ["self", "other"] (spD K mg RB 2 m_Cost_add) A_Cost) (cb_Cost_or : CalB Pr w K mg base 5 "__or__" ["self", "other"] (spD K mg RB 2 m_Cost_or) A_Cost) (xm_BadCount : XmK K mg "BadCount" A_BadCount ["BadCount", "BadText", "BadNumber", "BadSteps"]) (nf_BadCount : PySem.W.findIn K (.ref A_BadCount) "count" = some none) : FnOk Pr w K mg base (L2.CX Pr w) 6 f fd ["_law_way", "_law_one", "_law_other"] (spD K mg RB 3 m_law_told) :=
  fn_d F sc_law_told rfl (by decide) fun sa xa cdv A outer s H E hr => by
    have sc := sc_law_told
    have tk : Takes (cxOf (L2.CX Pr w) Pr w K mg base n_law_told "_law_told" (defScope s_law_told) f cdv A outer s H E) (fun c d _ H' => E c d H') := takes_of rfl rfl rfl rfl
    refine ⟨_, (pss_one (ps_try_cl rfl rfl sc.nd tk (fun W pn xe tk po => (pss_cons (ps_if (pt_cmpR (k_eqG hr.units) (pv 0) pe_int (nomark _)) (pss_one (ps_ret (pe_tup (pa_cons pe_str (pa_cons (pe_pr cp_Cost_steps (hr.mono (by decide)) (pe_bin cb_Cost_add rfl (hr.mono (by decide)) tk (pv 1) (pv 2))) pa_nil))))) pss_nil)
      (pss_one (ps_ret (pe_tup (pa_cons pe_str (pa_cons (pe_pr cp_Cost_steps (hr.mono (by decide)) (pe_bin cb_Cost_or rfl (hr.mono (by decide)) tk (pv 1) (pv 2))) pa_nil))))))) (ClsOk.cons (i := some 3) xm_BadCount.names ⟨rfl, rfl⟩ (fun a oe cls d pn hz hf => (pss_one (ps_ret (pe_tup (pa_cons pe_str (pa_cons (pe_xf xm_BadCount.xf nf_BadCount hz hf (pv 3)) pa_nil))))))
        ClsOk.nil))), ?_⟩
    exact (evs_try (fun W => (evs_seq (evs_if (evt_test (ev_op opd_eqG (ev_var 0) ev_int)) (evs_ret (ev_tup (eva_cons ev_str (eva_cons (ev_prop (Rf := RB) cc_Cost.at_ (ev_binO (Rf := RB) cc_Cost.at_ (ev_var 1) (ev_var 2))) eva_nil)))) evs_next)
      (evs_ret (ev_tup (eva_cons ev_str (eva_cons (ev_prop (Rf := RB) cc_Cost.at_ (ev_binO (Rf := RB) cc_Cost.at_ (ev_var 1) (ev_var 2))) eva_nil)))))) (HdsR.cons xm_BadCount.m (hdr_tup xm_BadCount.at_ rfl) HdsR.nil))
abbrev s_Cost_at : Stmt := inClass (topS 15) 7
abbrev n_Cost_at : List Str := ["self", "time"]
theorem sc_Cost_at : FnScope n_Cost_at ["self", "time"] (defScope s_Cost_at) := ⟨rfl, rfl, rfl, by decide +kernel, rfl, by decide +kernel, by decide +kernel⟩
def b_Cost_at : GS St1 :=
    (sSeq (sIf (gNot (gB (gCall m_is_number (gCons (gVar 1) (gCons (gC (.int 0)) gNil))))) (sRaise "BadNumber" "value" (gVar 1)) sNext)
    (sRet (gCall m_amount_at (gCons (gSelf "Cost" "pairs" 0) (gCons (gVar 1) gNil)))))
def m_Cost_at : List D → St1 → Res St1 D := gFn 2 b_Cost_at
theorem ok_Cost_at {f : Addr} {fd : FuncData} {A_BadNumber A_Cost : Addr} (T : Txt mg) (F : Fun K "at" "Cost.at" s_Cost_at f fd) (c_is_number : Cal Pr w K mg base 1 "is_number" ["value", "low"] (spD K mg RB 2 m_is_number)) (x_BadNumber : CalX Pr w K mg base "BadNumber" "value" "value" A_BadNumber) (cc_Cost : ClsK K mg "Cost" ["pairs"] A_Cost) (c_amount_at : Cal Pr w K mg base 1 "amount_at" ["pairs", "time"] (spD K mg RB 2 m_amount_at)) : FnOk Pr w K mg base (L2.CX Pr w) 3 f fd ["self", "time"] (spD K mg RB 2 m_Cost_at) :=
  fn_d F sc_Cost_at rfl (by decide) fun sa xa cdv A outer s H E hr => by
    have sc := sc_Cost_at
    have tk : Takes (cxOf (L2.CX Pr w) Pr w K mg base n_Cost_at "Cost.at" (defScope s_Cost_at) f cdv A outer s H E) (fun c d _ H' => E c d H') := takes_of rfl rfl rfl rfl
    refine ⟨_, (pss_cons (ps_if (pt_not (pt_val (pe_cal c_is_number (hr.mono (by decide)) tk (pa_cons (pv 1) (pa_cons pe_int pa_nil))))) (pss_one (ps_raiseX x_BadNumber hr (by decide) tk (pv 1))) pss_nil)
      (pss_one (ps_ret (pe_cal c_amount_at (hr.mono (by decide)) tk (pa_cons (k_fld K (pv 0)) (pa_cons (pv 1) pa_nil)))))), ?_⟩
    exact (evs_seq (evs_if (evt_not (evt_B (evd_call (Rf := RB) (gCons_len (gCons_len gNil_len)) (eva_cons (ev_var 1) (eva_cons ev_int eva_nil))))) (evs_raiseX x_BadNumber (ev_var 1)) evs_next)
      (evs_ret (evd_call (Rf := RB) (gCons_len (gCons_len gNil_len)) (eva_cons (ev_self (cc_Cost.f (by decide))) (eva_cons (ev_var 1) eva_nil)))))
abbrev s_Cost_str : Stmt := inClass (topS 15) 5
abbrev n_Cost_str : List Str := ["self", "time", "amount"]
theorem sc_Cost_str : FnScope n_Cost_str ["self"] (defScope s_Cost_str) := ⟨rfl, rfl, rfl, by decide +kernel, rfl, by decide +kernel, by decide +kernel⟩
def b_Cost_str : GS St1 :=
    (sSeq (sIf (gB (gBin dEqG (gSelf "Cost" "pairs" 0) (gTup gNil))) (sRet (gC (.str (PySem.Str.ofString "free")))) sNext)
    (sRet (gM1 joinD (gC (.str (PySem.Str.ofString " "))) (gFz (gLc (gIt (gSelf "Cost" "pairs" 0)) (tgTup 2 (tgCons (tgName 1) (tgCons (tgName 2) tgNil))) gYes (gJs ((gUn fmtD (gVar 1)) :: ((gC (.str (PySem.Str.ofString ":"))) :: ((gUn fmtD (gVar 2)) :: []))) PySem.Str.empty) [1, 2])))))
def m_Cost_str : List D → St1 → Res St1 D := gFn 3 b_Cost_str
theorem ok_Cost_str {f : Addr} {fd : FuncData} {A_Cost : Addr} (T : Txt mg) (F : Fun K "__str__" "Cost.__str__" s_Cost_str f fd) (cc_Cost : ClsK K mg "Cost" ["pairs"] A_Cost) : FnOk Pr w K mg base (L2.CX Pr w) 1 f fd ["self"] (spD K mg RB 1 m_Cost_str) :=
  fn_d F sc_Cost_str rfl (by decide) fun sa xa cdv A outer s H E hr => by
    have sc := sc_Cost_str
    have tk : Takes (cxOf (L2.CX Pr w) Pr w K mg base n_Cost_str "Cost.__str__" (defScope s_Cost_str) f cdv A outer s H E) (fun c d _ H' => E c d H') := takes_of rfl rfl rfl rfl
    refine ⟨_, (pss_cons (ps_if (pt_cmpR (k_eqG hr.units) (k_fld K (pv 0)) (pe_tup pa_nil) (nomark _)) (pss_one (ps_ret pe_str)) pss_nil)
      (pss_one (ps_ret (k_join K pe_str (pe_lc (own := [("time", 1), ("amount", 2)]) rfl sc.nd (k_it K (k_fld K (pv 0))) (blkOk_by (N := n_Cost_str) (sc := defScope s_Cost_str) (by decide +kernel)) (fun _ _ _ _ _ => (k_tup K (n := 2) (by rfl) (pgs_cons (pg_name (i := 1) sc.nd rfl (by first | exact Or.inl rfl | exact Or.inr rfl)) (pgs_cons (pg_name (i := 2) sc.nd rfl (by first | exact Or.inl rfl | exact Or.inr rfl)) pgs_nil)))) (fun _ _ _ _ _ => pts_nil) (fun _ _ _ _ _ => (pe_joined (PJ.cons (pe_fmt (pv 1)) (PJ.cons pe_str (PJ.cons (pe_fmt (pv 2)) PJ.nil)))))))))), ?_⟩
    exact (evs_seq (evs_if (evt_test (ev_op opd_eqG (ev_self (cc_Cost.f (by decide))) (ev_tup eva_nil))) (evs_ret ev_str) evs_next)
      (evs_ret (ev_m1 m1d_join ev_str (EvN.evd (evn_lc (vs := [1, 2]) (evi_all rfl (ev_self (cc_Cost.f (by decide)))) (tgd_tup rfl (tgsd_cons (tgd_name (by decide)) (tgsd_cons (tgd_name (by decide)) tgsd_nil))) evt_yes (ev_joined (EvJs.cons (ev_fmt (ev_var 1)) (EvJs.cons ev_str (EvJs.cons (ev_fmt (ev_var 2)) EvJs.nil)))))))))
abbrev s_Cost_eq : Stmt := inClass (topS 15) 2
abbrev n_Cost_eq : List Str := ["self", "other"]
theorem sc_Cost_eq : FnScope n_Cost_eq ["self", "other"] (defScope s_Cost_eq) := ⟨rfl, rfl, rfl, by decide +kernel, rfl, by decide +kernel, by decide +kernel⟩
def b_Cost_eq : GS St1 :=
    (sRet (gAndV (gUn (isiO ["Cost"] "Cost") (gVar 1)) (gBin dEqG (gSelf "Cost" "pairs" 0) (gFld "Cost" "pairs" (gVar 1)))))
def m_Cost_eq : List D → St1 → Res St1 D := gFn 2 b_Cost_eq
theorem pm_Cost_eq : ∀ ds st d st', m_Cost_eq ds st = .ok d st' → st' = st := by
  unfold m_Cost_eq b_Cost_eq
  refine pure_fn ?_
  repeat (first | exact pureE_var | exact pureE_self | refine pureE_and ?_ ?_ | refine pureE_bin ?_ ?_ | refine pureE_fld ?_ | refine pureE_un ?_)
theorem ok_Cost_eq {f : Addr} {fd : FuncData} {A_Cost : Addr} (T : Txt mg) (F : Fun K "__eq__" "Cost.__eq__" s_Cost_eq f fd) (cc_Cost : ClsK K mg "Cost" ["pairs"] A_Cost) (kq_Cost : EqK K mg "Cost" A_Cost ["Cost"]) : FnOk Pr w K mg base (L2.CX Pr w) 1 f fd ["self", "other"] (spD K mg RB 2 m_Cost_eq) :=
  fn_d F sc_Cost_eq rfl (by decide) fun sa xa cdv A outer s H E hr => by
    have sc := sc_Cost_eq
    have tk : Takes (cxOf (L2.CX Pr w) Pr w K mg base n_Cost_eq "Cost.__eq__" (defScope s_Cost_eq) f cdv A outer s H E) (fun c d _ H' => E c d H') := takes_of rfl rfl rfl rfl
    refine ⟨_, (pss_one (ps_ret (pe_and (pe_callB (k_isi K) (by rfl) T.n_isinstance boot_isi (pa_cons (pv 1) (pa_cons (k_cls cc_Cost.at_) pa_nil))) (pe_one (pe_cmpR (k_eqG hr.units) (k_fld K (pv 0)) (k_fld K (pv 1)) (nomark _)))))), ?_⟩
    exact (evs_ret (ev_andV (ev_isiO kq_Cost (ev_var 1)) (ev_op opd_eqG (ev_self (cc_Cost.f (by decide))) (ev_fld (cc_Cost.f (by decide)) (ev_var 1)))))
abbrev s_Cost_latest : Stmt := inClass (topS 15) 8
abbrev n_Cost_latest : List Str := ["self", "bound", "begin", "amount"]
theorem sc_Cost_latest : FnScope n_Cost_latest ["self", "bound"] (defScope s_Cost_latest) := ⟨rfl, rfl, rfl, by decide +kernel, rfl, by decide +kernel, by decide +kernel⟩
def b_Cost_latest : GS St1 :=
    (sSeq (sIf (gNot (gB (gCall m_is_number (gCons (gVar 1) (gCons (gC (.int 0)) gNil))))) (sRaise "BadNumber" "value" (gVar 1)) sNext)
    (sSeq (sFor (gItF (gSelf "Cost" "pairs" 0)) (tgTup 2 (tgCons (tgName 2) (tgCons (tgName 3) tgNil))) (sIf (gB (gBin dGt (gVar 3) (gVar 1))) (sRet (gBin dSub (gVar 2) (gC (.int 1)))) sNext))
    (sRet (gC .non))))
def m_Cost_latest : List D → St1 → Res St1 D := gFn 4 b_Cost_latest
theorem ok_Cost_latest {f : Addr} {fd : FuncData} {A_BadNumber A_Cost : Addr} (T : Txt mg) (F : Fun K "latest" "Cost.latest" s_Cost_latest f fd) (c_is_number : Cal Pr w K mg base 1 "is_number" ["value", "low"] (spD K mg RB 2 m_is_number)) (x_BadNumber : CalX Pr w K mg base "BadNumber" "value" "value" A_BadNumber) (cc_Cost : ClsK K mg "Cost" ["pairs"] A_Cost) : FnOk Pr w K mg base (L2.CX Pr w) 3 f fd ["self", "bound"] (spD K mg RB 2 m_Cost_latest) :=
  fn_d F sc_Cost_latest rfl (by decide) fun sa xa cdv A outer s H E hr => by
    have sc := sc_Cost_latest
    have tk : Takes (cxOf (L2.CX Pr w) Pr w K mg base n_Cost_latest "Cost.latest" (defScope s_Cost_latest) f cdv A outer s H E) (fun c d _ H' => E c d H') := takes_of rfl rfl rfl rfl
    refine ⟨_, (pss_cons (ps_if (pt_not (pt_val (pe_cal c_is_number (hr.mono (by decide)) tk (pa_cons (pv 1) (pa_cons pe_int pa_nil))))) (pss_one (ps_raiseX x_BadNumber hr (by decide) tk (pv 1))) pss_nil)
      (pss_cons (ps_for (passes_of rfl) rfl (k_it K (k_fld K (pv 0))) (k_tup K (n := 2) (by rfl) (pgs_cons (pg_name (i := 2) sc.nd rfl (by first | exact Or.inl rfl | exact Or.inr rfl)) (pgs_cons (pg_name (i := 3) sc.nd rfl (by first | exact Or.inl rfl | exact Or.inr rfl)) pgs_nil))) (pss_one (ps_if (pt_cmpR op_gt (pv 3) (pv 1) (nomark _)) (pss_one (ps_ret (pe_op op_sub (pv 2) pe_int))) pss_nil)))
      (pss_one (ps_ret pe_non)))), ?_⟩
    exact (evs_seq (evs_if (evt_not (evt_B (evd_call (Rf := RB) (gCons_len (gCons_len gNil_len)) (eva_cons (ev_var 1) (eva_cons ev_int eva_nil))))) (evs_raiseX x_BadNumber (ev_var 1)) evs_next)
      (evs_seq (evs_for (vs := [2, 3]) (evj_all rfl (ev_self (cc_Cost.f (by decide)))) (tgd_tup rfl (tgsd_cons (tgd_name (by decide)) (tgsd_cons (tgd_name (by decide)) tgsd_nil))) (evs_if (evt_test (ev_op opd_gt (ev_var 3) (ev_var 1))) (evs_ret (ev_op opd_sub (ev_var 2) ev_int)) evs_next))
      (evs_ret ev_non)))
abbrev s_law_right : Stmt := topS 27
abbrev n_law_right : List Str := ["_law_state", "_law_one", "_law_other", "_law_pair", "_law_way", "_law_steps_here", "_law_due", "_law_made", "_law_begin", "_law_amount", "_law_time"]
theorem sc_law_right : FnScope n_law_right ["_law_state", "_law_one", "_law_other"] (defScope s_law_right) := ⟨rfl, rfl, rfl, by decide +kernel, rfl, by decide +kernel, by decide +kernel⟩
def b_law_right : GS St1 :=
    (sSeq (sAsg (tgName 3) (gFz (gLstN (gCons (gMake "Cost" m_Cost_init (gCons (gVar 1) gNil)) (gCons (gMake "Cost" m_Cost_init (gCons (gVar 2) gNil)) gNil)))))
    (sSeq (sFor (gItF (gFz (gCallN m_law_shuffled (gCons (gVar 0) (gCons (gFz (gLstN (gCons (gC (.int 0)) (gCons (gC (.int 1)) (gCons (gC (.int 0)) gNil))))) gNil))))) (tgName 4) (sSeq (sAsg (tgName 5) (gCall m_law_joined (gCons (gVar 1) (gCons (gVar 2) (gCons (gVar 4) gNil)))))
    (sSeq (sAsg (tgName 6) (gTup (gCons (gC (.str (PySem.Str.ofString "told"))) (gCons (gCB (o1 tupleD) (gCons (gVar 5) gNil)) gNil))))
    (sSeq (sIf (gB (gBin dGt (gCB (o1 lenD) (gCons (gVar 5) gNil)) (gC (.int 40)))) (sAsg (tgName 6) (gTup (gCons (gC (.str (PySem.Str.ofString "count"))) (gCons (gCB (o1 lenD) (gCons (gVar 5) gNil)) gNil)))) sNext)
    (sSeq (sIf (gOr (gB (gBin dNeG (gCall m_law_told (gCons (gVar 4) (gCons (gBin ixD (gVar 3) (gC (.int 0))) (gCons (gBin ixD (gVar 3) (gC (.int 1))) gNil)))) (gVar 6))) (gB (gBin dNeG (gCall m_law_told (gCons (gVar 4) (gCons (gBin ixD (gVar 3) (gC (.int 1))) (gCons (gBin ixD (gVar 3) (gC (.int 0))) gNil)))) (gVar 6)))) (sRet (gC (.bl false))) sNext)
    (sIf (gB (gBin dEqG (gBin ixD (gVar 6) (gC (.int 0))) (gC (.str (PySem.Str.ofString "told"))))) (sSeq (sAsg (tgName 7) (gBinO "Cost" m_Cost_or (gBin ixD (gVar 3) (gC (.int 0))) (gBin ixD (gVar 3) (gC (.int 1)))))
    (sSeq (sIf (gB (gBin dEqG (gVar 4) (gC (.int 0)))) (sAsg (tgName 7) (gBinO "Cost" m_Cost_add (gBin ixD (gVar 3) (gC (.int 0))) (gBin ixD (gVar 3) (gC (.int 1))))) sNext)
    (sSeq (sFor (gItV 5) (tgTup 2 (tgCons (tgName 8) (tgCons (tgName 9) tgNil))) (sFor (gItF (gFz (gLstN (gCons (gCB max2D (gCons (gC (.int 0)) (gCons (gBin dSub (gVar 8) (gC (.int 1))) gNil))) (gCons (gVar 8) (gCons (gBin dAdd (gVar 8) (gC (.int 1))) gNil)))))) (tgName 10) (sIf (gB (gBin dNeG (gMeth "Cost" "at" m_Cost_at (gVar 7) (gCons (gVar 10) gNil)) (gCall m_law_at (gCons (gVar 5) (gCons (gVar 10) gNil))))) (sRet (gC (.bl false))) sNext)))
    (sIf (gOr (gB (gBin dNeG (gStrO "Cost" m_Cost_str (gVar 7)) (gStrO "Cost" m_Cost_str (gMake "Cost" m_Cost_init (gCons (gVar 5) gNil))))) (gOr (gB (gEqO true ["Cost"] "Cost" m_Cost_eq (gVar 7) (gMake "Cost" m_Cost_init (gCons (gVar 5) gNil)))) (gB (gBin dNeG (gMeth "Cost" "latest" m_Cost_latest (gVar 7) (gCons (gC (.int 0)) gNil)) (gMeth "Cost" "latest" m_Cost_latest (gMake "Cost" m_Cost_init (gCons (gVar 5) gNil)) (gCons (gC (.int 0)) gNil)))))) (sRet (gC (.bl false))) sNext)))) sNext))))))
    (sRet (gEqL "Cost" m_Cost_eq (gVar 3) (gFz (gLstN (gCons (gMake "Cost" m_Cost_init (gCons (gVar 1) gNil)) (gCons (gMake "Cost" m_Cost_init (gCons (gVar 2) gNil)) gNil))))))))
def m_law_right : List D → St1 → Res St1 D := gFn 11 b_law_right
theorem ok_law_right {f : Addr} {fd : FuncData} {A_Cost : Addr} (T : Txt mg) (F : Fun K "_law_right" "_law_right" s_law_right f fd) (cc_Cost : ClsK K mg "Cost" ["pairs"] A_Cost) (cm_Cost : CalM Pr w K mg base 3 "Cost" ["self", "steps"] (spI K mg RB 1 "Cost" m_Cost_init) A_Cost) (c_law_shuffled : Cal Pr w K mg base 2 "_law_shuffled" ["_law_state", "_law_items"] (spN K mg RB 2 m_law_shuffled)) (c_law_joined : Cal Pr w K mg base 2 "_law_joined" ["_law_one", "_law_other", "_law_greater"] (spD K mg RB 3 m_law_joined)) (c_law_told : Cal Pr w K mg base 6 "_law_told" ["_law_way", "_law_one", "_law_other"] (spD K mg RB 3 m_law_told)) (cb_Cost_or : CalB Pr w K mg base 5 "__or__" ["self", "other"] (spD K mg RB 2 m_Cost_or) A_Cost) (cb_Cost_add : CalB Pr w K mg base 5 "__add__" ["self", "other"] (spD K mg RB 2 m_Cost_add) A_Cost) (ce_Cost_at : CalE Pr w K mg base 3 "at" ["self", "time"] (spD K mg RB 2 m_Cost_at) A_Cost) (c_law_at : Cal Pr w K mg base 1 "_law_at" ["_law_steps_here", "_law_time"] (spD K mg RB 2 m_law_at)) (cs_Cost : CalS Pr w K mg base 1 ["self"] (spD K mg RB 1 m_Cost_str) A_Cost) (cq_Cost : CalQ Pr w K mg base 1 ["self", "other"] (spD K mg RB 2 m_Cost_eq) A_Cost) (kq_Cost : EqK K mg "Cost" A_Cost ["Cost"]) (ce_Cost_latest : CalE Pr w K mg base 3 "latest" ["self", "bound"] (spD K mg RB 2 m_Cost_latest) A_Cost) : FnOk Pr w K mg base (L2.CX Pr w) 7 f fd ["_law_state", "_law_one", "_law_other"] (spD K mg RB 3 m_law_right) :=
  fn_d F sc_law_right rfl (by decide) fun sa xa cdv A outer s H E hr => by
    have sc := sc_law_right
    have tk : Takes (cxOf (L2.CX Pr w) Pr w K mg base n_law_right "_law_right" (defScope s_law_right) f cdv A outer s H E) (fun c d _ H' => E c d H') := takes_of rfl rfl rfl rfl
    refine ⟨_, (pss_cons (ps_set (i := 3) sc.nd rfl (by first | exact Or.inl rfl | exact Or.inr rfl) (pe_lst (pa_cons (pe_mk cm_Cost (hr.mono (by decide)) tk (pa_cons (pv 1) pa_nil)) (pa_cons (pe_mk cm_Cost (hr.mono (by decide)) tk (pa_cons (pv 2) pa_nil)) pa_nil))))
      (pss_cons (ps_for (passes_of rfl) rfl (k_it K (pe_cal c_law_shuffled (hr.mono (by decide)) tk (pa_cons (pv 0) (pa_cons (pe_lst (pa_cons pe_int (pa_cons pe_int (pa_cons pe_int pa_nil)))) pa_nil)))) (pg_name (i := 4) sc.nd rfl (by first | exact Or.inl rfl | exact Or.inr rfl)) (pss_cons (ps_set (i := 5) sc.nd rfl (by first | exact Or.inl rfl | exact Or.inr rfl) (pe_cal c_law_joined (hr.mono (by decide)) tk (pa_cons (pv 1) (pa_cons (pv 2) (pa_cons (pv 4) pa_nil)))))
      (pss_cons (ps_set (i := 6) sc.nd rfl (by first | exact Or.inl rfl | exact Or.inr rfl) (pe_tup (pa_cons pe_str (pa_cons (pe_callTy (k_tuple K) (by rfl) T.n_tuple boot_x_tuple (pa_cons (pv 5) pa_nil)) pa_nil))))
      (pss_cons (ps_if (pt_cmpR op_gt (pe_callB (k_len K) (by rfl) T.n_len boot_x_len (pa_cons (pv 5) pa_nil)) pe_int (nomark _)) (pss_one (ps_set (i := 6) sc.nd rfl (by first | exact Or.inl rfl | exact Or.inr rfl) (pe_tup (pa_cons pe_str (pa_cons (pe_callB (k_len K) (by rfl) T.n_len boot_x_len (pa_cons (pv 5) pa_nil)) pa_nil))))) pss_nil)
      (pss_cons (ps_if (PW.pt (pw_or (pt_cmpR (k_neG hr.units) (pe_cal c_law_told (hr.mono (by decide)) tk (pa_cons (pv 4) (pa_cons (pe_ix (k_ix K) (pv 3) pe_int (fun _ _ => rfl)) (pa_cons (pe_ix (k_ix K) (pv 3) pe_int (fun _ _ => rfl)) pa_nil)))) (pv 6) (nomark _)) (pw_or1 (pt_cmpR (k_neG hr.units) (pe_cal c_law_told (hr.mono (by decide)) tk (pa_cons (pv 4) (pa_cons (pe_ix (k_ix K) (pv 3) pe_int (fun _ _ => rfl)) (pa_cons (pe_ix (k_ix K) (pv 3) pe_int (fun _ _ => rfl)) pa_nil)))) (pv 6) (nomark _))))) (pss_one (ps_ret pe_bl)) pss_nil)
      (pss_one (ps_if (pt_cmpR (k_eqG hr.units) (pe_ix (k_ix K) (pv 6) pe_int (fun _ _ => rfl)) pe_str (nomark _)) (pss_cons (ps_set (i := 7) sc.nd rfl (by first | exact Or.inl rfl | exact Or.inr rfl) (pe_bin cb_Cost_or rfl (hr.mono (by decide)) tk (pe_ix (k_ix K) (pv 3) pe_int (fun _ _ => rfl)) (pe_ix (k_ix K) (pv 3) pe_int (fun _ _ => rfl))))
      (pss_cons (ps_if (pt_cmpR (k_eqG hr.units) (pv 4) pe_int (nomark _)) (pss_one (ps_set (i := 7) sc.nd rfl (by first | exact Or.inl rfl | exact Or.inr rfl) (pe_bin cb_Cost_add rfl (hr.mono (by decide)) tk (pe_ix (k_ix K) (pv 3) pe_int (fun _ _ => rfl)) (pe_ix (k_ix K) (pv 3) pe_int (fun _ _ => rfl))))) pss_nil)
      (pss_cons (ps_for (passes_of rfl) rfl (k_it K (pv 5)) (k_tup K (n := 2) (by rfl) (pgs_cons (pg_name (i := 8) sc.nd rfl (by first | exact Or.inl rfl | exact Or.inr rfl)) (pgs_cons (pg_name (i := 9) sc.nd rfl (by first | exact Or.inl rfl | exact Or.inr rfl)) pgs_nil))) (pss_one (ps_for (passes_of rfl) rfl (k_it K (pe_lst (pa_cons (pe_callB (call_max2 rfl) (by rfl) T.n_max boot_x_max (pa_cons pe_int (pa_cons (pe_op op_sub (pv 8) pe_int) pa_nil))) (pa_cons (pv 8) (pa_cons (pe_op (k_add K) (pv 8) pe_int) pa_nil))))) (pg_name (i := 10) sc.nd rfl (by first | exact Or.inl rfl | exact Or.inr rfl)) (pss_one (ps_if (pt_cmpR (k_neG hr.units) (pe_me ce_Cost_at (hr.mono (by decide)) tk (pv 7) (pa_cons (pv 10) pa_nil)) (pe_cal c_law_at (hr.mono (by decide)) tk (pa_cons (pv 5) (pa_cons (pv 10) pa_nil))) (nomark _)) (pss_one (ps_ret pe_bl)) pss_nil)))))
      (pss_one (ps_if (PW.pt (pw_or (pt_cmpR (k_neG hr.units) (pe_callTy (cr_str cs_Cost (hr.mono (by decide))) (by rfl) T.n_str boot_x_str (pa_cons (pv 7) pa_nil)) (pe_callTy (cr_str cs_Cost (hr.mono (by decide))) (by rfl) T.n_str boot_x_str (pa_cons (pe_mk cm_Cost (hr.mono (by decide)) tk (pa_cons (pv 5) pa_nil)) pa_nil)) (nomark _)) (pw_or (pt_cmpR (opr_ne K cq_Cost (hr.mono (by decide))) (pv 7) (pe_mk cm_Cost (hr.mono (by decide)) tk (pa_cons (pv 5) pa_nil)) (nomark _)) (pw_or1 (pt_cmpR (k_neG hr.units) (pe_me ce_Cost_latest (hr.mono (by decide)) tk (pv 7) (pa_cons pe_int pa_nil)) (pe_me ce_Cost_latest (hr.mono (by decide)) tk (pe_mk cm_Cost (hr.mono (by decide)) tk (pa_cons (pv 5) pa_nil)) (pa_cons pe_int pa_nil)) (nomark _)))))) (pss_one (ps_ret pe_bl)) pss_nil))))) pss_nil)))))))
      (pss_one (ps_ret (pe_cmpR (opr_eqL K cq_Cost (hr.mono (by decide))) (pv 3) (pe_lst (pa_cons (pe_mk cm_Cost (hr.mono (by decide)) tk (pa_cons (pv 1) pa_nil)) (pa_cons (pe_mk cm_Cost (hr.mono (by decide)) tk (pa_cons (pv 2) pa_nil)) pa_nil))) (nomark _)))))), ?_⟩
    exact (evs_seq (evs_asg (EvN.evd (evn_lst (eva_cons (evd_make (Rf := RB) cc_Cost.at_ (gCons_len gNil_len) (eva_cons (ev_var 1) eva_nil)) (eva_cons (evd_make (Rf := RB) cc_Cost.at_ (gCons_len gNil_len) (eva_cons (ev_var 2) eva_nil)) eva_nil)))) (tgd_name (vs := [3]) (by decide)))
      (evs_seq (evs_for (vs := [4]) (evj_all rfl (EvN.evd (evn_call (Rf := RB) (gCons_len (gCons_len gNil_len)) (eva_cons (ev_var 0) (eva_cons (EvN.evd (evn_lst (eva_cons ev_int (eva_cons ev_int (eva_cons ev_int eva_nil))))) eva_nil))))) (tgd_name (by decide)) (evs_seq (evs_asg (evd_call (Rf := RB) (gCons_len (gCons_len (gCons_len gNil_len))) (eva_cons (ev_var 1) (eva_cons (ev_var 2) (eva_cons (ev_var 4) eva_nil)))) (tgd_name (vs := [5]) (by decide)))
      (evs_seq (evs_asg (ev_tup (eva_cons ev_str (eva_cons (ev_cb calld_tuple (eva_cons (ev_var 5) eva_nil)) eva_nil))) (tgd_name (vs := [6]) (by decide)))
      (evs_seq (evs_if (evt_test (ev_op opd_gt (ev_cb calld_len (eva_cons (ev_var 5) eva_nil)) ev_int)) (evs_asg (ev_tup (eva_cons ev_str (eva_cons (ev_cb calld_len (eva_cons (ev_var 5) eva_nil)) eva_nil))) (tgd_name (vs := [6]) (by decide))) evs_next)
      (evs_seq (evs_if (evt_or (evt_test (ev_op opd_neG (evd_call (Rf := RB) (gCons_len (gCons_len (gCons_len gNil_len))) (eva_cons (ev_var 4) (eva_cons (ev_op opd_ix (ev_var 3) ev_int) (eva_cons (ev_op opd_ix (ev_var 3) ev_int) eva_nil)))) (ev_var 6))) (evt_test (ev_op opd_neG (evd_call (Rf := RB) (gCons_len (gCons_len (gCons_len gNil_len))) (eva_cons (ev_var 4) (eva_cons (ev_op opd_ix (ev_var 3) ev_int) (eva_cons (ev_op opd_ix (ev_var 3) ev_int) eva_nil)))) (ev_var 6)))) (evs_ret ev_bl) evs_next)
      (evs_if (evt_test (ev_op opd_eqG (ev_op opd_ix (ev_var 6) ev_int) ev_str)) (evs_seq (evs_asg (ev_binO (Rf := RB) cc_Cost.at_ (ev_op opd_ix (ev_var 3) ev_int) (ev_op opd_ix (ev_var 3) ev_int)) (tgd_name (vs := [7]) (by decide)))
      (evs_seq (evs_if (evt_test (ev_op opd_eqG (ev_var 4) ev_int)) (evs_asg (ev_binO (Rf := RB) cc_Cost.at_ (ev_op opd_ix (ev_var 3) ev_int) (ev_op opd_ix (ev_var 3) ev_int)) (tgd_name (vs := [7]) (by decide))) evs_next)
      (evs_seq (evs_forV (vs := [8, 9]) (i := 5) rfl (tgd_tup rfl (tgsd_cons (tgd_name (by decide)) (tgsd_cons (tgd_name (by decide)) tgsd_nil))) (evs_for (vs := [10]) (evj_all rfl (EvN.evd (evn_lst (eva_cons (ev_cb calld_max2 (eva_cons ev_int (eva_cons (ev_op opd_sub (ev_var 8) ev_int) eva_nil))) (eva_cons (ev_var 8) (eva_cons (ev_op opd_add (ev_var 8) ev_int) eva_nil)))))) (tgd_name (by decide)) (evs_if (evt_test (ev_op opd_neG (ev_meth (Rf := RB) cc_Cost.at_ (gCons_len gNil_len) (ev_var 7) (eva_cons (ev_var 10) eva_nil)) (evd_call (Rf := RB) (gCons_len (gCons_len gNil_len)) (eva_cons (ev_var 5) (eva_cons (ev_var 10) eva_nil))))) (evs_ret ev_bl) evs_next)))
      (evs_if (evt_or (evt_test (ev_op opd_neG (ev_strO (Rf := RB) cc_Cost.at_ (ev_var 7)) (ev_strO (Rf := RB) cc_Cost.at_ (evd_make (Rf := RB) cc_Cost.at_ (gCons_len gNil_len) (eva_cons (ev_var 5) eva_nil))))) (evt_or (evt_test (ev_neO (Rf := RB) kq_Cost cc_Cost.at_ (ev_var 7) (evd_make (Rf := RB) cc_Cost.at_ (gCons_len gNil_len) (eva_cons (ev_var 5) eva_nil)))) (evt_test (ev_op opd_neG (ev_meth (Rf := RB) cc_Cost.at_ (gCons_len gNil_len) (ev_var 7) (eva_cons ev_int eva_nil)) (ev_meth (Rf := RB) cc_Cost.at_ (gCons_len gNil_len) (evd_make (Rf := RB) cc_Cost.at_ (gCons_len gNil_len) (eva_cons (ev_var 5) eva_nil)) (eva_cons ev_int eva_nil)))))) (evs_ret ev_bl) evs_next)))) evs_next))))))
      (evs_ret (ev_eqL (Rf := RB) cc_Cost.at_ pm_Cost_eq (ev_var 3) (EvN.evd (evn_lst (eva_cons (evd_make (Rf := RB) cc_Cost.at_ (gCons_len gNil_len) (eva_cons (ev_var 1) eva_nil)) (eva_cons (evd_make (Rf := RB) cc_Cost.at_ (gCons_len gNil_len) (eva_cons (ev_var 2) eva_nil)) eva_nil))))))))
abbrev s_Cost_later : Stmt := inClass (topS 15) 9
abbrev n_Cost_later : List Str := ["self", "by", "time", "amount"]
theorem sc_Cost_later : FnScope n_Cost_later ["self", "by"] (defScope s_Cost_later) := ⟨rfl, rfl, rfl, by decide +kernel, rfl, by decide +kernel, by decide +kernel⟩
def b_Cost_later : GS St1 :=
    (sSeq (sIf (gNot (gB (gCall m_is_number (gCons (gVar 1) (gCons (gC (.int 0)) gNil))))) (sRaise "BadNumber" "value" (gVar 1)) sNext)
    (sRet (gMake "Cost" m_Cost_init (gCons (gFz (gLc (gIt (gSelf "Cost" "pairs" 0)) (tgTup 2 (tgCons (tgName 2) (tgCons (tgName 3) tgNil))) gYes (gTup (gCons (gBin dAdd (gVar 2) (gVar 1)) (gCons (gVar 3) gNil))) [2, 3])) gNil))))
def m_Cost_later : List D → St1 → Res St1 D := gFn 4 b_Cost_later
theorem ok_Cost_later {f : Addr} {fd : FuncData} {A_BadNumber A_Cost : Addr} (T : Txt mg) (F : Fun K "later" "Cost.later" s_Cost_later f fd) (c_is_number : Cal Pr w K mg base 1 "is_number" ["value", "low"] (spD K mg RB 2 m_is_number)) (x_BadNumber : CalX Pr w K mg base "BadNumber" "value" "value" A_BadNumber) (cc_Cost : ClsK K mg "Cost" ["pairs"] A_Cost) (cm_Cost : CalM Pr w K mg base 3 "Cost" ["self", "steps"] (spI K mg RB 1 "Cost" m_Cost_init) A_Cost) : FnOk Pr w K mg base (L2.CX Pr w) 5 f fd ["self", "by"] (spD K mg RB 2 m_Cost_later) :=
  fn_d F sc_Cost_later rfl (by decide) fun sa xa cdv A outer s H E hr => by
    have sc := sc_Cost_later
    have tk : Takes (cxOf (L2.CX Pr w) Pr w K mg base n_Cost_later "Cost.later" (defScope s_Cost_later) f cdv A outer s H E) (fun c d _ H' => E c d H') := takes_of rfl rfl rfl rfl
    refine ⟨_, (pss_cons (ps_if (pt_not (pt_val (pe_cal c_is_number (hr.mono (by decide)) tk (pa_cons (pv 1) (pa_cons pe_int pa_nil))))) (pss_one (ps_raiseX x_BadNumber hr (by decide) tk (pv 1))) pss_nil)
      (pss_one (ps_ret (pe_mk cm_Cost (hr.mono (by decide)) tk (pa_cons (pe_lc (own := [("time", 2), ("amount", 3)]) rfl sc.nd (k_it K (k_fld K (pv 0))) (blkOk_by (N := n_Cost_later) (sc := defScope s_Cost_later) (by decide +kernel)) (fun _ _ _ _ _ => (k_tup K (n := 2) (by rfl) (pgs_cons (pg_name (i := 2) sc.nd rfl (by first | exact Or.inl rfl | exact Or.inr rfl)) (pgs_cons (pg_name (i := 3) sc.nd rfl (by first | exact Or.inl rfl | exact Or.inr rfl)) pgs_nil)))) (fun _ _ _ _ _ => pts_nil) (fun _ _ _ _ _ => (pe_tup (pa_cons (pe_op (k_add K) (pv 2) (pv 1)) (pa_cons (pv 3) pa_nil))))) pa_nil))))), ?_⟩
    exact (evs_seq (evs_if (evt_not (evt_B (evd_call (Rf := RB) (gCons_len (gCons_len gNil_len)) (eva_cons (ev_var 1) (eva_cons ev_int eva_nil))))) (evs_raiseX x_BadNumber (ev_var 1)) evs_next)
      (evs_ret (evd_make (Rf := RB) cc_Cost.at_ (gCons_len gNil_len) (eva_cons (EvN.evd (evn_lc (vs := [2, 3]) (evi_all rfl (ev_self (cc_Cost.f (by decide)))) (tgd_tup rfl (tgsd_cons (tgd_name (by decide)) (tgsd_cons (tgd_name (by decide)) tgsd_nil))) evt_yes (ev_tup (eva_cons (ev_op opd_add (ev_var 2) (ev_var 1)) (eva_cons (ev_var 3) eva_nil))))) eva_nil))))
abbrev s_law_shift : Stmt := topS 25
abbrev n_law_shift : List Str := ["_law_cost", "_law_far1", "e"]
theorem sc_law_shift : FnScope n_law_shift ["_law_cost", "_law_far1"] (defScope s_law_shift) := ⟨rfl, rfl, rfl, by decide +kernel, rfl, by decide +kernel, by decide +kernel⟩
def b_law_shift : GS St1 :=
    (sTry ["BadCount", "BadText", "BadNumber", "BadSteps"] (sRet (gTup (gCons (gC (.str (PySem.Str.ofString "told"))) (gCons (gProp "Cost" m_Cost_steps (gMeth "Cost" "later" m_Cost_later (gVar 0) (gCons (gVar 1) gNil))) gNil)))) (⟨"BadNumber", "value", some 2, hdT (PySem.Str.ofString "number")⟩ :: []))
def m_law_shift : List D → St1 → Res St1 D := gFn 3 b_law_shift
theorem ok_law_shift {f : Addr} {fd : FuncData} {A_BadNumber A_Cost : Addr} (T : Txt mg) (F : Fun K "_law_shift" "_law_shift" s_law_shift f fd) (cc_Cost : ClsK K mg "Cost" ["pairs"] A_Cost) (cp_Cost_steps : CalP Pr w K mg base 1 "steps" (spD K mg RB 1 m_Cost_steps) A_Cost) (ce_Cost_later : CalE Pr w K mg base 5 "later" ["self", "by"] (spD K mg RB 2 m_Cost_later) A_Cost) (xm_BadNumber : XmK K mg "BadNumber" A_BadNumber ["BadCount", "BadText", "BadNumber", "BadSteps"]) (nf_BadNumber : PySem.W.findIn K (.ref A_BadNumber) "value" = some none) : FnOk Pr w K mg base (L2.CX Pr w) 6 f fd ["_law_cost", "_law_far1"] (spD K mg RB 2 m_law_shift) :=
  fn_d F sc_law_shift rfl (by decide) fun sa xa cdv A outer s H E hr => by
    have sc := sc_law_shift
    have tk : Takes (cxOf (L2.CX Pr w) Pr w K mg base n_law_shift "_law_shift" (defScope s_law_shift) f cdv A outer s H E) (fun c d _ H' => E c d H') := takes_of rfl rfl rfl rfl
    refine ⟨_, (pss_one (ps_try_cl rfl rfl sc.nd tk (fun W pn xe tk po => (pss_one (ps_ret (pe_tup (pa_cons pe_str (pa_cons (pe_pr cp_Cost_steps (hr.mono (by decide)) (pe_me ce_Cost_later (hr.mono (by decide)) tk (pv 0) (pa_cons (pv 1) pa_nil))) pa_nil)))))) (ClsOk.cons (i := some 2) xm_BadNumber.names ⟨rfl, rfl⟩ (fun a oe cls d pn hz hf => (pss_one (ps_ret (pe_tup (pa_cons pe_str (pa_cons (pe_xf xm_BadNumber.xf nf_BadNumber hz hf (pv 2)) pa_nil))))))
        ClsOk.nil))), ?_⟩
    exact (evs_try (fun W => (evs_ret (ev_tup (eva_cons ev_str (eva_cons (ev_prop (Rf := RB) cc_Cost.at_ (ev_meth (Rf := RB) cc_Cost.at_ (gCons_len gNil_len) (ev_var 0) (eva_cons (ev_var 1) eva_nil))) eva_nil))))) (HdsR.cons xm_BadNumber.m (hdr_tup xm_BadNumber.at_ rfl) HdsR.nil))
abbrev s_law_later_right : Stmt := topS 26
abbrev n_law_later_right : List Str := ["_law_state", "_law_one", "_law_other", "_law_far1", "_law_far", "_law_later", "_law_marks", "_law_amount", "_law_pair", "_law_made", "_law_steps_here", "_law_twice", "_law_step", "_law_time"]
theorem sc_law_later_right : FnScope n_law_later_right ["_law_state", "_law_one", "_law_other", "_law_far1"] (defScope s_law_later_right) := ⟨rfl, rfl, rfl, by decide +kernel, rfl, by decide +kernel, by decide +kernel⟩
def b_law_later_right : GS St1 :=
    (sSeq (sAsg (tgName 4) (gMeth "Cost" "later" m_Cost_later (gMake "Cost" m_Cost_init (gCons (gVar 1) gNil)) (gCons (gVar 3) gNil)))
    (sSeq (sAsg (tgName 5) (gFz (gLc (gIt (gVar 1)) (tgName 12) gYes (gTup (gCons (gBin dAdd (gBin ixD (gVar 12) (gC (.int 0))) (gVar 3)) (gCons (gBin ixD (gVar 12) (gC (.int 1))) gNil))) [12])))
    (sSeq (sAsg (tgName 6) (gFz (gSortSet (gBin dAdd (gBin dAdd (gFz (gLstN (gCons (gC (.int 0)) (gCons (gVar 3) (gCons (gBin dAdd (gVar 3) (gC (.int 5))) gNil))))) (gFz (gLc (gIt (gVar 5)) (tgName 12) gYes (gBin ixD (gVar 12) (gC (.int 0))) [12]))) (gFz (gLc (gIt (gVar 5)) (tgName 12) gYes (gBin dAdd (gBin ixD (gVar 12) (gC (.int 0))) (gC (.int 1))) [12]))))))
    (sSeq (sIf (gB (gBin dNeG (gFz (gLc (gIt (gVar 6)) (tgName 13) gYes (gMeth "Cost" "at" m_Cost_at (gVar 4) (gCons (gVar 13) gNil)) [13])) (gFz (gLc (gIt (gVar 6)) (tgName 13) gYes (gCall m_law_at (gCons (gVar 5) (gCons (gVar 13) gNil))) [13])))) (sRet (gC (.bl false))) sNext)
    (sSeq (sIf (gB (gBin dNeG (gStrO "Cost" m_Cost_str (gVar 4)) (gStrO "Cost" m_Cost_str (gMake "Cost" m_Cost_init (gCons (gVar 5) gNil))))) (sRet (gC (.bl false))) sNext)
    (sSeq (sFor (gItF (gBin dAdd (gFz (gLstN (gCons (gC (.int 0)) (gCons (gC (.int 1)) (gCons (gC (.int 4)) gNil))))) (gFz (gLc (gIt (gVar 5)) (tgName 12) gYes (gBin ixD (gVar 12) (gC (.int 1))) [12])))) (tgName 7) (sIf (gB (gBin dNeG (gMeth "Cost" "latest" m_Cost_latest (gVar 4) (gCons (gVar 7) gNil)) (gMeth "Cost" "latest" m_Cost_latest (gMake "Cost" m_Cost_init (gCons (gVar 5) gNil)) (gCons (gVar 7) gNil)))) (sRet (gC (.bl false))) sNext))
    (sSeq (sAsg (tgName 8) (gFz (gLstN (gCons (gCall m_law_joined (gCons (gVar 5) (gCons (gVar 2) (gCons (gC (.int 0)) gNil)))) (gCons (gCall m_law_joined (gCons (gVar 5) (gCons (gVar 2) (gCons (gC (.int 1)) gNil)))) gNil)))))
    (sSeq (sIf (gOr (gB (gBin dGt (gCB (o1 lenD) (gCons (gBin ixD (gVar 8) (gC (.int 0))) gNil)) (gC (.int 40)))) (gB (gBin dGt (gCB (o1 lenD) (gCons (gBin ixD (gVar 8) (gC (.int 1))) gNil)) (gC (.int 40))))) (sRet (gC (.bl true))) sNext)
    (sSeq (sIf (gOr (gB (gBin dNeG (gProp "Cost" m_Cost_steps (gBinO "Cost" m_Cost_add (gVar 4) (gMake "Cost" m_Cost_init (gCons (gVar 2) gNil)))) (gCB (o1 tupleD) (gCons (gBin ixD (gVar 8) (gC (.int 0))) gNil)))) (gB (gBin dNeG (gProp "Cost" m_Cost_steps (gBinO "Cost" m_Cost_or (gMake "Cost" m_Cost_init (gCons (gVar 2) gNil)) (gVar 4))) (gCB (o1 tupleD) (gCons (gBin ixD (gVar 8) (gC (.int 1))) gNil))))) (sRet (gC (.bl false))) sNext)
    (sSeq (sAsg (tgName 9) (gBin ixD (gFz (gLstN (gCons (gBinO "Cost" m_Cost_add (gVar 4) (gMake "Cost" m_Cost_init (gCons (gVar 2) gNil))) (gCons (gBinO "Cost" m_Cost_or (gMake "Cost" m_Cost_init (gCons (gVar 2) gNil)) (gVar 4)) gNil)))) (gCall m_law_take (gCons (gVar 0) (gCons (gC (.int 2)) gNil)))))
    (sSeq (sAsg (tgName 10) (gFz (gListN (gCons (gProp "Cost" m_Cost_steps (gVar 9)) gNil))))
    (sSeq (sIf (gB (gBin dNeG (gFz (gLc (gIt (gVar 6)) (tgName 13) gYes (gMeth "Cost" "at" m_Cost_at (gVar 9) (gCons (gVar 13) gNil)) [13])) (gFz (gLc (gIt (gVar 6)) (tgName 13) gYes (gCall m_law_at (gCons (gVar 10) (gCons (gVar 13) gNil))) [13])))) (sRet (gC (.bl false))) sNext)
    (sSeq (sAsg (tgName 11) (gCall m_law_joined (gCons (gVar 10) (gCons (gVar 1) (gCons (gC (.int 1)) gNil)))))
    (sRet (gOrV (gBin dGt (gCB (o1 lenD) (gCons (gVar 11) gNil)) (gC (.int 40))) (gBin dEqG (gProp "Cost" m_Cost_steps (gBinO "Cost" m_Cost_or (gVar 9) (gMake "Cost" m_Cost_init (gCons (gVar 1) gNil)))) (gCB (o1 tupleD) (gCons (gVar 11) gNil))))))))))))))))))
def m_law_later_right : List D → St1 → Res St1 D := gFn 14 b_law_later_right
theorem ok_law_later_right {f : Addr} {fd : FuncData} {A_Cost : Addr} (T : Txt mg) (F : Fun K "_law_later_right" "_law_later_right" s_law_later_right f fd) (cc_Cost : ClsK K mg "Cost" ["pairs"] A_Cost) (cm_Cost : CalM Pr w K mg base 3 "Cost" ["self", "steps"] (spI K mg RB 1 "Cost" m_Cost_init) A_Cost) (ce_Cost_later : CalE Pr w K mg base 5 "later" ["self", "by"] (spD K mg RB 2 m_Cost_later) A_Cost) (ce_Cost_at : CalE Pr w K mg base 3 "at" ["self", "time"] (spD K mg RB 2 m_Cost_at) A_Cost) (c_law_at : Cal Pr w K mg base 1 "_law_at" ["_law_steps_here", "_law_time"] (spD K mg RB 2 m_law_at)) (cs_Cost : CalS Pr w K mg base 1 ["self"] (spD K mg RB 1 m_Cost_str) A_Cost) (ce_Cost_latest : CalE Pr w K mg base 3 "latest" ["self", "bound"] (spD K mg RB 2 m_Cost_latest) A_Cost) (c_law_joined : Cal Pr w K mg base 2 "_law_joined" ["_law_one", "_law_other", "_law_greater"] (spD K mg RB 3 m_law_joined)) (cp_Cost_steps : CalP Pr w K mg base 1 "steps" (spD K mg RB 1 m_Cost_steps) A_Cost) (cb_Cost_add : CalB Pr w K mg base 5 "__add__" ["self", "other"] (spD K mg RB 2 m_Cost_add) A_Cost) (cb_Cost_or : CalB Pr w K mg base 5 "__or__" ["self", "other"] (spD K mg RB 2 m_Cost_or) A_Cost) (c_law_take : Cal Pr w K mg base 1 "_law_take" ["_law_state", "_law_limit"] (spD K mg RB 2 m_law_take)) : FnOk Pr w K mg base (L2.CX Pr w) 6 f fd ["_law_state", "_law_one", "_law_other", "_law_far1"] (spD K mg RB 4 m_law_later_right) :=
  fn_d F sc_law_later_right rfl (by decide) fun sa xa cdv A outer s H E hr => by
    have sc := sc_law_later_right
    have tk : Takes (cxOf (L2.CX Pr w) Pr w K mg base n_law_later_right "_law_later_right" (defScope s_law_later_right) f cdv A outer s H E) (fun c d _ H' => E c d H') := takes_of rfl rfl rfl rfl
    refine ⟨_, (pss_cons (ps_set (i := 4) sc.nd rfl (by first | exact Or.inl rfl | exact Or.inr rfl) (pe_me ce_Cost_later (hr.mono (by decide)) tk (pe_mk cm_Cost (hr.mono (by decide)) tk (pa_cons (pv 1) pa_nil)) (pa_cons (pv 3) pa_nil)))
      (pss_cons (ps_set (i := 5) sc.nd rfl (by first | exact Or.inl rfl | exact Or.inr rfl) (pe_lc (own := [("_law_step", 12)]) rfl sc.nd (k_it K (pv 1)) (blkOk_by (N := n_law_later_right) (sc := defScope s_law_later_right) (by decide +kernel)) (fun _ _ _ _ _ => (pg_name (i := 12) sc.nd rfl (by first | exact Or.inl rfl | exact Or.inr rfl))) (fun _ _ _ _ _ => pts_nil) (fun _ _ _ _ _ => (pe_tup (pa_cons (pe_op (k_add K) (pe_ix (k_ix K) (pv 12) pe_int (fun _ _ => rfl)) (pv 3)) (pa_cons (pe_ix (k_ix K) (pv 12) pe_int (fun _ _ => rfl)) pa_nil))))))
      (pss_cons (ps_set (i := 6) sc.nd rfl (by first | exact Or.inl rfl | exact Or.inr rfl) (pe_callB (k_sortedSet w rfl) (by rfl) T.n_sorted boot_x_sorted (pa_cons (pe_callTy (k_setI K w rfl) (by rfl) T.n_set boot_x_set (pa_cons (pe_op (k_add K) (pe_op (k_add K) (pe_lst (pa_cons pe_int (pa_cons (pv 3) (pa_cons (pe_op (k_add K) (pv 3) pe_int) pa_nil)))) (pe_lc (own := [("_law_step", 12)]) rfl sc.nd (k_it K (pv 5)) (blkOk_by (N := n_law_later_right) (sc := defScope s_law_later_right) (by decide +kernel)) (fun _ _ _ _ _ => (pg_name (i := 12) sc.nd rfl (by first | exact Or.inl rfl | exact Or.inr rfl))) (fun _ _ _ _ _ => pts_nil) (fun _ _ _ _ _ => (pe_ix (k_ix K) (pv 12) pe_int (fun _ _ => rfl))))) (pe_lc (own := [("_law_step", 12)]) rfl sc.nd (k_it K (pv 5)) (blkOk_by (N := n_law_later_right) (sc := defScope s_law_later_right) (by decide +kernel)) (fun _ _ _ _ _ => (pg_name (i := 12) sc.nd rfl (by first | exact Or.inl rfl | exact Or.inr rfl))) (fun _ _ _ _ _ => pts_nil) (fun _ _ _ _ _ => (pe_op (k_add K) (pe_ix (k_ix K) (pv 12) pe_int (fun _ _ => rfl)) pe_int)))) pa_nil)) pa_nil)))
      (pss_cons (ps_if (pt_cmpR (k_neG hr.units) (pe_lc (own := [("_law_time", 13)]) rfl sc.nd (k_it K (pv 6)) (blkOk_by (N := n_law_later_right) (sc := defScope s_law_later_right) (by decide +kernel)) (fun _ _ _ _ _ => (pg_name (i := 13) sc.nd rfl (by first | exact Or.inl rfl | exact Or.inr rfl))) (fun _ _ _ _ _ => pts_nil) (fun _ _ _ _ _ => (pe_me ce_Cost_at (hr.mono (by decide)) takes0 (pv 4) (pa_cons (pv 13) pa_nil)))) (pe_lc (own := [("_law_time", 13)]) rfl sc.nd (k_it K (pv 6)) (blkOk_by (N := n_law_later_right) (sc := defScope s_law_later_right) (by decide +kernel)) (fun _ _ _ _ _ => (pg_name (i := 13) sc.nd rfl (by first | exact Or.inl rfl | exact Or.inr rfl))) (fun _ _ _ _ _ => pts_nil) (fun _ _ _ _ _ => (pe_cal c_law_at (hr.mono (by decide)) takes0 (pa_cons (pv 5) (pa_cons (pv 13) pa_nil))))) (nomark _)) (pss_one (ps_ret pe_bl)) pss_nil)
      (pss_cons (ps_if (pt_cmpR (k_neG hr.units) (pe_callTy (cr_str cs_Cost (hr.mono (by decide))) (by rfl) T.n_str boot_x_str (pa_cons (pv 4) pa_nil)) (pe_callTy (cr_str cs_Cost (hr.mono (by decide))) (by rfl) T.n_str boot_x_str (pa_cons (pe_mk cm_Cost (hr.mono (by decide)) tk (pa_cons (pv 5) pa_nil)) pa_nil)) (nomark _)) (pss_one (ps_ret pe_bl)) pss_nil)
      (pss_cons (ps_for (passes_of rfl) rfl (k_it K (pe_op (k_add K) (pe_lst (pa_cons pe_int (pa_cons pe_int (pa_cons pe_int pa_nil)))) (pe_lc (own := [("_law_step", 12)]) rfl sc.nd (k_it K (pv 5)) (blkOk_by (N := n_law_later_right) (sc := defScope s_law_later_right) (by decide +kernel)) (fun _ _ _ _ _ => (pg_name (i := 12) sc.nd rfl (by first | exact Or.inl rfl | exact Or.inr rfl))) (fun _ _ _ _ _ => pts_nil) (fun _ _ _ _ _ => (pe_ix (k_ix K) (pv 12) pe_int (fun _ _ => rfl)))))) (pg_name (i := 7) sc.nd rfl (by first | exact Or.inl rfl | exact Or.inr rfl)) (pss_one (ps_if (pt_cmpR (k_neG hr.units) (pe_me ce_Cost_latest (hr.mono (by decide)) tk (pv 4) (pa_cons (pv 7) pa_nil)) (pe_me ce_Cost_latest (hr.mono (by decide)) tk (pe_mk cm_Cost (hr.mono (by decide)) tk (pa_cons (pv 5) pa_nil)) (pa_cons (pv 7) pa_nil)) (nomark _)) (pss_one (ps_ret pe_bl)) pss_nil)))
      (pss_cons (ps_set (i := 8) sc.nd rfl (by first | exact Or.inl rfl | exact Or.inr rfl) (pe_lst (pa_cons (pe_cal c_law_joined (hr.mono (by decide)) tk (pa_cons (pv 5) (pa_cons (pv 2) (pa_cons pe_int pa_nil)))) (pa_cons (pe_cal c_law_joined (hr.mono (by decide)) tk (pa_cons (pv 5) (pa_cons (pv 2) (pa_cons pe_int pa_nil)))) pa_nil))))
      (pss_cons (ps_if (PW.pt (pw_or (pt_cmpR op_gt (pe_callB (k_len K) (by rfl) T.n_len boot_x_len (pa_cons (pe_ix (k_ix K) (pv 8) pe_int (fun _ _ => rfl)) pa_nil)) pe_int (nomark _)) (pw_or1 (pt_cmpR op_gt (pe_callB (k_len K) (by rfl) T.n_len boot_x_len (pa_cons (pe_ix (k_ix K) (pv 8) pe_int (fun _ _ => rfl)) pa_nil)) pe_int (nomark _))))) (pss_one (ps_ret pe_bl)) pss_nil)
      (pss_cons (ps_if (PW.pt (pw_or (pt_cmpR (k_neG hr.units) (pe_pr cp_Cost_steps (hr.mono (by decide)) (pe_bin cb_Cost_add rfl (hr.mono (by decide)) tk (pv 4) (pe_mk cm_Cost (hr.mono (by decide)) tk (pa_cons (pv 2) pa_nil)))) (pe_callTy (k_tuple K) (by rfl) T.n_tuple boot_x_tuple (pa_cons (pe_ix (k_ix K) (pv 8) pe_int (fun _ _ => rfl)) pa_nil)) (nomark _)) (pw_or1 (pt_cmpR (k_neG hr.units) (pe_pr cp_Cost_steps (hr.mono (by decide)) (pe_bin cb_Cost_or rfl (hr.mono (by decide)) tk (pe_mk cm_Cost (hr.mono (by decide)) tk (pa_cons (pv 2) pa_nil)) (pv 4))) (pe_callTy (k_tuple K) (by rfl) T.n_tuple boot_x_tuple (pa_cons (pe_ix (k_ix K) (pv 8) pe_int (fun _ _ => rfl)) pa_nil)) (nomark _))))) (pss_one (ps_ret pe_bl)) pss_nil)
      (pss_cons (ps_set (i := 9) sc.nd rfl (by first | exact Or.inl rfl | exact Or.inr rfl) (pe_ix (k_ix K) (pe_lst (pa_cons (pe_bin cb_Cost_add rfl (hr.mono (by decide)) tk (pv 4) (pe_mk cm_Cost (hr.mono (by decide)) tk (pa_cons (pv 2) pa_nil))) (pa_cons (pe_bin cb_Cost_or rfl (hr.mono (by decide)) tk (pe_mk cm_Cost (hr.mono (by decide)) tk (pa_cons (pv 2) pa_nil)) (pv 4)) pa_nil))) (pe_cal c_law_take (hr.mono (by decide)) tk (pa_cons (pv 0) (pa_cons pe_int pa_nil))) (fun _ _ => rfl)))
      (pss_cons (ps_set (i := 10) sc.nd rfl (by first | exact Or.inl rfl | exact Or.inr rfl) (pe_callTy (k_list K) (by rfl) T.n_list boot_x_list (pa_cons (pe_pr cp_Cost_steps (hr.mono (by decide)) (pv 9)) pa_nil)))
      (pss_cons (ps_if (pt_cmpR (k_neG hr.units) (pe_lc (own := [("_law_time", 13)]) rfl sc.nd (k_it K (pv 6)) (blkOk_by (N := n_law_later_right) (sc := defScope s_law_later_right) (by decide +kernel)) (fun _ _ _ _ _ => (pg_name (i := 13) sc.nd rfl (by first | exact Or.inl rfl | exact Or.inr rfl))) (fun _ _ _ _ _ => pts_nil) (fun _ _ _ _ _ => (pe_me ce_Cost_at (hr.mono (by decide)) takes0 (pv 9) (pa_cons (pv 13) pa_nil)))) (pe_lc (own := [("_law_time", 13)]) rfl sc.nd (k_it K (pv 6)) (blkOk_by (N := n_law_later_right) (sc := defScope s_law_later_right) (by decide +kernel)) (fun _ _ _ _ _ => (pg_name (i := 13) sc.nd rfl (by first | exact Or.inl rfl | exact Or.inr rfl))) (fun _ _ _ _ _ => pts_nil) (fun _ _ _ _ _ => (pe_cal c_law_at (hr.mono (by decide)) takes0 (pa_cons (pv 10) (pa_cons (pv 13) pa_nil))))) (nomark _)) (pss_one (ps_ret pe_bl)) pss_nil)
      (pss_cons (ps_set (i := 11) sc.nd rfl (by first | exact Or.inl rfl | exact Or.inr rfl) (pe_cal c_law_joined (hr.mono (by decide)) tk (pa_cons (pv 10) (pa_cons (pv 1) (pa_cons pe_int pa_nil)))))
      (pss_one (ps_ret (pe_or (pe_cmpR op_gt (pe_callB (k_len K) (by rfl) T.n_len boot_x_len (pa_cons (pv 11) pa_nil)) pe_int (nomark _)) (pe_one (pe_cmpR (k_eqG hr.units) (pe_pr cp_Cost_steps (hr.mono (by decide)) (pe_bin cb_Cost_or rfl (hr.mono (by decide)) tk (pv 9) (pe_mk cm_Cost (hr.mono (by decide)) tk (pa_cons (pv 1) pa_nil)))) (pe_callTy (k_tuple K) (by rfl) T.n_tuple boot_x_tuple (pa_cons (pv 11) pa_nil)) (nomark _))))))))))))))))))), ?_⟩
    exact (evs_seq (evs_asg (ev_meth (Rf := RB) cc_Cost.at_ (gCons_len gNil_len) (evd_make (Rf := RB) cc_Cost.at_ (gCons_len gNil_len) (eva_cons (ev_var 1) eva_nil)) (eva_cons (ev_var 3) eva_nil)) (tgd_name (vs := [4]) (by decide)))
      (evs_seq (evs_asg (EvN.evd (evn_lc (vs := [12]) (evi_all rfl (ev_var 1)) (tgd_name (by decide)) evt_yes (ev_tup (eva_cons (ev_op opd_add (ev_op opd_ix (ev_var 12) ev_int) (ev_var 3)) (eva_cons (ev_op opd_ix (ev_var 12) ev_int) eva_nil))))) (tgd_name (vs := [5]) (by decide)))
      (evs_seq (evs_asg (EvN.evd (evn_sortSet (w := w) (ev_op opd_add (ev_op opd_add (EvN.evd (evn_lst (eva_cons ev_int (eva_cons (ev_var 3) (eva_cons (ev_op opd_add (ev_var 3) ev_int) eva_nil))))) (EvN.evd (evn_lc (vs := [12]) (evi_all rfl (ev_var 5)) (tgd_name (by decide)) evt_yes (ev_op opd_ix (ev_var 12) ev_int)))) (EvN.evd (evn_lc (vs := [12]) (evi_all rfl (ev_var 5)) (tgd_name (by decide)) evt_yes (ev_op opd_add (ev_op opd_ix (ev_var 12) ev_int) ev_int)))))) (tgd_name (vs := [6]) (by decide)))
      (evs_seq (evs_if (evt_test (ev_op opd_neG (EvN.evd (evn_lc (vs := [13]) (evi_all rfl (ev_var 6)) (tgd_name (by decide)) evt_yes (ev_meth (Rf := RB) cc_Cost.at_ (gCons_len gNil_len) (ev_var 4) (eva_cons (ev_var 13) eva_nil)))) (EvN.evd (evn_lc (vs := [13]) (evi_all rfl (ev_var 6)) (tgd_name (by decide)) evt_yes (evd_call (Rf := RB) (gCons_len (gCons_len gNil_len)) (eva_cons (ev_var 5) (eva_cons (ev_var 13) eva_nil))))))) (evs_ret ev_bl) evs_next)
      (evs_seq (evs_if (evt_test (ev_op opd_neG (ev_strO (Rf := RB) cc_Cost.at_ (ev_var 4)) (ev_strO (Rf := RB) cc_Cost.at_ (evd_make (Rf := RB) cc_Cost.at_ (gCons_len gNil_len) (eva_cons (ev_var 5) eva_nil))))) (evs_ret ev_bl) evs_next)
      (evs_seq (evs_for (vs := [7]) (evj_all rfl (ev_op opd_add (EvN.evd (evn_lst (eva_cons ev_int (eva_cons ev_int (eva_cons ev_int eva_nil))))) (EvN.evd (evn_lc (vs := [12]) (evi_all rfl (ev_var 5)) (tgd_name (by decide)) evt_yes (ev_op opd_ix (ev_var 12) ev_int))))) (tgd_name (by decide)) (evs_if (evt_test (ev_op opd_neG (ev_meth (Rf := RB) cc_Cost.at_ (gCons_len gNil_len) (ev_var 4) (eva_cons (ev_var 7) eva_nil)) (ev_meth (Rf := RB) cc_Cost.at_ (gCons_len gNil_len) (evd_make (Rf := RB) cc_Cost.at_ (gCons_len gNil_len) (eva_cons (ev_var 5) eva_nil)) (eva_cons (ev_var 7) eva_nil)))) (evs_ret ev_bl) evs_next))
      (evs_seq (evs_asg (EvN.evd (evn_lst (eva_cons (evd_call (Rf := RB) (gCons_len (gCons_len (gCons_len gNil_len))) (eva_cons (ev_var 5) (eva_cons (ev_var 2) (eva_cons ev_int eva_nil)))) (eva_cons (evd_call (Rf := RB) (gCons_len (gCons_len (gCons_len gNil_len))) (eva_cons (ev_var 5) (eva_cons (ev_var 2) (eva_cons ev_int eva_nil)))) eva_nil)))) (tgd_name (vs := [8]) (by decide)))
      (evs_seq (evs_if (evt_or (evt_test (ev_op opd_gt (ev_cb calld_len (eva_cons (ev_op opd_ix (ev_var 8) ev_int) eva_nil)) ev_int)) (evt_test (ev_op opd_gt (ev_cb calld_len (eva_cons (ev_op opd_ix (ev_var 8) ev_int) eva_nil)) ev_int))) (evs_ret ev_bl) evs_next)
      (evs_seq (evs_if (evt_or (evt_test (ev_op opd_neG (ev_prop (Rf := RB) cc_Cost.at_ (ev_binO (Rf := RB) cc_Cost.at_ (ev_var 4) (evd_make (Rf := RB) cc_Cost.at_ (gCons_len gNil_len) (eva_cons (ev_var 2) eva_nil)))) (ev_cb calld_tuple (eva_cons (ev_op opd_ix (ev_var 8) ev_int) eva_nil)))) (evt_test (ev_op opd_neG (ev_prop (Rf := RB) cc_Cost.at_ (ev_binO (Rf := RB) cc_Cost.at_ (evd_make (Rf := RB) cc_Cost.at_ (gCons_len gNil_len) (eva_cons (ev_var 2) eva_nil)) (ev_var 4))) (ev_cb calld_tuple (eva_cons (ev_op opd_ix (ev_var 8) ev_int) eva_nil))))) (evs_ret ev_bl) evs_next)
      (evs_seq (evs_asg (ev_op opd_ix (EvN.evd (evn_lst (eva_cons (ev_binO (Rf := RB) cc_Cost.at_ (ev_var 4) (evd_make (Rf := RB) cc_Cost.at_ (gCons_len gNil_len) (eva_cons (ev_var 2) eva_nil))) (eva_cons (ev_binO (Rf := RB) cc_Cost.at_ (evd_make (Rf := RB) cc_Cost.at_ (gCons_len gNil_len) (eva_cons (ev_var 2) eva_nil)) (ev_var 4)) eva_nil)))) (evd_call (Rf := RB) (gCons_len (gCons_len gNil_len)) (eva_cons (ev_var 0) (eva_cons ev_int eva_nil)))) (tgd_name (vs := [9]) (by decide)))
      (evs_seq (evs_asg (EvN.evd (evn_list (eva_cons (ev_prop (Rf := RB) cc_Cost.at_ (ev_var 9)) eva_nil))) (tgd_name (vs := [10]) (by decide)))
      (evs_seq (evs_if (evt_test (ev_op opd_neG (EvN.evd (evn_lc (vs := [13]) (evi_all rfl (ev_var 6)) (tgd_name (by decide)) evt_yes (ev_meth (Rf := RB) cc_Cost.at_ (gCons_len gNil_len) (ev_var 9) (eva_cons (ev_var 13) eva_nil)))) (EvN.evd (evn_lc (vs := [13]) (evi_all rfl (ev_var 6)) (tgd_name (by decide)) evt_yes (evd_call (Rf := RB) (gCons_len (gCons_len gNil_len)) (eva_cons (ev_var 10) (eva_cons (ev_var 13) eva_nil))))))) (evs_ret ev_bl) evs_next)
      (evs_seq (evs_asg (evd_call (Rf := RB) (gCons_len (gCons_len (gCons_len gNil_len))) (eva_cons (ev_var 10) (eva_cons (ev_var 1) (eva_cons ev_int eva_nil)))) (tgd_name (vs := [11]) (by decide)))
      (evs_ret (ev_orV (ev_op opd_gt (ev_cb calld_len (eva_cons (ev_var 11) eva_nil)) ev_int) (ev_op opd_eqG (ev_prop (Rf := RB) cc_Cost.at_ (ev_binO (Rf := RB) cc_Cost.at_ (ev_var 9) (evd_make (Rf := RB) cc_Cost.at_ (gCons_len gNil_len) (eva_cons (ev_var 1) eva_nil)))) (ev_cb calld_tuple (eva_cons (ev_var 11) eva_nil))))))))))))))))))
abbrev s_law : Stmt := topS 28
abbrev n_law : List Str := ["_law_script", "_law_state", "_law_cost", "_law_far1", "_law_odd", "_law_one", "_law_other", "_law_later", "_law_step"]
theorem sc_law : FnScope n_law ["_law_script"] (defScope s_law) := ⟨rfl, rfl, rfl, by decide +kernel, rfl, by decide +kernel, by decide +kernel⟩
def b_law : GS St1 :=
    (sSeq (sPar 5 6 (gCons (gCall m_law_many (gCons (gVar 1) gNil)) (gCons (gCall m_law_many (gCons (gVar 1) gNil)) gNil)))
    (sSeq (sIf (gOr (gNot (gB (gCall m_law_right (gCons (gVar 1) (gCons (gVar 5) (gCons (gVar 6) gNil)))))) (gNot (gB (gCall m_law_right (gCons (gVar 1) (gCons (gVar 5) (gCons (gVar 5) gNil))))))) (sRet (gC (.bl false))) sNext)
    (sSeq (sAsg (tgName 2) (gMake "Cost" m_Cost_init (gCons (gVar 5) gNil)))
    (sSeq (sFor (gItF (gFz (gLstN (gCons (gC (.int 0)) (gCons (gBin dAdd (gC (.int 1)) (gCall m_law_take (gCons (gVar 1) (gCons (gC (.int 9)) gNil)))) (gCons (gBin dPow (gC (.int 10)) (gC (.int 12))) gNil)))))) (tgName 3) (sSeq (sAsg (tgName 7) (gFz (gLc (gIt (gVar 5)) (tgName 8) gYes (gTup (gCons (gBin dAdd (gBin ixD (gVar 8) (gC (.int 0))) (gVar 3)) (gCons (gBin ixD (gVar 8) (gC (.int 1))) gNil))) [8])))
    (sSeq (sIf (gOr (gB (gBin dNeG (gCall m_law_shift (gCons (gVar 2) (gCons (gVar 3) gNil))) (gTup (gCons (gC (.str (PySem.Str.ofString "told"))) (gCons (gCB (o1 tupleD) (gCons (gVar 7) gNil)) gNil))))) (gNot (gB (gCall m_law_right (gCons (gVar 1) (gCons (gVar 7) (gCons (gVar 6) gNil))))))) (sRet (gC (.bl false))) sNext)
    (sSeq (sIf (gOr (gB (gEqO true ["Cost"] "Cost" m_Cost_eq (gMethK "Cost" "later" m_Cost_later [0] (gVar 2) (gCons (gVar 3) gNil)) (gMake "Cost" m_Cost_init (gCons (gVar 7) gNil)))) (gB (gEqO true ["Cost"] "Cost" m_Cost_eq (gVar 2) (gMake "Cost" m_Cost_init (gCons (gVar 5) gNil))))) (sRet (gC (.bl false))) sNext)
    (sIf (gNot (gB (gCall m_law_later_right (gCons (gVar 1) (gCons (gVar 5) (gCons (gVar 6) (gCons (gVar 3) gNil))))))) (sRet (gC (.bl false))) sNext)))))
    (sSeq (sAsg (tgName 4) (gBin ixD (gFz (gLstN (gCons (gUn dNeg (gC (.int 1))) (gCons (gC (.bl true)) (gCons (gC .non) (gCons (gC (.str (PySem.Str.ofString "1"))) (gCons (gFz (gLstN (gCons (gC (.int 2)) gNil))) (gCons (gTup (gCons (gC (.int 1)) gNil)) (gCons (gC (.dct [])) gNil))))))))) (gCall m_law_take (gCons (gVar 1) (gCons (gC (.int 7)) gNil)))))
    (sRet (gBin dEqG (gCall m_law_shift (gCons (gVar 2) (gCons (gVar 4) gNil))) (gTup (gCons (gC (.str (PySem.Str.ofString "number"))) (gCons (gVar 4) gNil))))))))))
open PySem.SeqAt (EP)
/-! ### comparison -/
@[simp] theorem g_eqI (a b : Int) : dEqG (.int a) (.int b) = some (.bl (a == b)) := by
  rw [g_eq (by simp [cmpE, okE, toE, EP.depth])]; simp [eqE, toE, EP.eqv]
@[simp] theorem g_neI (a b : Int) : dNeG (.int a) (.int b) = some (.bl (!(a == b))) := by
  rw [g_ne (by simp [cmpE, okE, toE, EP.depth])]; simp [eqE, toE, EP.eqv]
@[simp] theorem g_eqS (a b : Str) : dEqG (.str a) (.str b) = some (.bl (a == b)) := by
  rw [g_eq (by simp [cmpE, okE, toE, EP.depth])]; simp [eqE, toE, EP.eqv]
@[simp] theorem g_neS (a b : Str) : dNeG (.str a) (.str b) = some (.bl (!(a == b))) := by
  rw [g_ne (by simp [cmpE, okE, toE, EP.depth])]; simp [eqE, toE, EP.eqv]
@[simp] theorem g_eqB (a b : Bool) : dEqG (.bl a) (.bl b) = some (.bl (a == b)) := by
  rw [g_eq (by simp [cmpE, okE, toE, EP.depth])]; simp [eqE, toE, EP.eqv]
@[simp] theorem g_neB (a b : Bool) : dNeG (.bl a) (.bl b) = some (.bl (!(a == b))) := by
  rw [g_ne (by simp [cmpE, okE, toE, EP.depth])]; simp [eqE, toE, EP.eqv]
/-- data that is equal to itself and may be compared -/
def okG (d : D) : Prop := okE d = true ∧ (toE d).depth ≤ 64
theorem okG.cmp {x y : D} (h : okG x) (k : okG y) : cmpE x y := ⟨h.1, k.1, by have := h.2; omega⟩
theorem g_eqSame {x y : D} (h : okG x) (k : okE y = true) (e : toE x = toE y) : dEqG x y = some (.bl true) := by
  rw [g_eq ⟨h.1, k, by have := h.2; omega⟩, eqE, e, SeqAt.EP.eqv_refl]
theorem g_neSame {x y : D} (h : okG x) (k : okE y = true) (e : toE x = toE y) : dNeG x y = some (.bl false) := by
  rw [g_ne ⟨h.1, k, by have := h.2; omega⟩, eqE, e, SeqAt.EP.eqv_refl]; rfl
theorem g_neRefl {x : D} (h : okG x) : dNeG x x = some (.bl false) := g_neSame h h.1 rfl
theorem g_eqRefl {x : D} (h : okG x) : dEqG x x = some (.bl true) := g_eqSame h h.1 rfl
theorem okEs_all {l : List D} (h : ∀ d ∈ l, okE d = true) : okEs l = true := by
  induction l with
  | nil => rfl
  | cons d l ih => simp [okEs, h d (.head _), ih fun e he => h e (.tail _ he)]
theorem depths_le {n : Nat} : ∀ {l : List D}, (∀ d ∈ l, (toE d).depth ≤ n) → EP.depths (toEs l) ≤ n
  | [], _ => by simp [toEs, EP.depths]
  | d :: l, h => by
    simp only [toEs, EP.depths]
    exact Nat.max_le.mpr ⟨h d (.head _), depths_le fun e he => h e (.tail _ he)⟩
theorem okG_tup {l : List D} {n : Nat} (hn : n < 64) (h : ∀ d ∈ l, okE d = true ∧ (toE d).depth ≤ n) : okG (.tup l) :=
  ⟨by simp only [okE]; exact okEs_all fun d hd => (h d hd).1, by
    have := depths_le fun d hd => (h d hd).2
    simp only [toE, EP.depth]; omega⟩
theorem okG_lst {l : List D} {n : Nat} (hn : n < 64) (h : ∀ d ∈ l, okE d = true ∧ (toE d).depth ≤ n) : okG (.lst l) :=
  ⟨by simp only [okE]; exact okEs_all fun d hd => (h d hd).1, by
    have := depths_le fun d hd => (h d hd).2
    simp only [toE, EP.depth]; omega⟩
theorem toEs_isEmpty : ∀ l : List D, (toEs l).isEmpty = l.isEmpty
  | [] => rfl
  | _ :: _ => rfl
theorem g_eqNil {l : List D} (h : okEs l = true) : dEqG (.lst l) (.lst []) = some (.bl l.isEmpty) := by
  rw [g_eq ⟨by simpa [okE] using h, rfl, by simp [toE, toEs, EP.depth, EP.depths]⟩]
  cases l <;> simp [eqE, toE, toEs, EP.eqv, EP.eqvs]
theorem g_neNil {l : List D} (h : okEs l = true) : dNeG (.lst l) (.lst []) = some (.bl (!l.isEmpty)) := by
  rw [g_ne ⟨by simpa [okE] using h, rfl, by simp [toE, toEs, EP.depth, EP.depths]⟩]
  cases l <;> simp [eqE, toE, toEs, EP.eqv, EP.eqvs]
theorem g_neBNil {l : List D} (h : okEs l = true) : dNeG (.bor l) (.lst []) = some (.bl (!l.isEmpty)) := by
  rw [g_ne ⟨by simpa [okE] using h, rfl, by simp [toE, toEs, EP.depth, EP.depths]⟩]
  cases l <;> simp [eqE, toE, toEs, EP.eqv, EP.eqvs]
@[simp] theorem slOf_dct (k : List (D × D)) : slOf (.dct k) = .val (.dct k) := rfl
inductive Atm : D → Prop
  | non : Atm .non
  | bl (b : Bool) : Atm (.bl b)
  | int (i : Int) : Atm (.int i)
  | str (s : Str) : Atm (.str s)
theorem Atm.ok {d : D} (h : Atm d) : okE d = true ∧ (toE d).depth = 0 ∧ borFree d = true := by cases h <;> exact ⟨rfl, by simp [toE, EP.depth], rfl⟩
def isI : D → Option Int
  | .int i => some i
  | _ => none
def geB (d : D) (low : Int) : Bool := match isI d with | some i => decide (low ≤ i) | none => false
theorem is_number_is {d : D} {low : Int} {st : St1} (h : Atm d) : m_is_number [d, .int low] st = .ok (.bl (geB d low)) st := by
  refine eq_ok (w_fn ?_)
  unfold b_is_number
  cases h <;> simp [geB, isI]
/-! ### steps -/
abbrev eP (p : Int × Int) : D := .tup [.int p.1, .int p.2]
/-- the second one comes behind the first one, and is greater -/
def upP (b p : Int × Int) : Bool := decide (b.1 < p.1) && decide (b.2 < p.2)
/-- the first step that does not rise above the one before -/
def badP : Int × Int → List (Int × Int) → Option (Int × Int)
  | _, [] => none
  | b, p :: ps => if upP b p = true then badP p ps else some p
theorem is_number_int {i low : Int} {st : St1} : m_is_number [.int i, .int low] st = .ok (.bl (decide (low ≤ i))) st := by
  refine eq_ok (w_fn ?_)
  unfold b_is_number
  simp
theorem is_step_int {p b : Int × Int} {st : St1} : m_is_step [eP p, eP b] st = .ok (.bl (upP b p)) st := by
  refine eq_ok (w_fn ?_)
  unfold b_is_step
  have e : upP b p = (decide (b.1 + 1 ≤ p.1) && decide (b.2 + 1 ≤ p.2)) := by simp only [Int.add_one_le_iff]; rfl
  rw [e]
  generalize hx : decide (b.1 + 1 ≤ p.1) = x
  generalize hy : decide (b.2 + 1 ≤ p.2) = y
  repeat (first | with_reducible refine w_run ?_ | simp [is_number_int, hx, hy])
  cases x <;> simp
theorem init_is {xs : List (Int × Int)} {d : D} (hd : d = .lst (xs.map eP) ∨ d = .bor (xs.map eP)) {st : St1} {okf : List (Str × D) → St1 → Prop} {er : Exn → St1 → Prop}
    (h1 : 40 < xs.length → er ⟨"BadCount", "count", .int xs.length⟩ st) (h2 : xs.length ≤ 40 → ∀ p, badP (-1, 0) xs = some p → er ⟨"BadSteps", "value", eP p⟩ st)
    (h3 : xs.length ≤ 40 → badP (-1, 0) xs = none → okf [("pairs", .tup (xs.map eP))] st) : Sat (m_Cost_init [d] st) okf er := by
  refine w_fnI ?_
  unfold b_Cost_init
  have key : ∀ s1 : SV, itV (some s1) = some (xs.map eP) → ((slotD s1).bind fun d => o1 tupleD [d]) = some (.tup (xs.map eP)) → xs.length ≤ 40 → SatS (sSeq (sAsg (tgName 2) (PD.gTup (PD.gCons (gUn dNeg (gC (.int 1))) (PD.gCons (gC (.int 0)) PD.gNil))))
    (sSeq (sFor (gItV 1) (tgName 3) (sSeq (sIf (gNot (gB (gCall m_is_step (PD.gCons (gVar 3) (PD.gCons (gVar 2) PD.gNil))))) (sRaise "BadSteps" "value" (gVar 3)) sNext)
    (sAsg (tgName 2) (gVar 3))))
    (sPutF "Cost" "pairs" 0 (gCB (o1 tupleD) (PD.gCons (gVar 1) PD.gNil)))) [.obj "Cost" [], s1, .un, .un] st) (fnIK "Cost" okf er) := by
    intro s1 hi ht hl
    repeat (first | with_reducible refine w_run ?_ | simp [hi])
    refine w_loop eP (fun ps ρ st' => st' = st ∧ ∃ b s3, ρ = [.obj "Cost" [], s1, .val (eP b), s3] ∧ badP b ps = badP (-1, 0) xs) ?_ ?_ xs _ st ⟨rfl, (-1, 0), _, rfl, rfl⟩
    · rintro ρ st' ⟨rfl, b, s3, rfl, e⟩
      cases e1 : slotD s1 with
      | none => rw [e1] at ht; cases ht
      | some d =>
        rw [e1] at ht
        have ht : o1 tupleD [d] = some (.tup (xs.map eP)) := ht
        repeat (first | with_reducible refine w_run ?_ | simp [e1, ht, putD])
        exact h3 hl e.symm
    · rintro p ps ρ st' ⟨rfl, b, s3, rfl, e⟩
      refine ⟨_, rfl, ?_⟩
      simp [is_step_int]
      rw [badP] at e
      cases hb : upP b p with
      | true =>
        rw [hb, if_pos rfl] at e
        repeat (first | with_reducible refine w_run ?_ | simp [hb])
        exact ⟨p.1, p.2, by simp, e⟩
      | false =>
        rw [hb, if_neg (by decide)] at e
        repeat (first | with_reducible refine w_run ?_ | simp [hb])
        exact h2 hl p e.symm
  by_cases hl : 40 < xs.length
  · have hl' : (40 : Int) < xs.length := by omega
    rcases hd with rfl | rfl
    all_goals
      repeat (first | with_reducible refine w_run ?_ | simp [hl'])
      exact h1 hl
  · have hl' : ¬ (40 : Int) < xs.length := by omega
    rcases hd with rfl | rfl
    · refine w_seq ?_
      repeat (first | with_reducible refine w_run ?_ | simp [hl', -s_asg, -SatS.seq_iff])
      exact key (.val (.lst (xs.map eP))) rfl rfl (by omega)
    · refine w_seq ?_
      repeat (first | with_reducible refine w_run ?_ | simp [hl', -s_asg, -SatS.seq_iff])
      exact key (.bor (xs.map eP)) rfl rfl (by omega)

open PySem.SeqAt (EP)
abbrev pairsD (xs : List (Int × Int)) : D := .tup (xs.map eP)
abbrev costD (xs : List (Int × Int)) : D := .ins "Cost" [("pairs", pairsD xs)]
theorem tryK_ex {τ : Type} {known : List Str} {hs : List Hd} {k : Fl → τ → Prop} {c f : Str} {v : D} {ρ : Sl} {st : τ} (hc : c ∈ known) (h : SatS (caught hs ⟨c, f, v⟩ ρ st) k) : tryK known hs k (.ex ⟨c, f, v⟩ ρ) st := ⟨hc, h⟩
theorem caught_hit {τ : Type} {k : Fl → τ → Prop} {c f c' : Str} {v : D} {i : Option Nat} {g : D → Option D} {r : List Hd} {ρ : Sl} {st : τ} {d : D} (hm : mtX c c' = true) (hs : slotIn ρ i = true) (he : g v = some d) (h : k (.rt d) st) : SatS (caught (⟨c', f, i, g⟩ :: r) ⟨c, f, v⟩ ρ st) k := by
  show SatS (if mtX c c' = true then (if slotIn ρ i = true ∧ f = f then (g v).map fun d => (Fl.rt d, st) else none) else caught r ⟨c, f, v⟩ ρ st) k
  rw [if_pos hm, if_pos ⟨hs, rfl⟩, he]
  exact h
theorem caught_miss {τ : Type} {k : Fl → τ → Prop} {c f c' f' : Str} {v : D} {i : Option Nat} {g : D → Option D} {r : List Hd} {ρ : Sl} {st : τ} (hm : mtX c c' = false) (h : SatS (caught r ⟨c, f, v⟩ ρ st) k) : SatS (caught (⟨c', f', i, g⟩ :: r) ⟨c, f, v⟩ ρ st) k := by
  show SatS (if mtX c c' = true then _ else caught r ⟨c, f, v⟩ ρ st) k
  rw [if_neg (by rw [hm]; decide)]
  exact h
def atP (t : Int) (xs : List (Int × Int)) (m : Int) : Int := xs.foldl (fun a p => if p.1 ≤ t then p.2 else a) m
theorem law_at_is {xs : List (Int × Int)} {t : Int} {st : St1} : m_law_at [pairsD xs, .int t] st = .ok (.int (atP t xs 0)) st := by
  refine eq_ok (w_fn ?_)
  unfold b_law_at
  repeat (first | with_reducible refine w_run ?_ | simp)
  refine w_loop eP (fun ps ρ st' => st' = st ∧ ∃ (m : Int) (a3 a4 : SV), ρ = [.val (pairsD xs), .val (.int t), .val (.int m), a3, a4] ∧ atP t ps m = atP t xs 0) ?_ ?_ xs _ st ⟨rfl, 0, _, _, rfl, rfl⟩
  · rintro ρ st' ⟨rfl, m, a3, a4, rfl, e⟩
    repeat (first | with_reducible refine w_run ?_ | simp)
    exact e
  · rintro p ps ρ st' ⟨rfl, m, a3, a4, rfl, e⟩
    refine ⟨_, rfl, ?_⟩
    have e' : atP t ps (if p.1 ≤ t then p.2 else m) = atP t xs 0 := e
    by_cases h : p.1 ≤ t
    · rw [if_pos h] at e'
      repeat (first | with_reducible refine w_run ?_ | simp [h])
      exact e'
    · rw [if_neg h] at e'
      repeat (first | with_reducible refine w_run ?_ | simp [h])
      exact e'
theorem topI_at (t : Int) : ∀ (xs : List (Int × Int)) (b : Int × Int) (m : Int), badP b xs = none → m ≤ b.2 → topI m ((xs.filter fun p => decide (p.1 ≤ t)).map (·.2)) = atP t xs m
  | [], b, m, _, _ => rfl
  | p :: ps, b, m, hb, hm => by
    rw [badP] at hb
    cases hu : upP b p with
    | false => rw [hu] at hb; cases hb
    | true =>
      rw [hu, if_pos rfl] at hb
      have hu' := hu
      simp only [upP, Bool.and_eq_true, decide_eq_true_eq] at hu'
      by_cases h : p.1 ≤ t
      · have e : atP t (p :: ps) m = atP t ps p.2 := by simp [atP, h]
        rw [e, ← topI_at t ps p p.2 hb (Int.le_refl _)]
        have hlt : m < p.2 := by omega
        simp [h, topI, hlt]
      · have e : atP t (p :: ps) m = atP t ps m := by simp [atP, h]
        rw [e, ← topI_at t ps p m hb (by omega)]
        simp [h]
theorem intsOf_map {α : Type} (f : α → Int) : ∀ l : List α, intsOf (l.map fun x => .int (f x)) = some (l.map f)
  | [] => rfl
  | x :: l => by simp [intsOf, intsOf_map f l]
theorem o_max {α : Type} (f : α → Int) (m : Int) (l : List α) : o1 maxD [.lst (.int m :: l.map fun x => .int (f x))] = some (.int (topI m (l.map f))) := by
  have : intsOf (.int m :: l.map fun x => .int (f x)) = some (m :: l.map f) := by simp [intsOf, intsOf_map]
  show ((litems (.lst _)).bind intsOf).bind _ = _
  simp only [litems_lst, Option.bind_some, this]
theorem amount_at_is {xs : List (Int × Int)} {t : Int} {st : St1} (hl : xs.length ≤ 1000) (hb : badP (-1, 0) xs = none) : m_amount_at [pairsD xs, .int t] st = .ok (.int (atP t xs 0)) st := by
  refine eq_ok (w_fn ?_)
  unfold b_amount_at
  have hl2 : xs.length ≤ 16777216 := by omega
  repeat (first | with_reducible refine w_run ?_ | simp [hl2])
  refine w_lc_fm eP (fun p => decide (p.1 ≤ t)) (fun p => .int p.2) xs (fun p hp => ⟨_, rfl, ?_, fun _ => ?_⟩) ?_
  · simp
  · simp
  · have hf : (xs.filter fun p => decide (p.1 ≤ t)).length ≤ xs.length := List.length_filter_le ..
    have hm := o_max (fun p : Int × Int => p.2) 0 (xs.filter fun p => decide (p.1 ≤ t))
    rw [topI_at t xs (-1, 0) 0 hb (Int.le_refl _)] at hm
    simp [hm]
    refine ⟨⟨?_, by omega⟩, trivial⟩
    intro x a b _ _ h
    rw [← h]; rfl
theorem cost_at_is {xs : List (Int × Int)} {t : Int} {st : St1} (ht : 0 ≤ t) (hl : xs.length ≤ 1000) (hb : badP (-1, 0) xs = none) : m_Cost_at [costD xs, .int t] st = .ok (.int (atP t xs 0)) st := by
  refine eq_ok (w_fn ?_)
  unfold b_Cost_at
  have hn := is_number_is (low := 0) (st := st) (Atm.int t)
  have hg : geB (.int t) 0 = true := by simp [geB, isI, ht]
  repeat (first | with_reducible refine w_run ?_ | simp [hn, hg, amount_at_is hl hb])
/-! ### the latest time -/
def latP (t : Int) : List (Int × Int) → D
  | [] => .non
  | p :: ps => if t < p.2 then .int (p.1 - 1) else latP t ps
theorem cost_latest_is {xs : List (Int × Int)} {t : Int} {st : St1} (ht : 0 ≤ t) : m_Cost_latest [costD xs, .int t] st = .ok (latP t xs) st := by
  refine eq_ok (w_fn ?_)
  unfold b_Cost_latest
  have hn := is_number_is (low := 0) (st := st) (Atm.int t)
  have hg : geB (.int t) 0 = true := by simp [geB, isI, ht]
  repeat (first | with_reducible refine w_run ?_ | simp [hn, hg])
  refine w_loop eP (fun ps ρ st' => st' = st ∧ ∃ (a3 a4 : SV), ρ = [.val (costD xs), .val (.int t), a3, a4] ∧ latP t ps = latP t xs) ?_ ?_ xs _ st ⟨rfl, _, _, rfl, rfl⟩
  · rintro ρ st' ⟨rfl, a3, a4, rfl, e⟩
    repeat (first | with_reducible refine w_run ?_ | simp)
    exact e
  · rintro p ps ρ st' ⟨rfl, a3, a4, rfl, e⟩
    refine ⟨_, rfl, ?_⟩
    rw [latP] at e
    by_cases h : t < p.2
    · rw [if_pos h] at e
      repeat (first | with_reducible refine w_run ?_ | simp [h])
      exact e
    · rw [if_neg h] at e
      repeat (first | with_reducible refine w_run ?_ | simp [h])
      exact e

open PySem.SeqAt (EP)
/-! ### the times of two rows of steps -/
def ts (xs ys : List (Int × Int)) : List Int := sortU ((xs ++ ys).map (·.1))
theorem sortD_ints (l : List Int) : sortD (l.map D.int) = (sortU l).map D.int := by
  have : (l.map D.int).map ival = l := by
    rw [List.map_map]
    conv => rhs; rw [← List.map_id l]
    rfl
  rw [sortD, this]
theorem insU_len (x : Int) : ∀ l : List Int, (insU x l).length ≤ l.length + 1
  | [] => by simp [insU]
  | y :: ys => by
    rw [insU]
    split
    · simp
    · split
      · simp
      · have := insU_len x ys; simp; omega
theorem sortU_len : ∀ l : List Int, (sortU l).length ≤ l.length
  | [] => by simp [sortU]
  | x :: xs => by
    have := insU_len x (sortU xs)
    have := sortU_len xs
    rw [sortU]; simp; omega
theorem ts_len (xs ys : List (Int × Int)) : (ts xs ys).length ≤ xs.length + ys.length := by
  have := sortU_len ((xs ++ ys).map (·.1))
  simpa [ts] using this
abbrev mom (xs ys : List (Int × Int)) (t : Int) : D := .tup [.int t, .int (atP t xs 0), .int (atP t ys 0)]
theorem moments_is {xs ys : List (Int × Int)} {st : St1} (hx : xs.length ≤ 1000) (hy : ys.length ≤ 1000) (bx : badP (-1, 0) xs = none) (bY : badP (-1, 0) ys = none) : m_moments [pairsD xs, pairsD ys] st = .ok (.lst ((ts xs ys).map (mom xs ys))) st := by
  refine eq_ok (w_fn ?_)
  unfold b_moments
  have hadd : dAdd (pairsD xs) (pairsD ys) = some (.tup ((xs ++ ys).map eP)) := by rw [List.map_append]; exact o_addT (by rw [line_val]; simp; omega)
  repeat (first | with_reducible refine w_run ?_ | simp [hadd, -List.map_append])
  refine Ask.mk (by first | omega | (simp; omega)) ?_
  refine w_lc_map eP (fun p => .int p.1) (xs ++ ys) (fun p hp => ⟨_, rfl, ?_⟩) ?_
  · simp
  · have e : sortD ((xs ++ ys).map fun p => D.int p.1) = (ts xs ys).map D.int := by
      have := sortD_ints ((xs ++ ys).map (·.1))
      rw [List.map_map] at this
      exact this
    have hl := ts_len xs ys
    have hl2 : (ts xs ys).length ≤ 16777216 := by omega
    rw [e]
    repeat (first | with_reducible refine w_run ?_ | simp [hl2])
    have a1 : ∀ t : Int, m_amount_at [pairsD xs, .int t] st = .ok (.int (atP t xs 0)) st := fun t => amount_at_is hx bx
    have a2 : ∀ t : Int, m_amount_at [pairsD ys, .int t] st = .ok (.int (atP t ys 0)) st := fun t => amount_at_is hy bY
    refine w_lc_map D.int (mom xs ys) (ts xs ys) (fun t ht => ⟨_, rfl, ?_⟩) ?_
    · have a1 := a1 t
      have a2 := a2 t
      repeat (first | with_reducible refine w_run ?_ | simp [a1, a2])
    · exact ⟨rfl, rfl⟩
/-! ### rising -/
def riseL : Int → List (Int × Int) → List (Int × Int)
  | _, [] => []
  | m, p :: ps => if m < p.2 then p :: riseL p.2 ps else riseL m ps
theorem riseL_len (m : Int) : ∀ l : List (Int × Int), (riseL m l).length ≤ l.length
  | [] => Nat.le_refl _
  | p :: ps => by
    rw [riseL]
    split
    · have := riseL_len p.2 ps; simp; omega
    · have := riseL_len m ps; simp; omega
theorem topI_snoc (x : Int) : ∀ (l : List Int) (m : Int), topI m (l ++ [x]) = if topI m l < x then x else topI m l
  | [], m => by by_cases h : m < x <;> simp [topI, h]
  | y :: ys, m => by simp only [List.cons_append, topI]; exact topI_snoc x ys _
theorem rising_is {l : List (Int × Int)} {st : St1} (hl : l.length ≤ 1000) : m_rising [.lst (l.map eP)] st = .ok (.lst ((riseL 0 l).map eP)) st := by
  refine eq_ok (w_fn ?_)
  unfold b_rising
  repeat (first | with_reducible refine w_run ?_ | simp)
  refine w_loop eP (fun ps ρ st' => st' = st ∧ ∃ (fs : List (Int × Int)) (a2 a3 a4 : SV), ρ = [.val (.lst (l.map eP)), .own (fs.map eP), a2, a3, a4] ∧ fs ++ riseL (topI 0 (fs.map (·.2))) ps = riseL 0 l ∧ fs.length + ps.length ≤ 1000) ?_ ?_ l _ st ⟨rfl, [], _, _, _, rfl, rfl, by simpa using hl⟩
  · rintro ρ st' ⟨rfl, fs, a2, a3, a4, rfl, e, -⟩
    have e2 : fs = riseL 0 l := by rw [← e]; simp [riseL]
    repeat (first | with_reducible refine w_run ?_ | simp)
    rw [e2]
  · rintro p ps ρ st' ⟨rfl, fs, a2, a3, a4, rfl, e, hn⟩
    simp only [List.length_cons] at hn
    refine ⟨_, rfl, ?_⟩
    have hfl : fs.length ≤ 16777216 := by omega
    repeat (first | with_reducible refine w_run ?_ | simp [hfl])
    refine w_lc_map eP (fun p => .int p.2) fs (fun p hp => ⟨_, rfl, ?_⟩) ?_
    · simp
    · have hm := o_max (fun p : Int × Int => p.2) 0 fs
      have e' := e
      rw [riseL] at e'
      have hfl2 : fs.length + 1 ≤ 16777216 := by omega
      have hfl3 : fs.length < 16777216 := by omega
      by_cases h : topI 0 (fs.map (·.2)) < p.2
      · rw [if_pos h] at e'
        repeat (first | with_reducible refine w_run ?_ | simp [hm, h, hfl2, hfl3])
        refine Ask.mk ⟨fun x a b _ h => by rw [← h]; rfl, by omega⟩ ?_
        repeat (first | with_reducible refine w_run ?_ | simp [hfl3])
        refine ⟨fs ++ [p], by simp, ?_, by simp; omega⟩
        rw [List.map_append, List.map_singleton, topI_snoc, if_pos h, ← e', List.append_assoc]
        rfl
      · rw [if_neg h] at e'
        repeat (first | with_reducible refine w_run ?_ | simp [hm, h, hfl2, hfl3])
        refine Ask.mk ⟨fun x a b _ h => by rw [← h]; rfl, by omega⟩ ?_
        repeat (first | with_reducible refine w_run ?_ | simp)
        exact ⟨fs, rfl, e', by omega⟩

open PySem.SeqAt (EP)
/-- two costs joined: the steps of both, with the sum or the greater one -/
def joined (g : Int → Int → Int) (xs ys : List (Int × Int)) : List (Int × Int) := riseL 0 ((ts xs ys).map fun t => (t, g (atP t xs 0) (atP t ys 0)))
theorem joined_len (g : Int → Int → Int) (xs ys : List (Int × Int)) : (joined g xs ys).length ≤ xs.length + ys.length := by
  have h := riseL_len 0 ((ts xs ys).map fun t => (t, g (atP t xs 0) (atP t ys 0)))
  have := ts_len xs ys
  rw [List.length_map] at h
  exact Nat.le_trans h this
theorem badP_rise : ∀ (l : List (Int × Int)) (b : Int × Int), (l.map (·.1)).Pairwise (· < ·) → (∀ p ∈ l, b.1 < p.1) → badP b (riseL b.2 l) = none
  | [], _, _, _ => rfl
  | p :: ps, b, h, hb => by
    rw [List.map_cons] at h
    obtain ⟨h1, h2⟩ := List.pairwise_cons.mp h
    rw [riseL]
    split
    · rename_i hlt
      rw [badP]
      have hu : upP b p = true := by
        have := hb p (.head _)
        simp [upP]; omega
      rw [if_pos hu]
      exact badP_rise ps p h2 fun q hq => h1 _ (List.mem_map_of_mem hq)
    · exact badP_rise ps b h2 fun q hq => hb q (.tail _ hq)
theorem time_pos : ∀ {xs : List (Int × Int)} {b : Int × Int}, badP b xs = none → ∀ p ∈ xs, b.1 < p.1
  | x :: xs, b, h, p, hp => by
    rw [badP] at h
    cases hu : upP b x with
    | false => rw [hu] at h; cases h
    | true =>
      rw [hu, if_pos rfl] at h
      have hlt : b.1 < x.1 := by simp [upP] at hu; exact hu.1
      rcases List.mem_cons.mp hp with rfl | hp
      · exact hlt
      · exact Int.lt_trans hlt (time_pos h p hp)
theorem joined_ok (g : Int → Int → Int) {xs ys : List (Int × Int)} (bx : badP (-1, 0) xs = none) (bY : badP (-1, 0) ys = none) : badP (-1, 0) (joined g xs ys) = none := by
  refine badP_rise _ (-1, 0) ?_ fun p hp => ?_
  · have e : ((ts xs ys).map fun t => (t, g (atP t xs 0) (atP t ys 0))).map (·.1) = ts xs ys := by
      rw [List.map_map]
      conv => rhs; rw [← List.map_id (ts xs ys)]
      rfl
    rw [e]
    exact sortU_lt _
  · obtain ⟨t, ht, rfl⟩ := List.mem_map.mp hp
    have ht := (mem_sortU t _).mp ht
    obtain ⟨q, hq, rfl⟩ := List.mem_map.mp ht
    rcases List.mem_append.mp hq with hq | hq
    · exact time_pos bx q hq
    · exact time_pos bY q hq
theorem cost_join {g : Int → Int → Int} {m : List D → St1 → Res St1 D} {e : GE St1} {xs ys : List (Int × Int)} {st : St1} (hx : xs.length ≤ 1000) (hy : ys.length ≤ 1000) (hxy : xs.length + ys.length ≤ 1000) (bx : badP (-1, 0) xs = none) (bY : badP (-1, 0) ys = none)
    (hm : m = gFn 5 (sRet (gMake "Cost" m_Cost_init (PD.gCons (gCall m_rising (PD.gCons (gFz (gLc (gIt (gCall m_moments (PD.gCons (gSelf "Cost" "pairs" 0) (PD.gCons (gFld "Cost" "pairs" (gVar 1)) PD.gNil)))) (tgTup 3 (tgCons (tgName 2) (tgCons (tgName 3) (tgCons (tgName 4) tgNil)))) gYes e [2, 3, 4])) PD.gNil)) PD.gNil))))
    (he : ∀ t : Int, ∀ a0 a1 : SV, Sat (e [a0, a1, .val (.int t), .val (.int (atP t xs 0)), .val (.int (atP t ys 0))] st) (fun y st' => y = .tup [.int t, .int (g (atP t xs 0) (atP t ys 0))] ∧ borFree y = true ∧ st' = st) (fun _ _ => False))
    {ok : D → St1 → Prop} {er : Exn → St1 → Prop} (h1 : 40 < (joined g xs ys).length → er ⟨"BadCount", "count", .int (joined g xs ys).length⟩ st) (h2 : (joined g xs ys).length ≤ 40 → ok (costD (joined g xs ys)) st) : Sat (m [costD xs, costD ys] st) ok er := by
  subst hm
  refine w_fn ?_
  have hsl : ∀ zs : List (Int × Int), slOf (costD zs) = .val (costD zs) := fun _ => rfl
  have hmo := moments_is (st := st) hx hy bx bY
  have hl := ts_len xs ys
  have hl2 : (ts xs ys).length ≤ 16777216 := by omega
  repeat (first | with_reducible refine w_run ?_ | simp [hmo, hl2])
  refine w_lc_map (mom xs ys) (fun t => .tup [.int t, .int (g (atP t xs 0) (atP t ys 0))]) (ts xs ys) (fun t ht => ⟨_, rfl, he t _ _⟩) ?_
  have hr := rising_is (l := (ts xs ys).map fun t => (t, g (atP t xs 0) (atP t ys 0))) (st := st) (by simp; omega)
  rw [List.map_map] at hr
  have hr' : m_rising [D.lst (List.map (fun t => D.tup [D.int t, D.int (g (atP t xs 0) (atP t ys 0))]) (ts xs ys))] st = .ok (.lst ((joined g xs ys).map eP)) st := hr
  rw [hr']
  refine init_is (.inl rfl) (fun h => h1 h) (fun _ p hp => by rw [joined_ok g bx bY] at hp; cases hp) fun h _ => h2 h
theorem cost_add_is {xs ys : List (Int × Int)} {st : St1} (hx : xs.length ≤ 1000) (hy : ys.length ≤ 1000) (hxy : xs.length + ys.length ≤ 1000) (bx : badP (-1, 0) xs = none) (bY : badP (-1, 0) ys = none)
    {ok : D → St1 → Prop} {er : Exn → St1 → Prop} (h1 : 40 < (joined (· + ·) xs ys).length → er ⟨"BadCount", "count", .int (joined (· + ·) xs ys).length⟩ st) (h2 : (joined (· + ·) xs ys).length ≤ 40 → ok (costD (joined (· + ·) xs ys)) st) : Sat (m_Cost_add [costD xs, costD ys] st) ok er :=
  cost_join (e := PD.gTup (PD.gCons (gVar 2) (PD.gCons (gBin dAdd (gVar 3) (gVar 4)) PD.gNil))) hx hy hxy bx bY rfl (fun t a0 a1 => by simp) h1 h2
def top2 (a b : Int) : Int := if b > a then b else a
theorem cost_or_is {xs ys : List (Int × Int)} {st : St1} (hx : xs.length ≤ 1000) (hy : ys.length ≤ 1000) (hxy : xs.length + ys.length ≤ 1000) (bx : badP (-1, 0) xs = none) (bY : badP (-1, 0) ys = none)
    {ok : D → St1 → Prop} {er : Exn → St1 → Prop} (h1 : 40 < (joined top2 xs ys).length → er ⟨"BadCount", "count", .int (joined top2 xs ys).length⟩ st) (h2 : (joined top2 xs ys).length ≤ 40 → ok (costD (joined top2 xs ys)) st) : Sat (m_Cost_or [costD xs, costD ys] st) ok er :=
  cost_join (e := PD.gTup (PD.gCons (gVar 2) (PD.gCons (gCB max2D (PD.gCons (gVar 3) (PD.gCons (gVar 4) PD.gNil))) PD.gNil))) hx hy hxy bx bY rfl (fun t a0 a1 => by simp [max2D, top2]) h1 h2

open PySem.SeqAt (EP)
theorem law_at_l {xs : List (Int × Int)} {t : Int} {st : St1} : m_law_at [.lst (xs.map eP), .int t] st = .ok (.int (atP t xs 0)) st := by
  refine eq_ok (w_fn ?_)
  unfold b_law_at
  repeat (first | with_reducible refine w_run ?_ | simp)
  refine w_loop eP (fun ps ρ st' => st' = st ∧ ∃ (m : Int) (a3 a4 : SV), ρ = [.val (.lst (xs.map eP)), .val (.int t), .val (.int m), a3, a4] ∧ atP t ps m = atP t xs 0) ?_ ?_ xs _ st ⟨rfl, 0, _, _, rfl, rfl⟩
  · rintro ρ st' ⟨rfl, m, a3, a4, rfl, e⟩
    repeat (first | with_reducible refine w_run ?_ | simp)
    exact e
  · rintro p ps ρ st' ⟨rfl, m, a3, a4, rfl, e⟩
    refine ⟨_, rfl, ?_⟩
    have e' : atP t ps (if p.1 ≤ t then p.2 else m) = atP t xs 0 := e
    by_cases h : p.1 ≤ t
    · rw [if_pos h] at e'
      repeat (first | with_reducible refine w_run ?_ | simp [h])
      exact e'
    · rw [if_neg h] at e'
      repeat (first | with_reducible refine w_run ?_ | simp [h])
      exact e'
def lastA (fs : List (Int × Int)) : Int := match fs.getLast? with
  | some q => q.2
  | none => 0
/-- the sum, or the greater one -/
def comb (w : Nat) : Int → Int → Int := if w = 0 then (· + ·) else top2
theorem okEs_pairs (fs : List (Int × Int)) : okEs (fs.map eP) = true := okEs_all fun d hd => by
  obtain ⟨p, _, rfl⟩ := List.mem_map.mp hd
  rfl
theorem law_joined_is {xs ys : List (Int × Int)} {w : Nat} {st : St1} (hw : w < 2) (hx : xs.length ≤ 500) (hy : ys.length ≤ 500) : m_law_joined [.lst (xs.map eP), .lst (ys.map eP), .int (w : Int)] st = .ok (.lst ((joined (comb w) xs ys).map eP)) st := by
  refine eq_ok (w_fn ?_)
  unfold b_law_joined
  have hadd : dAdd (.lst (xs.map eP)) (.lst (ys.map eP)) = some (.lst ((xs ++ ys).map eP)) := by rw [List.map_append]; exact o_addL (by rw [line_val]; simp; omega)
  have hll : (xs ++ ys).length ≤ 16777216 := by simp; omega
  repeat (first | with_reducible refine w_run ?_ | simp [hadd, -List.map_append])
  refine Ask.mk (by first | omega | (simp; omega)) ?_
  refine w_lc_map eP (fun p => .int p.1) (xs ++ ys) (fun p hp => ⟨_, rfl, ?_⟩) ?_
  · simp
  · have hi : intsOf ((xs ++ ys).map fun p => D.int p.1) = some ((xs ++ ys).map (·.1)) := intsOf_map (fun p : Int × Int => p.1) (xs ++ ys)
    repeat (first | with_reducible refine w_run ?_ | simp [hi, -List.map_append])
    have hl := ts_len xs ys
    refine Ask.mk (by omega) ?_
    let F : Int → Int × Int := fun t => (t, comb w (atP t xs 0) (atP t ys 0))
    refine w_loop D.int (fun us ρ st' => st' = st ∧ ∃ (fs : List (Int × Int)) (a4 a5 a6 a7 : SV), ρ = [.val (.lst (xs.map eP)), .val (.lst (ys.map eP)), .val (.int (w : Int)), .own (fs.map eP), a4, a5, a6, a7] ∧ fs ++ riseL (lastA fs) (us.map F) = joined (comb w) xs ys ∧ fs.length + us.length ≤ 1000) ?_ ?_ (ts xs ys) _ st ⟨rfl, [], _, _, _, _, rfl, rfl, by simp; omega⟩
    · rintro ρ st' ⟨rfl, fs, a4, a5, a6, a7, rfl, e, -⟩
      have e2 : fs = joined (comb w) xs ys := by rw [← e]; simp [riseL]
      repeat (first | with_reducible refine w_run ?_ | simp)
      rw [e2]
    · rintro t us ρ st' ⟨rfl, fs, a4, a5, a6, a7, rfl, e, hn⟩
      simp only [List.length_cons] at hn
      refine ⟨_, rfl, ?_⟩
      have c1 := law_at_l (xs := xs) (t := t) (st := st')
      have c2 := law_at_l (xs := ys) (t := t) (st := st')
      generalize hA : atP t xs 0 = A at c1
      generalize hB : atP t ys 0 = B at c2
      have hs : o1 sumD [.lst [.int A, .int B]] = some (.int (A + B)) := by
        show some (D.int _) = _
        congr 2
        simp
      have hm : o1 maxD [.lst [.int A, .int B]] = some (.int (top2 A B)) := rfl
      have hixw : ixD (.lst [.int (A + B), .int (top2 A B)]) (.int (w : Int)) = some (.int (comb w A B)) := by
        have : w = 0 ∨ w = 1 := by omega
        rcases this with rfl | rfl <;> rfl
      have hF : F t = (t, comb w A B) := by rw [← hA, ← hB]
      rw [List.map_cons, hF] at e
      generalize comb w A B = c at e hixw
      have hfl3 : fs.length < 16777216 := by omega
      have hnil := g_neBNil (okEs_pairs fs)
      have hnil2 : dEqG (.bor (fs.map eP)) (.lst []) = some (.bl (fs.map eP).isEmpty) := by
        rw [g_eq ⟨by simpa [okE] using okEs_pairs fs, rfl, by simp [toE, toEs, EP.depth, EP.depths]⟩]
        cases fs <;> simp [eqE, toE, toEs, EP.eqv, EP.eqvs]
      rw [riseL] at e
      rcases List.eq_nil_or_concat fs with rfl | ⟨gs, q, rfl⟩
      · have n1 : dEqG (.bor []) (.lst []) = some (.bl true) := hnil2
        have n2 : dNeG (.bor []) (.lst []) = some (.bl false) := hnil
        have el : lastA [] = 0 := rfl
        rw [el] at e
        by_cases h : 0 < c
        · rw [if_pos h] at e
          repeat (first | with_reducible refine w_run ?_ | simp [c1, c2, hs, hm, hixw, n1, n2, h, -ixD_lI])
          exact ⟨[(t, c)], by simp, e, by simp; omega⟩
        · rw [if_neg h] at e
          repeat (first | with_reducible refine w_run ?_ | simp [c1, c2, hs, hm, hixw, n1, n2, h, -ixD_lI])
          exact ⟨e, by simp at hn ⊢; omega⟩
      · simp only [List.concat_eq_append] at *
        have em : (gs ++ [q]).map eP = gs.map eP ++ [eP q] := by simp
        rw [em] at hnil hnil2
        have n1 : dEqG (.bor (gs.map eP ++ [eP q])) (.lst []) = some (.bl false) := by rw [hnil2]; simp
        have n2 : dNeG (.bor (gs.map eP ++ [eP q])) (.lst []) = some (.bl true) := by rw [hnil]; simp
        have el : lastA (gs ++ [q]) = q.2 := by simp [lastA]
        have hat : L2.atI (gs.map eP ++ [eP q]) (-1) = some (eP q) := by
          have : L2.ixN (gs.map eP ++ [eP q]).length (-1) = some gs.length := by
            simp only [L2.ixN, List.length_append, List.length_map, List.length_singleton]
            rw [if_neg (by decide), if_pos (by omega)]
            congr 1
            omega
          simp only [L2.atI, this]
          simp
        rw [el] at e
        simp only [List.length_append, List.length_singleton] at hn hfl3
        by_cases h : q.2 < c
        · rw [if_pos h] at e
          repeat (first | with_reducible refine w_run ?_ | simp [c1, c2, hs, hm, hixw, n1, n2, hat, h, -ixD_lI])
          refine Ask.mk (by omega) ⟨gs ++ [q, (t, c)], by simp, ?_, by simp; omega⟩
          have el2 : lastA (gs ++ [q, (t, c)]) = c := by simp [lastA]
          rw [el2, ← e]
          simp
        · rw [if_neg h] at e
          repeat (first | with_reducible refine w_run ?_ | simp [c1, c2, hs, hm, hixw, n1, n2, hat, h, -ixD_lI])
          exact ⟨gs ++ [q], by simp, by rw [el]; exact e, by simp; omega⟩

open PySem.SeqAt (EP)
theorem ts_comm (xs ys : List (Int × Int)) : ts xs ys = ts ys xs := lt_unique (sortU_lt _) (sortU_lt _) fun k => by
  rw [ts, ts, mem_sortU, mem_sortU, List.map_append, List.map_append, List.mem_append, List.mem_append]
  exact Or.comm
theorem top2_comm (a b : Int) : top2 a b = top2 b a := by
  unfold top2
  split <;> split <;> omega
theorem comb_comm (w : Nat) (a b : Int) : comb w a b = comb w b a := by
  unfold comb
  split
  · exact Int.add_comm a b
  · exact top2_comm a b
theorem joined_comm (w : Nat) (xs ys : List (Int × Int)) : joined (comb w) xs ys = joined (comb w) ys xs := by
  unfold joined
  rw [ts_comm xs ys]
  congr 1
  exact List.map_congr_left fun t _ => by rw [comb_comm]
theorem steps_is {xs : List (Int × Int)} {st : St1} : m_Cost_steps [costD xs] st = .ok (pairsD xs) st := by
  refine eq_ok (w_fn ?_)
  unfold b_Cost_steps
  repeat (first | with_reducible refine w_run ?_ | simp)
/-- what is due -/
def dueJ (zs : List (Int × Int)) : D := if 40 < zs.length then .tup [.str "count", .int zs.length] else .tup [.str "told", pairsD zs]
theorem law_told_is {xs ys : List (Int × Int)} {w : Nat} {st : St1} (hw : w < 2) (hx : xs.length ≤ 500) (hy : ys.length ≤ 500) (bx : badP (-1, 0) xs = none) (bY : badP (-1, 0) ys = none) : m_law_told [.int (w : Int), costD xs, costD ys] st = .ok (dueJ (joined (comb w) xs ys)) st := by
  refine eq_ok (w_fn ?_)
  unfold b_law_told
  have m3 : mtX "BadCount" "BadCount" = true := by decide +kernel
  have k2 : ("BadCount" : Str) ∈ (["BadCount", "BadText", "BadNumber", "BadSteps"] : List Str) := by decide +kernel
  have hsl : ∀ zs : List (Int × Int), slOf (costD zs) = .val (costD zs) := fun _ => rfl
  have hic : ∀ zs : List (Int × Int), isC "Cost" (costD zs) = true := fun zs => by simp [isC]
  have : w = 0 ∨ w = 1 := by omega
  rcases this with rfl | rfl
  · rw [show comb 0 = (fun x1 x2 => x1 + x2) from rfl]
    repeat (first | with_reducible refine w_run ?_ | simp [hsl])
    refine Ask.mk ⟨hic _, hic _⟩ ?_
    refine cost_add_is (by omega) (by omega) (by omega) bx bY (fun h => ?_) (fun h => ?_)
    · exact tryK_ex k2 (caught_hit m3 rfl rfl (by show _ ∧ _; rw [dueJ, if_pos h]; exact ⟨rfl, rfl⟩))
    · have h40 : ¬ 40 < (joined (fun x1 x2 => x1 + x2) xs ys).length := by omega
      have hst := steps_is (xs := joined (fun x1 x2 => x1 + x2) xs ys) (st := st)
      repeat (first | with_reducible refine w_run ?_ | simp [hst])
      rw [dueJ, if_neg h40]
  · rw [show comb 1 = top2 from rfl]
    repeat (first | with_reducible refine w_run ?_ | simp [hsl])
    refine Ask.mk ⟨hic _, hic _⟩ ?_
    refine cost_or_is (by omega) (by omega) (by omega) bx bY (fun h => ?_) (fun h => ?_)
    · exact tryK_ex k2 (caught_hit m3 rfl rfl (by show _ ∧ _; rw [dueJ, if_pos h]; exact ⟨rfl, rfl⟩))
    · have h40 : ¬ 40 < (joined top2 xs ys).length := by omega
      have hst := steps_is (xs := joined top2 xs ys) (st := st)
      repeat (first | with_reducible refine w_run ?_ | simp [hst])
      rw [dueJ, if_neg h40]

open PySem.SeqAt (EP)
theorem nat_of {r n : Int} (h0 : 0 ≤ r) (h1 : r < n) : ∃ k : Nat, r = k ∧ (k : Int) < n := ⟨r.toNat, by omega, by omega⟩
theorem law_shuffled_is {st : St1} {k : Nat} {l : List D} {dl : D} (hdl : dl = .lst l) (hl : l.length ≤ 1000) (hb : ∀ d ∈ l, borFree d = true) (hk : Ok (k + l.length) st) {okl : List D → St1 → Prop} {er : Exn → St1 → Prop}
    (q : ∀ l' st', (∀ d ∈ l', d ∈ l) → l'.length ≤ l.length → Ok k st' → okl l' st') : Sat (m_law_shuffled [.state, dl] st) okl er := by
  refine w_fnN ?_
  unfold b_law_shuffled
  have hr : rng1 [D.int (l.length : Int)] = some (rangeD 0 l.length) := by
    simp only [rng1, Int.toNat_natCast]
    rw [if_pos ⟨by omega, by omega⟩]
  have hsl : slOf dl = .val dl := by rw [hdl]; rfl
  repeat (first | with_reducible refine w_run ?_ | simp [hsl, hdl, hr])
  refine w_loop (fun i : Nat => D.int (0 + (i : Int))) (fun js ρ st' => ∃ (left told : List D) (a4 : SV), ρ = [.val .state, .val (.lst l), .own left, .own told, a4] ∧ left.length = js.length ∧ told.length + left.length = l.length ∧ (∀ d ∈ left, d ∈ l) ∧ (∀ d ∈ told, d ∈ l) ∧ Ok (k + js.length) st') ?_ ?_ (List.range l.length) _ st ⟨l, [], _, rfl, by simp, by simp, fun _ h => h, nofun, by simpa using hk⟩
  · rintro ρ st' ⟨left, told, a4, rfl, h1, h2, h3, h4, h5⟩
    repeat (first | with_reducible refine w_run ?_ | simp)
    exact q _ _ h4 (by omega) (by simpa using h5)
  · rintro j js ρ st' ⟨left, told, a4, rfl, h1, h2, h3, h4, h5⟩
    refine ⟨_, rfl, ?_⟩
    simp only [List.length_cons] at h1 h5
    repeat (first | with_reducible refine w_run ?_ | simp [s_appPop (i := 3) (j := 2) (by decide)])
    refine sat_draw (k := k + js.length) (h5.le (by omega)) (by omega) (by omega) fun r st'' a b hk => ?_
    obtain ⟨z, rfl, b⟩ := nat_of a b
    have hz : z < left.length := by omega
    have hget : left[(z : Int).toNat]? = some left[z] := by rw [Int.toNat_natCast]; exact List.getElem?_eq_getElem hz
    refine Got.mk rfl (Ask.mk ⟨by omega, by omega, by omega⟩ (Got.mk hget ⟨_, _, ⟨rfl, rfl⟩, ?_, ?_, fun d hd => h3 d (List.mem_of_mem_eraseIdx hd), fun d hd => ?_, hk⟩))
    · rw [Int.toNat_natCast, List.length_eraseIdx_of_lt hz]; omega
    · rw [Int.toNat_natCast, List.length_eraseIdx_of_lt hz]; simp; omega
    · rcases List.mem_append.mp hd with hd | hd
      · exact h4 d hd
      · have e := List.mem_singleton.mp hd
        rw [e]; exact h3 _ (List.getElem_mem hz)
theorem badP_snoc {p p' : Int × Int} (hu : upP p p' = true) : ∀ (xs : List (Int × Int)) (b : Int × Int), badP b (xs ++ [p]) = none → badP b (xs ++ [p, p']) = none
  | [], b, h => by
    simp only [List.nil_append, badP] at h ⊢
    cases e : upP b p with
    | false => rw [e] at h; cases h
    | true => rw [if_pos rfl, hu, if_pos rfl]
  | x :: xs, b, h => by
    simp only [List.cons_append, badP] at h ⊢
    cases e : upP b x with
    | false => rw [e] at h; cases h
    | true =>
      rw [e, if_pos rfl] at h
      rw [if_pos rfl]
      exact badP_snoc hu xs x h
abbrev POk (p : Int × Int) : Prop := 0 ≤ p.1 ∧ p.1 < 10 ^ 31 ∧ 0 ≤ p.2 ∧ p.2 < 10 ^ 31
theorem p9 : dPow (.int 10) (.int 9) = some (.int 1000000000) := by rw [o_pow (by decide)]; rfl
theorem p20 : dPow (.int 10) (.int 20) = some (.int 100000000000000000000) := by rw [o_pow (by decide)]; rfl
theorem three {r : Int} (h0 : 0 ≤ r) (h1 : r < 3) : r = 0 ∨ r = 1 ∨ r = 2 := by omega
theorem steps_drawn {st : St1} {k : Nat} (hk : Ok (k + 40) st) {okl : List D → St1 → Prop} {er : Exn → St1 → Prop}
    (q : ∀ xs st', (∀ p ∈ xs, POk p) → xs.length ≤ 6 → badP (-1, 0) xs = none → Ok k st' → okl (xs.map eP) st') : Sat (m_law_steps [.state] st) okl er := by
  refine w_fnN ?_
  unfold b_law_steps
  repeat (first | with_reducible refine w_run ?_ | simp)
  refine sat_draw (k := k + 39) hk (by decide) (by decide) fun r1 st1 a1 b1 hk => ?_
  have hs : ∃ n : Nat, L2.atI [D.int 2, D.int 4, D.int 7] r1 = some (.int n) ∧ 0 < n ∧ n ≤ 7 := by
    rcases three a1 b1 with rfl | rfl | rfl
    · exact ⟨2, rfl, by decide, by decide⟩
    · exact ⟨4, rfl, by decide, by decide⟩
    · exact ⟨7, rfl, by decide, by decide⟩
  obtain ⟨n, hn, n0, n7⟩ := hs
  repeat (first | with_reducible refine w_run ?_ | simp [hn])
  refine sat_draw (k := k + 38) hk (by omega) (by omega) fun r2 st2 a2 b2 hk => ?_
  obtain ⟨c, rfl, b2⟩ := nat_of a2 b2
  have hr : rng1 [D.int (c : Int)] = some (rangeD 0 c) := by
    simp only [rng1, Int.toNat_natCast]
    rw [if_pos ⟨by omega, by omega⟩]
  repeat (first | with_reducible refine w_run ?_ | simp [hr])
  refine w_loop (fun i : Nat => D.int (0 + (i : Int))) (fun js ρ st' => ∃ (done : List (Int × Int)) (tm am : Int) (a2 : SV), ρ = [.val .state, .own (done.map eP), a2, .val (.int tm), .val (.int am)] ∧ done.length + js.length ≤ 6 ∧ badP (-1, 0) done = none ∧ (∀ p, upP (tm, am) p = true → badP (-1, 0) (done ++ [p]) = none) ∧
    -1 ≤ tm ∧ tm ≤ done.length * 1000000001 ∧ 0 ≤ am ∧ am ≤ done.length * 100000000000000000001 ∧ (∀ p ∈ done, POk p) ∧ Ok (k + 4 * js.length) st') ?_ ?_ (List.range c) _ st2 ⟨[], -1, 0, _, rfl, by simp; omega, rfl, fun p hp => by simp [badP, hp], by omega, by simp, by omega, by simp, nofun, hk.le (by simp; omega)⟩
  · rintro ρ st' ⟨done, tm, am, a2, rfl, h1, h2, -, -, -, -, -, h8, h9⟩
    repeat (first | with_reducible refine w_run ?_ | simp)
    exact q _ _ h8 (by simpa using h1) h2 (by simpa using h9)
  · rintro j js ρ st' ⟨done, tm, am, a2, rfl, h1, h2, h3, h4, h5, h6, h7, h8, h9⟩
    refine ⟨_, rfl, ?_⟩
    simp only [List.length_cons] at h1 h9
    repeat (first | with_reducible refine w_run ?_ | simp [p9])
    refine sat_draw (k := k + 4 * js.length + 3) (h9.le (by omega)) (by decide) (by decide) fun r3 st3 a3 b3 hk => ?_
    have hs : ∃ n : Nat, L2.atI [D.int 2, D.int 6, D.int 1000000000] r3 = some (.int n) ∧ 0 < n ∧ n ≤ 1000000000 := by
      rcases three a3 b3 with rfl | rfl | rfl
      · exact ⟨2, rfl, by decide, by decide⟩
      · exact ⟨6, rfl, by decide, by decide⟩
      · exact ⟨1000000000, rfl, by decide, by decide⟩
    obtain ⟨n, hn, n0, n7⟩ := hs
    repeat (first | with_reducible refine w_run ?_ | simp [hn])
    refine sat_draw (k := k + 4 * js.length + 2) hk (by omega) (by omega) fun r4 st4 a4 b4 hk => ?_
    repeat (first | with_reducible refine w_run ?_ | simp [p20])
    refine sat_draw (k := k + 4 * js.length + 1) hk (by decide) (by decide) fun r5 st5 a5 b5 hk => ?_
    have hs : ∃ n : Nat, L2.atI [D.int 1, D.int 3, D.int 100000000000000000000] r5 = some (.int n) ∧ 0 < n ∧ n ≤ 100000000000000000000 := by
      rcases three a5 b5 with rfl | rfl | rfl
      · exact ⟨1, rfl, by decide, by decide⟩
      · exact ⟨3, rfl, by decide, by decide⟩
      · exact ⟨100000000000000000000, rfl, by decide, by decide⟩
    obtain ⟨m, hm, m0, m7⟩ := hs
    repeat (first | with_reducible refine w_run ?_ | simp [hm])
    refine sat_draw (k := k + 4 * js.length) hk (by omega) (by omega) fun r6 st6 a6 b6 hk => ?_
    have hdl : done.length < 16777216 := by omega
    repeat (first | with_reducible refine w_run ?_ | simp [hdl])
    have hu : upP (tm, am) (tm + 1 + r4, am + 1 + r6) = true := by simp [upP]; omega
    have hd6 : done.length ≤ 5 := by omega
    refine ⟨done ++ [(tm + 1 + r4, am + 1 + r6)], tm + 1 + r4, am + 1 + r6, ⟨by simp, rfl, rfl⟩, by simp; omega, h3 _ hu, fun a b hp => by simpa using badP_snoc hp done (-1, 0) (h3 _ hu), by omega, by simp; omega, by omega, by simp; omega, fun a b hp => ?_, hk⟩
    rcases List.mem_append.mp hp with hp | hp
    · exact h8 _ hp
    · have e := List.mem_singleton.mp hp
      have e1 : a = tm + 1 + r4 := congrArg Prod.fst e
      have e2 : b = am + 1 + r6 := congrArg Prod.snd e
      exact ⟨by show 0 ≤ a; omega, by show a < 10 ^ 31; omega, by show 0 ≤ b; omega, by show b < 10 ^ 31; omega⟩
/-- a cost that rises evenly -/
def evenL (b w : Int) (n : Nat) : List (Int × Int) := (List.range n).map fun k : Nat => (b + w * (k : Int), 1 + 2 * (k : Int))
theorem evenL_ok {b w : Int} (hb : 0 ≤ b) (hw : 0 < w) (n : Nat) : badP (-1, 0) (evenL b w n) = none := by
  have key : ∀ (n i : Nat) (p : Int × Int), p.1 < b + w * (i : Int) → p.2 < 1 + 2 * (i : Int) → badP p ((List.range' i n).map fun k : Nat => (b + w * (k : Int), 1 + 2 * (k : Int))) = none := by
    intro n
    induction n with
    | zero => intro i p _ _; rfl
    | succ n ih =>
      intro i p h1 h2
      rw [List.range'_succ, List.map_cons, badP]
      rw [if_pos (by simp [upP]; omega)]
      refine ih (i + 1) _ ?_ ?_
      · show b + w * (i : Int) < b + w * ((i + 1 : Nat) : Int)
        have : w * ((i + 1 : Nat) : Int) = w * (i : Int) + w := by rw [Int.natCast_add, Int.mul_add]; simp
        omega
      · show 1 + 2 * (i : Int) < 1 + 2 * ((i + 1 : Nat) : Int)
        omega
  have := key n 0 (-1, 0) (by simp; omega) (by simp)
  rwa [← List.range_eq_range'] at this

open PySem.SeqAt (EP)
theorem evenL_pok {b w : Int} {n : Nat} (hb : 0 ≤ b ∧ b ≤ 10) (hw : 0 < w ∧ w ≤ 10) (hn : n ≤ 50) : ∀ p ∈ evenL b w n, POk p := fun p hp => by
  obtain ⟨k, hk, rfl⟩ := List.mem_map.mp hp
  have hk := List.mem_range.mp hk
  have h1 : w * (k : Int) ≤ 10 * 50 := Int.mul_le_mul hw.2 (by omega) (by omega) (by omega)
  have h0 : 0 ≤ w * (k : Int) := Int.mul_nonneg (by omega) (by omega)
  refine ⟨?_, ?_, ?_, ?_⟩
  · show 0 ≤ b + w * (k : Int); omega
  · show b + w * (k : Int) < 10 ^ 31; omega
  · show 0 ≤ 1 + 2 * (k : Int); omega
  · show 1 + 2 * (k : Int) < 10 ^ 31; omega
theorem o_mulI {a b : Int} (h : -1000 < a ∧ a < 1000) : dMul (.int a) (.int b) = some (.int (a * b)) := o_mul (by
  have : smallI a = true := by unfold smallI; simp; omega
  rw [this]; rfl)
theorem law_many_is {st : St1} {k : Nat} (hk : Ok (k + 50) st) {ok : D → St1 → Prop} {er : Exn → St1 → Prop}
    (q : ∀ xs st', (∀ p ∈ xs, POk p) → xs.length ≤ 40 → badP (-1, 0) xs = none → Ok k st' → ok (.lst (xs.map eP)) st') : Sat (m_law_many [.state] st) ok er := by
  refine w_fn ?_
  unfold b_law_many
  repeat (first | with_reducible refine w_run ?_ | simp)
  refine sat_draw (k := k + 49) hk (by decide) (by decide) fun r1 st1 a1 b1 hk => ?_
  repeat (first | with_reducible refine w_run ?_ | simp)
  refine Br.mk (fun h => ?_) (fun h => ?_)
  · repeat (first | with_reducible refine w_run ?_ | simp)
    refine steps_drawn (k := k) (hk.le (by omega)) fun xs st' h1 h2 h3 hk => ?_
    repeat (first | with_reducible refine w_run ?_ | simp)
    exact q xs st' h1 (by omega) h3 hk
  · repeat (first | with_reducible refine w_run ?_ | simp)
    refine sat_draw (k := k + 48) hk (by decide) (by decide) fun r2 st2 a2 b2 hk => ?_
    repeat (first | with_reducible refine w_run ?_ | simp)
    refine sat_draw (k := k + 47) hk (by decide) (by decide) fun r3 st3 a3 b3 hk => ?_
    repeat (first | with_reducible refine w_run ?_ | simp)
    refine sat_draw (k := k + 46) hk (by decide) (by decide) fun r4 st4 a4 b4 hk => ?_
    obtain ⟨y, rfl, b4⟩ := nat_of a4 b4
    have hr : rng1 [D.int (20 + (y : Int))] = some (rangeD 0 (20 + y)) := by
      have e : (20 + (y : Int)) = ((20 + y : Nat) : Int) := by omega
      rw [e]
      simp only [rng1, Int.toNat_natCast]
      rw [if_pos ⟨by omega, by omega⟩]
    repeat (first | with_reducible refine w_run ?_ | simp [hr])
    refine Ask.mk (by simp [rangeD]; omega) ?_
    refine w_lc_map (fun i : Nat => D.int (0 + (i : Int))) (fun i : Nat => .tup [.int (r2 + (1 + r3) * (0 + (i : Int))), .int (1 + 2 * (0 + (i : Int)))]) (List.range (20 + y)) (fun i hi => ⟨_, rfl, ?_⟩) ?_
    · have m1 := o_mulI (a := 1 + r3) (b := (i : Int)) (by omega)
      have m2 := o_mulI (a := 2) (b := (i : Int)) (by omega)
      simp [m1, m2]
    · have e : (List.range (20 + y)).map (fun i : Nat => D.tup [.int (r2 + (1 + r3) * (0 + (i : Int))), .int (1 + 2 * (0 + (i : Int)))]) = (evenL r2 (1 + r3) (20 + y)).map eP := by
        rw [evenL, List.map_map]
        exact List.map_congr_left fun i _ => by simp
      rw [e]
      have hq := q (evenL r2 (1 + r3) (20 + y)) st4 (evenL_pok (by omega) (by omega) (by omega)) (by simp [evenL]; omega) (evenL_ok a2 (by omega) _) (hk.le (by omega))
      repeat (first | with_reducible refine w_run ?_ | simp)
      exact hq

open PySem.SeqAt (EP)
/-- the steps, later -/
def lateL (by' : Int) (xs : List (Int × Int)) : List (Int × Int) := xs.map fun p => (p.1 + by', p.2)
theorem lateL_bad {t : Int} : ∀ {xs : List (Int × Int)} {b c : Int × Int}, badP b xs = none → c.1 ≤ b.1 + t → c.2 ≤ b.2 → badP c (lateL t xs) = none
  | [], _, _, _, _, _ => rfl
  | p :: ps, b, c, h, h1, h2 => by
    rw [badP] at h
    cases hu : upP b p with
    | false => rw [hu] at h; cases h
    | true =>
      rw [hu, if_pos rfl] at h
      simp [upP] at hu
      show badP c ((p.1 + t, p.2) :: lateL t ps) = none
      rw [badP, if_pos (by simp [upP]; omega)]
      exact lateL_bad h (by show p.1 + t ≤ p.1 + t; omega) (by show p.2 ≤ p.2; omega)
theorem lateL_ok {t : Int} {xs : List (Int × Int)} (ht : 0 ≤ t) (h : badP (-1, 0) xs = none) : badP (-1, 0) (lateL t xs) = none := lateL_bad h (by show (-1 : Int) ≤ -1 + t; omega) (by show (0 : Int) ≤ 0; omega)
theorem cost_later_is {xs : List (Int × Int)} {t : Int} {st : St1} (ht : 0 ≤ t) (hl : xs.length ≤ 40) (hb : badP (-1, 0) xs = none) : m_Cost_later [costD xs, .int t] st = .ok (costD (lateL t xs)) st := by
  refine eq_ok (w_fn ?_)
  unfold b_Cost_later
  have hn := is_number_is (low := 0) (st := st) (Atm.int t)
  have hg : geB (.int t) 0 = true := by simp [geB, isI, ht]
  have hsl : ∀ zs : List (Int × Int), slOf (costD zs) = .val (costD zs) := fun _ => rfl
  have hl2 : xs.length ≤ 16777216 := by omega
  repeat (first | with_reducible refine w_run ?_ | simp [hn, hg, hsl, hl2])
  refine w_lc_map eP (fun p => .tup [.int (p.1 + t), .int p.2]) xs (fun p hp => ⟨_, rfl, ?_⟩) ?_
  · simp
  · have e : xs.map (fun p => D.tup [.int (p.1 + t), .int p.2]) = (lateL t xs).map eP := by rw [lateL, List.map_map]; rfl
    rw [e]
    repeat (first | with_reducible refine w_run ?_ | simp)
    refine init_is (.inl rfl) (fun h => by simp [lateL] at h; omega) (fun _ p hp => by rw [lateL_ok ht hb] at hp; cases hp) fun _ _ => ?_
    exact ⟨rfl, rfl⟩
theorem law_shift_is {xs : List (Int × Int)} {t : Int} {st : St1} (ht : 0 ≤ t) (hl : xs.length ≤ 40) (hb : badP (-1, 0) xs = none) : m_law_shift [costD xs, .int t] st = .ok (.tup [.str "told", pairsD (lateL t xs)]) st := by
  refine eq_ok (w_fn ?_)
  unfold b_law_shift
  have hsl : ∀ zs : List (Int × Int), slOf (costD zs) = .val (costD zs) := fun _ => rfl
  have hm1 : methOf (PySem.Str.ofString "Cost") (PySem.Str.ofString "later") (costD xs) = some [(PySem.Str.ofString "pairs", pairsD xs)] := methOf_ins (by
    have : ((PySem.Str.ofString "later") == (PySem.Str.ofString "pairs")) = false := by decide +kernel
    simp only [List.lookup, this])
  have c1 := cost_later_is (st := st) ht hl hb
  have hst := steps_is (xs := lateL t xs) (st := st)
  repeat (first | with_reducible refine w_run ?_ | simp [hsl, hm1, c1, hst])

open PySem.SeqAt (EP)
/-- no number -/
structure Odd (d : D) : Prop where
  n : ∀ st : St1, m_is_number [d, .int 0] st = .ok (.bl false) st
  s : slOf d = .val d
  f : borFree d = true
  g : okG d
theorem odd_all (d : D) (h : d ∈ [D.int (-1), .bl true, .non, .str (PySem.Str.ofString "1"), .lst [.int 2], .tup [.int 1], .dct []]) : Odd d := by
  simp only [List.mem_cons, List.not_mem_nil, or_false] at h
  rcases h with rfl | rfl | rfl | rfl | rfl | rfl | rfl
  all_goals
    refine ⟨fun st => eq_ok (w_fn ?_), rfl, rfl, rfl, by simp [toE, toEs, SeqAt.EP.depth, SeqAt.EP.depths]⟩
    unfold b_is_number
    repeat (first | with_reducible refine w_run ?_ | simp)
theorem cost_later_bad {xs : List (Int × Int)} {d : D} {st : St1} (h : Odd d) : m_Cost_later [costD xs, d] st = .err ⟨"BadNumber", "value", d⟩ st := by
  refine eq_err (w_fn ?_)
  unfold b_Cost_later
  have hn := h.n st
  have hf := h.f
  have hs := h.s
  have hsl : ∀ zs : List (Int × Int), slOf (costD zs) = .val (costD zs) := fun _ => rfl
  repeat (first | with_reducible refine w_run ?_ | simp [hn, hf, hs, hsl])
theorem law_shift_bad {xs : List (Int × Int)} {d : D} {st : St1} (h : Odd d) : m_law_shift [costD xs, d] st = .ok (.tup [.str "number", d]) st := by
  refine eq_ok (w_fn ?_)
  unfold b_law_shift
  have hs := h.s
  have hsl : ∀ zs : List (Int × Int), slOf (costD zs) = .val (costD zs) := fun _ => rfl
  have m1 : mtX "BadNumber" "BadNumber" = true := by decide +kernel
  have k1 : ("BadNumber" : Str) ∈ (["BadCount", "BadText", "BadNumber", "BadSteps"] : List Str) := by decide +kernel
  have hm1 : methOf (PySem.Str.ofString "Cost") (PySem.Str.ofString "later") (costD xs) = some [(PySem.Str.ofString "pairs", pairsD xs)] := methOf_ins (by
    have : ((PySem.Str.ofString "later") == (PySem.Str.ofString "pairs")) = false := by decide +kernel
    simp only [List.lookup, this])
  have c1 := cost_later_bad (xs := xs) (st := st) h
  repeat (first | with_reducible refine w_run ?_ | simp [hsl, hs, hm1, c1])
  exact tryK_ex k1 (caught_hit m1 rfl rfl ⟨rfl, rfl⟩)

open PySem.SeqAt (EP)
/-! ### str of a cost -/
abbrev sl (l : List Nat) : Str := ⟨l.toArray⟩
abbrev stD (l : List Nat) : D := .str (sl l)
theorem sl_app {a b : List Nat} : sl a ++ sl b = sl (a ++ b) := by
  apply Str.ext'
  show a.toArray ++ b.toArray = (a ++ b).toArray
  simp
theorem strsOf_map : ∀ ps : List (List Nat), strsOf (ps.map stD) = some (ps.map sl)
  | [] => rfl
  | p :: ps => by simp [strsOf, strsOf_map ps]
theorem join_sl {s : List Nat} {ps : List (List Nat)} : Txt.join (sl s) (ps.map sl) = sl (TL.joinL s ps) := by
  apply TL.ext_tl
  rw [TL.join_eq, TL.tl_join]
  have e1 : TL.tl (sl s) = s := by simp [TL.tl]
  have e2 : (ps.map sl).map TL.tl = ps := by
    rw [List.map_map]
    conv => rhs; rw [← List.map_id ps]
    rfl
  rw [e1, e2]
theorem o_join {s : List Nat} {ps : List (List Nat)} {d : D} (hd : items d = some (ps.map stD)) (h : (ps.map List.length).sum + ps.length * s.length ≤ 16777216) : joinD (sl s) d = some (stD (TL.joinL s ps)) := by
  unfold joinD
  rw [hd, Option.bind_some, strsOf_map, Option.bind_some]
  have e : ((ps.map sl).map (·.length)).sum = (ps.map List.length).sum := by
    rw [List.map_map]
    congr 1
  rw [if_pos (by rw [e, List.length_map]; simpa [Str.length] using h), join_sl]
abbrev lFree : List Nat := [102, 114, 101, 101]
theorem lit_free : PySem.Str.ofString "free" = sl lFree := by decide +kernel
theorem lit_sp : PySem.Str.ofString " " = sl [32] := by decide +kernel
theorem lit_co : PySem.Str.ofString ":" = sl [58] := by decide +kernel
def dg (i : Int) : List Nat := TL.numL i.toNat
def wd (p : Int × Int) : List Nat := dg p.1 ++ ([58] ++ dg p.2)
def textL (xs : List (Int × Int)) : List Nat := if xs = [] then lFree else TL.joinL [32] (xs.map wd)
structure BOk (p : Int × Int) : Prop where
  a0 : 0 ≤ p.1
  a1 : p.1 < 10 ^ 32
  b0 : 0 ≤ p.2
  b1 : p.2 < 10 ^ 32
theorem str_int {i : Int} (h : 0 ≤ i) : PySem.Str.ofString (toString i) = sl (dg i) := by
  have e : i = ((i.toNat : Nat) : Int) := by omega
  have h2 := TL.tl_num i.toNat
  rw [← e] at h2
  apply TL.ext_tl
  rw [h2]
  simp [TL.tl, dg]
theorem log_ok {i : Int} (h : 0 ≤ i) (h2 : i < 10 ^ 32) : i.natAbs.log2 < 1920 := by
  by_cases h0 : i.natAbs = 0
  · rw [h0]; decide
  · rw [Nat.log2_lt h0]
    have : (10 : Int) ^ 32 < 2 ^ 1920 := by decide
    have e : (i.natAbs : Int) = i := by omega
    have h3 : (i.natAbs : Int) < ((2 ^ 1920 : Nat) : Int) := by
      rw [e]; simpa using Int.lt_trans h2 this
    exact Int.ofNat_lt.mp h3
theorem dg_len {i : Int} (h : 0 ≤ i) (h2 : i < 10 ^ 32) : (dg i).length ≤ 32 := by
  refine TL.numL_len (by decide) ?_
  have e : (i.toNat : Int) = i := by omega
  have h3 : (i.toNat : Int) < ((10 ^ 32 : Nat) : Int) := by rw [e]; simpa using h2
  exact Int.ofNat_lt.mp h3
theorem o_fmtN {i : Int} (h : 0 ≤ i) (h2 : i < 10 ^ 32) : fmtD (.int i) = some (stD (dg i)) := by rw [o_fmtI (log_ok h h2), str_int h]
theorem wd_len {p : Int × Int} (h : BOk p) : (wd p).length ≤ 65 := by
  have h1 := dg_len h.a0 h.a1
  have h2 := dg_len h.b0 h.b1
  simp only [wd, List.length_append, List.length_cons, List.length_nil]
  omega
theorem words_sum {xs : List (Int × Int)} (h : ∀ p ∈ xs, BOk p) : ((xs.map wd).map List.length).sum ≤ 65 * xs.length := by
  induction xs with
  | nil => simp
  | cons p ps ih =>
    have h1 := wd_len (h p (.head _))
    have h2 := ih fun q hq => h q (.tail _ hq)
    simp only [List.map_cons, List.sum_cons, List.length_cons]
    omega
theorem cost_str_is {xs : List (Int × Int)} {st : St1} (hx : ∀ p ∈ xs, BOk p) (hl : xs.length ≤ 1000) : m_Cost_str [costD xs] st = .ok (stD (textL xs)) st := by
  refine eq_ok (w_fn ?_)
  unfold b_Cost_str
  rw [lit_free, lit_sp, lit_co]
  have hl2 : xs.length ≤ 16777216 := by omega
  have hq : dEqG (pairsD xs) (.tup []) = some (.bl xs.isEmpty) := by
    rw [g_eq ⟨by simpa [okE] using okEs_pairs xs, rfl, by simp [toE, toEs, SeqAt.EP.depth, SeqAt.EP.depths]⟩]
    cases xs <;> simp [eqE, toE, toEs, SeqAt.EP.eqv, SeqAt.EP.eqvs]
  cases e : xs.isEmpty with
  | true =>
    have := List.isEmpty_iff.mp e
    subst this
    have hq' : dEqG (pairsD []) (.tup []) = some (.bl true) := hq
    repeat (first | with_reducible refine w_run ?_ | simp [hq', textL])
  | false =>
    have hne : xs ≠ [] := fun z => by rw [z] at e; cases e
    rw [e] at hq
    repeat (first | with_reducible refine w_run ?_ | simp [hq, hl2])
    refine w_lc_map eP (fun p => stD (wd p)) xs (fun p hp => ⟨_, rfl, ?_⟩) ?_
    · have h := hx p hp
      have h1 := dg_len h.a0 h.a1
      have h2 := dg_len h.b0 h.b1
      have s1 := o_fmtN h.a0 h.a1
      have s2 := o_fmtN h.b0 h.b1
      have z1 : PySem.Str.empty ++ sl (dg p.1) = sl (dg p.1) := by
        rw [show PySem.Str.empty = sl [] from rfl, sl_app]; rfl
      simp [s1, s2, z1, sl_app, Str.length]
      exact ⟨by omega, by omega, by omega, rfl⟩
    · have hs := words_sum hx
      have e3 : xs.map (fun p => stD (wd p)) = (xs.map wd).map stD := by simp [List.map_map, Function.comp_def]
      have hj := o_join (s := [32]) (ps := xs.map wd) (d := .lst (xs.map fun p => stD (wd p))) (by rw [e3]; rfl) (by simp at hs ⊢; omega)
      repeat (first | with_reducible refine w_run ?_ | simp [hj, textL, hne])

open PySem.SeqAt (EP)
theorem eqvs_pairs : ∀ xs ys : List (Int × Int), EP.eqvs (toEs (xs.map eP)) (toEs (ys.map eP)) = decide (xs = ys)
  | [], [] => rfl
  | [], _ :: _ => rfl
  | _ :: _, [] => rfl
  | x :: xs, y :: ys => by
    have ih := eqvs_pairs xs ys
    obtain ⟨a, b⟩ := x
    obtain ⟨c, d⟩ := y
    simp only [List.map_cons, toEs, toE, EP.eqvs, EP.eqv, ih, Bool.and_true]
    rw [Bool.eq_iff_iff]
    simp
theorem ok_pairs (xs : List (Int × Int)) : okG (pairsD xs) := okG_tup (n := 1) (by decide) fun d hd => by
  obtain ⟨p, _, rfl⟩ := List.mem_map.mp hd
  exact ⟨rfl, by simp [toE, toEs, EP.depth, EP.depths]⟩
theorem g_eqP (xs ys : List (Int × Int)) : dEqG (pairsD xs) (pairsD ys) = some (.bl (decide (xs = ys))) := by
  rw [g_eq ((ok_pairs xs).cmp (ok_pairs ys))]
  simp only [eqE, toE, EP.eqv, eqvs_pairs]
theorem cost_eq_is {xs ys : List (Int × Int)} {st : St1} : m_Cost_eq [costD xs, costD ys] st = .ok (.bl (decide (xs = ys))) st := by
  refine eq_ok (w_fn ?_)
  unfold b_Cost_eq
  have h1 : isiO ["Cost"] "Cost" (costD ys) = some (.bl true) := by
    have : okTy ["Cost"] (costD ys) = true := by simp [okTy]
    simp [isiO, this, isC]
  have h2 := g_eqP xs ys
  repeat (first | with_reducible refine w_run ?_ | simp [h1, h2])
theorem okG_two {s : Str} {d : D} (h : okE d = true) (k : (toE d).depth ≤ 2) : okG (.tup [.str s, d]) :=
  okG_tup (n := 2) (by decide) fun e he => by
    simp only [List.mem_cons, List.not_mem_nil, or_false] at he
    rcases he with rfl | rfl
    · exact ⟨rfl, by simp [toE, EP.depth]⟩
    · exact ⟨h, k⟩
theorem depth_pairs (xs : List (Int × Int)) : (toE (pairsD xs)).depth ≤ 2 := by
  have := depths_le (n := 1) (l := xs.map eP) fun d hd => by
    obtain ⟨p, _, rfl⟩ := List.mem_map.mp hd
    simp [toE, toEs, EP.depth, EP.depths]
  simp only [toE, EP.depth]; omega
theorem dueJ_ok (zs : List (Int × Int)) : okG (dueJ zs) := by
  rw [dueJ]
  split
  · exact okG_two rfl (by simp [toE, EP.depth])
  · exact okG_two (ok_pairs zs).1 (depth_pairs zs)
theorem latP_ok (t : Int) : ∀ xs : List (Int × Int), okG (latP t xs)
  | [] => ⟨rfl, by simp [latP, toE, EP.depth]⟩
  | p :: ps => by
    rw [latP]
    split
    · exact ⟨rfl, by simp [toE, EP.depth]⟩
    · exact latP_ok t ps
theorem allEq_two {xs ys : List (Int × Int)} {st : St1} : allEq "Cost" m_Cost_eq [costD xs, costD ys] [costD xs, costD ys] st = true := by
  have h1 := cost_eq_is (xs := xs) (ys := xs) (st := st)
  have h2 := cost_eq_is (xs := ys) (ys := ys) (st := st)
  simp [allEq, trueAt, isC, h1, h2]

open PySem.SeqAt (EP)
/-! ### the sum keeps every time -/
theorem atP_early {t : Int} : ∀ {xs : List (Int × Int)} {m : Int}, (∀ p ∈ xs, t < p.1) → atP t xs m = m
  | [], _, _ => rfl
  | p :: ps, m, h => by
    have h1 := h p (.head _)
    have e : atP t (p :: ps) m = atP t ps m := by simp [atP]; rw [if_neg (by omega)]
    rw [e]; exact atP_early fun q hq => h q (.tail _ hq)
theorem atP_cons (t : Int) (p : Int × Int) (ps : List (Int × Int)) (m : Int) : atP t (p :: ps) m = atP t ps (if p.1 ≤ t then p.2 else m) := rfl
theorem atP_ge {t : Int} : ∀ {xs : List (Int × Int)} {b : Int × Int} {m : Int}, badP b xs = none → m ≤ b.2 → m ≤ atP t xs m
  | [], _, _, _, _ => Int.le_refl _
  | p :: ps, b, m, h, hm => by
    rw [badP] at h
    cases hu : upP b p with
    | false => rw [hu] at h; cases h
    | true =>
      rw [hu, if_pos rfl] at h
      simp [upP] at hu
      rw [atP_cons]
      split
      · have := atP_ge (t := t) h (Int.le_refl p.2); omega
      · exact atP_ge h (by omega)
theorem atP_mono {t1 t2 : Int} (ht : t1 ≤ t2) : ∀ {xs : List (Int × Int)} {b : Int × Int} {m : Int}, badP b xs = none → m ≤ b.2 → atP t1 xs m ≤ atP t2 xs m
  | [], _, _, _, _ => Int.le_refl _
  | p :: ps, b, m, h, hm => by
    rw [badP] at h
    cases hu : upP b p with
    | false => rw [hu] at h; cases h
    | true =>
      rw [hu, if_pos rfl] at h
      simp [upP] at hu
      rw [atP_cons, atP_cons]
      by_cases h1 : p.1 ≤ t1
      · rw [if_pos h1, if_pos (by omega)]
        exact atP_mono ht h (Int.le_refl _)
      · rw [if_neg h1]
        have e1 : atP t1 ps m = m := atP_early fun q hq => by have := time_pos h q hq; omega
        rw [e1]
        split
        · have := atP_ge (t := t2) h (Int.le_refl p.2); omega
        · exact atP_ge h (by omega)
theorem atP_strict {t1 t2 : Int} (ht : t1 < t2) : ∀ {xs : List (Int × Int)} {b : Int × Int} {m : Int}, badP b xs = none → m ≤ b.2 → t2 ∈ xs.map (·.1) → atP t1 xs m < atP t2 xs m
  | [], _, _, _, _, h => nomatch h
  | p :: ps, b, m, h, hm, hin => by
    rw [badP] at h
    cases hu : upP b p with
    | false => rw [hu] at h; cases h
    | true =>
      rw [hu, if_pos rfl] at h
      simp [upP] at hu
      rw [atP_cons, atP_cons]
      have hp2 : p.1 ≤ t2 := by
        rcases List.mem_cons.mp (by simpa using hin : t2 ∈ p.1 :: ps.map (·.1)) with e | e
        · omega
        · obtain ⟨q, hq, e⟩ := List.mem_map.mp e
          have := time_pos h q hq; omega
      rw [if_pos hp2]
      by_cases h1 : p.1 ≤ t1
      · rw [if_pos h1]
        refine atP_strict ht h (Int.le_refl _) ?_
        rcases List.mem_cons.mp (by simpa using hin : t2 ∈ p.1 :: ps.map (·.1)) with e | e
        · omega
        · exact e
      · rw [if_neg h1]
        have e1 : atP t1 ps m = m := atP_early fun q hq => by have := time_pos h q hq; omega
        rw [e1]
        have := atP_ge (t := t2) h (Int.le_refl p.2); omega
theorem riseL_all {f : Int → Int} : ∀ {us : List Int} {m : Int}, us.Pairwise (· < ·) → (∀ t ∈ us, m < f t) → (∀ t1 t2, t1 < t2 → t2 ∈ us → f t1 < f t2) → riseL m (us.map fun t => (t, f t)) = us.map fun t => (t, f t)
  | [], _, _, _, _ => rfl
  | u :: us, m, h, h1, h2 => by
    obtain ⟨p1, p2⟩ := List.pairwise_cons.mp h
    rw [List.map_cons, riseL, if_pos (h1 u (.head _))]
    rw [riseL_all p2 (fun t ht => h2 u t (p1 t ht) (.tail _ ht)) fun t1 t2 hlt ht => h2 t1 t2 hlt (.tail _ ht)]
theorem sum_all {xs ys : List (Int × Int)} (bx : badP (-1, 0) xs = none) (bY : badP (-1, 0) ys = none) : (joined (comb 0) xs ys).length = (ts xs ys).length := by
  have key : ∀ t1 t2, t1 < t2 → t2 ∈ ts xs ys → atP t1 xs 0 + atP t1 ys 0 < atP t2 xs 0 + atP t2 ys 0 := fun t1 t2 hlt ht => by
    have ht := (mem_sortU t2 _).mp ht
    rw [List.map_append, List.mem_append] at ht
    have m1 := atP_mono (Int.le_of_lt hlt) bx (Int.le_refl 0)
    have m2 := atP_mono (Int.le_of_lt hlt) bY (Int.le_refl 0)
    rcases ht with ht | ht
    · have := atP_strict hlt bx (Int.le_refl 0) ht; omega
    · have := atP_strict hlt bY (Int.le_refl 0) ht; omega
  have e : joined (comb 0) xs ys = (ts xs ys).map fun t => (t, atP t xs 0 + atP t ys 0) := by
    refine riseL_all (f := fun t => atP t xs 0 + atP t ys 0) (sortU_lt _) (fun t ht => ?_) key
    have h1 := key (t - 1) t (by omega) ht
    have g1 := atP_ge (t := t - 1) bx (Int.le_refl 0)
    have g2 := atP_ge (t := t - 1) bY (Int.le_refl 0)
    omega
  rw [e, List.length_map]
theorem or_short {xs ys : List (Int × Int)} (bx : badP (-1, 0) xs = none) (bY : badP (-1, 0) ys = none) : (joined top2 xs ys).length ≤ (joined (comb 0) xs ys).length := by
  rw [sum_all bx bY]
  have h := riseL_len 0 ((ts xs ys).map fun t => (t, top2 (atP t xs 0) (atP t ys 0)))
  rw [List.length_map] at h
  exact h

open PySem.SeqAt (EP)
section
variable {τ : Type} {k : Fl → τ → Prop}
theorem w_loopD {t : D → Sl → Option Sl} {body : GS τ} (I : List D → Sl → τ → Prop) (hd : ∀ ρ st, I [] ρ st → k (.nx ρ) st)
    (hs : ∀ x xs ρ st, I (x :: xs) ρ st → ∃ ρ1, t x ρ = some ρ1 ∧ SatS (body ρ1 st) (fun f st' => match f with
      | .nx ρ2 => I xs ρ2 st'
      | .ct ρ2 => I xs ρ2 st'
      | .bk ρ2 => k (.nx ρ2) st'
      | f => k f st')) (xs : List D) (ρ : Sl) (st : τ) (h : I xs ρ st) : SatS (sForGo t body xs ρ st) k := by
  have := w_loop (k := k) (t := t) (body := body) (fun d : D => d) I hd hs xs ρ st h
  simpa using this
end
theorem law_right_is {xs ys : List (Int × Int)} {st : St1} {k : Nat} (hx : xs.length ≤ 40) (hy : ys.length ≤ 40) (bx : badP (-1, 0) xs = none) (bY : badP (-1, 0) ys = none) (hB : ∀ w, w < 2 → ∀ p ∈ joined (comb w) xs ys, BOk p) (hk : Ok (k + 3) st)
    {ok : D → St1 → Prop} {er : Exn → St1 → Prop} (q : ∀ st', Ok k st' → ok (.bl true) st') : Sat (m_law_right [.state, .lst (xs.map eP), .lst (ys.map eP)] st) ok er := by
  refine w_fn ?_
  unfold b_law_right
  repeat (first | with_reducible refine w_run ?_ | simp)
  refine init_is (xs := xs) (.inl rfl) (fun h => by omega) (fun _ p hp => by rw [bx] at hp; cases hp) fun _ _ => ?_
  refine init_is (xs := ys) (.inl rfl) (fun h => by omega) (fun _ p hp => by rw [bY] at hp; cases hp) fun _ _ => ?_
  repeat (first | with_reducible refine w_run ?_ | simp)
  generalize hL : D.lst [D.int 0, D.int 1, D.int 0] = dl
  refine law_shuffled_is (k := k) (l := [D.int 0, D.int 1, D.int 0]) hL.symm (by decide) (by decide) hk fun l' st1 h1 h2 hk => ?_
  repeat (first | with_reducible refine w_run ?_ | simp)
  refine w_loopD (fun ds ρ st' => st' = st1 ∧ (∀ d ∈ ds, d ∈ l') ∧ ∃ (a4 a5 a6 a7 a8 a9 a10 : SV), ρ = [.val .state, .val (.lst (xs.map eP)), .val (.lst (ys.map eP)), .val (.lst [costD xs, costD ys]), a4, a5, a6, a7, a8, a9, a10]) ?_ ?_ l' _ st1 ⟨rfl, fun _ h => h, _, _, _, _, _, _, _, rfl⟩
  · rintro ρ st' ⟨rfl, -, a4, a5, a6, a7, a8, a9, a10, rfl⟩
    repeat (first | with_reducible refine w_run ?_ | simp)
    refine init_is (xs := xs) (.inl rfl) (fun h => by omega) (fun _ p hp => by rw [bx] at hp; cases hp) fun _ _ => ?_
    refine init_is (xs := ys) (.inl rfl) (fun h => by omega) (fun _ p hp => by rw [bY] at hp; cases hp) fun _ _ => ?_
    have ha := allEq_two (xs := xs) (ys := ys) (st := st')
    repeat (first | with_reducible refine w_run ?_ | simp [rlst, ha])
    exact q _ hk
  · rintro x ds ρ st' ⟨rfl, hxm, a4, a5, a6, a7, a8, a9, a10, rfl⟩
    have hx0 := h1 x (hxm x (.head _))
    have hw : ∃ w : Nat, x = .int (w : Int) ∧ w < 2 := by
      simp only [List.mem_cons, List.not_mem_nil, or_false] at hx0
      rcases hx0 with rfl | rfl | rfl
      · exact ⟨0, rfl, by decide⟩
      · exact ⟨1, rfl, by decide⟩
      · exact ⟨0, rfl, by decide⟩
    obtain ⟨w, rfl, hw⟩ := hw
    refine ⟨_, rfl, ?_⟩
    have hjo := law_joined_is (xs := xs) (ys := ys) (st := st') hw (by omega) (by omega)
    have ht1 := law_told_is (xs := xs) (ys := ys) (st := st') hw (by omega) (by omega) bx bY
    have ht2 := law_told_is (xs := ys) (ys := xs) (st := st') hw (by omega) (by omega) bY bx
    rw [← joined_comm w xs ys] at ht2
    have hBw := hB w hw
    have hJ := joined_ok (comb w) bx bY
    have hJl := joined_len (comb w) xs ys
    have hdo := g_neRefl (dueJ_ok (joined (comb w) xs ys))
    generalize hz : joined (comb w) xs ys = zs at hjo ht1 ht2 hBw hJ hJl hdo
    have hzl : zs.length ≤ 16777216 := by omega
    by_cases h40 : 40 < zs.length
    · have h' : (40 : Int) < zs.length := by omega
      have e1 : ((PySem.Str.ofString "count") == (PySem.Str.ofString "told")) = false := by decide +kernel
      rw [dueJ, if_pos h40] at ht1 ht2 hdo
      repeat (first | with_reducible refine w_run ?_ | simp [hjo, ht1, ht2, hdo, h', e1, hzl])
      exact fun d hd => hxm d (.tail _ hd)
    · have h' : ¬ (40 : Int) < zs.length := by omega
      rw [dueJ, if_neg h40] at ht1 ht2 hdo
      repeat (first | with_reducible refine w_run ?_ | simp [hjo, ht1, ht2, hdo, h', hzl])
      have hw01 : w = 0 ∨ w = 1 := by omega
      have hic : ∀ us : List (Int × Int), isC "Cost" (costD us) = true := fun us => by simp [isC]
      refine Ask.mk ⟨hic _, hic _⟩ ?_
      rcases hw01 with rfl | rfl
      · have hz' : joined (fun x1 x2 => x1 + x2) xs ys = zs := hz
        refine cost_or_is (by omega) (by omega) (by omega) bx bY (fun h => absurd h (by have := or_short bx bY; rw [hz] at this; omega)) fun _ => ?_
        repeat (first | with_reducible refine w_run ?_ | simp)
        refine Ask.mk ⟨hic _, hic _⟩ ?_
        refine cost_add_is (by omega) (by omega) (by omega) bx bY (fun h => absurd h (by rw [hz']; exact h40)) fun _ => ?_
        rw [hz']
        repeat (first | with_reducible refine w_run ?_ | simp)
        refine w_loop eP (fun ps ρ st2 => st2 = st' ∧ (∀ p ∈ ps, p ∈ zs) ∧ ∃ (a8 a9 a10 : SV), ρ = [.val .state, .val (.lst (xs.map eP)), .val (.lst (ys.map eP)), .val (.lst [costD xs, costD ys]), .val (.int 0), .val (.lst (zs.map eP)), .val (.tup [.str (PySem.Str.ofString "told"), .tup (zs.map eP)]), .val (costD zs), a8, a9, a10]) ?_ ?_ zs _ st' ⟨rfl, fun _ h => h, _, _, _, rfl⟩
        · rintro ρ st2 ⟨rfl, -, a8, a9, a10, rfl⟩
          have hstr := cost_str_is (st := st2) hBw (by omega)
          have hce := cost_eq_is (xs := zs) (ys := zs) (st := st2)
          have hm2 : methOf (PySem.Str.ofString "Cost") (PySem.Str.ofString "latest") (costD zs) = some [(PySem.Str.ofString "pairs", pairsD zs)] := methOf_ins (by
            have : ((PySem.Str.ofString "latest") == (PySem.Str.ofString "pairs")) = false := by decide +kernel
            simp only [List.lookup, this])
          have hla := cost_latest_is (xs := zs) (st := st2) (Int.le_refl 0)
          have hlo := g_neRefl (latP_ok 0 zs)
          have hok : okTy ["Cost"] (costD zs) = true := by simp [okTy]
          repeat (first | with_reducible refine w_run ?_ | simp [hstr])
          refine init_is (xs := zs) (.inl rfl) (fun h => absurd h h40) (fun _ p hp => by rw [hJ] at hp; cases hp) fun _ _ => ?_
          repeat (first | with_reducible refine w_run ?_ | simp [hstr])
          refine init_is (xs := zs) (.inl rfl) (fun h => absurd h h40) (fun _ p hp => by rw [hJ] at hp; cases hp) fun _ _ => ?_
          refine Ask.mk hok ?_
          repeat (first | with_reducible refine w_run ?_ | simp [hce, hm2, hla])
          refine init_is (xs := zs) (.inl rfl) (fun h => absurd h h40) (fun _ p hp => by rw [hJ] at hp; cases hp) fun _ _ => ?_
          repeat (first | with_reducible refine w_run ?_ | simp [hm2, hla, hlo])
          exact fun d hd => hxm d (.tail _ hd)
        · rintro p ps ρ st2 ⟨rfl, hpm, a8, a9, a10, rfl⟩
          refine ⟨_, rfl, ?_⟩
          have hp0 := time_pos hJ p (hpm p (.head _))
          repeat (first | with_reducible refine w_run ?_ | simp [max2D])
          have hpm' : ∀ (a b : Int), (a, b) ∈ ps → (a, b) ∈ zs := fun a b h => hpm (a, b) (.tail _ h)
          refine w_loopD (fun us ρ st3 => st3 = st2 ∧ (∀ u ∈ us, ∃ t : Int, u = .int t ∧ 0 ≤ t) ∧ ∃ a10 : SV, ρ = [.val .state, .val (.lst (xs.map eP)), .val (.lst (ys.map eP)), .val (.lst [costD xs, costD ys]), .val (.int 0), .val (.lst (zs.map eP)), .val (.tup [.str (PySem.Str.ofString "told"), .tup (zs.map eP)]), .val (costD zs), .val (.int p.1), .val (.int p.2), a10]) ?_ ?_ _ _ st2 ⟨rfl, ?_, _, rfl⟩
          · rintro ρ st3 ⟨rfl, -, a10, rfl⟩
            exact ⟨rfl, hpm', _, _, _, rfl⟩
          · rintro u us ρ st3 ⟨rfl, hu, a10, rfl⟩
            obtain ⟨t, rfl, ht⟩ := hu u (.head _)
            refine ⟨_, rfl, ?_⟩
            have hm1 : methOf (PySem.Str.ofString "Cost") (PySem.Str.ofString "at") (costD zs) = some [(PySem.Str.ofString "pairs", pairsD zs)] := methOf_ins (by
              have : ((PySem.Str.ofString "at") == (PySem.Str.ofString "pairs")) = false := by decide +kernel
              simp only [List.lookup, this])
            have c1 := cost_at_is (xs := zs) (st := st3) ht (by omega) hJ
            have c2 := law_at_l (xs := zs) (t := t) (st := st3)
            repeat (first | with_reducible refine w_run ?_ | simp [hm1, c1, c2])
            exact fun v hv => hu v (.tail _ hv)
          · intro u hu
            simp only [List.mem_cons, List.not_mem_nil, or_false] at hu
            have hp1 : -1 < p.1 := hp0
            rcases hu with rfl | rfl | rfl
            · exact ⟨_, rfl, by split <;> omega⟩
            · exact ⟨_, rfl, by omega⟩
            · exact ⟨_, rfl, by omega⟩
      · have hz' : joined top2 xs ys = zs := hz
        refine cost_or_is (by omega) (by omega) (by omega) bx bY (fun h => absurd h (by rw [hz']; exact h40)) fun _ => ?_
        rw [hz']
        repeat (first | with_reducible refine w_run ?_ | simp)
        refine w_loop eP (fun ps ρ st2 => st2 = st' ∧ (∀ p ∈ ps, p ∈ zs) ∧ ∃ (a8 a9 a10 : SV), ρ = [.val .state, .val (.lst (xs.map eP)), .val (.lst (ys.map eP)), .val (.lst [costD xs, costD ys]), .val (.int 1), .val (.lst (zs.map eP)), .val (.tup [.str (PySem.Str.ofString "told"), .tup (zs.map eP)]), .val (costD zs), a8, a9, a10]) ?_ ?_ zs _ st' ⟨rfl, fun _ h => h, _, _, _, rfl⟩
        · rintro ρ st2 ⟨rfl, -, a8, a9, a10, rfl⟩
          have hstr := cost_str_is (st := st2) hBw (by omega)
          have hce := cost_eq_is (xs := zs) (ys := zs) (st := st2)
          have hm2 : methOf (PySem.Str.ofString "Cost") (PySem.Str.ofString "latest") (costD zs) = some [(PySem.Str.ofString "pairs", pairsD zs)] := methOf_ins (by
            have : ((PySem.Str.ofString "latest") == (PySem.Str.ofString "pairs")) = false := by decide +kernel
            simp only [List.lookup, this])
          have hla := cost_latest_is (xs := zs) (st := st2) (Int.le_refl 0)
          have hlo := g_neRefl (latP_ok 0 zs)
          have hok : okTy ["Cost"] (costD zs) = true := by simp [okTy]
          repeat (first | with_reducible refine w_run ?_ | simp [hstr])
          refine init_is (xs := zs) (.inl rfl) (fun h => absurd h h40) (fun _ p hp => by rw [hJ] at hp; cases hp) fun _ _ => ?_
          repeat (first | with_reducible refine w_run ?_ | simp [hstr])
          refine init_is (xs := zs) (.inl rfl) (fun h => absurd h h40) (fun _ p hp => by rw [hJ] at hp; cases hp) fun _ _ => ?_
          refine Ask.mk hok ?_
          repeat (first | with_reducible refine w_run ?_ | simp [hce, hm2, hla])
          refine init_is (xs := zs) (.inl rfl) (fun h => absurd h h40) (fun _ p hp => by rw [hJ] at hp; cases hp) fun _ _ => ?_
          repeat (first | with_reducible refine w_run ?_ | simp [hm2, hla, hlo])
          exact fun d hd => hxm d (.tail _ hd)
        · rintro p ps ρ st2 ⟨rfl, hpm, a8, a9, a10, rfl⟩
          refine ⟨_, rfl, ?_⟩
          have hp0 := time_pos hJ p (hpm p (.head _))
          repeat (first | with_reducible refine w_run ?_ | simp [max2D])
          have hpm' : ∀ (a b : Int), (a, b) ∈ ps → (a, b) ∈ zs := fun a b h => hpm (a, b) (.tail _ h)
          refine w_loopD (fun us ρ st3 => st3 = st2 ∧ (∀ u ∈ us, ∃ t : Int, u = .int t ∧ 0 ≤ t) ∧ ∃ a10 : SV, ρ = [.val .state, .val (.lst (xs.map eP)), .val (.lst (ys.map eP)), .val (.lst [costD xs, costD ys]), .val (.int 1), .val (.lst (zs.map eP)), .val (.tup [.str (PySem.Str.ofString "told"), .tup (zs.map eP)]), .val (costD zs), .val (.int p.1), .val (.int p.2), a10]) ?_ ?_ _ _ st2 ⟨rfl, ?_, _, rfl⟩
          · rintro ρ st3 ⟨rfl, -, a10, rfl⟩
            exact ⟨rfl, hpm', _, _, _, rfl⟩
          · rintro u us ρ st3 ⟨rfl, hu, a10, rfl⟩
            obtain ⟨t, rfl, ht⟩ := hu u (.head _)
            refine ⟨_, rfl, ?_⟩
            have hm1 : methOf (PySem.Str.ofString "Cost") (PySem.Str.ofString "at") (costD zs) = some [(PySem.Str.ofString "pairs", pairsD zs)] := methOf_ins (by
              have : ((PySem.Str.ofString "at") == (PySem.Str.ofString "pairs")) = false := by decide +kernel
              simp only [List.lookup, this])
            have c1 := cost_at_is (xs := zs) (st := st3) ht (by omega) hJ
            have c2 := law_at_l (xs := zs) (t := t) (st := st3)
            repeat (first | with_reducible refine w_run ?_ | simp [hm1, c1, c2])
            exact fun v hv => hu v (.tail _ hv)
          · intro u hu
            simp only [List.mem_cons, List.not_mem_nil, or_false] at hu
            have hp1 : -1 < p.1 := hp0
            rcases hu with rfl | rfl | rfl
            · exact ⟨_, rfl, by split <;> omega⟩
            · exact ⟨_, rfl, by omega⟩
            · exact ⟨_, rfl, by omega⟩

open PySem.SeqAt (EP)
/-! ### bounds of the numbers -/
def Bd (A B : Int) (xs : List (Int × Int)) : Prop := ∀ p ∈ xs, 0 ≤ p.1 ∧ p.1 < A ∧ 0 ≤ p.2 ∧ p.2 < B
theorem riseL_sub {p : Int × Int} : ∀ {l : List (Int × Int)} {m : Int}, p ∈ riseL m l → p ∈ l
  | [], _, h => nomatch h
  | q :: qs, m, h => by
    rw [riseL] at h
    split at h
    · rcases List.mem_cons.mp h with rfl | h
      · exact .head _
      · exact .tail _ (riseL_sub h)
    · exact .tail _ (riseL_sub h)
theorem atP_bd {A B t : Int} : ∀ {xs : List (Int × Int)} {m : Int}, Bd A B xs → 0 ≤ m → m < B → 0 ≤ atP t xs m ∧ atP t xs m < B
  | [], m, _, h0, h1 => ⟨h0, h1⟩
  | p :: ps, m, h, h0, h1 => by
    have hp := h p (.head _)
    rw [atP_cons]
    split
    · exact atP_bd (fun q hq => h q (.tail _ hq)) hp.2.2.1 hp.2.2.2
    · exact atP_bd (fun q hq => h q (.tail _ hq)) h0 h1
theorem joined_bd {A B : Int} {w : Nat} {xs ys : List (Int × Int)} (hB : 0 < B) (h : Bd A B xs) (k : Bd A B ys) : Bd A (2 * B) (joined (comb w) xs ys) := fun p hp => by
  obtain ⟨t, ht, rfl⟩ := List.mem_map.mp (riseL_sub hp)
  have ht := (mem_sortU t _).mp ht
  obtain ⟨q, hq, rfl⟩ := List.mem_map.mp ht
  have hq1 : 0 ≤ q.1 ∧ q.1 < A := by
    rcases List.mem_append.mp hq with hq | hq
    · exact ⟨(h q hq).1, (h q hq).2.1⟩
    · exact ⟨(k q hq).1, (k q hq).2.1⟩
  have a1 := atP_bd (t := q.1) h (Int.le_refl 0) hB
  have a2 := atP_bd (t := q.1) k (Int.le_refl 0) hB
  refine ⟨hq1.1, hq1.2, ?_, ?_⟩
  · show 0 ≤ comb w _ _
    unfold comb
    split
    · show 0 ≤ _ + _; omega
    · unfold top2; split <;> omega
  · show comb w _ _ < 2 * B
    unfold comb
    split
    · show _ + _ < 2 * B; omega
    · unfold top2; split <;> omega
theorem lateL_bd {A B t : Int} {xs : List (Int × Int)} (ht : 0 ≤ t) (h : Bd A B xs) : Bd (A + t) B (lateL t xs) := fun p hp => by
  obtain ⟨q, hq, rfl⟩ := List.mem_map.mp hp
  have := h q hq
  exact ⟨by show 0 ≤ q.1 + t; omega, by show q.1 + t < A + t; omega, this.2.2.1, this.2.2.2⟩
theorem Bd.bok {A B : Int} {xs : List (Int × Int)} (h : Bd A B xs) (hA : A ≤ 10 ^ 32) (hB : B ≤ 10 ^ 32) : ∀ p ∈ xs, BOk p := fun p hp => by
  have := h p hp
  exact ⟨this.1, by omega, this.2.2.1, by omega⟩
theorem bd_of {xs : List (Int × Int)} (h : ∀ p ∈ xs, POk p) : Bd (10 ^ 31) (10 ^ 31) xs := fun p hp => h p hp

open PySem.SeqAt (EP)
theorem law_later_right_is {xs ys : List (Int × Int)} {t : Int} {st : St1} {k : Nat} (ht : 0 ≤ t ∧ t ≤ 10 ^ 12) (hx : xs.length ≤ 40) (hy : ys.length ≤ 40) (bx : badP (-1, 0) xs = none) (bY : badP (-1, 0) ys = none) (hp : ∀ p ∈ xs, POk p) (hq : ∀ p ∈ ys, POk p) (hk : Ok (k + 1) st)
    {ok : D → St1 → Prop} {er : Exn → St1 → Prop} (q : ∀ st', Ok k st' → ok (.bl true) st') : Sat (m_law_later_right [.state, .lst (xs.map eP), .lst (ys.map eP), .int t] st) ok er := by
  refine w_fn ?_
  unfold b_law_later_right
  repeat (first | with_reducible refine w_run ?_ | simp)
  refine init_is (xs := xs) (.inl rfl) (fun h => by omega) (fun _ p hp => by rw [bx] at hp; cases hp) fun _ _ => ?_
  have hm1 : methOf (PySem.Str.ofString "Cost") (PySem.Str.ofString "later") (costD xs) = some [(PySem.Str.ofString "pairs", pairsD xs)] := methOf_ins (by
    have : ((PySem.Str.ofString "later") == (PySem.Str.ofString "pairs")) = false := by decide +kernel
    simp only [List.lookup, this])
  have c1 := cost_later_is (st := st) ht.1 hx bx
  have hl2 : xs.length ≤ 16777216 := by omega
  repeat (first | with_reducible refine w_run ?_ | simp [hm1, c1, hl2])
  refine w_lc_map eP (fun p => .tup [.int (p.1 + t), .int p.2]) xs (fun p hp => ⟨_, rfl, ?_⟩) ?_
  · simp
  have e : xs.map (fun p => D.tup [.int (p.1 + t), .int p.2]) = (lateL t xs).map eP := by rw [lateL, List.map_map]; rfl
  rw [e]
  have hll : (lateL t xs).length = xs.length := by simp [lateL]
  generalize hzs : lateL t xs = zs at hll
  have hl3 : zs.length ≤ 16777216 := by omega
  have bz : badP (-1, 0) zs = none := by rw [← hzs]; exact lateL_ok ht.1 bx
  repeat (first | with_reducible refine w_run ?_ | simp [hl3])
  refine w_lc_map eP (fun p => .int p.1) zs (fun p hp => ⟨_, rfl, by simp⟩) ?_
  have a1 : dAdd (.lst [.int 0, .int t, .int (t + 5)]) (.lst (zs.map fun p => .int p.1)) = some (.lst ([.int 0, .int t, .int (t + 5)] ++ zs.map fun p => .int p.1)) := o_addL (by rw [line_val]; simp; omega)
  repeat (first | with_reducible refine w_run ?_ | simp [a1])
  refine w_lc_map eP (fun p => .int (p.1 + 1)) zs (fun p hp => ⟨_, rfl, by simp⟩) ?_
  have a2 : dAdd (.lst ([.int 0, .int t, .int (t + 5)] ++ zs.map fun p => .int p.1)) (.lst (zs.map fun p => .int (p.1 + 1))) = some (.lst (([0, t, t + 5] ++ zs.map (fun p : Int × Int => p.1) ++ zs.map (fun p : Int × Int => p.1 + 1)).map D.int)) := by
    rw [o_addL (by rw [line_val]; simp; omega)]
    simp [Function.comp_def]
  have hin : intsOf (([0, t, t + 5] ++ zs.map (fun p : Int × Int => p.1) ++ zs.map (fun p : Int × Int => p.1 + 1)).map D.int) = some ([0, t, t + 5] ++ zs.map (fun p : Int × Int => p.1) ++ zs.map (fun p : Int × Int => p.1 + 1)) := by
    have := intsOf_map (fun i : Int => i) ([0, t, t + 5] ++ zs.map (fun p : Int × Int => p.1) ++ zs.map (fun p : Int × Int => p.1 + 1))
    rw [List.map_id'] at this
    exact this
  simp only [List.cons_append, List.nil_append] at a2 hin
  have hpos : ∀ u ∈ sortU (0 :: t :: (t + 5) :: (zs.map (fun p : Int × Int => p.1) ++ zs.map (fun p : Int × Int => p.1 + 1))), 0 ≤ u := fun u hu => by
    have hu := (mem_sortU u _).mp hu
    simp only [List.mem_cons, List.mem_append, List.mem_map] at hu
    rcases hu with rfl | rfl | rfl | ⟨p, hp, rfl⟩ | ⟨p, hp, rfl⟩
    · omega
    · exact ht.1
    · have := ht.1; omega
    · have h := time_pos bz p hp
      have h : -1 < p.1 := h
      omega
    · have h := time_pos bz p hp
      have h : -1 < p.1 := h
      omega
  have hml := sortU_len (0 :: t :: (t + 5) :: (zs.map (fun p : Int × Int => p.1) ++ zs.map (fun p : Int × Int => p.1 + 1)))
  simp only [List.length_cons, List.length_append, List.length_map] at hml
  refine Got.mk a2 ?_
  refine Got.mk hin (Ask.mk (by simp; omega) ?_)
  generalize sortU (0 :: t :: (t + 5) :: (zs.map (fun p : Int × Int => p.1) ++ zs.map (fun p : Int × Int => p.1 + 1))) = ms at hpos hml
  have hml2 : ms.length ≤ 16777216 := by omega
  repeat (first | with_reducible refine w_run ?_ | simp [hml2])
  have hm3 : methOf (PySem.Str.ofString "Cost") (PySem.Str.ofString "at") (costD zs) = some [(PySem.Str.ofString "pairs", pairsD zs)] := methOf_ins (by
    have : ((PySem.Str.ofString "at") == (PySem.Str.ofString "pairs")) = false := by decide +kernel
    simp only [List.lookup, this])
  refine w_lc_map D.int (fun u => .int (atP u zs 0)) ms (fun u hu => ⟨_, rfl, ?_⟩) ?_
  · have c1 := cost_at_is (xs := zs) (st := st) (hpos u hu) (by omega) bz
    simp [hm3, c1]
  refine w_lc_map D.int (fun u => .int (atP u zs 0)) ms (fun u hu => ⟨_, rfl, ?_⟩) ?_
  · have c2 := law_at_l (xs := zs) (t := u) (st := st)
    simp [c2]
  have hsame : dNeG (.lst (ms.map fun u => .int (atP u zs 0))) (.lst (ms.map fun u => .int (atP u zs 0))) = some (.bl false) := g_neRefl (okG_lst (n := 0) (by decide) fun d hd => by
    obtain ⟨u, _, rfl⟩ := List.mem_map.mp hd
    exact ⟨rfl, by simp [toE, EP.depth]⟩)
  repeat (first | with_reducible refine w_run ?_ | simp [hsame])
  have hbz : Bd (10 ^ 31 + 10 ^ 12) (10 ^ 31) zs := fun p hp => by
    rw [← hzs] at hp
    have := lateL_bd ht.1 (bd_of (by assumption)) p hp
    omega
  have hstr := cost_str_is (st := st) (hbz.bok (by decide) (by decide)) (by omega)
  have hz40 : ¬ 40 < zs.length := by omega
  repeat (first | with_reducible refine w_run ?_ | simp [hstr])
  refine init_is (xs := zs) (.inl rfl) (fun h => absurd h hz40) (fun _ p hp => by rw [bz] at hp; cases hp) fun _ _ => ?_
  repeat (first | with_reducible refine w_run ?_ | simp [hstr, hl3])
  refine w_lc_map eP (fun p => .int p.2) zs (fun p hp => ⟨_, rfl, by simp⟩) ?_
  have a3 : dAdd (.lst [.int 0, .int 1, .int 4]) (.lst (zs.map fun p => .int p.2)) = some (.lst ([.int 0, .int 1, .int 4] ++ zs.map fun p => .int p.2)) := o_addL (by rw [line_val]; simp; omega)
  refine Got.mk a3 ?_
  have hus : ∀ d ∈ ([.int 0, .int 1, .int 4] ++ zs.map fun p => D.int p.2 : List D), ∃ u : Int, d = .int u ∧ 0 ≤ u := fun d hd => by
    rcases List.mem_append.mp hd with hd | hd
    · simp only [List.mem_cons, List.not_mem_nil, or_false] at hd
      rcases hd with rfl | rfl | rfl
      · exact ⟨_, rfl, by omega⟩
      · exact ⟨_, rfl, by omega⟩
      · exact ⟨_, rfl, by omega⟩
    · obtain ⟨p, hp, rfl⟩ := List.mem_map.mp hd
      exact ⟨_, rfl, (hbz p hp).2.2.1⟩
  generalize ([.int 0, .int 1, .int 4] ++ zs.map fun p => D.int p.2 : List D) = us at hus
  repeat (first | with_reducible refine w_run ?_ | simp)
  refine w_loopD (fun vs ρ st' => st' = st ∧ (∀ d ∈ vs, ∃ u : Int, d = .int u ∧ 0 ≤ u) ∧ ∃ a7 : SV, ρ = [.val .state, .val (.lst (xs.map eP)), .val (.lst (ys.map eP)), .val (.int t), .val (costD zs), .val (.lst (zs.map eP)), .val (.lst (ms.map D.int)), a7, .un, .un, .un, .un, .un, .un]) ?_ ?_ us _ st ⟨rfl, hus, _, rfl⟩
  rotate_left
  · rintro d vs ρ st' ⟨rfl, hv, a7, rfl⟩
    obtain ⟨u, rfl, hu⟩ := hv d (.head _)
    refine ⟨_, rfl, ?_⟩
    have hm4 : methOf (PySem.Str.ofString "Cost") (PySem.Str.ofString "latest") (costD zs) = some [(PySem.Str.ofString "pairs", pairsD zs)] := methOf_ins (by
      have : ((PySem.Str.ofString "latest") == (PySem.Str.ofString "pairs")) = false := by decide +kernel
      simp only [List.lookup, this])
    have hla := cost_latest_is (xs := zs) (st := st') hu
    have hlo := g_neRefl (latP_ok u zs)
    repeat (first | with_reducible refine w_run ?_ | simp [hm4, hla])
    refine init_is (xs := zs) (.inl rfl) (fun h => absurd h hz40) (fun _ p hp => by rw [bz] at hp; cases hp) fun _ _ => ?_
    repeat (first | with_reducible refine w_run ?_ | simp [hm4, hla, hlo])
    exact fun e he => hv e (.tail _ he)
  rintro ρ st' ⟨rfl, -, a7, rfl⟩
  have hj0 : m_law_joined [.lst (zs.map eP), .lst (ys.map eP), .int 0] st' = .ok (.lst ((joined (comb 0) zs ys).map eP)) st' := law_joined_is (w := 0) (by decide) (by omega) (by omega)
  have hj1 : m_law_joined [.lst (zs.map eP), .lst (ys.map eP), .int 1] st' = .ok (.lst ((joined (comb 1) zs ys).map eP)) st' := law_joined_is (w := 1) (by decide) (by omega) (by omega)
  have jl0 := joined_len (comb 0) zs ys
  have jl1 := joined_len (comb 1) zs ys
  have jb0 := joined_ok (comb 0) bz bY
  have jb1 := joined_ok (comb 1) bz bY
  have add : ∀ {ok : D → St1 → Prop} {er : Exn → St1 → Prop}, ¬ 40 < (joined (comb 0) zs ys).length → ok (costD (joined (comb 0) zs ys)) st' → Sat (m_Cost_add [costD zs, costD ys] st') ok er := fun {ok er} h q =>
    cost_add_is (by omega) (by omega) (by omega) bz bY (fun h' => absurd h' h) fun _ => q
  have orr : ∀ {ok : D → St1 → Prop} {er : Exn → St1 → Prop}, ¬ 40 < (joined (comb 1) zs ys).length → ok (costD (joined (comb 1) zs ys)) st' → Sat (m_Cost_or [costD ys, costD zs] st') ok er := fun {ok er} h q => by
    have e : joined (comb 1) zs ys = joined top2 ys zs := joined_comm 1 zs ys
    rw [e] at h q
    exact cost_or_is (by omega) (by omega) (by omega) bY bz (fun h' => absurd h' h) fun _ => q
  generalize joined (comb 0) zs ys = J0 at hj0 jl0 jb0 add
  generalize joined (comb 1) zs ys = J1 at hj1 jl1 jb1 orr
  have hic : ∀ us : List (Int × Int), isC "Cost" (costD us) = true := fun us => by simp [isC]
  repeat (first | with_reducible refine w_run ?_ | simp [hj0, hj1])
  by_cases h0 : 40 < J0.length
  · have h0' : (40 : Int) < J0.length := by omega
    have l0 : J0.length ≤ 16777216 := by omega
    have l1 : J1.length ≤ 16777216 := by omega
    repeat (first | with_reducible refine w_run ?_ | simp [h0', l0, l1])
    exact q _ (hk.le (by omega))
  have h0' : ¬ (40 : Int) < J0.length := by omega
  have l0 : J0.length ≤ 16777216 := by omega
  have l1 : J1.length ≤ 16777216 := by omega
  by_cases h1 : 40 < J1.length
  · have h1' : (40 : Int) < J1.length := by omega
    repeat (first | with_reducible refine w_run ?_ | simp [h0', h1', l0, l1])
    exact q _ (hk.le (by omega))
  have h1' : ¬ (40 : Int) < J1.length := by omega
  have hy40 : ¬ 40 < ys.length := by omega
  have st0 := steps_is (xs := J0) (st := st')
  have st1 := steps_is (xs := J1) (st := st')
  have n0 := g_neRefl (ok_pairs J0)
  have n1 := g_neRefl (ok_pairs J1)
  repeat (first | with_reducible refine w_run ?_ | simp [h0', h1', l0, l1])
  refine init_is (xs := ys) (.inl rfl) (fun h => absurd h hy40) (fun _ p hp => by rw [bY] at hp; cases hp) fun _ _ => ?_
  refine Ask.mk ⟨hic _, hic _⟩ ?_
  refine add h0 ?_
  repeat (first | with_reducible refine w_run ?_ | simp [st0, l0, n0])
  refine init_is (xs := ys) (.inl rfl) (fun h => absurd h hy40) (fun _ p hp => by rw [bY] at hp; cases hp) fun _ _ => ?_
  refine Ask.mk ⟨hic _, hic _⟩ ?_
  refine orr h1 ?_
  repeat (first | with_reducible refine w_run ?_ | simp [st1, l1, n1])
  refine init_is (xs := ys) (.inl rfl) (fun h => absurd h hy40) (fun _ p hp => by rw [bY] at hp; cases hp) fun _ _ => ?_
  refine Ask.mk ⟨hic _, hic _⟩ ?_
  refine add h0 ?_
  repeat (first | with_reducible refine w_run ?_ | simp)
  refine init_is (xs := ys) (.inl rfl) (fun h => absurd h hy40) (fun _ p hp => by rw [bY] at hp; cases hp) fun _ _ => ?_
  refine Ask.mk ⟨hic _, hic _⟩ ?_
  refine orr h1 ?_
  repeat (first | with_reducible refine w_run ?_ | simp)
  refine sat_draw (k := k) hk (by decide) (by decide) fun r st2 a1 b1 hk => ?_
  have hsel : ∃ J : List (Int × Int), ixD (.lst [costD J0, costD J1]) (.int r) = some (costD J) ∧ badP (-1, 0) J = none ∧ J.length ≤ 40 := by
    have : r = 0 ∨ r = 1 := by omega
    rcases this with rfl | rfl
    · exact ⟨J0, ixD_lst (i := 0) rfl, jb0, by omega⟩
    · exact ⟨J1, ixD_lst (i := 1) rfl, jb1, by omega⟩
  obtain ⟨J, hsel, hJ, hJ40⟩ := hsel
  have hJb : borFree (costD J) = true := rfl
  have hJl : J.length ≤ 16777216 := by omega
  have stJ := steps_is (xs := J) (st := st2)
  have hmJ : methOf (PySem.Str.ofString "Cost") (PySem.Str.ofString "at") (costD J) = some [(PySem.Str.ofString "pairs", pairsD J)] := methOf_ins (by
    have : ((PySem.Str.ofString "at") == (PySem.Str.ofString "pairs")) = false := by decide +kernel
    simp only [List.lookup, this])
  repeat (first | with_reducible refine w_run ?_ | simp [hsel, hJb, stJ, hJl, hml2])
  refine w_lc_map D.int (fun u => .int (atP u J 0)) ms (fun u hu => ⟨_, rfl, ?_⟩) ?_
  · have c1 := cost_at_is (xs := J) (st := st2) (hpos u hu) (by omega) hJ
    simp [hmJ, c1]
  refine w_lc_map D.int (fun u => .int (atP u J 0)) ms (fun u hu => ⟨_, rfl, ?_⟩) ?_
  · have c2 := law_at_l (xs := J) (t := u) (st := st2)
    simp [c2]
  have hsame : dNeG (.lst (ms.map fun u => .int (atP u J 0))) (.lst (ms.map fun u => .int (atP u J 0))) = some (.bl false) := g_neRefl (okG_lst (n := 0) (by decide) fun d hd => by
    obtain ⟨u, _, rfl⟩ := List.mem_map.mp hd
    exact ⟨rfl, by simp [toE, EP.depth]⟩)
  have hjT : m_law_joined [.lst (J.map eP), .lst (xs.map eP), .int 1] st2 = .ok (.lst ((joined (comb 1) J xs).map eP)) st2 := law_joined_is (w := 1) (by decide) (by omega) (by omega)
  have jlT := joined_len (comb 1) J xs
  have jbT := joined_ok (comb 1) hJ bx
  have orT : ∀ {ok : D → St1 → Prop} {er : Exn → St1 → Prop}, ¬ 40 < (joined (comb 1) J xs).length → ok (costD (joined (comb 1) J xs)) st2 → Sat (m_Cost_or [costD J, costD xs] st2) ok er := fun {ok er} h q =>
    cost_or_is (by omega) (by omega) (by omega) hJ bx (fun h' => absurd h' h) fun _ => q
  generalize joined (comb 1) J xs = JT at hjT jlT jbT orT
  have lT : JT.length ≤ 16777216 := by omega
  repeat (first | with_reducible refine w_run ?_ | simp [hsame, hjT])
  by_cases hT : 40 < JT.length
  · have hT' : (40 : Int) < JT.length := by omega
    repeat (first | with_reducible refine w_run ?_ | simp [hT', lT])
    exact q _ hk
  · have hT' : ¬ (40 : Int) < JT.length := by omega
    have stT := steps_is (xs := JT) (st := st2)
    have nT := g_eqRefl (ok_pairs JT)
    repeat (first | with_reducible refine w_run ?_ | simp [hT', lT])
    refine init_is (xs := xs) (.inl rfl) (fun h => absurd h (by omega)) (fun _ p hp => by rw [bx] at hp; cases hp) fun _ _ => ?_
    refine Ask.mk ⟨hic _, hic _⟩ ?_
    refine orT hT ?_
    repeat (first | with_reducible refine w_run ?_ | simp [stT, lT, nT])
    exact q _ hk

open PySem.SeqAt (EP)
/-- what law_right asks of the joined ones -/
theorem bok_of {xs ys : List (Int × Int)} (h : Bd (10 ^ 31 + 10 ^ 12) (10 ^ 31) xs) (k : Bd (10 ^ 31 + 10 ^ 12) (10 ^ 31) ys) : ∀ w, w < 2 → ∀ p ∈ joined (comb w) xs ys, BOk p := fun w _ =>
  (joined_bd (w := w) (by decide) h k).bok (by decide) (by decide)
theorem bd_more {xs : List (Int × Int)} (h : Bd (10 ^ 31) (10 ^ 31) xs) : Bd (10 ^ 31 + 10 ^ 12) (10 ^ 31) xs := fun p hp => by have := h p hp; omega
theorem odd_depth (d : D) (h : d ∈ [D.int (-1), .bl true, .non, .str (PySem.Str.ofString "1"), .lst [.int 2], .tup [.int 1], .dct []]) : (toE d).depth ≤ 2 := by
  simp only [List.mem_cons, List.not_mem_nil, or_false] at h
  rcases h with rfl | rfl | rfl | rfl | rfl | rfl | rfl <;> simp [toE, toEs, SeqAt.EP.depth, SeqAt.EP.depths]
theorem p12 : dPow (.int 10) (.int 12) = some (.int 1000000000000) := by rw [o_pow (by decide)]; rfl
theorem law_pure : ∀ ns : List Int, ns.length ≤ 63 → SatS (b_law (.val (.scr (ns.map D.int)) :: .val .state :: List.replicate (n_law.length - 2) .un) (st1 ns)) (fun fl _ => fl = .rt (.bl true)) := by
  intro ns _
  have h0 := st0_ok ns
  generalize st1 ns = st at h0
  have e : (.val (.scr (ns.map D.int)) :: .val .state :: List.replicate (n_law.length - 2) .un : Sl) = [.val (.scr (ns.map D.int)), .val .state, .un, .un, .un, .un, .un, .un, .un] := rfl
  rw [e]
  generalize SV.val (.scr (ns.map D.int)) = s0
  unfold b_law
  repeat (first | with_reducible refine w_run ?_ | simp)
  refine law_many_is (k := 1000) (h0.le (by decide)) fun xs st1 hp hx bx hk => ?_
  refine law_many_is (k := 500) (hk.le (by decide)) fun ys st2 hq hy bY hk => ?_
  have Bx := bd_more (bd_of hp)
  have By := bd_more (bd_of hq)
  repeat (first | with_reducible refine w_run ?_ | simp)
  refine law_right_is (k := 490) hx hy bx bY (bok_of Bx By) (hk.le (by decide)) fun st3 hk => ?_
  repeat (first | with_reducible refine w_run ?_ | simp)
  refine law_right_is (k := 480) hx hx bx bx (bok_of Bx Bx) (hk.le (by decide)) fun st4 hk => ?_
  repeat (first | with_reducible refine w_run ?_ | simp)
  have hx40 : ¬ 40 < xs.length := by omega
  refine init_is (xs := xs) (.inl rfl) (fun h => absurd h hx40) (fun _ p hp => by rw [bx] at hp; cases hp) fun _ _ => ?_
  repeat (first | with_reducible refine w_run ?_ | simp [p12])
  refine sat_draw (k := 470) (hk.le (by decide)) (by decide) (by decide) fun r st5 a1 b1 hk => ?_
  repeat (first | with_reducible refine w_run ?_ | simp [p12])
  refine w_loopD (fun ds ρ st' => Ok (ds.length * 100 + 10) st' ∧ (∀ d ∈ ds, ∃ t : Int, d = .int t ∧ 0 ≤ t ∧ t ≤ 10 ^ 12) ∧ ∃ a3 a7 : SV, ρ = [s0, .val .state, .val (costD xs), a3, .un, .val (.lst (xs.map eP)), .val (.lst (ys.map eP)), a7, .un]) ?_ ?_ _ _ st5 ⟨hk.le (by simp), ?_, _, _, rfl⟩
  · rintro ρ st' ⟨hk, -, a3, a7, rfl⟩
    have bf0 : borFree (.dct []) = true := rfl
    repeat (first | with_reducible refine w_run ?_ | simp [bf0])
    refine sat_draw (size := 7) (k := 0) (hk.le (by decide)) (by decide) (by decide) fun r st6 a2 b2 hk => ?_
    have hsel : ∃ d, ixD (.lst [D.int (-1), .bl true, .non, .str (PySem.Str.ofString "1"), .lst [.int 2], .tup [.int 1], .dct []]) (.int r) = some d ∧ Odd d ∧ (toE d).depth ≤ 2 := by
      obtain ⟨z, rfl, b2⟩ := nat_of a2 b2
      have hz : z < [D.int (-1), .bl true, .non, .str (PySem.Str.ofString "1"), .lst [.int 2], .tup [.int 1], .dct []].length := by simp; omega
      exact ⟨_, ixD_lst (List.getElem?_eq_getElem hz), odd_all _ (List.getElem_mem hz), odd_depth _ (List.getElem_mem hz)⟩
    obtain ⟨d, hsel, od, odd⟩ := hsel
    have hf := od.f
    have hs := law_shift_bad (xs := xs) (st := st6) od
    have he := g_eqRefl (okG_two (s := PySem.Str.ofString "number") od.g.1 odd)
    repeat (first | with_reducible refine w_run ?_ | simp [hsel, hf, hs, he])
  · rintro d ds ρ st' ⟨hk, hd, a3, a7, rfl⟩
    obtain ⟨t, rfl, ht⟩ := hd d (.head _)
    refine ⟨_, rfl, ?_⟩
    have hxl : xs.length ≤ 16777216 := by omega
    repeat (first | with_reducible refine w_run ?_ | simp [hxl])
    refine w_lc_map eP (fun p => .tup [.int (p.1 + t), .int p.2]) xs (fun p hp => ⟨_, rfl, ?_⟩) ?_
    · simp
    have e : xs.map (fun p => D.tup [.int (p.1 + t), .int p.2]) = (lateL t xs).map eP := by rw [lateL, List.map_map]; rfl
    rw [e]
    have hsh := law_shift_is (st := st') ht.1 hx bx
    have hBz : Bd (10 ^ 31 + 10 ^ 12) (10 ^ 31) (lateL t xs) := fun p hp' => by
      have := lateL_bd ht.1 (bd_of hp) p hp'
      omega
    have hll : (lateL t xs).length = xs.length := by simp [lateL]
    have bz : badP (-1, 0) (lateL t xs) = none := lateL_ok ht.1 bx
    have hcl := fun st => cost_later_is (st := st) ht.1 hx bx
    have hgo := g_neRefl (okG_two (s := PySem.Str.ofString "told") (ok_pairs (lateL t xs)).1 (depth_pairs _))
    generalize lateL t xs = zs at hsh hBz hll bz hcl hgo
    have hzl : zs.length ≤ 16777216 := by omega
    have hz40 : ¬ 40 < zs.length := by omega
    simp only [List.length_cons] at hk
    repeat (first | with_reducible refine w_run ?_ | simp [hsh, hgo, hzl])
    refine law_right_is (k := ds.length * 100 + 80) (by omega) hy bz bY (bok_of hBz By) (hk.le (by omega)) fun st6 hk => ?_
    have hc := hcl st6
    have hm : methOf (PySem.Str.ofString "Cost") (PySem.Str.ofString "later") (costD xs) = some [(PySem.Str.ofString "pairs", pairsD xs)] := methOf_ins (by
      have : ((PySem.Str.ofString "later") == (PySem.Str.ofString "pairs")) = false := by decide +kernel
      simp only [List.lookup, this])
    have hok : ∀ us, okTy ["Cost"] (costD us) = true := fun us => by simp [okTy]
    have hce := cost_eq_is (xs := zs) (ys := zs) (st := st6)
    have hce2 := cost_eq_is (xs := xs) (ys := xs) (st := st6)
    repeat (first | with_reducible refine w_run ?_ | simp [hm, hc])
    refine init_is (xs := zs) (.inl rfl) (fun h => absurd h hz40) (fun _ p hp => by rw [bz] at hp; cases hp) fun _ _ => ?_
    refine Ask.mk (hok _) ?_
    repeat (first | with_reducible refine w_run ?_ | simp [hce])
    refine init_is (xs := xs) (.inl rfl) (fun h => absurd h hx40) (fun _ p hp => by rw [bx] at hp; cases hp) fun _ _ => ?_
    refine Ask.mk (hok _) ?_
    repeat (first | with_reducible refine w_run ?_ | simp [hce2])
    refine law_later_right_is (k := ds.length * 100 + 70) ht hx hy bx bY hp hq (hk.le (by omega)) fun st7 hk => ?_
    repeat (first | with_reducible refine w_run ?_ | simp)
    exact ⟨hk.le (by omega), fun d hd' => hd d (.tail _ hd')⟩
  · intro d hd
    simp only [List.mem_cons, List.not_mem_nil, or_false] at hd
    rcases hd with rfl | rfl | rfl
    · exact ⟨_, rfl, by decide, by decide⟩
    · exact ⟨_, rfl, by omega, by omega⟩
    · exact ⟨_, rfl, by decide, by decide⟩

theorem ok_law {f : Addr} {fd : FuncData} {A_Cost : Addr} (T : Txt mg) (F : Fun K "law" "law" s_law f fd) (c_law_many : Cal Pr w K mg base 3 "_law_many" ["_law_state"] (spD K mg RB 1 m_law_many)) (c_law_right : Cal Pr w K mg base 7 "_law_right" ["_law_state", "_law_one", "_law_other"] (spD K mg RB 3 m_law_right)) (cc_Cost : ClsK K mg "Cost" ["pairs"] A_Cost) (cm_Cost : CalM Pr w K mg base 3 "Cost" ["self", "steps"] (spI K mg RB 1 "Cost" m_Cost_init) A_Cost) (c_law_take : Cal Pr w K mg base 1 "_law_take" ["_law_state", "_law_limit"] (spD K mg RB 2 m_law_take)) (c_law_shift : Cal Pr w K mg base 6 "_law_shift" ["_law_cost", "_law_far1"] (spD K mg RB 2 m_law_shift)) (cq_Cost : CalQ Pr w K mg base 1 ["self", "other"] (spD K mg RB 2 m_Cost_eq) A_Cost) (kq_Cost : EqK K mg "Cost" A_Cost ["Cost"]) (cek_Cost_later_by : CalEK Pr w K mg base 5 "later" ["self", "by"] ["by"] [0] (spD K mg RB 2 m_Cost_later) A_Cost) (c_law_later_right : Cal Pr w K mg base 6 "_law_later_right" ["_law_state", "_law_one", "_law_other", "_law_far1"] (spD K mg RB 4 m_law_later_right)) (c_law_start : Cal Pr w K mg base 1 "_law_start" ["_law_script"] (spStart K)) : FnOk Pr w K mg base (L2.CX Pr w) 8 f fd ["_law_script"] (spLaw K) :=
  fn_law (lv := 1) (N := ["_law_cost", "_law_far1", "_law_odd", "_law_one", "_law_other", "_law_later", "_law_step"]) F sc_law c_law_start (by decide) rfl
    (fun cdv A outer s H E hr => by
      have sc := sc_law
      have tk : Takes (cxOf (L2.CX Pr w) Pr w K mg base n_law "law" (defScope s_law) f cdv A outer s H E) (fun c d _ H' => E c d H') := takes_of rfl rfl rfl rfl
      exact ps_set (i := 1) sc.nd rfl (by first | exact Or.inl rfl | exact Or.inr rfl) (pe_cal c_law_start (hr.mono (by decide)) tk (pa_cons (pv 0) pa_nil)))
    (fun cdv A outer s H E hr => by
      have sc := sc_law
      have tk : Takes (cxOf (L2.CX Pr w) Pr w K mg base n_law "law" (defScope s_law) f cdv A outer s H E) (fun c d _ H' => E c d H') := takes_of rfl rfl rfl rfl
      refine ⟨_, (pss_cons (ps_par (i := 5) (j := 6) rfl sc.nd rfl rfl (by decide) rfl rfl (pa_cons (pe_cal c_law_many (hr.mono (by decide)) tk (pa_cons (pv 1) pa_nil)) (pa_cons (pe_cal c_law_many (hr.mono (by decide)) tk (pa_cons (pv 1) pa_nil)) pa_nil)) (by rfl))
      (pss_cons (ps_if (PW.pt (pw_or (pt_not (pt_val (pe_cal c_law_right (hr.mono (by decide)) tk (pa_cons (pv 1) (pa_cons (pv 5) (pa_cons (pv 6) pa_nil)))))) (pw_or1 (pt_not (pt_val (pe_cal c_law_right (hr.mono (by decide)) tk (pa_cons (pv 1) (pa_cons (pv 5) (pa_cons (pv 5) pa_nil))))))))) (pss_one (ps_ret pe_bl)) pss_nil)
      (pss_cons (ps_set (i := 2) sc.nd rfl (by first | exact Or.inl rfl | exact Or.inr rfl) (pe_mk cm_Cost (hr.mono (by decide)) tk (pa_cons (pv 5) pa_nil)))
      (pss_cons (ps_for (passes_of rfl) rfl (k_it K (pe_lst (pa_cons pe_int (pa_cons (pe_op (k_add K) pe_int (pe_cal c_law_take (hr.mono (by decide)) tk (pa_cons (pv 1) (pa_cons pe_int pa_nil)))) (pa_cons (pe_op op_pow pe_int pe_int) pa_nil))))) (pg_name (i := 3) sc.nd rfl (by first | exact Or.inl rfl | exact Or.inr rfl)) (pss_cons (ps_setLc (i := 7) (own := [("_law_step", 8)]) rfl sc.nd rfl rfl (sw_true rfl rfl rfl (by decide +kernel)) (k_it K (pv 5)) (blkOk_by (N := n_law) (sc := defScope s_law) (by decide +kernel)) (fun _ _ _ _ _ => (pg_name (i := 8) sc.nd rfl (by first | exact Or.inl rfl | exact Or.inr rfl))) (fun _ _ _ _ _ => pts_nil) (fun _ _ _ _ _ => (pe_tup (pa_cons (pe_op (k_add K) (pe_ix (k_ix K) (pv 8) pe_int (fun _ _ => rfl)) (pv 3)) (pa_cons (pe_ix (k_ix K) (pv 8) pe_int (fun _ _ => rfl)) pa_nil)))))
      (pss_cons (ps_if (PW.pt (pw_or (pt_cmpR (k_neG hr.units) (pe_cal c_law_shift (hr.mono (by decide)) tk (pa_cons (pv 2) (pa_cons (pv 3) pa_nil))) (pe_tup (pa_cons pe_str (pa_cons (pe_callTy (k_tuple K) (by rfl) T.n_tuple boot_x_tuple (pa_cons (pv 7) pa_nil)) pa_nil))) (nomark _)) (pw_or1 (pt_not (pt_val (pe_cal c_law_right (hr.mono (by decide)) tk (pa_cons (pv 1) (pa_cons (pv 7) (pa_cons (pv 6) pa_nil))))))))) (pss_one (ps_ret pe_bl)) pss_nil)
      (pss_cons (ps_if (PW.pt (pw_or (pt_cmpR (opr_ne K cq_Cost (hr.mono (by decide))) (pe_meK cek_Cost_later_by (hr.mono (by decide)) tk (pv 2) (pk_cons (pv 3) pk_nil)) (pe_mk cm_Cost (hr.mono (by decide)) tk (pa_cons (pv 7) pa_nil)) (nomark _)) (pw_or1 (pt_cmpR (opr_ne K cq_Cost (hr.mono (by decide))) (pv 2) (pe_mk cm_Cost (hr.mono (by decide)) tk (pa_cons (pv 5) pa_nil)) (nomark _))))) (pss_one (ps_ret pe_bl)) pss_nil)
      (pss_one (ps_if (pt_not (pt_val (pe_cal c_law_later_right (hr.mono (by decide)) tk (pa_cons (pv 1) (pa_cons (pv 5) (pa_cons (pv 6) (pa_cons (pv 3) pa_nil))))))) (pss_one (ps_ret pe_bl)) pss_nil))))))
      (pss_cons (ps_set (i := 4) sc.nd rfl (by first | exact Or.inl rfl | exact Or.inr rfl) (pe_ix (k_ix K) (pe_lst (pa_cons (pe_un un_neg pe_int) (pa_cons pe_bl (pa_cons pe_non (pa_cons pe_str (pa_cons (pe_lst (pa_cons pe_int pa_nil)) (pa_cons (pe_tup (pa_cons pe_int pa_nil)) (pa_cons pe_dnewK pa_nil)))))))) (pe_cal c_law_take (hr.mono (by decide)) tk (pa_cons (pv 1) (pa_cons pe_int pa_nil))) (fun _ _ => rfl)))
      (pss_one (ps_ret (pe_cmpR (k_eqG hr.units) (pe_cal c_law_shift (hr.mono (by decide)) tk (pa_cons (pv 2) (pa_cons (pv 4) pa_nil))) (pe_tup (pa_cons pe_str (pa_cons (pv 4) pa_nil))) (nomark _))))))))), fun sa => ?_⟩
      exact (evs_seq (evs_par (i := 5) (j := 6) (eva_cons (evd_call (Rf := RB) (gCons_len gNil_len) (eva_cons (ev_var 1) eva_nil)) (eva_cons (evd_call (Rf := RB) (gCons_len gNil_len) (eva_cons (ev_var 1) eva_nil)) eva_nil)))
      (evs_seq (evs_if (evt_or (evt_not (evt_B (evd_call (Rf := RB) (gCons_len (gCons_len (gCons_len gNil_len))) (eva_cons (ev_var 1) (eva_cons (ev_var 5) (eva_cons (ev_var 6) eva_nil)))))) (evt_not (evt_B (evd_call (Rf := RB) (gCons_len (gCons_len (gCons_len gNil_len))) (eva_cons (ev_var 1) (eva_cons (ev_var 5) (eva_cons (ev_var 5) eva_nil))))))) (evs_ret ev_bl) evs_next)
      (evs_seq (evs_asg (evd_make (Rf := RB) cc_Cost.at_ (gCons_len gNil_len) (eva_cons (ev_var 5) eva_nil)) (tgd_name (vs := [2]) (by decide)))
      (evs_seq (evs_for (vs := [3]) (evj_all rfl (EvN.evd (evn_lst (eva_cons ev_int (eva_cons (ev_op opd_add ev_int (evd_call (Rf := RB) (gCons_len (gCons_len gNil_len)) (eva_cons (ev_var 1) (eva_cons ev_int eva_nil)))) (eva_cons (ev_op opd_pow ev_int ev_int) eva_nil)))))) (tgd_name (by decide)) (evs_seq (evs_asg (EvN.evd (evn_lc (vs := [8]) (evi_all rfl (ev_var 5)) (tgd_name (by decide)) evt_yes (ev_tup (eva_cons (ev_op opd_add (ev_op opd_ix (ev_var 8) ev_int) (ev_var 3)) (eva_cons (ev_op opd_ix (ev_var 8) ev_int) eva_nil))))) (tgd_name (vs := [7]) (by decide)))
      (evs_seq (evs_if (evt_or (evt_test (ev_op opd_neG (evd_call (Rf := RB) (gCons_len (gCons_len gNil_len)) (eva_cons (ev_var 2) (eva_cons (ev_var 3) eva_nil))) (ev_tup (eva_cons ev_str (eva_cons (ev_cb calld_tuple (eva_cons (ev_var 7) eva_nil)) eva_nil))))) (evt_not (evt_B (evd_call (Rf := RB) (gCons_len (gCons_len (gCons_len gNil_len))) (eva_cons (ev_var 1) (eva_cons (ev_var 7) (eva_cons (ev_var 6) eva_nil))))))) (evs_ret ev_bl) evs_next)
      (evs_seq (evs_if (evt_or (evt_test (ev_neO (Rf := RB) kq_Cost cc_Cost.at_ (ev_methK (Rf := RB) (n := 1) cc_Cost.at_ (gCons_len gNil_len) rfl (by decide) (ev_var 2) (eva_cons (ev_var 3) eva_nil)) (evd_make (Rf := RB) cc_Cost.at_ (gCons_len gNil_len) (eva_cons (ev_var 7) eva_nil)))) (evt_test (ev_neO (Rf := RB) kq_Cost cc_Cost.at_ (ev_var 2) (evd_make (Rf := RB) cc_Cost.at_ (gCons_len gNil_len) (eva_cons (ev_var 5) eva_nil))))) (evs_ret ev_bl) evs_next)
      (evs_if (evt_not (evt_B (evd_call (Rf := RB) (gCons_len (gCons_len (gCons_len (gCons_len gNil_len)))) (eva_cons (ev_var 1) (eva_cons (ev_var 5) (eva_cons (ev_var 6) (eva_cons (ev_var 3) eva_nil))))))) (evs_ret ev_bl) evs_next)))))
      (evs_seq (evs_asg (ev_op opd_ix (EvN.evd (evn_lst (eva_cons (ev_un und_neg ev_int) (eva_cons ev_bl (eva_cons ev_non (eva_cons ev_str (eva_cons (EvN.evd (evn_lst (eva_cons ev_int eva_nil))) (eva_cons (ev_tup (eva_cons ev_int eva_nil)) (eva_cons ev_dct0 eva_nil))))))))) (evd_call (Rf := RB) (gCons_len (gCons_len gNil_len)) (eva_cons (ev_var 1) (eva_cons ev_int eva_nil)))) (tgd_name (vs := [4]) (by decide)))
      (evs_ret (ev_op opd_eqG (evd_call (Rf := RB) (gCons_len (gCons_len gNil_len)) (eva_cons (ev_var 2) (eva_cons (ev_var 4) eva_nil))) (ev_tup (eva_cons ev_str (eva_cons (ev_var 4) eva_nil))))))))))) law_pure
end
theorem all_mk {l : PySem.W.OpenLaw} {w : World} {K : PySem.W.Frag} {h : Heap} {mg : Str → Option Value} {fa : Addr} (X : K.In h) (G : h.Ns mainGlobals mg) (hfa : mg "law" = some (.ref fa))
    {A_TailError : Addr}
    (a_TailError : PySem.W.nsIn K mainGlobals "TailError" = some (some (.ref A_TailError)))
    (rT_TailError : PySem.W.readsIn K A_TailError (.type "type") = true)
    (gT_TailError : PySem.W.specialIn K (.ref A_TailError) "__getattribute__" = some (some (.builtin "type.__getattribute__")))
    (iT_TailError : PySem.W.findCls K (.ref A_TailError) (.type "type") "__init__" = some (.val (.builtin "ValueError.__init__")))
    {A_BadCount x_XBadCount : Addr} {nm_BadCount qn_BadCount : Str} {N_BadCount : Addr} {bs_BadCount : List Value} {sn_BadCount : List Str} {sb_BadCount : List Value} {ab_BadCount : Bool} {co_BadCount : Option Bool} {dd_BadCount : Option Addr} {k0_BadCount k1_BadCount k2_BadCount k3_BadCount k5_BadCount : Option Value}
    (a_BadCount : PySem.W.nsIn K mainGlobals "BadCount" = some (some (.ref A_BadCount)))
    (lX_BadCount : K.lookup A_BadCount = some (excClassObj nm_BadCount qn_BadCount A_BadCount N_BadCount bs_BadCount [.ref A_TailError, .type "ValueError", .type "Exception", .type "BaseException", .type "object"] true sn_BadCount sb_BadCount ab_BadCount co_BadCount dd_BadCount k0_BadCount k1_BadCount k2_BadCount k3_BadCount k5_BadCount "ValueError.__new__"))
    (sa_BadCount : PySem.W.findIn K (.ref A_BadCount) "__setattr__" = some (some (.builtin "object.__setattr__")))
    (ex_BadCount : PySem.W.subIn K (.ref A_BadCount) (.type "BaseException") = some true)
    (ty_BadCount : PySem.W.typeIn K (.ref A_BadCount) = some (.type "type"))
    (kc_BadCount : PySem.W.keepIn K (.ref A_BadCount) = true)
    (ga_BadCount : PySem.W.findIn K (.ref A_BadCount) "__getattribute__" = some (some (.builtin "BaseException.__getattribute__")))
    (gg_BadCount : PySem.W.findIn K (.ref A_BadCount) "__getattr__" = some none)
    (hd_BadCount : PySem.W.hasDictIn K A_BadCount = true)
    (ic_BadCount : PySem.W.isClsIn K A_BadCount = true)
    (in_BadCount : PySem.W.findIn K (.ref A_BadCount) "__init__" = some (some (.ref x_XBadCount)))
    (ti_BadCount : PySem.W.typeIn K (.ref x_XBadCount) = some (.type "function"))
    (nof_BadCount : PySem.W.findIn K (.ref A_BadCount) "count" = some none)
    {od_XBadCount an_XBadCount : Option Addr} {sl_XBadCount : Array (Option Value)} {oc_XBadCount kV_XBadCount dc_XBadCount pm_XBadCount cd_XBadCount ct_XBadCount : Value}
    (l_XBadCount : K.lookup x_XBadCount = some ⟨oc_XBadCount, od_XBadCount, .func (PySem.W.fnOf "__init__" "BadCount.__init__" (defArgs sx_BadCount) (defBody sx_BadCount) (defScope sx_BadCount) .none kV_XBadCount dc_XBadCount pm_XBadCount an_XBadCount cd_XBadCount ct_XBadCount), sl_XBadCount⟩)
    (c_XBadCount_ : PySem.W.codeIn K cd_XBadCount "BadCount.__init__" = true)
    (k_XBadCount : PySem.W.keepIn K (.ref x_XBadCount) = true)
    {A_BadSteps x_XBadSteps : Addr} {nm_BadSteps qn_BadSteps : Str} {N_BadSteps : Addr} {bs_BadSteps : List Value} {sn_BadSteps : List Str} {sb_BadSteps : List Value} {ab_BadSteps : Bool} {co_BadSteps : Option Bool} {dd_BadSteps : Option Addr} {k0_BadSteps k1_BadSteps k2_BadSteps k3_BadSteps k5_BadSteps : Option Value}
    (a_BadSteps : PySem.W.nsIn K mainGlobals "BadSteps" = some (some (.ref A_BadSteps)))
    (lX_BadSteps : K.lookup A_BadSteps = some (excClassObj nm_BadSteps qn_BadSteps A_BadSteps N_BadSteps bs_BadSteps [.ref A_TailError, .type "ValueError", .type "Exception", .type "BaseException", .type "object"] true sn_BadSteps sb_BadSteps ab_BadSteps co_BadSteps dd_BadSteps k0_BadSteps k1_BadSteps k2_BadSteps k3_BadSteps k5_BadSteps "ValueError.__new__"))
    (sa_BadSteps : PySem.W.findIn K (.ref A_BadSteps) "__setattr__" = some (some (.builtin "object.__setattr__")))
    (ex_BadSteps : PySem.W.subIn K (.ref A_BadSteps) (.type "BaseException") = some true)
    (ty_BadSteps : PySem.W.typeIn K (.ref A_BadSteps) = some (.type "type"))
    (kc_BadSteps : PySem.W.keepIn K (.ref A_BadSteps) = true)
    (ga_BadSteps : PySem.W.findIn K (.ref A_BadSteps) "__getattribute__" = some (some (.builtin "BaseException.__getattribute__")))
    (gg_BadSteps : PySem.W.findIn K (.ref A_BadSteps) "__getattr__" = some none)
    (hd_BadSteps : PySem.W.hasDictIn K A_BadSteps = true)
    (ic_BadSteps : PySem.W.isClsIn K A_BadSteps = true)
    (in_BadSteps : PySem.W.findIn K (.ref A_BadSteps) "__init__" = some (some (.ref x_XBadSteps)))
    (ti_BadSteps : PySem.W.typeIn K (.ref x_XBadSteps) = some (.type "function"))
    (nof_BadSteps : PySem.W.findIn K (.ref A_BadSteps) "value" = some none)
    {od_XBadSteps an_XBadSteps : Option Addr} {sl_XBadSteps : Array (Option Value)} {oc_XBadSteps kV_XBadSteps dc_XBadSteps pm_XBadSteps cd_XBadSteps ct_XBadSteps : Value}
    (l_XBadSteps : K.lookup x_XBadSteps = some ⟨oc_XBadSteps, od_XBadSteps, .func (PySem.W.fnOf "__init__" "BadSteps.__init__" (defArgs sx_BadSteps) (defBody sx_BadSteps) (defScope sx_BadSteps) .none kV_XBadSteps dc_XBadSteps pm_XBadSteps an_XBadSteps cd_XBadSteps ct_XBadSteps), sl_XBadSteps⟩)
    (c_XBadSteps_ : PySem.W.codeIn K cd_XBadSteps "BadSteps.__init__" = true)
    (k_XBadSteps : PySem.W.keepIn K (.ref x_XBadSteps) = true)
    {A_BadNumber x_XBadNumber : Addr} {nm_BadNumber qn_BadNumber : Str} {N_BadNumber : Addr} {bs_BadNumber : List Value} {sn_BadNumber : List Str} {sb_BadNumber : List Value} {ab_BadNumber : Bool} {co_BadNumber : Option Bool} {dd_BadNumber : Option Addr} {k0_BadNumber k1_BadNumber k2_BadNumber k3_BadNumber k5_BadNumber : Option Value}
    (a_BadNumber : PySem.W.nsIn K mainGlobals "BadNumber" = some (some (.ref A_BadNumber)))
    (lX_BadNumber : K.lookup A_BadNumber = some (excClassObj nm_BadNumber qn_BadNumber A_BadNumber N_BadNumber bs_BadNumber [.ref A_TailError, .type "ValueError", .type "Exception", .type "BaseException", .type "object"] true sn_BadNumber sb_BadNumber ab_BadNumber co_BadNumber dd_BadNumber k0_BadNumber k1_BadNumber k2_BadNumber k3_BadNumber k5_BadNumber "ValueError.__new__"))
    (sa_BadNumber : PySem.W.findIn K (.ref A_BadNumber) "__setattr__" = some (some (.builtin "object.__setattr__")))
    (ex_BadNumber : PySem.W.subIn K (.ref A_BadNumber) (.type "BaseException") = some true)
    (ty_BadNumber : PySem.W.typeIn K (.ref A_BadNumber) = some (.type "type"))
    (kc_BadNumber : PySem.W.keepIn K (.ref A_BadNumber) = true)
    (ga_BadNumber : PySem.W.findIn K (.ref A_BadNumber) "__getattribute__" = some (some (.builtin "BaseException.__getattribute__")))
    (gg_BadNumber : PySem.W.findIn K (.ref A_BadNumber) "__getattr__" = some none)
    (hd_BadNumber : PySem.W.hasDictIn K A_BadNumber = true)
    (ic_BadNumber : PySem.W.isClsIn K A_BadNumber = true)
    (in_BadNumber : PySem.W.findIn K (.ref A_BadNumber) "__init__" = some (some (.ref x_XBadNumber)))
    (ti_BadNumber : PySem.W.typeIn K (.ref x_XBadNumber) = some (.type "function"))
    (nof_BadNumber : PySem.W.findIn K (.ref A_BadNumber) "value" = some none)
    {od_XBadNumber an_XBadNumber : Option Addr} {sl_XBadNumber : Array (Option Value)} {oc_XBadNumber kV_XBadNumber dc_XBadNumber pm_XBadNumber cd_XBadNumber ct_XBadNumber : Value}
    (l_XBadNumber : K.lookup x_XBadNumber = some ⟨oc_XBadNumber, od_XBadNumber, .func (PySem.W.fnOf "__init__" "BadNumber.__init__" (defArgs sx_BadNumber) (defBody sx_BadNumber) (defScope sx_BadNumber) .none kV_XBadNumber dc_XBadNumber pm_XBadNumber an_XBadNumber cd_XBadNumber ct_XBadNumber), sl_XBadNumber⟩)
    (c_XBadNumber_ : PySem.W.codeIn K cd_XBadNumber "BadNumber.__init__" = true)
    (k_XBadNumber : PySem.W.keepIn K (.ref x_XBadNumber) = true)
    {A_BadText : Addr}
    (a_BadText : PySem.W.nsIn K mainGlobals "BadText" = some (some (.ref A_BadText)))
    (sub_BadCount_BadCount : PySem.W.subIn K (.ref A_BadCount) (.ref A_BadCount) = some true)
    (sub_BadText_BadCount : PySem.W.subIn K (.ref A_BadText) (.ref A_BadCount) = some false)
    (sub_BadNumber_BadCount : PySem.W.subIn K (.ref A_BadNumber) (.ref A_BadCount) = some false)
    (sub_BadSteps_BadCount : PySem.W.subIn K (.ref A_BadSteps) (.ref A_BadCount) = some false)
    (sub_BadCount_BadNumber : PySem.W.subIn K (.ref A_BadCount) (.ref A_BadNumber) = some false)
    (sub_BadText_BadNumber : PySem.W.subIn K (.ref A_BadText) (.ref A_BadNumber) = some false)
    (sub_BadNumber_BadNumber : PySem.W.subIn K (.ref A_BadNumber) (.ref A_BadNumber) = some true)
    (sub_BadSteps_BadNumber : PySem.W.subIn K (.ref A_BadSteps) (.ref A_BadNumber) = some false)
    {A_Cost x_Cost_init : Addr}
    (a_Cost : PySem.W.nsIn K mainGlobals "Cost" = some (some (.ref A_Cost)))
    (pg_Cost : PySem.W.plainGet K A_Cost Str.empty = true)
    (hd_Cost : PySem.W.hasDictIn K A_Cost = true)
    (po_Cost : PySem.W.plainOver K A_Cost = true)
    (sa_Cost : PySem.W.findIn K (.ref A_Cost) "__setattr__" = some (some (.builtin "object.__setattr__")))
    (mk_Cost : PySem.W.makesIn K A_Cost = true)
    (kc_Cost : PySem.W.keepIn K (.ref A_Cost) = true)
    (no_Cost_pairs : PySem.W.findIn K (.ref A_Cost) "pairs" = some none)
    (hn_obj : PySem.W.specialIn K (.builtin "object.__class__") "__get__" = some (some (.builtin "getset_descriptor.__get__")))
    (ht_obj : PySem.W.takesIn K (.builtin "object.__class__") = some true)
    (ha_Cost : PySem.W.findIn K (.ref A_Cost) "__class__" = some (some (.builtin "object.__class__")))
    (hm_Cost : PySem.W.mroIn K A_Cost (.type "object") = some true)
    (ic_Cost : PySem.W.isClsIn K A_Cost = true)
    (ty_Cost : PySem.W.typeIn K (.ref A_Cost) = some (.type "type"))
    (nF_Cost_NoneType : PySem.W.notFirst K A_Cost (.type "NoneType") = true)
    (sB_Cost_NoneType : PySem.W.subIn K (.type "NoneType") (.ref A_Cost) = some false)
    (nF_Cost_bool : PySem.W.notFirst K A_Cost (.type "bool") = true)
    (sB_Cost_bool : PySem.W.subIn K (.type "bool") (.ref A_Cost) = some false)
    (nF_Cost_int : PySem.W.notFirst K A_Cost (.type "int") = true)
    (sB_Cost_int : PySem.W.subIn K (.type "int") (.ref A_Cost) = some false)
    (nF_Cost_str : PySem.W.notFirst K A_Cost (.type "str") = true)
    (sB_Cost_str : PySem.W.subIn K (.type "str") (.ref A_Cost) = some false)
    (nF_Cost_tuple : PySem.W.notFirst K A_Cost (.type "tuple") = true)
    (sB_Cost_tuple : PySem.W.subIn K (.type "tuple") (.ref A_Cost) = some false)
    (nF_Cost_list : PySem.W.notFirst K A_Cost (.type "list") = true)
    (sB_Cost_list : PySem.W.subIn K (.type "list") (.ref A_Cost) = some false)
    (nF_Cost_dict : PySem.W.notFirst K A_Cost (.type "dict") = true)
    (sB_Cost_dict : PySem.W.subIn K (.type "dict") (.ref A_Cost) = some false)
    (nF_Cost_Cost : PySem.W.notFirst K A_Cost (.ref A_Cost) = true)
    (z_abs : PySem.W.nsIn K mainGlobals "abs" = some none)
    (z_bool : PySem.W.nsIn K mainGlobals "bool" = some none)
    (z_int : PySem.W.nsIn K mainGlobals "int" = some none)
    (z_isinstance : PySem.W.nsIn K mainGlobals "isinstance" = some none)
    (z_len : PySem.W.nsIn K mainGlobals "len" = some none)
    (z_list : PySem.W.nsIn K mainGlobals "list" = some none)
    (z_max : PySem.W.nsIn K mainGlobals "max" = some none)
    (z_range : PySem.W.nsIn K mainGlobals "range" = some none)
    (z_set : PySem.W.nsIn K mainGlobals "set" = some none)
    (z_sorted : PySem.W.nsIn K mainGlobals "sorted" = some none)
    (z_str : PySem.W.nsIn K mainGlobals "str" = some none)
    (z_sum : PySem.W.nsIn K mainGlobals "sum" = some none)
    (z_tuple : PySem.W.nsIn K mainGlobals "tuple" = some none)
    {t_MOST_STEPS : Tok}
    (v_MOST_STEPS : PySem.W.nsIn K mainGlobals "MOST_STEPS" = some (some (.int 40 t_MOST_STEPS)))
    {x_law_start : Addr}
    (a_law_start : PySem.W.nsIn K mainGlobals "_law_start" = some (some (.ref x_law_start)))
    {od_law_start an_law_start : Option Addr} {sl_law_start : Array (Option Value)} {oc_law_start kV_law_start dc_law_start pm_law_start cd_law_start ct_law_start : Value}
    (l_law_start : K.lookup x_law_start = some ⟨oc_law_start, od_law_start, .func (PySem.W.fnOf "_law_start" "_law_start" (defArgs s_law_start) (defBody s_law_start) (defScope s_law_start) .none kV_law_start dc_law_start pm_law_start an_law_start cd_law_start ct_law_start), sl_law_start⟩)
    (c_law_start_ : PySem.W.codeIn K cd_law_start "_law_start" = true)
    (k_law_start : PySem.W.keepIn K (.ref x_law_start) = true)
    {x_law_take : Addr}
    (a_law_take : PySem.W.nsIn K mainGlobals "_law_take" = some (some (.ref x_law_take)))
    {od_law_take an_law_take : Option Addr} {sl_law_take : Array (Option Value)} {oc_law_take kV_law_take dc_law_take pm_law_take cd_law_take ct_law_take : Value}
    (l_law_take : K.lookup x_law_take = some ⟨oc_law_take, od_law_take, .func (PySem.W.fnOf "_law_take" "_law_take" (defArgs s_law_take) (defBody s_law_take) (defScope s_law_take) .none kV_law_take dc_law_take pm_law_take an_law_take cd_law_take ct_law_take), sl_law_take⟩)
    (c_law_take_ : PySem.W.codeIn K cd_law_take "_law_take" = true)
    (k_law_take : PySem.W.keepIn K (.ref x_law_take) = true)
    {x_law_steps : Addr}
    (a_law_steps : PySem.W.nsIn K mainGlobals "_law_steps" = some (some (.ref x_law_steps)))
    {od_law_steps an_law_steps : Option Addr} {sl_law_steps : Array (Option Value)} {oc_law_steps kV_law_steps dc_law_steps pm_law_steps cd_law_steps ct_law_steps : Value}
    (l_law_steps : K.lookup x_law_steps = some ⟨oc_law_steps, od_law_steps, .func (PySem.W.fnOf "_law_steps" "_law_steps" (defArgs s_law_steps) (defBody s_law_steps) (defScope s_law_steps) .none kV_law_steps dc_law_steps pm_law_steps an_law_steps cd_law_steps ct_law_steps), sl_law_steps⟩)
    (c_law_steps_ : PySem.W.codeIn K cd_law_steps "_law_steps" = true)
    (k_law_steps : PySem.W.keepIn K (.ref x_law_steps) = true)
    {x_law_many : Addr}
    (a_law_many : PySem.W.nsIn K mainGlobals "_law_many" = some (some (.ref x_law_many)))
    {od_law_many an_law_many : Option Addr} {sl_law_many : Array (Option Value)} {oc_law_many kV_law_many dc_law_many pm_law_many cd_law_many ct_law_many : Value}
    (l_law_many : K.lookup x_law_many = some ⟨oc_law_many, od_law_many, .func (PySem.W.fnOf "_law_many" "_law_many" (defArgs s_law_many) (defBody s_law_many) (defScope s_law_many) .none kV_law_many dc_law_many pm_law_many an_law_many cd_law_many ct_law_many), sl_law_many⟩)
    (c_law_many_ : PySem.W.codeIn K cd_law_many "_law_many" = true)
    (k_law_many : PySem.W.keepIn K (.ref x_law_many) = true)
    {x_is_number : Addr}
    (a_is_number : PySem.W.nsIn K mainGlobals "is_number" = some (some (.ref x_is_number)))
    {od_is_number an_is_number : Option Addr} {sl_is_number : Array (Option Value)} {oc_is_number kV_is_number dc_is_number pm_is_number cd_is_number ct_is_number : Value}
    (l_is_number : K.lookup x_is_number = some ⟨oc_is_number, od_is_number, .func (PySem.W.fnOf "is_number" "is_number" (defArgs s_is_number) (defBody s_is_number) (defScope s_is_number) .none kV_is_number dc_is_number pm_is_number an_is_number cd_is_number ct_is_number), sl_is_number⟩)
    (c_is_number_ : PySem.W.codeIn K cd_is_number "is_number" = true)
    (k_is_number : PySem.W.keepIn K (.ref x_is_number) = true)
    {x_is_step : Addr}
    (a_is_step : PySem.W.nsIn K mainGlobals "is_step" = some (some (.ref x_is_step)))
    {od_is_step an_is_step : Option Addr} {sl_is_step : Array (Option Value)} {oc_is_step kV_is_step dc_is_step pm_is_step cd_is_step ct_is_step : Value}
    (l_is_step : K.lookup x_is_step = some ⟨oc_is_step, od_is_step, .func (PySem.W.fnOf "is_step" "is_step" (defArgs s_is_step) (defBody s_is_step) (defScope s_is_step) .none kV_is_step dc_is_step pm_is_step an_is_step cd_is_step ct_is_step), sl_is_step⟩)
    (c_is_step_ : PySem.W.codeIn K cd_is_step "is_step" = true)
    (k_is_step : PySem.W.keepIn K (.ref x_is_step) = true)
    (pa_Cost_init : PySem.W.findIn K (.ref A_Cost) "__init__" = some (some (.ref x_Cost_init)))
    (pf_Cost_init : PySem.W.isFn K (.ref x_Cost_init) = true)
    {od_Cost_init an_Cost_init : Option Addr} {sl_Cost_init : Array (Option Value)} {oc_Cost_init kV_Cost_init dc_Cost_init pm_Cost_init cd_Cost_init ct_Cost_init : Value}
    (l_Cost_init : K.lookup x_Cost_init = some ⟨oc_Cost_init, od_Cost_init, .func (PySem.W.fnOf "__init__" "Cost.__init__" (defArgs s_Cost_init) (defBody s_Cost_init) (defScope s_Cost_init) .none kV_Cost_init dc_Cost_init pm_Cost_init an_Cost_init cd_Cost_init ct_Cost_init), sl_Cost_init⟩)
    (c_Cost_init_ : PySem.W.codeIn K cd_Cost_init "Cost.__init__" = true)
    (k_Cost_init : PySem.W.keepIn K (.ref x_Cost_init) = true)
    {x_law_shuffled : Addr}
    (a_law_shuffled : PySem.W.nsIn K mainGlobals "_law_shuffled" = some (some (.ref x_law_shuffled)))
    {od_law_shuffled an_law_shuffled : Option Addr} {sl_law_shuffled : Array (Option Value)} {oc_law_shuffled kV_law_shuffled dc_law_shuffled pm_law_shuffled cd_law_shuffled ct_law_shuffled : Value}
    (l_law_shuffled : K.lookup x_law_shuffled = some ⟨oc_law_shuffled, od_law_shuffled, .func (PySem.W.fnOf "_law_shuffled" "_law_shuffled" (defArgs s_law_shuffled) (defBody s_law_shuffled) (defScope s_law_shuffled) .none kV_law_shuffled dc_law_shuffled pm_law_shuffled an_law_shuffled cd_law_shuffled ct_law_shuffled), sl_law_shuffled⟩)
    (c_law_shuffled_ : PySem.W.codeIn K cd_law_shuffled "_law_shuffled" = true)
    (k_law_shuffled : PySem.W.keepIn K (.ref x_law_shuffled) = true)
    {x_law_at : Addr}
    (a_law_at : PySem.W.nsIn K mainGlobals "_law_at" = some (some (.ref x_law_at)))
    {od_law_at an_law_at : Option Addr} {sl_law_at : Array (Option Value)} {oc_law_at kV_law_at dc_law_at pm_law_at cd_law_at ct_law_at : Value}
    (l_law_at : K.lookup x_law_at = some ⟨oc_law_at, od_law_at, .func (PySem.W.fnOf "_law_at" "_law_at" (defArgs s_law_at) (defBody s_law_at) (defScope s_law_at) .none kV_law_at dc_law_at pm_law_at an_law_at cd_law_at ct_law_at), sl_law_at⟩)
    (c_law_at_ : PySem.W.codeIn K cd_law_at "_law_at" = true)
    (k_law_at : PySem.W.keepIn K (.ref x_law_at) = true)
    {x_law_joined : Addr}
    (a_law_joined : PySem.W.nsIn K mainGlobals "_law_joined" = some (some (.ref x_law_joined)))
    {od_law_joined an_law_joined : Option Addr} {sl_law_joined : Array (Option Value)} {oc_law_joined kV_law_joined dc_law_joined pm_law_joined cd_law_joined ct_law_joined : Value}
    (l_law_joined : K.lookup x_law_joined = some ⟨oc_law_joined, od_law_joined, .func (PySem.W.fnOf "_law_joined" "_law_joined" (defArgs s_law_joined) (defBody s_law_joined) (defScope s_law_joined) .none kV_law_joined dc_law_joined pm_law_joined an_law_joined cd_law_joined ct_law_joined), sl_law_joined⟩)
    (c_law_joined_ : PySem.W.codeIn K cd_law_joined "_law_joined" = true)
    (k_law_joined : PySem.W.keepIn K (.ref x_law_joined) = true)
    {x_Cost_steps : Addr}
    {p_Cost_steps : Addr} {rs_Cost_steps : List Value}
    (pa_Cost_steps : PySem.W.findIn K (.ref A_Cost) "steps" = some (some (.ref p_Cost_steps)))
    (pb_Cost_steps : PySem.W.specialIn K (.ref p_Cost_steps) "__get__" = some (some (.builtin "property.__get__")))
    (pc_Cost_steps : PySem.W.takesIn K (.ref p_Cost_steps) = some true)
    (pd_Cost_steps : PySem.W.recIn K p_Cost_steps "property" = some (.ref x_Cost_steps :: rs_Cost_steps))
    {od_Cost_steps an_Cost_steps : Option Addr} {sl_Cost_steps : Array (Option Value)} {oc_Cost_steps kV_Cost_steps dc_Cost_steps pm_Cost_steps cd_Cost_steps ct_Cost_steps : Value}
    (l_Cost_steps : K.lookup x_Cost_steps = some ⟨oc_Cost_steps, od_Cost_steps, .func (PySem.W.fnOf "steps" "Cost.steps" (defArgs s_Cost_steps) (defBody s_Cost_steps) (defScope s_Cost_steps) .none kV_Cost_steps dc_Cost_steps pm_Cost_steps an_Cost_steps cd_Cost_steps ct_Cost_steps), sl_Cost_steps⟩)
    (c_Cost_steps_ : PySem.W.codeIn K cd_Cost_steps "Cost.steps" = true)
    (k_Cost_steps : PySem.W.keepIn K (.ref x_Cost_steps) = true)
    {x_amount_at : Addr}
    (a_amount_at : PySem.W.nsIn K mainGlobals "amount_at" = some (some (.ref x_amount_at)))
    {od_amount_at an_amount_at : Option Addr} {sl_amount_at : Array (Option Value)} {oc_amount_at kV_amount_at dc_amount_at pm_amount_at cd_amount_at ct_amount_at : Value}
    (l_amount_at : K.lookup x_amount_at = some ⟨oc_amount_at, od_amount_at, .func (PySem.W.fnOf "amount_at" "amount_at" (defArgs s_amount_at) (defBody s_amount_at) (defScope s_amount_at) .none kV_amount_at dc_amount_at pm_amount_at an_amount_at cd_amount_at ct_amount_at), sl_amount_at⟩)
    (c_amount_at_ : PySem.W.codeIn K cd_amount_at "amount_at" = true)
    (k_amount_at : PySem.W.keepIn K (.ref x_amount_at) = true)
    {x_moments : Addr}
    (a_moments : PySem.W.nsIn K mainGlobals "moments" = some (some (.ref x_moments)))
    {od_moments an_moments : Option Addr} {sl_moments : Array (Option Value)} {oc_moments kV_moments dc_moments pm_moments cd_moments ct_moments : Value}
    (l_moments : K.lookup x_moments = some ⟨oc_moments, od_moments, .func (PySem.W.fnOf "moments" "moments" (defArgs s_moments) (defBody s_moments) (defScope s_moments) .none kV_moments dc_moments pm_moments an_moments cd_moments ct_moments), sl_moments⟩)
    (c_moments_ : PySem.W.codeIn K cd_moments "moments" = true)
    (k_moments : PySem.W.keepIn K (.ref x_moments) = true)
    {x_rising : Addr}
    (a_rising : PySem.W.nsIn K mainGlobals "rising" = some (some (.ref x_rising)))
    {od_rising an_rising : Option Addr} {sl_rising : Array (Option Value)} {oc_rising kV_rising dc_rising pm_rising cd_rising ct_rising : Value}
    (l_rising : K.lookup x_rising = some ⟨oc_rising, od_rising, .func (PySem.W.fnOf "rising" "rising" (defArgs s_rising) (defBody s_rising) (defScope s_rising) .none kV_rising dc_rising pm_rising an_rising cd_rising ct_rising), sl_rising⟩)
    (c_rising_ : PySem.W.codeIn K cd_rising "rising" = true)
    (k_rising : PySem.W.keepIn K (.ref x_rising) = true)
    {x_Cost_add : Addr}
    (pa_Cost_add : PySem.W.findIn K (.ref A_Cost) "__add__" = some (some (.ref x_Cost_add)))
    (pf_Cost_add : PySem.W.isFn K (.ref x_Cost_add) = true)
    (sf_Cost : PySem.W.selfFirst K A_Cost = true)
    {od_Cost_add an_Cost_add : Option Addr} {sl_Cost_add : Array (Option Value)} {oc_Cost_add kV_Cost_add dc_Cost_add pm_Cost_add cd_Cost_add ct_Cost_add : Value}
    (l_Cost_add : K.lookup x_Cost_add = some ⟨oc_Cost_add, od_Cost_add, .func (PySem.W.fnOf "__add__" "Cost.__add__" (defArgs s_Cost_add) (defBody s_Cost_add) (defScope s_Cost_add) .none kV_Cost_add dc_Cost_add pm_Cost_add an_Cost_add cd_Cost_add ct_Cost_add), sl_Cost_add⟩)
    (c_Cost_add_ : PySem.W.codeIn K cd_Cost_add "Cost.__add__" = true)
    (k_Cost_add : PySem.W.keepIn K (.ref x_Cost_add) = true)
    {x_Cost_or : Addr}
    (pa_Cost_or : PySem.W.findIn K (.ref A_Cost) "__or__" = some (some (.ref x_Cost_or)))
    (pf_Cost_or : PySem.W.isFn K (.ref x_Cost_or) = true)
    {od_Cost_or an_Cost_or : Option Addr} {sl_Cost_or : Array (Option Value)} {oc_Cost_or kV_Cost_or dc_Cost_or pm_Cost_or cd_Cost_or ct_Cost_or : Value}
    (l_Cost_or : K.lookup x_Cost_or = some ⟨oc_Cost_or, od_Cost_or, .func (PySem.W.fnOf "__or__" "Cost.__or__" (defArgs s_Cost_or) (defBody s_Cost_or) (defScope s_Cost_or) .none kV_Cost_or dc_Cost_or pm_Cost_or an_Cost_or cd_Cost_or ct_Cost_or), sl_Cost_or⟩)
    (c_Cost_or_ : PySem.W.codeIn K cd_Cost_or "Cost.__or__" = true)
    (k_Cost_or : PySem.W.keepIn K (.ref x_Cost_or) = true)
    {x_law_told : Addr}
    (a_law_told : PySem.W.nsIn K mainGlobals "_law_told" = some (some (.ref x_law_told)))
    {od_law_told an_law_told : Option Addr} {sl_law_told : Array (Option Value)} {oc_law_told kV_law_told dc_law_told pm_law_told cd_law_told ct_law_told : Value}
    (l_law_told : K.lookup x_law_told = some ⟨oc_law_told, od_law_told, .func (PySem.W.fnOf "_law_told" "_law_told" (defArgs s_law_told) (defBody s_law_told) (defScope s_law_told) .none kV_law_told dc_law_told pm_law_told an_law_told cd_law_told ct_law_told), sl_law_told⟩)
    (c_law_told_ : PySem.W.codeIn K cd_law_told "_law_told" = true)
    (k_law_told : PySem.W.keepIn K (.ref x_law_told) = true)
    {x_Cost_at : Addr}
    (pa_Cost_at : PySem.W.findIn K (.ref A_Cost) "at" = some (some (.ref x_Cost_at)))
    (pf_Cost_at : PySem.W.isFn K (.ref x_Cost_at) = true)
    {od_Cost_at an_Cost_at : Option Addr} {sl_Cost_at : Array (Option Value)} {oc_Cost_at kV_Cost_at dc_Cost_at pm_Cost_at cd_Cost_at ct_Cost_at : Value}
    (l_Cost_at : K.lookup x_Cost_at = some ⟨oc_Cost_at, od_Cost_at, .func (PySem.W.fnOf "at" "Cost.at" (defArgs s_Cost_at) (defBody s_Cost_at) (defScope s_Cost_at) .none kV_Cost_at dc_Cost_at pm_Cost_at an_Cost_at cd_Cost_at ct_Cost_at), sl_Cost_at⟩)
    (c_Cost_at_ : PySem.W.codeIn K cd_Cost_at "Cost.at" = true)
    (k_Cost_at : PySem.W.keepIn K (.ref x_Cost_at) = true)
    {x_Cost_str : Addr}
    (pa_Cost_str : PySem.W.findIn K (.ref A_Cost) "__str__" = some (some (.ref x_Cost_str)))
    (pf_Cost_str : PySem.W.isFn K (.ref x_Cost_str) = true)
    {od_Cost_str an_Cost_str : Option Addr} {sl_Cost_str : Array (Option Value)} {oc_Cost_str kV_Cost_str dc_Cost_str pm_Cost_str cd_Cost_str ct_Cost_str : Value}
    (l_Cost_str : K.lookup x_Cost_str = some ⟨oc_Cost_str, od_Cost_str, .func (PySem.W.fnOf "__str__" "Cost.__str__" (defArgs s_Cost_str) (defBody s_Cost_str) (defScope s_Cost_str) .none kV_Cost_str dc_Cost_str pm_Cost_str an_Cost_str cd_Cost_str ct_Cost_str), sl_Cost_str⟩)
    (c_Cost_str_ : PySem.W.codeIn K cd_Cost_str "Cost.__str__" = true)
    (k_Cost_str : PySem.W.keepIn K (.ref x_Cost_str) = true)
    {x_Cost_eq : Addr}
    (pa_Cost_eq : PySem.W.findIn K (.ref A_Cost) "__eq__" = some (some (.ref x_Cost_eq)))
    (pf_Cost_eq : PySem.W.isFn K (.ref x_Cost_eq) = true)
    (pn_Cost : PySem.W.findIn K (.ref A_Cost) "__ne__" = some (some (.builtin "object.__ne__")))
    (po2_Cost : PySem.W.mroIn K A_Cost (.type "object") = some true)
    {od_Cost_eq an_Cost_eq : Option Addr} {sl_Cost_eq : Array (Option Value)} {oc_Cost_eq kV_Cost_eq dc_Cost_eq pm_Cost_eq cd_Cost_eq ct_Cost_eq : Value}
    (l_Cost_eq : K.lookup x_Cost_eq = some ⟨oc_Cost_eq, od_Cost_eq, .func (PySem.W.fnOf "__eq__" "Cost.__eq__" (defArgs s_Cost_eq) (defBody s_Cost_eq) (defScope s_Cost_eq) .none kV_Cost_eq dc_Cost_eq pm_Cost_eq an_Cost_eq cd_Cost_eq ct_Cost_eq), sl_Cost_eq⟩)
    (c_Cost_eq_ : PySem.W.codeIn K cd_Cost_eq "Cost.__eq__" = true)
    (k_Cost_eq : PySem.W.keepIn K (.ref x_Cost_eq) = true)
    {x_Cost_latest : Addr}
    (pa_Cost_latest : PySem.W.findIn K (.ref A_Cost) "latest" = some (some (.ref x_Cost_latest)))
    (pf_Cost_latest : PySem.W.isFn K (.ref x_Cost_latest) = true)
    {od_Cost_latest an_Cost_latest : Option Addr} {sl_Cost_latest : Array (Option Value)} {oc_Cost_latest kV_Cost_latest dc_Cost_latest pm_Cost_latest cd_Cost_latest ct_Cost_latest : Value}
    (l_Cost_latest : K.lookup x_Cost_latest = some ⟨oc_Cost_latest, od_Cost_latest, .func (PySem.W.fnOf "latest" "Cost.latest" (defArgs s_Cost_latest) (defBody s_Cost_latest) (defScope s_Cost_latest) .none kV_Cost_latest dc_Cost_latest pm_Cost_latest an_Cost_latest cd_Cost_latest ct_Cost_latest), sl_Cost_latest⟩)
    (c_Cost_latest_ : PySem.W.codeIn K cd_Cost_latest "Cost.latest" = true)
    (k_Cost_latest : PySem.W.keepIn K (.ref x_Cost_latest) = true)
    {x_law_right : Addr}
    (a_law_right : PySem.W.nsIn K mainGlobals "_law_right" = some (some (.ref x_law_right)))
    {od_law_right an_law_right : Option Addr} {sl_law_right : Array (Option Value)} {oc_law_right kV_law_right dc_law_right pm_law_right cd_law_right ct_law_right : Value}
    (l_law_right : K.lookup x_law_right = some ⟨oc_law_right, od_law_right, .func (PySem.W.fnOf "_law_right" "_law_right" (defArgs s_law_right) (defBody s_law_right) (defScope s_law_right) .none kV_law_right dc_law_right pm_law_right an_law_right cd_law_right ct_law_right), sl_law_right⟩)
    (c_law_right_ : PySem.W.codeIn K cd_law_right "_law_right" = true)
    (k_law_right : PySem.W.keepIn K (.ref x_law_right) = true)
    {x_Cost_later : Addr}
    (pa_Cost_later : PySem.W.findIn K (.ref A_Cost) "later" = some (some (.ref x_Cost_later)))
    (pf_Cost_later : PySem.W.isFn K (.ref x_Cost_later) = true)
    {od_Cost_later an_Cost_later : Option Addr} {sl_Cost_later : Array (Option Value)} {oc_Cost_later kV_Cost_later dc_Cost_later pm_Cost_later cd_Cost_later ct_Cost_later : Value}
    (l_Cost_later : K.lookup x_Cost_later = some ⟨oc_Cost_later, od_Cost_later, .func (PySem.W.fnOf "later" "Cost.later" (defArgs s_Cost_later) (defBody s_Cost_later) (defScope s_Cost_later) .none kV_Cost_later dc_Cost_later pm_Cost_later an_Cost_later cd_Cost_later ct_Cost_later), sl_Cost_later⟩)
    (c_Cost_later_ : PySem.W.codeIn K cd_Cost_later "Cost.later" = true)
    (k_Cost_later : PySem.W.keepIn K (.ref x_Cost_later) = true)
    {x_law_shift : Addr}
    (a_law_shift : PySem.W.nsIn K mainGlobals "_law_shift" = some (some (.ref x_law_shift)))
    {od_law_shift an_law_shift : Option Addr} {sl_law_shift : Array (Option Value)} {oc_law_shift kV_law_shift dc_law_shift pm_law_shift cd_law_shift ct_law_shift : Value}
    (l_law_shift : K.lookup x_law_shift = some ⟨oc_law_shift, od_law_shift, .func (PySem.W.fnOf "_law_shift" "_law_shift" (defArgs s_law_shift) (defBody s_law_shift) (defScope s_law_shift) .none kV_law_shift dc_law_shift pm_law_shift an_law_shift cd_law_shift ct_law_shift), sl_law_shift⟩)
    (c_law_shift_ : PySem.W.codeIn K cd_law_shift "_law_shift" = true)
    (k_law_shift : PySem.W.keepIn K (.ref x_law_shift) = true)
    {x_law_later_right : Addr}
    (a_law_later_right : PySem.W.nsIn K mainGlobals "_law_later_right" = some (some (.ref x_law_later_right)))
    {od_law_later_right an_law_later_right : Option Addr} {sl_law_later_right : Array (Option Value)} {oc_law_later_right kV_law_later_right dc_law_later_right pm_law_later_right cd_law_later_right ct_law_later_right : Value}
    (l_law_later_right : K.lookup x_law_later_right = some ⟨oc_law_later_right, od_law_later_right, .func (PySem.W.fnOf "_law_later_right" "_law_later_right" (defArgs s_law_later_right) (defBody s_law_later_right) (defScope s_law_later_right) .none kV_law_later_right dc_law_later_right pm_law_later_right an_law_later_right cd_law_later_right ct_law_later_right), sl_law_later_right⟩)
    (c_law_later_right_ : PySem.W.codeIn K cd_law_later_right "_law_later_right" = true)
    (k_law_later_right : PySem.W.keepIn K (.ref x_law_later_right) = true)
    {x_law : Addr}
    (a_law : PySem.W.nsIn K mainGlobals "law" = some (some (.ref x_law)))
    {od_law an_law : Option Addr} {sl_law : Array (Option Value)} {oc_law kV_law dc_law pm_law cd_law ct_law : Value}
    (l_law : K.lookup x_law = some ⟨oc_law, od_law, .func (PySem.W.fnOf "law" "law" (defArgs s_law) (defBody s_law) (defScope s_law) .none kV_law dc_law pm_law an_law cd_law ct_law), sl_law⟩)
    (c_law_ : PySem.W.codeIn K cd_law "law" = true)
    (k_law : PySem.W.keepIn K (.ref x_law) = true) :
    ∃ fd : FuncData, (∀ (s : Shared) (v : Value), BindsTo s fd ⟨[v], []⟩ [("_law_script", v)]) ∧ ∀ base : Heap, K.In base → base.Ns mainGlobals mg → FnOk l.prog w K mg base (L2.CX l.prog w) 8 fa fd ["_law_script"] (spLaw K) := by
  have e := hfa.symm.trans (PySem.W.mg_of X G a_law)
  cases e
  have BX : BaseX K mg "TailError" A_TailError := ⟨PySem.W.mg_of X G a_TailError, ⟨rT_TailError, gT_TailError⟩, iT_TailError⟩
  have F_XBadCount := fun_mk (st := sx_BadCount) l_XBadCount c_XBadCount_ k_XBadCount
  have OX_BadCount : OexC K A_BadCount := ⟨⟨_, _, _, _, _, _, _, _, _, _, _, _, _, _, _, lX_BadCount, rfl⟩, sa_BadCount, ex_BadCount, ty_BadCount, kc_BadCount⟩
  have XF_BadCount : XfC K A_BadCount := ⟨ga_BadCount, gg_BadCount, ex_BadCount, hd_BadCount⟩
  have F_XBadSteps := fun_mk (st := sx_BadSteps) l_XBadSteps c_XBadSteps_ k_XBadSteps
  have OX_BadSteps : OexC K A_BadSteps := ⟨⟨_, _, _, _, _, _, _, _, _, _, _, _, _, _, _, lX_BadSteps, rfl⟩, sa_BadSteps, ex_BadSteps, ty_BadSteps, kc_BadSteps⟩
  have XF_BadSteps : XfC K A_BadSteps := ⟨ga_BadSteps, gg_BadSteps, ex_BadSteps, hd_BadSteps⟩
  have F_XBadNumber := fun_mk (st := sx_BadNumber) l_XBadNumber c_XBadNumber_ k_XBadNumber
  have OX_BadNumber : OexC K A_BadNumber := ⟨⟨_, _, _, _, _, _, _, _, _, _, _, _, _, _, _, lX_BadNumber, rfl⟩, sa_BadNumber, ex_BadNumber, ty_BadNumber, kc_BadNumber⟩
  have XF_BadNumber : XfC K A_BadNumber := ⟨ga_BadNumber, gg_BadNumber, ex_BadNumber, hd_BadNumber⟩
  have C_Cost : Cls K A_Cost := ⟨pg_Cost, hd_Cost, po_Cost, sa_Cost⟩
  have cc_Cost : ClsK K mg "Cost" ["pairs"] A_Cost := ⟨PySem.W.mg_of X G a_Cost, C_Cost, fun f hf => by simp only [List.mem_cons, List.not_mem_nil, or_false] at hf; subst hf; exact no_Cost_pairs⟩
  have KC_Cost : KindC K A_Cost := ⟨C_Cost, ha_Cost, hn_obj, ht_obj, hm_Cost⟩
  have kO_Cost_NoneType := kit_sub ic_Cost ty_Cost sB_Cost_NoneType
  have kO_Cost_bool := kit_sub ic_Cost ty_Cost sB_Cost_bool
  have kO_Cost_int := kit_sub ic_Cost ty_Cost sB_Cost_int
  have kO_Cost_str := kit_sub ic_Cost ty_Cost sB_Cost_str
  have kO_Cost_tuple := kit_sub ic_Cost ty_Cost sB_Cost_tuple
  have kO_Cost_list := kit_sub ic_Cost ty_Cost sB_Cost_list
  have kO_Cost_dict := kit_sub ic_Cost ty_Cost sB_Cost_dict
  have kO_Cost_Cost := kit_self (K := K) (C := A_Cost)
  have kq_Cost : EqK K mg "Cost" A_Cost ["Cost"] := ⟨fun n hn => by simp only [baseTys, List.mem_cons, List.not_mem_nil, or_false] at hn; rcases hn with rfl | rfl | rfl | rfl | rfl | rfl | rfl <;> first | exact ⟨nF_Cost_NoneType, kO_Cost_NoneType⟩ | exact ⟨nF_Cost_bool, kO_Cost_bool⟩ | exact ⟨nF_Cost_int, kO_Cost_int⟩ | exact ⟨nF_Cost_str, kO_Cost_str⟩ | exact ⟨nF_Cost_tuple, kO_Cost_tuple⟩ | exact ⟨nF_Cost_list, kO_Cost_list⟩ | exact ⟨nF_Cost_dict, kO_Cost_dict⟩, fun n hn D mm => by simp only [List.mem_cons, List.not_mem_nil, or_false] at hn; subst hn <;> first | (have hD := mm.symm.trans (PySem.W.mg_of X G a_Cost); simp only [Option.some.injEq, Value.ref.injEq] at hD; subst hD; exact ⟨KC_Cost, nF_Cost_Cost, kO_Cost_Cost⟩)⟩
  have T : Txt mg := ⟨PySem.W.mg_none_of X G z_abs, PySem.W.mg_none_of X G z_bool, PySem.W.mg_none_of X G z_int, PySem.W.mg_none_of X G z_isinstance, PySem.W.mg_none_of X G z_len, PySem.W.mg_none_of X G z_list, PySem.W.mg_none_of X G z_max, PySem.W.mg_none_of X G z_range, PySem.W.mg_none_of X G z_set, PySem.W.mg_none_of X G z_sorted, PySem.W.mg_none_of X G z_str, PySem.W.mg_none_of X G z_sum, PySem.W.mg_none_of X G z_tuple, ⟨_, PySem.W.mg_of X G v_MOST_STEPS⟩⟩
  have TA : TxtB mg := ⟨T.n_len, T.n_int, T.n_abs, T.n_max⟩
  have F_law_start := fun_mk (st := s_law_start) l_law_start c_law_start_ k_law_start
  have F_law_take := fun_mk (st := s_law_take) l_law_take c_law_take_ k_law_take
  have F_law_steps := fun_mk (st := s_law_steps) l_law_steps c_law_steps_ k_law_steps
  have F_law_many := fun_mk (st := s_law_many) l_law_many c_law_many_ k_law_many
  have F_is_number := fun_mk (st := s_is_number) l_is_number c_is_number_ k_is_number
  have F_is_step := fun_mk (st := s_is_step) l_is_step c_is_step_ k_is_step
  have F_Cost_init := fun_mk (st := s_Cost_init) l_Cost_init c_Cost_init_ k_Cost_init
  have F_law_shuffled := fun_mk (st := s_law_shuffled) l_law_shuffled c_law_shuffled_ k_law_shuffled
  have F_law_at := fun_mk (st := s_law_at) l_law_at c_law_at_ k_law_at
  have F_law_joined := fun_mk (st := s_law_joined) l_law_joined c_law_joined_ k_law_joined
  have F_Cost_steps := fun_mk (st := s_Cost_steps) l_Cost_steps c_Cost_steps_ k_Cost_steps
  have F_amount_at := fun_mk (st := s_amount_at) l_amount_at c_amount_at_ k_amount_at
  have F_moments := fun_mk (st := s_moments) l_moments c_moments_ k_moments
  have F_rising := fun_mk (st := s_rising) l_rising c_rising_ k_rising
  have F_Cost_add := fun_mk (st := s_Cost_add) l_Cost_add c_Cost_add_ k_Cost_add
  have F_Cost_or := fun_mk (st := s_Cost_or) l_Cost_or c_Cost_or_ k_Cost_or
  have F_law_told := fun_mk (st := s_law_told) l_law_told c_law_told_ k_law_told
  have F_Cost_at := fun_mk (st := s_Cost_at) l_Cost_at c_Cost_at_ k_Cost_at
  have F_Cost_str := fun_mk (st := s_Cost_str) l_Cost_str c_Cost_str_ k_Cost_str
  have F_Cost_eq := fun_mk (st := s_Cost_eq) l_Cost_eq c_Cost_eq_ k_Cost_eq
  have F_Cost_latest := fun_mk (st := s_Cost_latest) l_Cost_latest c_Cost_latest_ k_Cost_latest
  have F_law_right := fun_mk (st := s_law_right) l_law_right c_law_right_ k_law_right
  have F_Cost_later := fun_mk (st := s_Cost_later) l_Cost_later c_Cost_later_ k_Cost_later
  have F_law_shift := fun_mk (st := s_law_shift) l_law_shift c_law_shift_ k_law_shift
  have F_law_later_right := fun_mk (st := s_law_later_right) l_law_later_right c_law_later_right_ k_law_later_right
  have F_law := fun_mk (st := s_law) l_law c_law_ k_law
  refine ⟨PySem.W.fnOf "law" "law" (defArgs s_law) (defBody s_law) (defScope s_law) .none kV_law dc_law pm_law an_law cd_law ct_law, fun s v => .of_eq rfl, fun base _ _ => ?_⟩
  have ox_BadCount := okx_BadCount (Pr := l.prog) (w := w) (base := base) (C := A_BadCount) BX F_XBadCount
  have x_BadCount : CalX l.prog w K mg base "BadCount" "count" "count" A_BadCount := ⟨⟨_, _, ⟨PySem.W.mg_of X G a_BadCount, OX_BadCount, XF_BadCount, in_BadCount, ti_BadCount, nof_BadCount⟩, F_XBadCount.binds (ps := ["self", "count"]) fun _ _ _ _ _ _ us hl => match us, hl with | [_, _], _ => rfl, ox_BadCount⟩⟩
  have ox_BadSteps := okx_BadSteps (Pr := l.prog) (w := w) (base := base) (C := A_BadSteps) BX F_XBadSteps
  have x_BadSteps : CalX l.prog w K mg base "BadSteps" "value" "value" A_BadSteps := ⟨⟨_, _, ⟨PySem.W.mg_of X G a_BadSteps, OX_BadSteps, XF_BadSteps, in_BadSteps, ti_BadSteps, nof_BadSteps⟩, F_XBadSteps.binds (ps := ["self", "value"]) fun _ _ _ _ _ _ us hl => match us, hl with | [_, _], _ => rfl, ox_BadSteps⟩⟩
  have ox_BadNumber := okx_BadNumber (Pr := l.prog) (w := w) (base := base) (C := A_BadNumber) BX F_XBadNumber
  have x_BadNumber : CalX l.prog w K mg base "BadNumber" "value" "value" A_BadNumber := ⟨⟨_, _, ⟨PySem.W.mg_of X G a_BadNumber, OX_BadNumber, XF_BadNumber, in_BadNumber, ti_BadNumber, nof_BadNumber⟩, F_XBadNumber.binds (ps := ["self", "value"]) fun _ _ _ _ _ _ us hl => match us, hl with | [_, _], _ => rfl, ox_BadNumber⟩⟩
  have xm_BadCount : XmK K mg "BadCount" A_BadCount ["BadCount", "BadText", "BadNumber", "BadSteps"] := ⟨PySem.W.mg_of X G a_BadCount, fun n hn D mm => by simp only [List.mem_cons, List.not_mem_nil, or_false] at hn; rcases hn with rfl | rfl | rfl | rfl <;> first | (have hD := mm.symm.trans (PySem.W.mg_of X G a_BadCount); simp only [Option.some.injEq, Value.ref.injEq] at hD; subst hD; exact exm_of ex_BadCount ic_BadCount ty_BadCount sub_BadCount_BadCount) | (have hD := mm.symm.trans (PySem.W.mg_of X G a_BadText); simp only [Option.some.injEq, Value.ref.injEq] at hD; subst hD; exact exm_of ex_BadCount ic_BadCount ty_BadCount sub_BadText_BadCount) | (have hD := mm.symm.trans (PySem.W.mg_of X G a_BadNumber); simp only [Option.some.injEq, Value.ref.injEq] at hD; subst hD; exact exm_of ex_BadCount ic_BadCount ty_BadCount sub_BadNumber_BadCount) | (have hD := mm.symm.trans (PySem.W.mg_of X G a_BadSteps); simp only [Option.some.injEq, Value.ref.injEq] at hD; subst hD; exact exm_of ex_BadCount ic_BadCount ty_BadCount sub_BadSteps_BadCount), XF_BadCount⟩
  have nf_BadCount := nof_BadCount
  have xm_BadNumber : XmK K mg "BadNumber" A_BadNumber ["BadCount", "BadText", "BadNumber", "BadSteps"] := ⟨PySem.W.mg_of X G a_BadNumber, fun n hn D mm => by simp only [List.mem_cons, List.not_mem_nil, or_false] at hn; rcases hn with rfl | rfl | rfl | rfl <;> first | (have hD := mm.symm.trans (PySem.W.mg_of X G a_BadCount); simp only [Option.some.injEq, Value.ref.injEq] at hD; subst hD; exact exm_of ex_BadNumber ic_BadNumber ty_BadNumber sub_BadCount_BadNumber) | (have hD := mm.symm.trans (PySem.W.mg_of X G a_BadText); simp only [Option.some.injEq, Value.ref.injEq] at hD; subst hD; exact exm_of ex_BadNumber ic_BadNumber ty_BadNumber sub_BadText_BadNumber) | (have hD := mm.symm.trans (PySem.W.mg_of X G a_BadNumber); simp only [Option.some.injEq, Value.ref.injEq] at hD; subst hD; exact exm_of ex_BadNumber ic_BadNumber ty_BadNumber sub_BadNumber_BadNumber) | (have hD := mm.symm.trans (PySem.W.mg_of X G a_BadSteps); simp only [Option.some.injEq, Value.ref.injEq] at hD; subst hD; exact exm_of ex_BadNumber ic_BadNumber ty_BadNumber sub_BadSteps_BadNumber), XF_BadNumber⟩
  have nf_BadNumber := nof_BadNumber
  have ok1_law_start := ok_law_start (Pr := l.prog) (w := w) (base := base) TA F_law_start
  have c_law_start : Cal l.prog w K mg base 1 "_law_start" ["_law_script"] (spStart K) := ⟨⟨_, _, PySem.W.mg_of X G a_law_start, k_law_start, F_law_start.binds (ps := ["_law_script"]) fun _ _ _ _ _ _ us hl => match us, hl with | [_], _ => rfl, ok1_law_start⟩⟩
  have ok1_law_take := ok_law_take (Pr := l.prog) (w := w) (base := base) TA F_law_take
  have c_law_take : Cal l.prog w K mg base 1 "_law_take" ["_law_state", "_law_limit"] (spD K mg RB 2 m_law_take) := ⟨⟨_, _, PySem.W.mg_of X G a_law_take, k_law_take, F_law_take.binds (ps := ["_law_state", "_law_limit"]) fun _ _ _ _ _ _ us hl => match us, hl with | [_, _], _ => rfl, ok1_law_take⟩⟩
  have ok1_law_steps := ok_law_steps (Pr := l.prog) (w := w) (base := base) T F_law_steps c_law_take
  have c_law_steps : Cal l.prog w K mg base 2 "_law_steps" ["_law_state"] (spN K mg RB 1 m_law_steps) := ⟨⟨_, _, PySem.W.mg_of X G a_law_steps, k_law_steps, F_law_steps.binds (ps := ["_law_state"]) fun _ _ _ _ _ _ us hl => match us, hl with | [_], _ => rfl, ok1_law_steps⟩⟩
  have ok1_law_many := ok_law_many (Pr := l.prog) (w := w) (base := base) T F_law_many c_law_take c_law_steps
  have c_law_many : Cal l.prog w K mg base 3 "_law_many" ["_law_state"] (spD K mg RB 1 m_law_many) := ⟨⟨_, _, PySem.W.mg_of X G a_law_many, k_law_many, F_law_many.binds (ps := ["_law_state"]) fun _ _ _ _ _ _ us hl => match us, hl with | [_], _ => rfl, ok1_law_many⟩⟩
  have ok1_is_number := ok_is_number (Pr := l.prog) (w := w) (base := base) T F_is_number
  have c_is_number : Cal l.prog w K mg base 1 "is_number" ["value", "low"] (spD K mg RB 2 m_is_number) := ⟨⟨_, _, PySem.W.mg_of X G a_is_number, k_is_number, F_is_number.binds (ps := ["value", "low"]) fun _ _ _ _ _ _ us hl => match us, hl with | [_, _], _ => rfl, ok1_is_number⟩⟩
  have ok1_is_step := ok_is_step (Pr := l.prog) (w := w) (base := base) T F_is_step c_is_number
  have c_is_step : Cal l.prog w K mg base 2 "is_step" ["value", "before"] (spD K mg RB 2 m_is_step) := ⟨⟨_, _, PySem.W.mg_of X G a_is_step, k_is_step, F_is_step.binds (ps := ["value", "before"]) fun _ _ _ _ _ _ us hl => match us, hl with | [_, _], _ => rfl, ok1_is_step⟩⟩
  have ok1_Cost_init := ok_Cost_init (Pr := l.prog) (w := w) (base := base) T F_Cost_init x_BadCount c_is_step x_BadSteps cc_Cost
  have cm_Cost : CalM l.prog w K mg base 3 "Cost" ["self", "steps"] (spI K mg RB 1 "Cost" m_Cost_init) A_Cost := ⟨⟨_, _, PySem.W.mg_of X G a_Cost, ⟨mk_Cost, pa_Cost_init, pf_Cost_init, kc_Cost⟩, F_Cost_init.binds (ps := ["self", "steps"]) fun _ _ _ _ _ _ us hl => match us, hl with | [_, _], _ => rfl, ok1_Cost_init⟩⟩
  have ok1_law_shuffled := ok_law_shuffled (Pr := l.prog) (w := w) (base := base) T F_law_shuffled c_law_take
  have c_law_shuffled : Cal l.prog w K mg base 2 "_law_shuffled" ["_law_state", "_law_items"] (spN K mg RB 2 m_law_shuffled) := ⟨⟨_, _, PySem.W.mg_of X G a_law_shuffled, k_law_shuffled, F_law_shuffled.binds (ps := ["_law_state", "_law_items"]) fun _ _ _ _ _ _ us hl => match us, hl with | [_, _], _ => rfl, ok1_law_shuffled⟩⟩
  have ok1_law_at := ok_law_at (Pr := l.prog) (w := w) (base := base) T F_law_at
  have c_law_at : Cal l.prog w K mg base 1 "_law_at" ["_law_steps_here", "_law_time"] (spD K mg RB 2 m_law_at) := ⟨⟨_, _, PySem.W.mg_of X G a_law_at, k_law_at, F_law_at.binds (ps := ["_law_steps_here", "_law_time"]) fun _ _ _ _ _ _ us hl => match us, hl with | [_, _], _ => rfl, ok1_law_at⟩⟩
  have ok1_law_joined := ok_law_joined (Pr := l.prog) (w := w) (base := base) T F_law_joined c_law_at
  have c_law_joined : Cal l.prog w K mg base 2 "_law_joined" ["_law_one", "_law_other", "_law_greater"] (spD K mg RB 3 m_law_joined) := ⟨⟨_, _, PySem.W.mg_of X G a_law_joined, k_law_joined, F_law_joined.binds (ps := ["_law_one", "_law_other", "_law_greater"]) fun _ _ _ _ _ _ us hl => match us, hl with | [_, _, _], _ => rfl, ok1_law_joined⟩⟩
  have ok1_Cost_steps := ok_Cost_steps (Pr := l.prog) (w := w) (base := base) T F_Cost_steps cc_Cost
  have cp_Cost_steps : CalP l.prog w K mg base 1 "steps" (spD K mg RB 1 m_Cost_steps) A_Cost := ⟨⟨_, _, _, C_Cost, ⟨pa_Cost_steps, pb_Cost_steps, pc_Cost_steps, ⟨_, pd_Cost_steps⟩⟩, F_Cost_steps.binds (ps := ["self"]) fun _ _ _ _ _ _ us hl => match us, hl with | [_], _ => rfl, ok1_Cost_steps⟩⟩
  have ok1_amount_at := ok_amount_at (Pr := l.prog) (w := w) (base := base) T F_amount_at
  have c_amount_at : Cal l.prog w K mg base 1 "amount_at" ["pairs", "time"] (spD K mg RB 2 m_amount_at) := ⟨⟨_, _, PySem.W.mg_of X G a_amount_at, k_amount_at, F_amount_at.binds (ps := ["pairs", "time"]) fun _ _ _ _ _ _ us hl => match us, hl with | [_, _], _ => rfl, ok1_amount_at⟩⟩
  have ok1_moments := ok_moments (Pr := l.prog) (w := w) (base := base) T F_moments c_amount_at
  have c_moments : Cal l.prog w K mg base 2 "moments" ["one", "other"] (spD K mg RB 2 m_moments) := ⟨⟨_, _, PySem.W.mg_of X G a_moments, k_moments, F_moments.binds (ps := ["one", "other"]) fun _ _ _ _ _ _ us hl => match us, hl with | [_, _], _ => rfl, ok1_moments⟩⟩
  have ok1_rising := ok_rising (Pr := l.prog) (w := w) (base := base) T F_rising
  have c_rising : Cal l.prog w K mg base 1 "rising" ["steps"] (spD K mg RB 1 m_rising) := ⟨⟨_, _, PySem.W.mg_of X G a_rising, k_rising, F_rising.binds (ps := ["steps"]) fun _ _ _ _ _ _ us hl => match us, hl with | [_], _ => rfl, ok1_rising⟩⟩
  have ok1_Cost_add := ok_Cost_add (Pr := l.prog) (w := w) (base := base) T F_Cost_add cc_Cost cm_Cost c_moments c_rising
  have cb_Cost_add : CalB l.prog w K mg base 5 "__add__" ["self", "other"] (spD K mg RB 2 m_Cost_add) A_Cost := ⟨⟨_, _, sf_Cost, pa_Cost_add, pf_Cost_add, F_Cost_add.binds (ps := ["self", "other"]) fun _ _ _ _ _ _ us hl => match us, hl with | [_, _], _ => rfl, ok1_Cost_add⟩⟩
  have ok1_Cost_or := ok_Cost_or (Pr := l.prog) (w := w) (base := base) T F_Cost_or cc_Cost cm_Cost c_moments c_rising
  have cb_Cost_or : CalB l.prog w K mg base 5 "__or__" ["self", "other"] (spD K mg RB 2 m_Cost_or) A_Cost := ⟨⟨_, _, sf_Cost, pa_Cost_or, pf_Cost_or, F_Cost_or.binds (ps := ["self", "other"]) fun _ _ _ _ _ _ us hl => match us, hl with | [_, _], _ => rfl, ok1_Cost_or⟩⟩
  have ok1_law_told := ok_law_told (Pr := l.prog) (w := w) (base := base) T F_law_told cc_Cost cp_Cost_steps cb_Cost_add cb_Cost_or xm_BadCount nf_BadCount
  have c_law_told : Cal l.prog w K mg base 6 "_law_told" ["_law_way", "_law_one", "_law_other"] (spD K mg RB 3 m_law_told) := ⟨⟨_, _, PySem.W.mg_of X G a_law_told, k_law_told, F_law_told.binds (ps := ["_law_way", "_law_one", "_law_other"]) fun _ _ _ _ _ _ us hl => match us, hl with | [_, _, _], _ => rfl, ok1_law_told⟩⟩
  have ok1_Cost_at := ok_Cost_at (Pr := l.prog) (w := w) (base := base) T F_Cost_at c_is_number x_BadNumber cc_Cost c_amount_at
  have ce_Cost_at : CalE l.prog w K mg base 3 "at" ["self", "time"] (spD K mg RB 2 m_Cost_at) A_Cost := ⟨⟨_, _, C_Cost, ⟨pa_Cost_at, pf_Cost_at, k_Cost_at⟩, F_Cost_at.binds (ps := ["self", "time"]) fun _ _ _ _ _ _ us hl => match us, hl with | [_, _], _ => rfl, ok1_Cost_at⟩⟩
  have ok1_Cost_str := ok_Cost_str (Pr := l.prog) (w := w) (base := base) T F_Cost_str cc_Cost
  have cs_Cost : CalS l.prog w K mg base 1 ["self"] (spD K mg RB 1 m_Cost_str) A_Cost := ⟨⟨_, _, pa_Cost_str, pf_Cost_str, F_Cost_str.binds (ps := ["self"]) fun _ _ _ _ _ _ us hl => match us, hl with | [_], _ => rfl, ok1_Cost_str⟩⟩
  have ok1_Cost_eq := ok_Cost_eq (Pr := l.prog) (w := w) (base := base) T F_Cost_eq cc_Cost kq_Cost
  have cq_Cost : CalQ l.prog w K mg base 1 ["self", "other"] (spD K mg RB 2 m_Cost_eq) A_Cost := ⟨⟨_, _, pa_Cost_eq, pf_Cost_eq, pn_Cost, po2_Cost, F_Cost_eq.binds (ps := ["self", "other"]) fun _ _ _ _ _ _ us hl => match us, hl with | [_, _], _ => rfl, ok1_Cost_eq⟩⟩
  have ok1_Cost_latest := ok_Cost_latest (Pr := l.prog) (w := w) (base := base) T F_Cost_latest c_is_number x_BadNumber cc_Cost
  have ce_Cost_latest : CalE l.prog w K mg base 3 "latest" ["self", "bound"] (spD K mg RB 2 m_Cost_latest) A_Cost := ⟨⟨_, _, C_Cost, ⟨pa_Cost_latest, pf_Cost_latest, k_Cost_latest⟩, F_Cost_latest.binds (ps := ["self", "bound"]) fun _ _ _ _ _ _ us hl => match us, hl with | [_, _], _ => rfl, ok1_Cost_latest⟩⟩
  have ok1_law_right := ok_law_right (Pr := l.prog) (w := w) (base := base) T F_law_right cc_Cost cm_Cost c_law_shuffled c_law_joined c_law_told cb_Cost_or cb_Cost_add ce_Cost_at c_law_at cs_Cost cq_Cost kq_Cost ce_Cost_latest
  have c_law_right : Cal l.prog w K mg base 7 "_law_right" ["_law_state", "_law_one", "_law_other"] (spD K mg RB 3 m_law_right) := ⟨⟨_, _, PySem.W.mg_of X G a_law_right, k_law_right, F_law_right.binds (ps := ["_law_state", "_law_one", "_law_other"]) fun _ _ _ _ _ _ us hl => match us, hl with | [_, _, _], _ => rfl, ok1_law_right⟩⟩
  have ok1_Cost_later := ok_Cost_later (Pr := l.prog) (w := w) (base := base) T F_Cost_later c_is_number x_BadNumber cc_Cost cm_Cost
  have ce_Cost_later : CalE l.prog w K mg base 5 "later" ["self", "by"] (spD K mg RB 2 m_Cost_later) A_Cost := ⟨⟨_, _, C_Cost, ⟨pa_Cost_later, pf_Cost_later, k_Cost_later⟩, F_Cost_later.binds (ps := ["self", "by"]) fun _ _ _ _ _ _ us hl => match us, hl with | [_, _], _ => rfl, ok1_Cost_later⟩⟩
  have cek_Cost_later_by : CalEK l.prog w K mg base 5 "later" ["self", "by"] ["by"] [0] (spD K mg RB 2 m_Cost_later) A_Cost := ⟨⟨_, _, C_Cost, ⟨pa_Cost_later, pf_Cost_later, k_Cost_later⟩, ⟨fun s us ws _ h1 h2 => match us, h1, ws, h2 with | [_], _, [_], _ => .of_eq rfl, by decide⟩, ok1_Cost_later⟩⟩
  have ok1_law_shift := ok_law_shift (Pr := l.prog) (w := w) (base := base) T F_law_shift cc_Cost cp_Cost_steps ce_Cost_later xm_BadNumber nf_BadNumber
  have c_law_shift : Cal l.prog w K mg base 6 "_law_shift" ["_law_cost", "_law_far1"] (spD K mg RB 2 m_law_shift) := ⟨⟨_, _, PySem.W.mg_of X G a_law_shift, k_law_shift, F_law_shift.binds (ps := ["_law_cost", "_law_far1"]) fun _ _ _ _ _ _ us hl => match us, hl with | [_, _], _ => rfl, ok1_law_shift⟩⟩
  have ok1_law_later_right := ok_law_later_right (Pr := l.prog) (w := w) (base := base) T F_law_later_right cc_Cost cm_Cost ce_Cost_later ce_Cost_at c_law_at cs_Cost ce_Cost_latest c_law_joined cp_Cost_steps cb_Cost_add cb_Cost_or c_law_take
  have c_law_later_right : Cal l.prog w K mg base 6 "_law_later_right" ["_law_state", "_law_one", "_law_other", "_law_far1"] (spD K mg RB 4 m_law_later_right) := ⟨⟨_, _, PySem.W.mg_of X G a_law_later_right, k_law_later_right, F_law_later_right.binds (ps := ["_law_state", "_law_one", "_law_other", "_law_far1"]) fun _ _ _ _ _ _ us hl => match us, hl with | [_, _, _, _], _ => rfl, ok1_law_later_right⟩⟩
  exact ok_law T F_law c_law_many c_law_right cc_Cost cm_Cost c_law_take c_law_shift cq_Cost kq_Cost cek_Cost_later_by c_law_later_right c_law_start
end PD
open PySem PySem.W PyProof.Rows
set_option maxHeartbeats 0 in
theorem PySem.Challenge.cw_tailpick_k31_costs_joined_holds : PySem.Challenge.rw_tailpick_k31_costs_joined.Holds := by
  w_on; o_law; k_head; (case hw => w_witness2)
  k_fill
  refine L2.walk_of (l := PySem.Challenge.rw_tailpick_k31_costs_joined) (n := 63) (k := 8) (x := "_law_script") (CX := fun w => L2.CX PySem.Challenge.rw_tailpick_k31_costs_joined.prog w) (sp := fun w => PD.spLaw _) rfl (by decide) rfl ⟨rfl, by decide, by decide⟩ (fun w h Y => PySem.W.kIn_of Y) ?F (fun _ _ a ns hl _ hS => ⟨a, ns, rfl, hS, hl, fun _ => rfl⟩) (fun _ _ _ _ _ h => by
    obtain ⟨_, _, _, _, _, _, _, _, _, _, _, _, z⟩ := h
    exact z.elim)
  case F =>
    intro w mg fa h KX G hmg
    refine' PD.all_mk KX G hmg ?a_TailError ?rT_TailError ?gT_TailError ?iT_TailError ?a_BadCount ?lX_BadCount ?sa_BadCount ?ex_BadCount ?ty_BadCount ?kc_BadCount ?ga_BadCount ?gg_BadCount ?hd_BadCount ?ic_BadCount ?in_BadCount ?ti_BadCount ?nof_BadCount ?l_XBadCount ?c_XBadCount_ ?k_XBadCount ?a_BadSteps ?lX_BadSteps ?sa_BadSteps ?ex_BadSteps ?ty_BadSteps ?kc_BadSteps ?ga_BadSteps ?gg_BadSteps ?hd_BadSteps ?ic_BadSteps ?in_BadSteps ?ti_BadSteps ?nof_BadSteps ?l_XBadSteps ?c_XBadSteps_ ?k_XBadSteps ?a_BadNumber ?lX_BadNumber ?sa_BadNumber ?ex_BadNumber ?ty_BadNumber ?kc_BadNumber ?ga_BadNumber ?gg_BadNumber ?hd_BadNumber ?ic_BadNumber ?in_BadNumber ?ti_BadNumber ?nof_BadNumber ?l_XBadNumber ?c_XBadNumber_ ?k_XBadNumber ?a_BadText ?sub_BadCount_BadCount ?sub_BadText_BadCount ?sub_BadNumber_BadCount ?sub_BadSteps_BadCount ?sub_BadCount_BadNumber ?sub_BadText_BadNumber ?sub_BadNumber_BadNumber ?sub_BadSteps_BadNumber ?a_Cost ?pg_Cost ?hd_Cost ?po_Cost ?sa_Cost ?mk_Cost ?kc_Cost ?no_Cost_pairs ?hn_obj ?ht_obj ?ha_Cost ?hm_Cost ?ic_Cost ?ty_Cost ?nF_Cost_NoneType ?sB_Cost_NoneType ?nF_Cost_bool ?sB_Cost_bool ?nF_Cost_int ?sB_Cost_int ?nF_Cost_str ?sB_Cost_str ?nF_Cost_tuple ?sB_Cost_tuple ?nF_Cost_list ?sB_Cost_list ?nF_Cost_dict ?sB_Cost_dict ?nF_Cost_Cost ?z_abs ?z_bool ?z_int ?z_isinstance ?z_len ?z_list ?z_max ?z_range ?z_set ?z_sorted ?z_str ?z_sum ?z_tuple ?v_MOST_STEPS ?a_law_start ?l_law_start ?c_law_start_ ?k_law_start ?a_law_take ?l_law_take ?c_law_take_ ?k_law_take ?a_law_steps ?l_law_steps ?c_law_steps_ ?k_law_steps ?a_law_many ?l_law_many ?c_law_many_ ?k_law_many ?a_is_number ?l_is_number ?c_is_number_ ?k_is_number ?a_is_step ?l_is_step ?c_is_step_ ?k_is_step ?pa_Cost_init ?pf_Cost_init ?l_Cost_init ?c_Cost_init_ ?k_Cost_init ?a_law_shuffled ?l_law_shuffled ?c_law_shuffled_ ?k_law_shuffled ?a_law_at ?l_law_at ?c_law_at_ ?k_law_at ?a_law_joined ?l_law_joined ?c_law_joined_ ?k_law_joined ?pa_Cost_steps ?pb_Cost_steps ?pc_Cost_steps ?pd_Cost_steps ?l_Cost_steps ?c_Cost_steps_ ?k_Cost_steps ?a_amount_at ?l_amount_at ?c_amount_at_ ?k_amount_at ?a_moments ?l_moments ?c_moments_ ?k_moments ?a_rising ?l_rising ?c_rising_ ?k_rising ?pa_Cost_add ?pf_Cost_add ?sf_Cost ?l_Cost_add ?c_Cost_add_ ?k_Cost_add ?pa_Cost_or ?pf_Cost_or ?l_Cost_or ?c_Cost_or_ ?k_Cost_or ?a_law_told ?l_law_told ?c_law_told_ ?k_law_told ?pa_Cost_at ?pf_Cost_at ?l_Cost_at ?c_Cost_at_ ?k_Cost_at ?pa_Cost_str ?pf_Cost_str ?l_Cost_str ?c_Cost_str_ ?k_Cost_str ?pa_Cost_eq ?pf_Cost_eq ?pn_Cost ?po2_Cost ?l_Cost_eq ?c_Cost_eq_ ?k_Cost_eq ?pa_Cost_latest ?pf_Cost_latest ?l_Cost_latest ?c_Cost_latest_ ?k_Cost_latest ?a_law_right ?l_law_right ?c_law_right_ ?k_law_right ?pa_Cost_later ?pf_Cost_later ?l_Cost_later ?c_Cost_later_ ?k_Cost_later ?a_law_shift ?l_law_shift ?c_law_shift_ ?k_law_shift ?a_law_later_right ?l_law_later_right ?c_law_later_right_ ?k_law_later_right ?a_law ?l_law ?c_law_ ?k_law
    (case a_TailError => k_is)
    (case rT_TailError => k_is)
    (case gT_TailError => k_is)
    (case iT_TailError => k_is)
    (case a_BadCount => k_is)
    (case lX_BadCount => k_is)
    (case sa_BadCount => k_is)
    (case ex_BadCount => k_is)
    (case ty_BadCount => k_is)
    (case kc_BadCount => k_is)
    (case ga_BadCount => k_is)
    (case gg_BadCount => k_is)
    (case hd_BadCount => k_is)
    (case ic_BadCount => k_is)
    (case in_BadCount => k_is)
    (case ti_BadCount => k_is)
    (case nof_BadCount => k_is)
    (case l_XBadCount => k_is)
    (case c_XBadCount_ => k_is)
    (case k_XBadCount => k_is)
    (case a_BadSteps => k_is)
    (case lX_BadSteps => k_is)
    (case sa_BadSteps => k_is)
    (case ex_BadSteps => k_is)
    (case ty_BadSteps => k_is)
    (case kc_BadSteps => k_is)
    (case ga_BadSteps => k_is)
    (case gg_BadSteps => k_is)
    (case hd_BadSteps => k_is)
    (case ic_BadSteps => k_is)
    (case in_BadSteps => k_is)
    (case ti_BadSteps => k_is)
    (case nof_BadSteps => k_is)
    (case l_XBadSteps => k_is)
    (case c_XBadSteps_ => k_is)
    (case k_XBadSteps => k_is)
    (case a_BadNumber => k_is)
    (case lX_BadNumber => k_is)
    (case sa_BadNumber => k_is)
    (case ex_BadNumber => k_is)
    (case ty_BadNumber => k_is)
    (case kc_BadNumber => k_is)
    (case ga_BadNumber => k_is)
    (case gg_BadNumber => k_is)
    (case hd_BadNumber => k_is)
    (case ic_BadNumber => k_is)
    (case in_BadNumber => k_is)
    (case ti_BadNumber => k_is)
    (case nof_BadNumber => k_is)
    (case l_XBadNumber => k_is)
    (case c_XBadNumber_ => k_is)
    (case k_XBadNumber => k_is)
    (case a_BadText => k_is)
    (case sub_BadCount_BadCount => k_is)
    (case sub_BadText_BadCount => k_is)
    (case sub_BadNumber_BadCount => k_is)
    (case sub_BadSteps_BadCount => k_is)
    (case sub_BadCount_BadNumber => k_is)
    (case sub_BadText_BadNumber => k_is)
    (case sub_BadNumber_BadNumber => k_is)
    (case sub_BadSteps_BadNumber => k_is)
    (case a_Cost => k_is)
    (case pg_Cost => k_is)
    (case hd_Cost => k_is)
    (case po_Cost => k_is)
    (case sa_Cost => k_is)
    (case mk_Cost => k_is)
    (case kc_Cost => k_is)
    (case no_Cost_pairs => k_is)
    (case hn_obj => k_is)
    (case ht_obj => k_is)
    (case ha_Cost => k_is)
    (case hm_Cost => k_is)
    (case ic_Cost => k_is)
    (case ty_Cost => k_is)
    (case nF_Cost_NoneType => k_is)
    (case sB_Cost_NoneType => k_is)
    (case nF_Cost_bool => k_is)
    (case sB_Cost_bool => k_is)
    (case nF_Cost_int => k_is)
    (case sB_Cost_int => k_is)
    (case nF_Cost_str => k_is)
    (case sB_Cost_str => k_is)
    (case nF_Cost_tuple => k_is)
    (case sB_Cost_tuple => k_is)
    (case nF_Cost_list => k_is)
    (case sB_Cost_list => k_is)
    (case nF_Cost_dict => k_is)
    (case sB_Cost_dict => k_is)
    (case nF_Cost_Cost => k_is)
    (case z_abs => k_is)
    (case z_bool => k_is)
    (case z_int => k_is)
    (case z_isinstance => k_is)
    (case z_len => k_is)
    (case z_list => k_is)
    (case z_max => k_is)
    (case z_range => k_is)
    (case z_set => k_is)
    (case z_sorted => k_is)
    (case z_str => k_is)
    (case z_sum => k_is)
    (case z_tuple => k_is)
    (case v_MOST_STEPS => k_is)
    (case a_law_start => k_is)
    (case l_law_start => k_is)
    (case c_law_start_ => k_is)
    (case k_law_start => k_is)
    (case a_law_take => k_is)
    (case l_law_take => k_is)
    (case c_law_take_ => k_is)
    (case k_law_take => k_is)
    (case a_law_steps => k_is)
    (case l_law_steps => k_is)
    (case c_law_steps_ => k_is)
    (case k_law_steps => k_is)
    (case a_law_many => k_is)
    (case l_law_many => k_is)
    (case c_law_many_ => k_is)
    (case k_law_many => k_is)
    (case a_is_number => k_is)
    (case l_is_number => k_is)
    (case c_is_number_ => k_is)
    (case k_is_number => k_is)
    (case a_is_step => k_is)
    (case l_is_step => k_is)
    (case c_is_step_ => k_is)
    (case k_is_step => k_is)
    (case pa_Cost_init => k_is)
    (case pf_Cost_init => k_is)
    (case l_Cost_init => k_is)
    (case c_Cost_init_ => k_is)
    (case k_Cost_init => k_is)
    (case a_law_shuffled => k_is)
    (case l_law_shuffled => k_is)
    (case c_law_shuffled_ => k_is)
    (case k_law_shuffled => k_is)
    (case a_law_at => k_is)
    (case l_law_at => k_is)
    (case c_law_at_ => k_is)
    (case k_law_at => k_is)
    (case a_law_joined => k_is)
    (case l_law_joined => k_is)
    (case c_law_joined_ => k_is)
    (case k_law_joined => k_is)
    (case pa_Cost_steps => k_is)
    (case pb_Cost_steps => k_is)
    (case pc_Cost_steps => k_is)
    (case pd_Cost_steps => k_is)
    (case l_Cost_steps => k_is)
    (case c_Cost_steps_ => k_is)
    (case k_Cost_steps => k_is)
    (case a_amount_at => k_is)
    (case l_amount_at => k_is)
    (case c_amount_at_ => k_is)
    (case k_amount_at => k_is)
    (case a_moments => k_is)
    (case l_moments => k_is)
    (case c_moments_ => k_is)
    (case k_moments => k_is)
    (case a_rising => k_is)
    (case l_rising => k_is)
    (case c_rising_ => k_is)
    (case k_rising => k_is)
    (case pa_Cost_add => k_is)
    (case pf_Cost_add => k_is)
    (case sf_Cost => k_is)
    (case l_Cost_add => k_is)
    (case c_Cost_add_ => k_is)
    (case k_Cost_add => k_is)
    (case pa_Cost_or => k_is)
    (case pf_Cost_or => k_is)
    (case l_Cost_or => k_is)
    (case c_Cost_or_ => k_is)
    (case k_Cost_or => k_is)
    (case a_law_told => k_is)
    (case l_law_told => k_is)
    (case c_law_told_ => k_is)
    (case k_law_told => k_is)
    (case pa_Cost_at => k_is)
    (case pf_Cost_at => k_is)
    (case l_Cost_at => k_is)
    (case c_Cost_at_ => k_is)
    (case k_Cost_at => k_is)
    (case pa_Cost_str => k_is)
    (case pf_Cost_str => k_is)
    (case l_Cost_str => k_is)
    (case c_Cost_str_ => k_is)
    (case k_Cost_str => k_is)
    (case pa_Cost_eq => k_is)
    (case pf_Cost_eq => k_is)
    (case pn_Cost => k_is)
    (case po2_Cost => k_is)
    (case l_Cost_eq => k_is)
    (case c_Cost_eq_ => k_is)
    (case k_Cost_eq => k_is)
    (case pa_Cost_latest => k_is)
    (case pf_Cost_latest => k_is)
    (case l_Cost_latest => k_is)
    (case c_Cost_latest_ => k_is)
    (case k_Cost_latest => k_is)
    (case a_law_right => k_is)
    (case l_law_right => k_is)
    (case c_law_right_ => k_is)
    (case k_law_right => k_is)
    (case pa_Cost_later => k_is)
    (case pf_Cost_later => k_is)
    (case l_Cost_later => k_is)
    (case c_Cost_later_ => k_is)
    (case k_Cost_later => k_is)
    (case a_law_shift => k_is)
    (case l_law_shift => k_is)
    (case c_law_shift_ => k_is)
    (case k_law_shift => k_is)
    (case a_law_later_right => k_is)
    (case l_law_later_right => k_is)
    (case c_law_later_right_ => k_is)
    (case k_law_later_right => k_is)
    (case a_law => k_is)
    (case l_law => k_is)
    (case c_law_ => k_is)
    (case k_law => k_is)

