import PyProof.Rows.All
import Wide.All
import OpenK.AllK
import Wide.FinOn
import HandS.ForMost
import HandS.Exc
import HandS.ExcOwn
import HandS.WordsExc
import HandS.CallSlots
import HandS.TryMany
import HandS.Deep
import HandS.TupAny
import HandS.IsInst
import HandS.Style
import PySem.Challenge.RW_tailpick_k01_valid_names
set_option Elab.async false
set_option linter.all false
set_option maxRecDepth 100000
/-! Values as data: D stands for what a frozen value holds; a body's reading is a function on D. -/
namespace PD
open PySem PySem.Spec PyProof.Rows L2

inductive D where
  | non | bl (b : Bool) | int (i : Int) | str (s : Str)
  | tup (xs : List D) | lst (xs : List D)
  /-- a list that somebody owns and may change later: read only -/
  | bor (xs : List D)
  /-- a locked list (the script) -/
  | scr (xs : List D)
  | dct (kvs : List (D × D))
  | ins (C : Str) (fs : List (Str × D))
  /-- the law's state of draws -/
  | state

structure Pm where
  K : PySem.W.Frag
  mg : Str → Option Value
  sa : Addr

def keyD : Key → D
  | .inl i => .int i
  | .inr s => .str s

mutual
def Rep (P : Pm) (F : Hp) : D → V → Prop
  | .non, v => v = .non
  | .bl b, v => v = .bl b
  | .int i, v => v = .int i
  | .str s, v => v = .str s
  | .tup xs, v => ∃ a vs, v = .ref a ∧ SqT P.K F a vs ∧ Reps P F xs vs
  | .lst xs, v => ∃ a vs, v = .ref a ∧ F a = some (.lst vs) ∧ Reps P F xs vs
  | .bor _, _ => False
  | .scr xs, v => ∃ a vs, v = .ref a ∧ SqL P.K F a vs ∧ Reps P F xs vs
  | .dct kvs, v => ∃ a, v = .ref a ∧ ((∃ ks, F a = some (.dK ks) ∧ RepK P F kvs ks) ∨ ∃ ks, F a = some (.dT ks) ∧ RepT P F kvs ks)
  | .ins C fs, v => ∃ a Ca dx vs, v = .ref a ∧ P.mg C = some (.ref Ca) ∧ F a = some (.ins Ca dx vs) ∧ RepF P F fs vs
  | .state, v => v = .ref P.sa
def Reps (P : Pm) (F : Hp) : List D → List V → Prop
  | [], vs => vs = []
  | d :: ds, vs => ∃ v ws, vs = v :: ws ∧ Rep P F d v ∧ Reps P F ds ws
def RepK (P : Pm) (F : Hp) : List (D × D) → List (Key × V) → Prop
  | [], vs => vs = []
  | (k, d) :: ds, vs => ∃ k' v ws, vs = (k', v) :: ws ∧ k = keyD k' ∧ Rep P F d v ∧ RepK P F ds ws
def RepT (P : Pm) (F : Hp) : List (D × D) → List (List Key × V) → Prop
  | [], vs => vs = []
  | (k, d) :: ds, vs => ∃ k' v ws, vs = (k', v) :: ws ∧ k = .tup (k'.map keyD) ∧ Rep P F d v ∧ RepT P F ds ws
def RepF (P : Pm) (F : Hp) : List (Str × D) → List (Str × V) → Prop
  | [], vs => vs = []
  | (n, d) :: ds, vs => ∃ v ws, vs = (n, v) :: ws ∧ Rep P F d v ∧ RepF P F ds ws
end

mutual
theorem Rep.mono {P : Pm} {F F' : Hp} (h : Same F F') : ∀ (d : D) (v : V), Rep P F d v → Rep P F' d v
  | .non, v, r => by simpa only [Rep] using r
  | .bl b, v, r => by simpa only [Rep] using r
  | .int i, v, r => by simpa only [Rep] using r
  | .str s, v, r => by simpa only [Rep] using r
  | .tup xs, v, r => by
    simp only [Rep] at r ⊢
    obtain ⟨a, vs, e, q, rs⟩ := r
    refine ⟨a, vs, e, ?_, Reps.mono h xs vs rs⟩
    rcases q with (q | ⟨o, q⟩) | q
    · exact .inl (.inl (h _ _ q))
    · exact .inl (.inr ⟨o, h _ _ q⟩)
    · exact .inr q
  | .lst xs, v, r => by
    simp only [Rep] at r ⊢
    obtain ⟨a, vs, e, q, rs⟩ := r
    exact ⟨a, vs, e, h _ _ q, Reps.mono h xs vs rs⟩
  | .bor xs, v, r => by simp only [Rep] at r
  | .scr xs, v, r => by
    simp only [Rep] at r ⊢
    obtain ⟨a, vs, e, q, rs⟩ := r
    exact ⟨a, vs, e, h.seq q, Reps.mono h xs vs rs⟩
  | .dct kvs, v, r => by
    simp only [Rep] at r ⊢
    obtain ⟨a, e, q⟩ := r
    refine ⟨a, e, ?_⟩
    rcases q with ⟨ks, q, rs⟩ | ⟨ks, q, rs⟩
    · exact .inl ⟨ks, h _ _ q, RepK.mono h kvs ks rs⟩
    · exact .inr ⟨ks, h _ _ q, RepT.mono h kvs ks rs⟩
  | .ins C fs, v, r => by
    simp only [Rep] at r ⊢
    obtain ⟨a, Ca, dx, vs, e, m, q, rs⟩ := r
    exact ⟨a, Ca, dx, vs, e, m, h _ _ q, RepF.mono h fs vs rs⟩
  | .state, v, r => by simpa only [Rep] using r
theorem Reps.mono {P : Pm} {F F' : Hp} (h : Same F F') : ∀ (ds : List D) (vs : List V), Reps P F ds vs → Reps P F' ds vs
  | [], vs, r => by simpa only [Reps] using r
  | d :: ds, vs, r => by
    simp only [Reps] at r ⊢
    obtain ⟨v, ws, e, r, rs⟩ := r
    exact ⟨v, ws, e, Rep.mono h d v r, Reps.mono h ds ws rs⟩
theorem RepK.mono {P : Pm} {F F' : Hp} (h : Same F F') : ∀ (ds : List (D × D)) (vs : List (Key × V)), RepK P F ds vs → RepK P F' ds vs
  | [], vs, r => by simpa only [RepK] using r
  | (k, d) :: ds, vs, r => by
    simp only [RepK] at r ⊢
    obtain ⟨k', v, ws, e, ek, r, rs⟩ := r
    exact ⟨k', v, ws, e, ek, Rep.mono h d v r, RepK.mono h ds ws rs⟩
theorem RepT.mono {P : Pm} {F F' : Hp} (h : Same F F') : ∀ (ds : List (D × D)) (vs : List (List Key × V)), RepT P F ds vs → RepT P F' ds vs
  | [], vs, r => by simpa only [RepT] using r
  | (k, d) :: ds, vs, r => by
    simp only [RepT] at r ⊢
    obtain ⟨k', v, ws, e, ek, r, rs⟩ := r
    exact ⟨k', v, ws, e, ek, Rep.mono h d v r, RepT.mono h ds ws rs⟩
theorem RepF.mono {P : Pm} {F F' : Hp} (h : Same F F') : ∀ (ds : List (Str × D)) (vs : List (Str × V)), RepF P F ds vs → RepF P F' ds vs
  | [], vs, r => by simpa only [RepF] using r
  | (n, d) :: ds, vs, r => by
    simp only [RepF] at r ⊢
    obtain ⟨v, ws, e, r, rs⟩ := r
    exact ⟨v, ws, e, Rep.mono h d v r, RepF.mono h ds ws rs⟩
end

/-- a value that may be an owned list, read where it stands (B) -/
def RepB (P : Pm) (F B : Hp) : D → V → Prop
  | .bor xs, v => ∃ a vs, v = .ref a ∧ B a = some (.lst vs) ∧ Reps P F xs vs
  | d, v => Rep P F d v
def borFree : D → Bool
  | .bor _ => false
  | _ => true
theorem RepB.rep {P : Pm} {F B : Hp} {d : D} {v : V} (h : borFree d = true) (r : RepB P F B d v) : Rep P F d v := by
  cases d <;> first | exact r | cases h
theorem Rep.b {P : Pm} {F B : Hp} {d : D} {v : V} (r : Rep P F d v) : RepB P F B d v := by
  cases d <;> first | exact r | (simp only [Rep] at r)
theorem RepB.mono {P : Pm} {F F' B : Hp} (h : Same F F') {d : D} {v : V} (r : RepB P F B d v) : RepB P F' B d v := by
  cases d
  case bor xs =>
    obtain ⟨a, vs, e, q, rs⟩ := r
    exact ⟨a, vs, e, q, rs.mono h⟩
  all_goals exact Rep.mono h _ _ r

theorem Reps.length {P : Pm} {F : Hp} : ∀ {ds : List D} {vs : List V}, Reps P F ds vs → ds.length = vs.length
  | [], vs, r => by simp only [Reps] at r; subst r; rfl
  | d :: ds, vs, r => by
    simp only [Reps] at r
    obtain ⟨v, ws, e, _, rs⟩ := r
    subst e
    simp only [List.length_cons, rs.length]
theorem Reps.get {P : Pm} {F : Hp} : ∀ {ds : List D} {vs : List V} {i : Nat} {d : D}, Reps P F ds vs → ds[i]? = some d → ∃ v, vs[i]? = some v ∧ Rep P F d v
  | [], vs, i, d, r, e => by simp at e
  | x :: ds, vs, i, d, r, e => by
    simp only [Reps] at r
    obtain ⟨v, ws, ev, r, rs⟩ := r
    subst ev
    cases i with
    | zero => simp at e; subst e; exact ⟨v, rfl, r⟩
    | succ i => simpa using rs.get (i := i) (by simpa using e)
theorem Reps.getV {P : Pm} {F : Hp} {ds : List D} {vs : List V} {i : Nat} {v : V} (r : Reps P F ds vs) (e : vs[i]? = some v) : ∃ d, ds[i]? = some d ∧ Rep P F d v := by
  have hl := r.length
  obtain ⟨h, _⟩ := List.getElem?_eq_some_iff.mp e
  obtain ⟨w, e2, rr⟩ := r.get (i := i) (List.getElem?_eq_getElem (by omega))
  rw [e] at e2; cases e2
  exact ⟨_, List.getElem?_eq_getElem (by omega), rr⟩
theorem Reps.append {P : Pm} {F : Hp} : ∀ {ds es : List D} {vs ws : List V}, Reps P F ds vs → Reps P F es ws → Reps P F (ds ++ es) (vs ++ ws)
  | [], es, vs, ws, r, s => by simp only [Reps] at r; subst r; exact s
  | d :: ds, es, vs, ws, r, s => by
    simp only [Reps] at r
    obtain ⟨v, us, e, r, rs⟩ := r
    subst e
    simp only [List.cons_append, Reps]
    exact ⟨v, us ++ ws, rfl, r, rs.append s⟩
theorem Reps.one {P : Pm} {F : Hp} {d : D} {v : V} (r : Rep P F d v) : Reps P F [d] [v] := by
  simp only [Reps]
  exact ⟨v, [], rfl, r, rfl⟩
theorem Reps.cons {P : Pm} {F : Hp} {d : D} {v : V} {ds : List D} {vs : List V} (r : Rep P F d v) (rs : Reps P F ds vs) : Reps P F (d :: ds) (v :: vs) := by
  simp only [Reps]
  exact ⟨v, vs, rfl, r, rs⟩
theorem Reps.nil {P : Pm} {F : Hp} : Reps P F [] [] := by simp only [Reps]
theorem Reps.uncons {P : Pm} {F : Hp} {d : D} {ds : List D} {vs : List V} (r : Reps P F (d :: ds) vs) : ∃ v ws, vs = v :: ws ∧ Rep P F d v ∧ Reps P F ds ws := by
  simpa only [Reps] using r
theorem Reps.take {P : Pm} {F : Hp} : ∀ {ds : List D} {vs : List V} (n : Nat), Reps P F ds vs → Reps P F (ds.take n) (vs.take n)
  | _, _, 0, _ => by simp only [List.take_zero]; exact .nil
  | [], vs, n + 1, r => by simp only [Reps] at r; subst r; exact .nil
  | d :: ds, vs, n + 1, r => by
    obtain ⟨v, ws, e, r1, rs⟩ := r.uncons
    subst e
    exact .cons r1 (rs.take n)
theorem Reps.drop {P : Pm} {F : Hp} : ∀ {ds : List D} {vs : List V} (n : Nat), Reps P F ds vs → Reps P F (ds.drop n) (vs.drop n)
  | _, _, 0, r => r
  | [], vs, n + 1, r => by simp only [Reps] at r; subst r; exact .nil
  | d :: ds, vs, n + 1, r => by
    obtain ⟨v, ws, e, r1, rs⟩ := r.uncons
    subst e
    exact rs.drop n
theorem Reps.set {P : Pm} {F : Hp} {d : D} {v : V} (r : Rep P F d v) : ∀ {ds : List D} {vs : List V} (i : Nat), Reps P F ds vs → Reps P F (ds.set i d) (vs.set i v)
  | [], vs, i, rs => by simp only [Reps] at rs; subst rs; exact .nil
  | x :: ds, vs, 0, rs => by
    obtain ⟨w, ws, e, _, rs1⟩ := rs.uncons
    subst e
    exact .cons r rs1
  | x :: ds, vs, i + 1, rs => by
    obtain ⟨w, ws, e, rx, rs1⟩ := rs.uncons
    subst e
    exact .cons rx (rs1.set r i)
theorem Reps.eraseIdx {P : Pm} {F : Hp} : ∀ {ds : List D} {vs : List V} (i : Nat), Reps P F ds vs → Reps P F (ds.eraseIdx i) (vs.eraseIdx i)
  | [], vs, i, rs => by simp only [Reps] at rs; subst rs; exact .nil
  | x :: ds, vs, 0, rs => by
    obtain ⟨w, ws, e, _, rs1⟩ := rs.uncons
    subst e
    exact rs1
  | x :: ds, vs, i + 1, rs => by
    obtain ⟨w, ws, e, rx, rs1⟩ := rs.uncons
    subst e
    exact .cons rx (rs1.eraseIdx i)
theorem Reps.reverse {P : Pm} {F : Hp} : ∀ {ds : List D} {vs : List V}, Reps P F ds vs → Reps P F ds.reverse vs.reverse
  | [], vs, rs => by simp only [Reps] at rs; subst rs; exact .nil
  | x :: ds, vs, rs => by
    obtain ⟨w, ws, e, rx, rs1⟩ := rs.uncons
    subst e
    simp only [List.reverse_cons]
    exact rs1.reverse.append (.one rx)
theorem Reps.strs {P : Pm} {F : Hp} : ∀ (ss : List Str), Reps P F (ss.map D.str) (ss.map V.str)
  | [] => .nil
  | s :: ss => .cons (by simp only [Rep]) (Reps.strs ss)
theorem Reps.pyI {P : Pm} {F : Hp} : ∀ (ss : List Int), Reps P F (ss.map D.int) (ss.map V.int)
  | [] => .nil
  | s :: ss => .cons (by simp only [Rep]) (Reps.pyI ss)

/-! ### heaps -/
structure Pre (F B M H : Hp) : Prop where
  f : Same F H
  b : Same B H
  m : Same M H
  fb : ∀ a, F a = none ∨ B a = none
  fm : ∀ a, F a = none ∨ M a = none
  bm : ∀ a, B a = none ∨ M a = none
/-- behind an expression: F the frozen part, M the part of the state -/
structure Ext (F M H F' M' H' : Hp) : Prop where
  ff : Same F F'
  f : Same F' H'
  m : Same M' H'
  keep : ∀ a o, H a = some o → M a = none → H' a = some o
  there : ∀ a, H a ≠ none → H' a ≠ none
  newF : ∀ a, H a ≠ none → F a = none → F' a = none
  newM : ∀ a, H a ≠ none → M a = none → M' a = none
  fm : ∀ a, F' a = none ∨ M' a = none
theorem ne_some {α : Type} {x : Option α} {o : α} (h : x = some o) : x ≠ none := by rw [h]; exact nofun
theorem some_ne {α : Type} {x : Option α} (h : x ≠ none) : ∃ o, x = some o := by
  cases x with
  | none => exact absurd rfl h
  | some o => exact ⟨o, rfl⟩
theorem _root_.L2.Same.ne {A B : Hp} (h : Same A B) {a : Addr} (n : A a ≠ none) : B a ≠ none := by
  obtain ⟨o, e⟩ := some_ne n
  exact ne_some (h _ _ e)
theorem _root_.L2.Same.none {A B : Hp} (h : Same A B) {a : Addr} (n : B a = none) : A a = none := h.free n
theorem Ext.refl {F B M H : Hp} (p : Pre F B M H) : Ext F M H F M H :=
  ⟨Same.refl F, p.f, p.m, fun _ _ h _ => h, fun _ h => h, fun _ _ h => h, fun _ _ h => h, p.fm⟩
theorem Ext.trans {F M H F1 M1 H1 F2 M2 H2 : Hp} (a : Ext F M H F1 M1 H1) (b : Ext F1 M1 H1 F2 M2 H2) : Ext F M H F2 M2 H2 where
  ff := a.ff.trans b.ff
  f := b.f
  m := b.m
  keep := fun x o h n => b.keep x o (a.keep x o h n) (a.newM x (ne_some h) n)
  there := fun x h => b.there x (a.there x h)
  newF := fun x h n => b.newF x (a.there x h) (a.newF x h n)
  newM := fun x h n => b.newM x (a.there x h) (a.newM x h n)
  fm := b.fm
theorem Pre.ext {F B M H F' M' H' : Hp} (p : Pre F B M H) (e : Ext F M H F' M' H') : Pre F' B M' H' where
  f := e.f
  m := e.m
  fm := e.fm
  b := fun a o h => e.keep a o (p.b a o h) ((p.bm a).resolve_left (ne_some h))
  fb := fun a => by
    by_cases h : B a = none
    · exact .inr h
    · exact .inl (e.newF a (p.b.ne h) ((p.fb a).resolve_right h))
  bm := fun a => by
    by_cases h : B a = none
    · exact .inl h
    · exact .inr (e.newM a (p.b.ne h) ((p.bm a).resolve_left h))
theorem same_updP {H : Hp} {p : Addr} {o : HO} (h : H p = none) : Same H (upd H p o) := fun b x e => by
  rw [upd_ne (ne_of_none e h)]
  exact e
theorem upd_none {H : Hp} {p a : Addr} {o : HO} (h : upd H p o a = none) : H a = none ∧ a ≠ p := by
  by_cases e : a = p
  · subst e; rw [upd_same] at h; cases h
  · rw [upd_ne e] at h; exact ⟨h, e⟩
/-- a new object, frozen at once -/
theorem Ext.new {F B M H : Hp} (p : Pre F B M H) {x : Addr} {o : HO} (h : H x = none) : Ext F M H (upd F x o) M (upd H x o) where
  ff := same_updP (p.f.none h)
  f := fun a u e => by
    by_cases hx : a = x
    · subst hx; rw [upd_same] at e ⊢; exact e
    · rw [upd_ne hx] at e ⊢; exact p.f _ _ e
  m := p.m.trans (same_updP h)
  keep := fun a u e _ => same_updP h _ _ e
  there := fun a e => (same_updP h).ne e
  newF := fun a e n => by
    have hx : a ≠ x := fun z => e (by rw [z]; exact h)
    rw [upd_ne hx]; exact n
  newM := fun a _ n => n
  fm := fun a => by
    by_cases hx : a = x
    · subst hx; exact .inr (p.m.none h)
    · rw [upd_ne hx]; exact p.fm a
/-- a new object that is not frozen -/
theorem Ext.own {F B M H : Hp} (p : Pre F B M H) {x : Addr} {o : HO} (h : H x = none) : Ext F M H F M (upd H x o) where
  ff := Same.refl F
  f := p.f.trans (same_updP h)
  m := p.m.trans (same_updP h)
  keep := fun a u e _ => same_updP h _ _ e
  there := fun a e => (same_updP h).ne e
  newF := fun a _ n => n
  newM := fun a _ n => n
  fm := p.fm

/-! ### results -/
structure Exn where
  cls : Str
  fld : Str
  val : D
inductive Res (τ α : Type) where
  | ok (a : α) (st : τ)
  | err (x : Exn) (st : τ)
  | stuck
def Res.bind {τ α β : Type} (r : Res τ α) (f : α → τ → Res τ β) : Res τ β :=
  match r with
  | .ok a st => f a st
  | .err x st => .err x st
  | .stuck => .stuck
def Res.of {τ α : Type} (o : Option α) (st : τ) : Res τ α :=
  match o with
  | some a => .ok a st
  | none => .stuck

/-- what a slot holds -/
inductive SV where
  | un
  | val (d : D)
  | own (xs : List D)
  | bor (xs : List D)
abbrev Sl : Type := List SV

def SlotOk (P : Pm) (F B : Hp) : SV → Option V → Prop
  | .un, _ => True
  | .val d, o => ∃ v, o = some v ∧ Rep P F d v
  | .own xs, o => ∃ a vs, o = some (.ref a) ∧ B a = some (.lst vs) ∧ Reps P F xs vs
  | .bor xs, o => ∃ a vs, o = some (.ref a) ∧ B a = some (.lst vs) ∧ Reps P F xs vs
theorem SlotOk.mono {P : Pm} {F F' B : Hp} (h : Same F F') {s : SV} {o : Option V} (r : SlotOk P F B s o) : SlotOk P F' B s o := by
  cases s with
  | un => trivial
  | val d => obtain ⟨v, e, r⟩ := r; exact ⟨v, e, r.mono h⟩
  | own xs => obtain ⟨a, vs, e, q, r⟩ := r; exact ⟨a, vs, e, q, r.mono h⟩
  | bor xs => obtain ⟨a, vs, e, q, r⟩ := r; exact ⟨a, vs, e, q, r.mono h⟩
def SV.isOwn : SV → Bool
  | .own _ => true
  | _ => false
def SV.isRef : SV → Bool
  | .own _ => true
  | .bor _ => true
  | _ => false
/-- a def's body as it stands: the slots and the state -/
structure WI {τ : Type} (P : Pm) (R : τ → Hp → Prop) (F B M H : Hp) (σ : L2.St) (ρ : Sl) (st : τ) : Prop where
  pre : Pre F B M H
  r : R st M
  len : ρ.length = σ.length
  sl : ∀ (i : Nat) (s : SV) (o : Option V), ρ[i]? = some s → σ[i]? = some o → SlotOk P F B s o
  dj : ∀ (i j : Nat) (s t : SV) (a : Addr), i ≠ j → ρ[i]? = some s → ρ[j]? = some t → s.isOwn = true → t.isRef = true → σ[i]? = some (some (.ref a)) → σ[j]? ≠ some (some (.ref a))
theorem WI.ext {τ : Type} {P : Pm} {R : τ → Hp → Prop} {F B M H F' M' H' : Hp} {σ : L2.St} {ρ : Sl} {st st' : τ} (w : WI P R F B M H σ ρ st) (e : Ext F M H F' M' H') (r : R st' M') : WI P R F' B M' H' σ ρ st' :=
  ⟨w.pre.ext e, r, w.len, fun i s o h1 h2 => (w.sl i s o h1 h2).mono e.ff, w.dj⟩
theorem WI.slot {τ : Type} {P : Pm} {R : τ → Hp → Prop} {F B M H : Hp} {σ : L2.St} {ρ : Sl} {st : τ} (w : WI P R F B M H σ ρ st) {i : Nat} {s : SV} (h : ρ[i]? = some s) : ∃ o, σ[i]? = some o ∧ SlotOk P F B s o := by
  obtain ⟨hi, _⟩ := List.getElem?_eq_some_iff.mp h
  have h2 : i < σ.length := by rw [← w.len]; exact hi
  exact ⟨σ[i], List.getElem?_eq_getElem h2, w.sl i s _ h (List.getElem?_eq_getElem h2)⟩

/-- how an exception of a mirror stands in the heap: its class, its own dict -/
def XRep (P : Pm) (F : Hp) (x : Exn) (c : Value) (d : Option Addr) (H : Hp) : Prop :=
  ∃ (C dd : Addr) (v : V), P.mg x.cls = some (.ref C) ∧ c = .ref C ∧ d = some dd ∧ H dd = some (.xd [(x.fld, v)]) ∧ Rep P F x.val v

/-- r comes to an end of which ok (er) holds -/
def Sat {τ α : Type} (r : Res τ α) (ok : α → τ → Prop) (er : Exn → τ → Prop) : Prop :=
  match r with
  | .ok a st => ok a st
  | .err x st => er x st
  | .stuck => False
theorem Sat.bind {τ α β : Type} {r : Res τ α} {f : α → τ → Res τ β} {ok : β → τ → Prop} {er : Exn → τ → Prop} (h : Sat (r.bind f) ok er) : Sat r (fun a st => Sat (f a st) ok er) er := by
  cases r <;> exact h
theorem Sat.mono {τ α : Type} {r : Res τ α} {ok ok' : α → τ → Prop} {er er' : Exn → τ → Prop} (h : Sat r ok er) (h1 : ∀ a st, ok a st → ok' a st) (h2 : ∀ x st, er x st → er' x st) : Sat r ok' er' := by
  cases r with
  | ok a st => exact h1 _ _ h
  | err x st => exact h2 _ _ h
  | stuck => exact h
theorem Sat.of {τ α : Type} {o : Option α} {st : τ} {ok : α → τ → Prop} {er : Exn → τ → Prop} (h : Sat (Res.of o st) ok er) : ∃ a, o = some a ∧ ok a st := by
  cases o with
  | none => exact h.elim
  | some a => exact ⟨a, rfl, h⟩

section
variable {τ : Type} (P : Pm) (R : τ → Hp → Prop)
abbrev GE (τ : Type) := Sl → τ → Res τ D
abbrev GA (τ : Type) := Sl → τ → Res τ (List D)
abbrev GT (τ : Type) := Sl → τ → Res τ Bool
/-- an exception's wish -/
def KX (W : WX) (F M H : Hp) (σ : L2.St) : Exn → τ → Prop := fun x st' => ∀ F' M' H' c dd, Ext F M H F' M' H' → R st' M' → XRep P F' x c dd H' → W c dd σ H'
/-- what an expression's reading te comes to is what g says -/
def EvD (W : WX) (te : TE) (g : GE τ) : Prop := ∀ F B M H σ ρ st, WI P R F B M H σ ρ st → ∀ Q : VK,
  Sat (g ρ st) (fun d st' => ∀ F' M' H' v, Ext F M H F' M' H' → R st' M' → RepB P F' B d v → Q v H') (KX P R W F M H σ) → te σ H Q
def EvT (W : WX) (tt : TT) (g : GT τ) : Prop := ∀ F B M H σ ρ st, WI P R F B M H σ ρ st → ∀ Q : Bool → Hp → Prop,
  Sat (g ρ st) (fun b st' => ∀ F' M' H', Ext F M H F' M' H' → R st' M' → Q b H') (KX P R W F M H σ) → tt σ H Q
def RepBs (F B : Hp) : List D → List V → Prop
  | [], vs => vs = []
  | d :: ds, vs => ∃ v ws, vs = v :: ws ∧ RepB P F B d v ∧ RepBs F B ds ws
def EvA (W : WX) (ta : TA) (g : GA τ) : Prop := ∀ F B M H σ ρ st, WI P R F B M H σ ρ st → ∀ Q : List V → Hp → Prop,
  Sat (g ρ st) (fun ds st' => ∀ F' M' H' vs, Ext F M H F' M' H' → R st' M' → RepBs P F' B ds vs → Q vs H') (KX P R W F M H σ) → ta σ H Q
theorem KX.ext {W : WX} {F M H F1 M1 H1 : Hp} {σ : L2.St} {x : Exn} {st : τ} (h : KX P R W F M H σ x st) (e : Ext F M H F1 M1 H1) : KX P R W F1 M1 H1 σ x st :=
  fun F' M' H' c dd E r q => h F' M' H' c dd (e.trans E) r q
end
end PD

namespace PD
open PySem PySem.Spec PyProof.Rows L2
section
variable {τ : Type} {P : Pm} {R : τ → Hp → Prop} {W : WX}

theorem RepBs.mono {F F' B : Hp} (h : Same F F') : ∀ {ds : List D} {vs : List V}, RepBs P F B ds vs → RepBs P F' B ds vs
  | [], vs, r => r
  | d :: ds, vs, ⟨v, ws, e, r, rs⟩ => ⟨v, ws, e, r.mono h, RepBs.mono h rs⟩

/-! ### names, constants -/
def slotD : SV → Option D
  | .val d => some d
  | .own xs => some (.bor xs)
  | .bor xs => some (.bor xs)
  | .un => none
def gVar (i : Nat) : GE τ := fun ρ st => .of (ρ[i]?.bind slotD) st
theorem ev_var (i : Nat) : EvD P R W (tVar i) (gVar i) := by
  intro F B M H σ ρ st w Q h
  obtain ⟨d, e, q⟩ := Sat.of h
  cases e1 : ρ[i]? with
  | none => rw [e1] at e; cases e
  | some s =>
    rw [e1] at e
    obtain ⟨o, e2, so⟩ := w.slot e1
    cases s with
    | un => cases e
    | val d' =>
      cases e
      obtain ⟨v, rfl, r⟩ := so
      exact ⟨v, e2, q F M H v (.refl w.pre) w.r r.b⟩
    | own xs =>
      cases e
      obtain ⟨a, vs, rfl, eb, r⟩ := so
      exact ⟨.ref a, e2, q F M H _ (.refl w.pre) w.r ⟨a, vs, rfl, eb, r⟩⟩
    | bor xs =>
      cases e
      obtain ⟨a, vs, rfl, eb, r⟩ := so
      exact ⟨.ref a, e2, q F M H _ (.refl w.pre) w.r ⟨a, vs, rfl, eb, r⟩⟩
def gC (d : D) : GE τ := fun _ st => .ok d st
theorem ev_int {i : Int} : EvD P R W (tC (.int i)) (gC (.int i)) := fun F B M H σ ρ st w Q q => q F M H _ (.refl w.pre) w.r rfl
theorem ev_bl {b : Bool} : EvD P R W (tC (.bl b)) (gC (.bl b)) := fun F B M H σ ρ st w Q q => q F M H _ (.refl w.pre) w.r rfl
theorem ev_non : EvD P R W (tC .non) (gC .non) := fun F B M H σ ρ st w Q q => q F M H _ (.refl w.pre) w.r rfl
theorem ev_str {x : Str} : EvD P R W (tC (.str x)) (gC (.str x)) := fun F B M H σ ρ st w Q q => q F M H _ (.refl w.pre) w.r rfl

/-! ### operators of two values -/
def OpD (P : Pm) (r : R2) (op : D → D → Option D) : Prop := ∀ F B M H x y dx dy d, Pre F B M H → RepB P F B dx x → RepB P F B dy y → op dx dy = some d →
  ∀ Q : VK, (∀ F' H' v, Ext F M H F' M H' → RepB P F' B d v → Q v H') → r x y H Q
def gBin (op : D → D → Option D) (a b : GE τ) : GE τ := fun ρ st => (a ρ st).bind fun x st => (b ρ st).bind fun y st => .of (op x y) st
theorem ev_op {r : R2} {op : D → D → Option D} {ta tb : TE} {ga gb : GE τ} (ho : OpD P r op) (ha : EvD P R W ta ga) (hb : EvD P R W tb gb) : EvD P R W (tOp r ta tb) (gBin op ga gb) := by
  intro F B M H σ ρ st w Q h
  refine ha F B M H σ ρ st w _ (h.bind.mono (fun x st1 h1 F1 M1 H1 v1 E1 R1 r1 => ?_) fun _ _ z => z)
  have w1 := w.ext E1 R1
  refine hb F1 B M1 H1 σ ρ st1 w1 _ (h1.bind.mono (fun y st2 h2 F2 M2 H2 v2 E2 R2 r2 => ?_) fun _ _ z => KX.ext P R z E1)
  obtain ⟨d, e, q⟩ := Sat.of h2
  exact ho F2 B M2 H2 v1 v2 x y d (w1.pre.ext E2) (r1.mono E2.ff) r2 e Q fun F' H' v E r => q F' M2 H' v ((E1.trans E2).trans E) R2 r
theorem OpD.or {r r' : R2} {op op' : D → D → Option D} (h : OpD P r op) (h' : OpD P r' op') : OpD P (fun x y H Q => r x y H Q ∨ r' x y H Q) (fun x y => (op x y).or (op' x y)) := by
  intro F B M H x y dx dy d p rx ry e Q q
  have e : (op dx dy).or (op' dx dy) = some d := e
  cases e1 : op dx dy with
  | some d1 =>
    rw [e1] at e
    exact .inl (h F B M H x y dx dy d p rx ry (e1.trans e) Q q)
  | none =>
    rw [e1] at e
    exact .inr (h' F B M H x y dx dy d p rx ry e Q q)
theorem OpR.or {X : Cx} {f : Value → Value → Sem Value} {r r' : R2} (h : OpR X f r) (h' : OpR X f r') : OpR X f (fun x y H Q => r x y H Q ∨ r' x y H Q) := by
  intro pins s σ H x y v u Q I rx ry q
  rcases q with q | q
  · exact h pins s σ H x y v u Q I rx ry q
  · exact h' pins s σ H x y v u Q I rx ry q
/-- of ints, scalars alone -/
def oI (f : Int → Int → Option D) : D → D → Option D
  | .int i, .int j => f i j
  | _, _ => none
def oS (f : Str → Str → Option D) : D → D → Option D
  | .str i, .str j => f i j
  | _, _ => none
theorem RepB.int {F B : Hp} {i : Int} {v : V} (r : RepB P F B (.int i) v) : v = .int i := r
theorem RepB.str {F B : Hp} {i : Str} {v : V} (r : RepB P F B (.str i) v) : v = .str i := r
theorem oI_some {f : Int → Int → Option D} {x y d : D} (h : oI f x y = some d) : ∃ i j, x = .int i ∧ y = .int j ∧ f i j = some d := by
  cases x <;> cases y <;> first | exact ⟨_, _, rfl, rfl, h⟩ | cases h
theorem oS_some {f : Str → Str → Option D} {x y d : D} (h : oS f x y = some d) : ∃ i j, x = .str i ∧ y = .str j ∧ f i j = some d := by
  cases x <;> cases y <;> first | exact ⟨_, _, rfl, rfl, h⟩ | cases h
theorem opd_I0 {g : Int → Int → V} {f : Int → Int → D} (h : ∀ F B i j, RepB P F B (f i j) (g i j)) : OpD P (rI0 g) (oI fun i j => some (f i j)) := by
  intro F B M H x y dx dy d p rx ry e Q q
  obtain ⟨i, j, rfl, rfl, e⟩ := oI_some e
  cases e
  exact ⟨i, j, rx, ry, q F H _ (.refl p) (h F B i j)⟩
theorem opd_I {C : Int → Int → Prop} {g : Int → Int → V} {f : Int → Int → D} {c : Int → Int → Bool} (hc : ∀ i j, c i j = true → C i j) (h : ∀ F B i j, RepB P F B (f i j) (g i j)) : OpD P (rI C g) (oI fun i j => if c i j = true then some (f i j) else none) := by
  intro F B M H x y dx dy d p rx ry e Q q
  obtain ⟨i, j, rfl, rfl, e'⟩ := oI_some e
  clear e
  have e := e'
  by_cases hcc : c i j = true
  · rw [if_pos hcc] at e
    cases e
    exact ⟨i, j, rx, ry, hc i j hcc, q F H _ (.refl p) (h F B i j)⟩
  · rw [if_neg hcc] at e; cases e

/-! ### what a value holds one after the other -/
def items : D → Option (List D)
  | .tup xs => some xs
  | .lst xs => some xs
  | .bor xs => some xs
  | .scr xs => some xs
  | _ => none
def litems : D → Option (List D)
  | .lst xs => some xs
  | .bor xs => some xs
  | _ => none
theorem RepB.seq {F B M H : Hp} {d : D} {v : V} {ds : List D} (p : Pre F B M H) (r : RepB P F B d v) (e : items d = some ds) :
    ∃ a vs, v = .ref a ∧ (SqL P.K H a vs ∨ SqT P.K H a vs) ∧ Reps P F ds vs := by
  cases d <;> try cases e
  case tup => obtain ⟨a, vs, e, q, rs⟩ := (by simpa only [RepB, Rep] using r); exact ⟨a, vs, e, .inr (by
    rcases q with (q | ⟨o, q⟩) | q
    · exact .inl (.inl (p.f _ _ q))
    · exact .inl (.inr ⟨o, p.f _ _ q⟩)
    · exact .inr q), rs⟩
  case lst => obtain ⟨a, vs, e, q, rs⟩ := (by simpa only [RepB, Rep] using r); exact ⟨a, vs, e, .inl (.of (p.f _ _ q)), rs⟩
  case bor => obtain ⟨a, vs, e, q, rs⟩ := r; exact ⟨a, vs, e, .inl (.of (p.b _ _ q)), rs⟩
  case scr => obtain ⟨a, vs, e, q, rs⟩ := (by simpa only [RepB, Rep] using r); exact ⟨a, vs, e, .inl (p.f.seq q), rs⟩
theorem RepB.list {F B M H : Hp} {d : D} {v : V} {ds : List D} (p : Pre F B M H) (r : RepB P F B d v) (e : litems d = some ds) :
    ∃ a vs, v = .ref a ∧ H a = some (.lst vs) ∧ Reps P F ds vs := by
  cases d <;> try cases e
  case lst => obtain ⟨a, vs, e, q, rs⟩ := (by simpa only [RepB, Rep] using r); exact ⟨a, vs, e, p.f _ _ q, rs⟩
  case bor => obtain ⟨a, vs, e, q, rs⟩ := r; exact ⟨a, vs, e, p.b _ _ q, rs⟩
theorem RepB.tupl {F B M H : Hp} {v : V} {ds : List D} (p : Pre F B M H) (r : RepB P F B (.tup ds) v) :
    ∃ a vs, v = .ref a ∧ SqT P.K H a vs ∧ Reps P F ds vs := by
  obtain ⟨a, vs, e, q, rs⟩ := (by simpa only [RepB, Rep] using r)
  exact ⟨a, vs, e, by
    rcases q with (q | ⟨o, q⟩) | q
    · exact .inl (.inl (p.f _ _ q))
    · exact .inl (.inr ⟨o, p.f _ _ q⟩)
    · exact .inr q, rs⟩
/-- a new list, a new tuple, frozen at once -/
theorem new_lst {F B M H : Hp} {xs : List V} {ds : List D} (p : Pre F B M H) (rs : Reps P F ds xs) {Q : VK} (q : ∀ F' H' v, Ext F M H F' M H' → Rep P F' (.lst ds) v → Q v H') :
    ∀ a, H a = none → Q (.ref a) (upd H a (.lst xs)) := fun a ha =>
  q _ _ _ (.new p ha) (by simp only [Rep]; exact ⟨a, xs, rfl, upd_same, rs.mono (same_updP (p.f.none ha))⟩)
theorem new_tup {F B M H : Hp} {xs : List V} {ds : List D} (p : Pre F B M H) (rs : Reps P F ds xs) {Q : VK} (q : ∀ F' H' v, Ext F M H F' M H' → Rep P F' (.tup ds) v → Q v H') :
    ∀ a, H a = none → Q (.ref a) (upd H a (.tup xs)) := fun a ha =>
  q _ _ _ (.new p ha) (by simp only [Rep]; exact ⟨a, xs, rfl, .of upd_same, rs.mono (same_updP (p.f.none ha))⟩)

/-! ### + -/
def line : Nat := 16777216
theorem line_eq : sizeLine = line := sizeLine_eq
def oL (f : List D → List D → Option D) (x y : D) : Option D :=
  match litems x, litems y with
  | some a, some b => f a b
  | _, _ => none
def oT (f : List D → List D → Option D) : D → D → Option D
  | .tup a, .tup b => f a b
  | _, _ => none
theorem oL_some {f : List D → List D → Option D} {x y d : D} (h : oL f x y = some d) : ∃ a b, litems x = some a ∧ litems y = some b ∧ f a b = some d := by
  unfold oL at h
  split at h
  · rename_i a b e1 e2; exact ⟨a, b, e1, e2, h⟩
  · cases h
theorem oT_some {f : List D → List D → Option D} {x y d : D} (h : oT f x y = some d) : ∃ i j, x = .tup i ∧ y = .tup j ∧ f i j = some d := by
  cases x <;> cases y <;> first | exact ⟨_, _, rfl, rfl, h⟩ | cases h
theorem if_some {c : Prop} [Decidable c] {α : Type} {a b : α} (h : (if c then some a else none) = some b) : c ∧ a = b := by
  by_cases hc : c
  · rw [if_pos hc] at h; exact ⟨hc, Option.some.inj h⟩
  · rw [if_neg hc] at h; cases h
def dAddS : D → D → Option D := oS fun i j => if i.length + j.length ≤ line then some (.str (i ++ j)) else none
def dAddL : D → D → Option D := oL fun a b => if a.length + b.length ≤ line then some (.lst (a ++ b)) else none
def dAddT : D → D → Option D := oT fun a b => if a.length + b.length ≤ line then some (.tup (a ++ b)) else none
def dAdd : D → D → Option D := fun x y => ((oI fun i j => some (.int (i + j))) x y).or ((dAddS x y).or ((dAddL x y).or (dAddT x y)))
def rAddA (K : PySem.W.Frag) : R2 := fun x y H Q => rI0 (fun i j => .int (i + j)) x y H Q ∨ ((∃ i j, x = .str i ∧ y = .str j ∧ i.length + j.length ≤ sizeLine ∧ Q (.str (i ++ j)) H) ∨ (rCat x y H Q ∨ rCatA K x y H Q))
theorem op_addA {X : Cx} : OpR X (binaryOp .Add) (rAddA X.K) := OpR.or op_add (OpR.or op_add_str (OpR.or op_cat op_catA))
theorem opd_add : OpD P (rAddA P.K) dAdd := by
  refine OpD.or (opd_I0 fun _ _ _ _ => rfl) (OpD.or ?_ (OpD.or ?_ ?_))
  · intro F B M H x y dx dy d p rx ry e Q q
    obtain ⟨i, j, rfl, rfl, e1⟩ := oS_some e
    obtain ⟨hl, rfl⟩ := if_some e1
    exact ⟨i, j, rx, ry, by rw [line_eq]; exact hl, q F H _ (.refl p) rfl⟩
  · intro F B M H x y dx dy d p rx ry e Q q
    obtain ⟨a, b, e1, e2, e3⟩ := oL_some e
    obtain ⟨hl, rfl⟩ := if_some e3
    obtain ⟨l, xs, rfl, hx, rxs⟩ := rx.list p e1
    obtain ⟨b', ys, rfl, hy, rys⟩ := ry.list p e2
    exact ⟨l, b', xs, ys, rfl, rfl, hx, hy, by rw [line_eq, ← rxs.length, ← rys.length]; exact hl, new_lst p (rxs.append rys) fun F' H' v E r => q F' H' v E r.b⟩
  · intro F B M H x y dx dy d p rx ry e Q q
    obtain ⟨a, b, rfl, rfl, e3⟩ := oT_some e
    obtain ⟨hl, rfl⟩ := if_some e3
    have rx' := rx
    have ry' := ry
    obtain ⟨l, xs, rfl, hx, rxs⟩ := rx.tupl p
    obtain ⟨b', ys, rfl, hy, rys⟩ := ry.tupl p
    have nil : ∀ {ds : List D} {vs : List V}, Reps P F ds vs → vs = [] → ds = [] := fun r z => by
      have := r.length
      rw [z] at this
      exact List.eq_nil_of_length_eq_zero this
    refine ⟨l, b', xs, ys, rfl, rfl, hx, hy, by rw [line_eq, ← rxs.length, ← rys.length]; exact hl, fun z => ?_, fun _ z => ?_, fun _ _ => new_tup p (rxs.append rys) fun F' H' v E r => q F' H' v E r.b⟩
    · rw [nil rxs z] at q
      exact q F H _ (.refl p) ry'
    · rw [nil rys z, List.append_nil] at q
      exact q F H _ (.refl p) rx'
/-! ### - * // % ** -/
def dSub : D → D → Option D := oI fun i j => some (.int (i - j))
theorem opd_sub : OpD P (rI0 fun i j => .int (i - j)) dSub := opd_I0 fun _ _ _ _ => rfl
/-- a factor between -2^64 and 2^64 -/
def smallI (i : Int) : Bool := decide (-(2 ^ 64) < i) && decide (i < 2 ^ 64)
def dMul : D → D → Option D := oI fun i j => if (smallI i || smallI j) = true then some (.int (i * j)) else none
theorem smallI_iff {i : Int} (h : smallI i = true) : -(2 ^ 64) < i ∧ i < 2 ^ 64 := by
  obtain ⟨h1, h2⟩ := Bool.and_eq_true_iff.mp h
  exact ⟨of_decide_eq_true h1, of_decide_eq_true h2⟩
theorem opd_mul : OpD P (rI CMul fun i j => .int (i * j)) dMul := opd_I (c := fun i j => smallI i || smallI j) (fun i j h => by
  rcases Bool.or_eq_true_iff.mp h with h | h
  · exact .inl (smallI_iff h)
  · exact .inr (smallI_iff h)) fun _ _ _ _ => rfl
def dDiv : D → D → Option D := oI fun i j => if (decide (j ≠ 0) && decide (j.natAbs < 1073741824)) = true then some (.int (i.fdiv j)) else none
theorem opd_div : OpD P (rI CDivN fun i j => .int (i.fdiv j)) dDiv := opd_I (c := fun i j => decide (j ≠ 0) && decide (j.natAbs < 1073741824)) (fun i j h => by
  obtain ⟨h1, h2⟩ := Bool.and_eq_true_iff.mp h
  exact ⟨of_decide_eq_true h1, of_decide_eq_true h2⟩) fun _ _ _ _ => rfl
def dMod : D → D → Option D := oI fun i j => if (decide (j ≠ 0)) = true then some (.int (i.fmod j)) else none
theorem opd_mod : OpD P (rI (fun _ j => j ≠ 0) fun i j => .int (i.fmod j)) dMod := opd_I (c := fun i j => decide (j ≠ 0)) (fun i j h => of_decide_eq_true h) fun _ _ _ _ => rfl
def dPow : D → D → Option D := oI fun i j => if (decide (0 ≤ j) && (decide (j ≤ 1000000) && decide (i.natAbs < 2 ^ 64))) = true then some (.int (i ^ j.toNat)) else none
theorem opd_pow : OpD P (rI CPow fun i j => .int (i ^ j.toNat)) dPow := opd_I (c := fun i j => decide (0 ≤ j) && (decide (j ≤ 1000000) && decide (i.natAbs < 2 ^ 64))) (fun i j h => by
  obtain ⟨h1, h2⟩ := Bool.and_eq_true_iff.mp h
  obtain ⟨h2, h3⟩ := Bool.and_eq_true_iff.mp h2
  exact ⟨of_decide_eq_true h1, of_decide_eq_true h2, of_decide_eq_true h3⟩) fun _ _ _ _ => rfl

/-! ### data that may be compared -/
mutual
def toPy : D → Option PyData
  | .non => some .none
  | .bl b => some (.bool b)
  | .int i => some (.int i)
  | .str s => some (.str s)
  | .tup xs => (toPys xs).map .tuple
  | .lst xs => (toPys xs).map .list
  | .bor xs => (toPys xs).map .list
  | .scr xs => (toPys xs).map .list
  | _ => none
def toPys : List D → Option (List PyData)
  | [] => some []
  | d :: ds => match toPy d, toPys ds with
    | some a, some r => some (a :: r)
    | _, _ => none
end
mutual
theorem toPy_dp {F H : Hp} (h : Same F H) : ∀ (d : D) (v : V) (e : PyData), Rep P F d v → toPy d = some e → Dp P.K H v e
  | .non, v, e, r, q => by simp only [Rep] at r; simp only [toPy] at q; cases q; subst r; exact .non
  | .bl b, v, e, r, q => by simp only [Rep] at r; simp only [toPy] at q; cases q; subst r; exact .bl b
  | .int i, v, e, r, q => by simp only [Rep] at r; simp only [toPy] at q; cases q; subst r; exact .int i
  | .str i, v, e, r, q => by simp only [Rep] at r; simp only [toPy] at q; cases q; subst r; exact .str i
  | .tup xs, v, e, r, q => by
    simp only [Rep] at r; simp only [toPy] at q
    obtain ⟨a, vs, rfl, hs, rs⟩ := r
    obtain ⟨es, e1, rfl⟩ := Option.map_eq_some_iff.mp q
    refine .tup ?_ (toPys_dp h xs vs es rs e1)
    rcases hs with (q | ⟨o, q⟩) | q
    · exact .inl (.inl (h _ _ q))
    · exact .inl (.inr ⟨o, h _ _ q⟩)
    · exact .inr q
  | .lst xs, v, e, r, q => by
    simp only [Rep] at r; simp only [toPy] at q
    obtain ⟨a, vs, rfl, hs, rs⟩ := r
    obtain ⟨es, e1, rfl⟩ := Option.map_eq_some_iff.mp q
    exact .lst (.of (h _ _ hs)) (toPys_dp h xs vs es rs e1)
  | .bor xs, v, e, r, q => by simp only [Rep] at r
  | .scr xs, v, e, r, q => by
    simp only [Rep] at r; simp only [toPy] at q
    obtain ⟨a, vs, rfl, hs, rs⟩ := r
    obtain ⟨es, e1, rfl⟩ := Option.map_eq_some_iff.mp q
    exact .lst (h.seq hs) (toPys_dp h xs vs es rs e1)
  | .dct _, v, e, r, q => by simp only [toPy] at q; cases q
  | .ins _ _, v, e, r, q => by simp only [toPy] at q; cases q
  | .state, v, e, r, q => by simp only [toPy] at q; cases q
theorem toPys_dp {F H : Hp} (h : Same F H) : ∀ (ds : List D) (vs : List V) (es : List PyData), Reps P F ds vs → toPys ds = some es → DpAll P.K H vs es
  | [], vs, es, r, q => by simp only [Reps] at r; simp only [toPys] at q; cases q; subst r; exact .nil
  | d :: ds, vs, es, r, q => by
    obtain ⟨v, ws, rfl, r1, rs⟩ := r.uncons
    simp only [toPys] at q
    split at q
    · rename_i a r2 e1 e2
      cases q
      exact .cons (toPy_dp h d v a r1 e1) (toPys_dp h ds ws r2 rs e2)
    · cases q
end
theorem toPy_dpB {F B M H : Hp} (p : Pre F B M H) {d : D} {v : V} {e : PyData} (r : RepB P F B d v) (q : toPy d = some e) : Dp P.K H v e := by
  cases d
  case bor xs =>
    obtain ⟨a, vs, rfl, hs, rs⟩ := r
    simp only [toPy] at q
    obtain ⟨es, e1, rfl⟩ := Option.map_eq_some_iff.mp q
    exact .lst (.of (p.b _ _ hs)) (toPys_dp p.f xs vs es rs e1)
  all_goals exact toPy_dp p.f _ v e r q
/-- x == y of data -/
def dEqB (x y : D) : Option Bool :=
  match toPy x, toPy y with
  | some a, some b => if SeqAt.shaped a = true ∧ SeqAt.shaped b = true then some (PyData.eqv a b) else none
  | _, _ => none
def dEq (x y : D) : Option D := (dEqB x y).map .bl
def dNe (x y : D) : Option D := (dEqB x y).map fun b => .bl (!b)
theorem dEqB_some {x y : D} {b : Bool} (h : dEqB x y = some b) : ∃ a c, toPy x = some a ∧ toPy y = some c ∧ SeqAt.shaped a = true ∧ SeqAt.shaped c = true ∧ PyData.eqv a c = b := by
  unfold dEqB at h
  split at h
  · rename_i a c e1 e2
    obtain ⟨⟨h1, h2⟩, h3⟩ := if_some h
    exact ⟨a, c, e1, e2, h1, h2, h3⟩
  · cases h
theorem opd_eq : OpD P (rEqD P.K) dEq := by
  intro F B M H x y dx dy d p rx ry e Q q
  obtain ⟨b, e1, rfl⟩ := Option.map_eq_some_iff.mp e
  obtain ⟨a, c, h1, h2, h3, h4, rfl⟩ := dEqB_some e1
  exact ⟨a, c, toPy_dpB p rx h1, toPy_dpB p ry h2, h3, h4, q F H _ (.refl p) rfl⟩
theorem opd_ne : OpD P (rNeD P.K) dNe := by
  intro F B M H x y dx dy d p rx ry e Q q
  obtain ⟨b, e1, rfl⟩ := Option.map_eq_some_iff.mp e
  obtain ⟨a, c, h1, h2, h3, h4, rfl⟩ := dEqB_some e1
  exact ⟨a, c, toPy_dpB p rx h1, toPy_dpB p ry h2, h3, h4, q F H _ (.refl p) rfl⟩
def dLt : D → D → Option D := fun x y => ((oI fun i j => some (.bl (decide (i < j)))) x y).or ((oS fun i j => some (.bl (decide (i.cps.toList < j.cps.toList)))) x y)
def rLtA : R2 := fun x y H Q => rI0 (fun i j => .bl (decide (i < j))) x y H Q ∨ ∃ i j, x = .str i ∧ y = .str j ∧ Q (.bl (decide (i.cps.toList < j.cps.toList))) H
theorem op_ltA {X : Cx} : OpR X (compareOp .Lt) rLtA := OpR.or op_lt op_lt_str
theorem opd_lt : OpD P rLtA dLt := by
  refine OpD.or (opd_I0 fun _ _ _ _ => rfl) ?_
  intro F B M H x y dx dy d p rx ry e Q q
  obtain ⟨i, j, rfl, rfl, e1⟩ := oS_some e
  cases e1
  exact ⟨i, j, rx, ry, q F H _ (.refl p) rfl⟩
def dLe : D → D → Option D := oI fun i j => some (.bl (decide (i ≤ j)))
def dGt : D → D → Option D := oI fun i j => some (.bl (decide (j < i)))
def dGe : D → D → Option D := oI fun i j => some (.bl (decide (j ≤ i)))
theorem opd_le : OpD P (rI0 fun i j => .bl (decide (i ≤ j))) dLe := opd_I0 fun _ _ _ _ => rfl
theorem opd_gt : OpD P (rI0 fun i j => .bl (decide (j < i))) dGt := opd_I0 fun _ _ _ _ => rfl
theorem opd_ge : OpD P (rI0 fun i j => .bl (decide (j ≤ i))) dGe := opd_I0 fun _ _ _ _ => rfl
/-- x is None -/
def isNon : D → Bool
  | .non => true
  | _ => false
def dIsN : D → D → Option D := fun x y => if isNon y = true then some (.bl (isNon x)) else none
def dNotN : D → D → Option D := fun x y => if isNon y = true then some (.bl (!isNon x)) else none
theorem isNon_rep {F B : Hp} {d : D} {v : V} (r : RepB P F B d v) : decide (v = .non) = isNon d := by
  cases d
  case bor xs => obtain ⟨a, vs, rfl, _⟩ := r; rfl
  all_goals simp only [RepB, Rep] at r
  case tup xs => obtain ⟨a, vs, rfl, _⟩ := r; rfl
  case lst xs => obtain ⟨a, vs, rfl, _⟩ := r; rfl
  case scr xs => obtain ⟨a, vs, rfl, _⟩ := r; rfl
  case dct xs => obtain ⟨a, rfl, _⟩ := r; rfl
  case ins xs => obtain ⟨a, _, _, _, rfl, _⟩ := r; rfl
  all_goals subst r; rfl
theorem isNon_val {F B : Hp} {d : D} {v : V} (r : RepB P F B d v) (h : isNon d = true) : v = .non := of_decide_eq_true ((isNon_rep r).trans h)
theorem opd_isN : OpD P (fun x y H Q => y = .non ∧ Q (.bl (decide (x = .non))) H) dIsN := by
  intro F B M H x y dx dy d p rx ry e Q q
  obtain ⟨h, rfl⟩ := if_some e
  refine ⟨isNon_val ry h, ?_⟩
  rw [isNon_rep rx]
  exact q F H _ (.refl p) rfl
theorem opd_notN : OpD P (fun x y H Q => y = .non ∧ Q (.bl (!decide (x = .non))) H) dNotN := by
  intro F B M H x y dx dy d p rx ry e Q q
  obtain ⟨h, rfl⟩ := if_some e
  refine ⟨isNon_val ry h, ?_⟩
  rw [isNon_rep rx]
  exact q F H _ (.refl p) rfl
/-! ### x in y -/
def dInB (x y : D) : Option Bool :=
  match y with
  | .str j => match x with
    | .str i => some (!(Builtin.Str.occurrences j i 0 j.length 1).isEmpty)
    | _ => none
  | .lst ys | .bor ys | .scr ys => match toPy x, toPys ys with
    | some a, some bs => if SeqAt.shaped a = true ∧ SeqAt.shaped (.list bs) = true then some (bs.any fun z => PyData.eqv z a) else none
    | _, _ => none
  | _ => none
/-- a flat value: what is compared without a look into it -/
def flatD : D → Option V
  | .non => some .non
  | .bl b => some (.bl b)
  | .int i => some (.int i)
  | .str s => some (.str s)
  | _ => none
def flatDs : List D → Option (List V)
  | [] => some []
  | d :: ds => match flatD d, flatDs ds with
    | some v, some vs => some (v :: vs)
    | _, _ => none
theorem flatD_rep {F : Hp} {d : D} {v w : V} (r : Rep P F d v) (h : flatD d = some w) : v = w ∧ flatV w = true := by
  cases d <;> simp only [flatD] at h <;> cases h <;> simp only [Rep] at r <;> exact ⟨r, rfl⟩
theorem flatDs_rep {F : Hp} : ∀ {ds : List D} {vs ws : List V}, Reps P F ds vs → flatDs ds = some ws → vs = ws ∧ ws.all flatV = true
  | [], vs, ws, r, h => by simp only [Reps] at r; simp only [flatDs] at h; cases h; exact ⟨r, rfl⟩
  | d :: ds, vs, ws, r, h => by
    obtain ⟨v, us, rfl, r1, rs⟩ := r.uncons
    simp only [flatDs] at h
    split at h
    · rename_i w ws' e1 e2
      cases h
      obtain ⟨rfl, f1⟩ := flatD_rep r1 e1
      obtain ⟨rfl, f2⟩ := flatDs_rep rs e2
      exact ⟨rfl, by simp only [List.all_cons, f1, f2, Bool.and_self]⟩
    · cases h
end
end PD

namespace PD
open PySem PySem.Spec PyProof.Rows L2
/-! ### the kit's rules, joined -/
section
variable {X : Cx}
theorem PE.or {e : Expr} {t u : TE} (h : PE X e t) (h' : PE X e u) : PE X e (fun σ H Q => t σ H Q ∨ u σ H Q) :=
  ⟨fun pins s σ H Q I q => by
    rcases q with q | q
    · exact h.run pins s σ H Q I q
    · exact h'.run pins s σ H Q I q⟩
theorem PT.or {e : Expr} {t u : TT} (h : PT X e t) (h' : PT X e u) : PT X e (fun σ H Q => t σ H Q ∨ u σ H Q) :=
  ⟨fun pins s σ H Q I q => by
    rcases q with q | q
    · exact h.run pins s σ H Q I q
    · exact h'.run pins s σ H Q I q⟩
theorem PI.or {tg e : Expr} {t u : TI} (h : PI X tg e t) (h' : PI X tg e u) : PI X tg e (fun σ H Q => t σ H Q ∨ u σ H Q) :=
  ⟨fun pins s σ H Q I q => by
    rcases q with q | q
    · exact h.run pins s σ H Q I q
    · exact h'.run pins s σ H Q I q⟩
theorem CallR.or {f : Value} {r r' : List V → Hp → VK → Prop} (h : CallR X f r) (h' : CallR X f r') : CallR X f (fun xs H Q => r xs H Q ∨ r' xs H Q) := by
  intro pins s σ H xs us Q I rx q
  rcases q with q | q
  · exact h pins s σ H xs us Q I rx q
  · exact h' pins s σ H xs us Q I rx q
def rInT (K : PySem.W.Frag) : R2 := fun x y H Q => ∃ d ds, Dp K H x d ∧ Dp K H y (.tuple ds) ∧ SeqAt.shaped d = true ∧ SeqAt.shaped (.list ds) = true ∧ Q (.bl (ds.any fun z => PyData.eqv z d)) H
def rNotInT (K : PySem.W.Frag) : R2 := fun x y H Q => ∃ d ds, Dp K H x d ∧ Dp K H y (.tuple ds) ∧ SeqAt.shaped d = true ∧ SeqAt.shaped (.list ds) = true ∧ Q (.bl (!ds.any fun z => PyData.eqv z d)) H
theorem op_inT (hu : X.A.units + 65 < cLine) : OpR X (compareOp .In) (rInT X.K) := by
  intro pins s σ H x y v u Q I rx ry h
  obtain ⟨d, ds, hd, he, sd, se, q⟩ := h
  obtain ⟨as, r1⟩ := Dp.reads I d x v hd rx
  obtain ⟨bs, r2⟩ := Dp.reads I (.tuple ds) y u he ry
  exact SeqAt.in_tuple_reads r2 r1 (SeqAt.canLay_of_shaped se) (SeqAt.canLay_of_shaped sd) (room_in_shaped sd hu) ⟨.bl _, H, I, rfl, q⟩
theorem op_notInT (hu : X.A.units + 65 < cLine) : OpR X (compareOp .NotIn) (rNotInT X.K) := by
  intro pins s σ H x y v u Q I rx ry h
  obtain ⟨d, ds, hd, he, sd, se, q⟩ := h
  obtain ⟨as, r1⟩ := Dp.reads I d x v hd rx
  obtain ⟨bs, r2⟩ := Dp.reads I (.tuple ds) y u he ry
  exact SeqAt.notIn_tuple_reads r2 r1 (SeqAt.canLay_of_shaped se) (SeqAt.canLay_of_shaped sd) (room_in_shaped sd hu) ⟨.bl _, H, I, rfl, q⟩
def rInA (K : PySem.W.Frag) : R2 := fun x y H Q => (∃ i j, x = .str i ∧ y = .str j ∧ Q (.bl (!(Builtin.Str.occurrences j i 0 j.length 1).isEmpty)) H) ∨ (rInD K x y H Q ∨ rInT K x y H Q)
def rNotInA (K : PySem.W.Frag) : R2 := fun x y H Q => (∃ i j, x = .str i ∧ y = .str j ∧ Q (.bl (!(!(Builtin.Str.occurrences j i 0 j.length 1).isEmpty))) H) ∨ (rNotInD K x y H Q ∨ rNotInT K x y H Q)
theorem op_inA (hu : X.A.units + 65 < cLine) : OpR X (compareOp .In) (rInA X.K) := OpR.or op_in_str (OpR.or (op_inD hu) (op_inT hu))
theorem op_notInA (hu : X.A.units + 65 < cLine) : OpR X (compareOp .NotIn) (rNotInA X.K) := OpR.or op_notin_str (OpR.or (op_notInD hu) (op_notInT hu))
end

section
variable {τ : Type} {P : Pm} {R : τ → Hp → Prop} {W : WX}
/-! ### in -/
def memD (x : D) (ys : List D) : Option Bool :=
  match toPy x, toPys ys with
  | some a, some bs => if SeqAt.shaped a = true ∧ SeqAt.shaped (.list bs) = true then some (bs.any fun z => PyData.eqv z a) else none
  | _, _ => none
def inD (x y : D) : Option Bool :=
  match y with
  | .str j => match x with
    | .str i => some (!(Builtin.Str.occurrences j i 0 j.length 1).isEmpty)
    | _ => none
  | _ => (items y).bind (memD x)
theorem memD_some {x : D} {ys : List D} {b : Bool} (h : memD x ys = some b) : ∃ a bs, toPy x = some a ∧ toPys ys = some bs ∧ SeqAt.shaped a = true ∧ SeqAt.shaped (.list bs) = true ∧ (bs.any fun z => PyData.eqv z a) = b := by
  unfold memD at h
  split at h
  · rename_i a bs e1 e2
    obtain ⟨⟨h1, h2⟩, h3⟩ := if_some h
    exact ⟨a, bs, e1, e2, h1, h2, h3⟩
  · cases h
theorem inD_some {F B M H : Hp} {dx dy : D} {x y : V} {b : Bool} (p : Pre F B M H) (rx : RepB P F B dx x) (ry : RepB P F B dy y) (h : inD dx dy = some b) :
    (∃ i j, x = .str i ∧ y = .str j ∧ (!(Builtin.Str.occurrences j i 0 j.length 1).isEmpty) = b) ∨
    (∃ d ds, Dp P.K H x d ∧ Dp P.K H y (.list ds) ∧ SeqAt.shaped d = true ∧ SeqAt.shaped (.list ds) = true ∧ (ds.any fun z => PyData.eqv z d) = b) ∨
    (∃ d ds, Dp P.K H x d ∧ Dp P.K H y (.tuple ds) ∧ SeqAt.shaped d = true ∧ SeqAt.shaped (.list ds) = true ∧ (ds.any fun z => PyData.eqv z d) = b) := by
  cases dy <;> try (simp only [inD, items, Option.bind_none] at h; cases h)
  case str j =>
    simp only [inD] at h
    split at h
    · cases h; exact .inl ⟨_, j, rx, ry, rfl⟩
    · cases h
  case tup ys =>
    simp only [inD, items, Option.bind_some] at h
    obtain ⟨a, bs, h1, h2, h3, h4, h5⟩ := memD_some h
    have := toPy_dpB (e := .tuple bs) p ry (by simp only [toPy, h2, Option.map_some])
    exact .inr (.inr ⟨a, bs, toPy_dpB p rx h1, this, h3, h4, h5⟩)
  all_goals
    rename_i ys
    simp only [inD, items, Option.bind_some] at h
    obtain ⟨a, bs, h1, h2, h3, h4, h5⟩ := memD_some h
    have := toPy_dpB (e := .list bs) p ry (by simp only [toPy, h2, Option.map_some])
    exact .inr (.inl ⟨a, bs, toPy_dpB p rx h1, this, h3, h4, h5⟩)
def dIn (x y : D) : Option D := (inD x y).map .bl
def dNotIn (x y : D) : Option D := (inD x y).map fun b => .bl (!b)
theorem opd_in : OpD P (rInA P.K) dIn := by
  intro F B M H x y dx dy d p rx ry e Q q
  obtain ⟨b, e1, rfl⟩ := Option.map_eq_some_iff.mp e
  have q' := q F H _ (.refl p) rfl
  rcases inD_some p rx ry e1 with ⟨i, j, rfl, rfl, rfl⟩ | ⟨a, bs, h1, h2, h3, h4, rfl⟩ | ⟨a, bs, h1, h2, h3, h4, rfl⟩
  · exact .inl ⟨i, j, rfl, rfl, q'⟩
  · exact .inr (.inl ⟨a, bs, h1, h2, h3, h4, q'⟩)
  · exact .inr (.inr ⟨a, bs, h1, h2, h3, h4, q'⟩)
theorem opd_notIn : OpD P (rNotInA P.K) dNotIn := by
  intro F B M H x y dx dy d p rx ry e Q q
  obtain ⟨b, e1, rfl⟩ := Option.map_eq_some_iff.mp e
  have q' := q F H _ (.refl p) rfl
  rcases inD_some p rx ry e1 with ⟨i, j, rfl, rfl, rfl⟩ | ⟨a, bs, h1, h2, h3, h4, rfl⟩ | ⟨a, bs, h1, h2, h3, h4, rfl⟩
  · exact .inl ⟨i, j, rfl, rfl, q'⟩
  · exact .inr (.inl ⟨a, bs, h1, h2, h3, h4, q'⟩)
  · exact .inr (.inr ⟨a, bs, h1, h2, h3, h4, q'⟩)

theorem Sat.tt {α : Type} {a b : Res τ α} {ok : α → τ → Prop} {er : Exn → τ → Prop} (h : Sat (if true = true then a else b) ok er) : Sat a ok er := by
  rwa [if_pos rfl] at h
theorem Sat.ff {α : Type} {a b : Res τ α} {ok : α → τ → Prop} {er : Exn → τ → Prop} (h : Sat (if false = true then a else b) ok er) : Sat b ok er := by
  rwa [if_neg Bool.false_ne_true] at h
/-! ### one operand -/
def gUn (op : D → Option D) (a : GE τ) : GE τ := fun ρ st => (a ρ st).bind fun x st => .of (op x) st
def UnD (P : Pm) (r : V → Hp → VK → Prop) (op : D → Option D) : Prop := ∀ F B M H x dx d, Pre F B M H → RepB P F B dx x → op dx = some d →
  ∀ Q : VK, (∀ F' H' v, Ext F M H F' M H' → RepB P F' B d v → Q v H') → r x H Q
theorem ev_un {r : V → Hp → VK → Prop} {op : D → Option D} {ta : TE} {ga : GE τ} (ho : UnD P r op) (ha : EvD P R W ta ga) : EvD P R W (tUn r ta) (gUn op ga) := by
  intro F B M H σ ρ st w Q h
  refine ha F B M H σ ρ st w _ (h.bind.mono (fun x st1 h1 F1 M1 H1 v1 E1 R1 r1 => ?_) fun _ _ z => z)
  obtain ⟨d, e, q⟩ := Sat.of h1
  exact ho F1 B M1 H1 v1 x d (w.pre.ext E1) r1 e Q fun F' H' v E r => q F' M1 H' v (E1.trans E) R1 r
def dNeg : D → Option D
  | .int i => some (.int (-i))
  | _ => none
theorem und_neg : UnD P (rU fun i => .int (-i)) dNeg := by
  intro F B M H x dx d p rx e Q q
  cases dx <;> cases e
  exact ⟨_, rx, q F H _ (.refl p) rfl⟩

/-! ### tests -/
def blOf : D → Option Bool
  | .bl b => some b
  | _ => none
def gB (g : GE τ) : GT τ := fun ρ st => (g ρ st).bind fun d st => .of (blOf d) st
theorem blOf_some {d : D} {b : Bool} (h : blOf d = some b) : d = .bl b := by cases d <;> cases h; rfl
theorem evt_B {te : TE} {g : GE τ} (h : EvD P R W te g) : EvT P R W (tB te) (gB g) := by
  intro F B M H σ ρ st w Q hs
  refine h F B M H σ ρ st w _ (hs.bind.mono (fun d st1 h1 F1 M1 H1 v1 E1 R1 r1 => ?_) fun _ _ z => z)
  obtain ⟨b, e, q⟩ := Sat.of h1
  have := blOf_some e
  subst this
  exact ⟨b, r1, q F1 M1 H1 E1 R1⟩
theorem evt_test {te : TE} {g : GE τ} (h : EvD P R W te g) : EvT P R W (tTest te) (gB g) := evt_B h
def gNot (t : GT τ) : GT τ := fun ρ st => (t ρ st).bind fun b st => .ok (!b) st
theorem evt_not {t : TT} {g : GT τ} (h : EvT P R W t g) : EvT P R W (tNot t) (gNot g) := by
  intro F B M H σ ρ st w Q hs
  exact h F B M H σ ρ st w _ (hs.bind.mono (fun b st1 h1 F1 M1 H1 E1 R1 => h1 F1 M1 H1 E1 R1) fun _ _ z => z)
def gAnd (t u : GT τ) : GT τ := fun ρ st => (t ρ st).bind fun b st => if b = true then u ρ st else .ok false st
def gOr (t u : GT τ) : GT τ := fun ρ st => (t ρ st).bind fun b st => if b = true then .ok true st else u ρ st
theorem evt_and {t u : TT} {g k : GT τ} (h : EvT P R W t g) (h' : EvT P R W u k) : EvT P R W (tAnd t u) (gAnd g k) := by
  intro F B M H σ ρ st w Q hs
  refine h F B M H σ ρ st w _ (hs.bind.mono (fun b st1 h1 F1 M1 H1 E1 R1 => ?_) fun _ _ z => z)
  cases b with
  | true => exact iteT (h' F1 B M1 H1 σ ρ st1 (w.ext E1 R1) _ (Sat.mono (Sat.tt h1) (fun b2 st2 h2 F2 M2 H2 E2 R2 => h2 F2 M2 H2 (E1.trans E2) R2) fun _ _ z => KX.ext P R z E1))
  | false => exact iteF ((Sat.ff h1) F1 M1 H1 E1 R1)
theorem evt_or {t u : TT} {g k : GT τ} (h : EvT P R W t g) (h' : EvT P R W u k) : EvT P R W (tOr t u) (gOr g k) := by
  intro F B M H σ ρ st w Q hs
  refine h F B M H σ ρ st w _ (hs.bind.mono (fun b st1 h1 F1 M1 H1 E1 R1 => ?_) fun _ _ z => z)
  cases b with
  | false => exact iteF (h' F1 B M1 H1 σ ρ st1 (w.ext E1 R1) _ (Sat.mono (Sat.ff h1) (fun b2 st2 h2 F2 M2 H2 E2 R2 => h2 F2 M2 H2 (E1.trans E2) R2) fun _ _ z => KX.ext P R z E1))
  | true => exact iteT ((Sat.tt h1) F1 M1 H1 E1 R1)
/-- and, or, not as values of truths -/
def gAndV (a b : GE τ) : GE τ := fun ρ st => (a ρ st).bind fun d st => (Res.of (blOf d) st).bind fun c st => if c = true then b ρ st else .ok (.bl false) st
def gOrV (a b : GE τ) : GE τ := fun ρ st => (a ρ st).bind fun d st => (Res.of (blOf d) st).bind fun c st => if c = true then .ok (.bl true) st else b ρ st
def dNot : D → Option D
  | .bl b => some (.bl (!b))
  | _ => none
theorem ev_andV {ta tb : TE} {ga gb : GE τ} (ha : EvD P R W ta ga) (hb : EvD P R W tb gb) : EvD P R W (tAndV ta tb) (gAndV ga gb) := by
  intro F B M H σ ρ st w Q hs
  refine ha F B M H σ ρ st w _ (hs.bind.mono (fun d st1 h1 F1 M1 H1 v1 E1 R1 r1 => ?_) fun _ _ z => z)
  obtain ⟨c, e, q⟩ := Sat.of h1.bind
  have := blOf_some e
  subst this
  refine ⟨c, r1, ?_⟩
  cases c with
  | true => exact iteT (hb F1 B M1 H1 σ ρ st1 (w.ext E1 R1) _ (Sat.mono (Sat.tt q) (fun d2 st2 h2 F2 M2 H2 v2 E2 R2 r2 => h2 F2 M2 H2 v2 (E1.trans E2) R2 r2) fun _ _ z => KX.ext P R z E1))
  | false => exact iteF ((Sat.ff q) F1 M1 H1 _ E1 R1 rfl)
theorem ev_orV {ta tb : TE} {ga gb : GE τ} (ha : EvD P R W ta ga) (hb : EvD P R W tb gb) : EvD P R W (tOrV ta tb) (gOrV ga gb) := by
  intro F B M H σ ρ st w Q hs
  refine ha F B M H σ ρ st w _ (hs.bind.mono (fun d st1 h1 F1 M1 H1 v1 E1 R1 r1 => ?_) fun _ _ z => z)
  obtain ⟨c, e, q⟩ := Sat.of h1.bind
  have := blOf_some e
  subst this
  refine ⟨c, r1, ?_⟩
  cases c with
  | false => exact iteF (hb F1 B M1 H1 σ ρ st1 (w.ext E1 R1) _ (Sat.mono (Sat.ff q) (fun d2 st2 h2 F2 M2 H2 v2 E2 R2 r2 => h2 F2 M2 H2 v2 (E1.trans E2) R2 r2) fun _ _ z => KX.ext P R z E1))
  | true => exact iteT ((Sat.tt q) F1 M1 H1 _ E1 R1 rfl)
theorem ev_notV {ta : TE} {ga : GE τ} (ha : EvD P R W ta ga) : EvD P R W (tNotV ta) (gUn dNot ga) := by
  intro F B M H σ ρ st w Q hs
  refine ha F B M H σ ρ st w _ (hs.bind.mono (fun d st1 h1 F1 M1 H1 v1 E1 R1 r1 => ?_) fun _ _ z => z)
  obtain ⟨c, e, q⟩ := Sat.of h1
  cases d <;> cases e
  exact ⟨_, r1, q F1 M1 H1 _ E1 R1 rfl⟩
def gIf (t : GT τ) (a b : GE τ) : GE τ := fun ρ st => (t ρ st).bind fun c st => if c = true then a ρ st else b ρ st
theorem ev_if {t : TT} {ta tb : TE} {g : GT τ} {ga gb : GE τ} (h : EvT P R W t g) (ha : EvD P R W ta ga) (hb : EvD P R W tb gb) : EvD P R W (tIf t ta tb) (gIf g ga gb) := by
  intro F B M H σ ρ st w Q hs
  refine h F B M H σ ρ st w _ (hs.bind.mono (fun b st1 h1 F1 M1 H1 E1 R1 => ?_) fun _ _ z => z)
  cases b with
  | true => exact iteT (ha F1 B M1 H1 σ ρ st1 (w.ext E1 R1) _ (Sat.mono (Sat.tt h1) (fun d2 st2 h2 F2 M2 H2 v2 E2 R2 r2 => h2 F2 M2 H2 v2 (E1.trans E2) R2 r2) fun _ _ z => KX.ext P R z E1))
  | false => exact iteF (hb F1 B M1 H1 σ ρ st1 (w.ext E1 R1) _ (Sat.mono (Sat.ff h1) (fun d2 st2 h2 F2 M2 H2 v2 E2 R2 r2 => h2 F2 M2 H2 v2 (E1.trans E2) R2 r2) fun _ _ z => KX.ext P R z E1))
/-- a op b op' c -/
def gChain (op op' : D → D → Option D) (a b c : GE τ) : GE τ := fun ρ st => (a ρ st).bind fun x st => (b ρ st).bind fun y st => (Res.of ((op x y).bind blOf) st).bind fun k st =>
  if k = true then (c ρ st).bind fun z st => .of (op' y z) st else .ok (.bl false) st

/-! ### arguments, displays -/
def gNil : GA τ := fun _ st => .ok [] st
def gCons (a : GE τ) (r : GA τ) : GA τ := fun ρ st => (a ρ st).bind fun d st => (r ρ st).bind fun ds st => .ok (d :: ds) st
theorem eva_nil : EvA P R W tNil gNil := fun F B M H σ ρ st w Q q => q F M H [] (.refl w.pre) w.r rfl
theorem eva_cons {te : TE} {t : TA} {g : GE τ} {r : GA τ} (h : EvD P R W te g) (hr : EvA P R W t r) : EvA P R W (tCons te t) (gCons g r) := by
  intro F B M H σ ρ st w Q hs
  refine h F B M H σ ρ st w _ (hs.bind.mono (fun d st1 h1 F1 M1 H1 v1 E1 R1 r1 => ?_) fun _ _ z => z)
  refine hr F1 B M1 H1 σ ρ st1 (w.ext E1 R1) _ (h1.bind.mono (fun ds st2 h2 F2 M2 H2 vs E2 R2 rs => ?_) fun _ _ z => KX.ext P R z E1)
  exact h2 F2 M2 H2 (v1 :: vs) (E1.trans E2) R2 ⟨v1, vs, rfl, r1.mono E2.ff, rs⟩
theorem RepBs.reps {F B : Hp} : ∀ {ds : List D} {vs : List V}, RepBs P F B ds vs → ds.all borFree = true → Reps P F ds vs
  | [], vs, r, _ => by simp only [Reps]; exact r
  | d :: ds, vs, ⟨v, ws, e, r, rs⟩, h => by
    obtain ⟨h1, h2⟩ := Bool.and_eq_true_iff.mp (by simpa only [List.all_cons] using h)
    subst e
    exact .cons (r.rep h1) (rs.reps h2)
theorem RepBs.length {F B : Hp} : ∀ {ds : List D} {vs : List V}, RepBs P F B ds vs → ds.length = vs.length
  | [], vs, r => by subst r; rfl
  | d :: ds, vs, ⟨v, ws, e, r, rs⟩ => by subst e; simp only [List.length_cons, rs.length]
/-- what may stand in a list, a tuple, a field -/
def freeL (ds : List D) : Bool := ds.all borFree && decide (ds.length ≤ line)
def gTup (a : GA τ) : GE τ := fun ρ st => (a ρ st).bind fun ds st => if freeL ds = true then .ok (.tup ds) st else .stuck
def gLst (a : GA τ) : GE τ := fun ρ st => (a ρ st).bind fun ds st => if freeL ds = true then .ok (.lst ds) st else .stuck
theorem Sat.ite {α : Type} {c : Prop} [Decidable c] {r : Res τ α} {ok : α → τ → Prop} {er : Exn → τ → Prop} (h : Sat (if c then r else .stuck) ok er) : c ∧ Sat r ok er := by
  by_cases hc : c
  · rw [if_pos hc] at h; exact ⟨hc, h⟩
  · rw [if_neg hc] at h; exact h.elim
theorem ev_tup {ta : TA} {ga : GA τ} (ha : EvA P R W ta ga) : EvD P R W (tTup ta) (gTup ga) := by
  intro F B M H σ ρ st w Q hs
  refine ha F B M H σ ρ st w _ (hs.bind.mono (fun ds st1 h1 F1 M1 H1 vs E1 R1 rs => ?_) fun _ _ z => z)
  obtain ⟨hf, q⟩ := Sat.ite h1
  obtain ⟨h1, h2⟩ := Bool.and_eq_true_iff.mp hf
  refine ⟨by rw [line_eq, ← rs.length]; exact of_decide_eq_true h2, new_tup (w.pre.ext E1) (rs.reps h1) fun F' H' v E r => q F' M1 H' v (E1.trans E) R1 r.b⟩
theorem ev_lst {ta : TA} {ga : GA τ} (ha : EvA P R W ta ga) : EvD P R W (tLst ta) (gLst ga) := by
  intro F B M H σ ρ st w Q hs
  refine ha F B M H σ ρ st w _ (hs.bind.mono (fun ds st1 h1 F1 M1 H1 vs E1 R1 rs => ?_) fun _ _ z => z)
  obtain ⟨hf, q⟩ := Sat.ite h1
  obtain ⟨h1, h2⟩ := Bool.and_eq_true_iff.mp hf
  refine ⟨by rw [line_eq, ← rs.length]; exact of_decide_eq_true h2, new_lst (w.pre.ext E1) (rs.reps h1) fun F' H' v E r => q F' M1 H' v (E1.trans E) R1 r.b⟩

/-! ### built-in functions -/
def CallD (P : Pm) (r : List V → Hp → VK → Prop) (op : List D → Option D) : Prop := ∀ F B M H xs ds d, Pre F B M H → RepBs P F B ds xs → op ds = some d →
  ∀ Q : VK, (∀ F' H' v, Ext F M H F' M H' → RepB P F' B d v → Q v H') → r xs H Q
def gCB (op : List D → Option D) (a : GA τ) : GE τ := fun ρ st => (a ρ st).bind fun ds st => .of (op ds) st
theorem ev_cb {r : List V → Hp → VK → Prop} {op : List D → Option D} {ta : TA} {ga : GA τ} (ho : CallD P r op) (ha : EvA P R W ta ga) : EvD P R W (tCB r ta) (gCB op ga) := by
  intro F B M H σ ρ st w Q h
  refine ha F B M H σ ρ st w _ (h.bind.mono (fun x st1 h1 F1 M1 H1 v1 E1 R1 r1 => ?_) fun _ _ z => z)
  obtain ⟨d, e, q⟩ := Sat.of h1
  exact ho F1 B M1 H1 v1 x d (w.pre.ext E1) r1 e Q fun F' H' v E r => q F' M1 H' v (E1.trans E) R1 r
theorem CallD.or {r r' : List V → Hp → VK → Prop} {op op' : List D → Option D} (h : CallD P r op) (h' : CallD P r' op') : CallD P (fun xs H Q => r xs H Q ∨ r' xs H Q) (fun ds => (op ds).or (op' ds)) := by
  intro F B M H xs ds d p rx e Q q
  have e : (op ds).or (op' ds) = some d := e
  cases e1 : op ds with
  | some d1 => rw [e1] at e; exact .inl (h F B M H xs ds d p rx (e1.trans e) Q q)
  | none => rw [e1] at e; exact .inr (h' F B M H xs ds d p rx e Q q)
/-- of one value -/
def o1 (f : D → Option D) : List D → Option D
  | [d] => f d
  | _ => none
theorem o1_some {f : D → Option D} {ds : List D} {d : D} (h : o1 f ds = some d) : ∃ x, ds = [x] ∧ f x = some d := by
  match ds, h with
  | [x], h => exact ⟨x, rfl, h⟩
theorem RepBs.one {F B : Hp} {d : D} {xs : List V} (r : RepBs P F B [d] xs) : ∃ v, xs = [v] ∧ RepB P F B d v := by
  obtain ⟨v, ws, e, r, rs⟩ := r
  have : ws = [] := rs
  subst this
  exact ⟨v, e, r⟩
theorem CallD.one {r : List V → Hp → VK → Prop} {f : D → Option D} (h : ∀ F B M H v x d, Pre F B M H → RepB P F B x v → f x = some d → ∀ Q : VK, (∀ F' H' v, Ext F M H F' M H' → RepB P F' B d v → Q v H') → r [v] H Q) : CallD P r (o1 f) := by
  intro F B M H xs ds d p rx e Q q
  obtain ⟨x, rfl, e'⟩ := o1_some e
  obtain ⟨v, rfl, r⟩ := rx.one
  exact h F B M H v x d p r e' Q q
def lenD (d : D) : Option D :=
  match d with
  | .str s => if s.length ≤ line then some (.int s.length) else none
  | _ => (items d).map fun ds => .int ds.length
theorem calld_len : CallD P (fun xs H Q => (∃ p ys, xs = [.ref p] ∧ (SqL P.K H p ys ∨ SqT P.K H p ys) ∧ Q (.int ys.length) H) ∨ (∃ z, xs = [.str z] ∧ z.length ≤ sizeLine ∧ Q (.int z.length) H)) (o1 lenD) := by
  refine CallD.one fun F B M H v x d p r e Q q => ?_
  unfold lenD at e
  split at e
  · rename_i s
    obtain ⟨h1, h2⟩ := if_some e
    subst h2
    have : v = .str s := r
    subst this
    exact .inr ⟨s, rfl, by rw [line_eq]; exact h1, q F H _ (.refl p) rfl⟩
  · obtain ⟨ds, e1, rfl⟩ := Option.map_eq_some_iff.mp e
    obtain ⟨a, vs, rfl, hs, rs⟩ := r.seq p e1
    exact .inl ⟨a, vs, rfl, hs, by rw [← rs.length]; exact q F H _ (.refl p) rfl⟩
theorem call_lenA {X : Cx} : CallR X (.builtin "len") (fun xs H Q => (∃ p ys, xs = [.ref p] ∧ (SqL X.K H p ys ∨ SqT X.K H p ys) ∧ Q (.int ys.length) H) ∨ (∃ z, xs = [.str z] ∧ z.length ≤ sizeLine ∧ Q (.int z.length) H)) :=
  CallR.or call_len_seq call_len_str
def absD : D → Option D
  | .int i => some (.int (if i < 0 then -i else i))
  | _ => none
theorem calld_abs : CallD P (fun xs H Q => ∃ i, xs = [.int i] ∧ Q (.int (if i < 0 then -i else i)) H) (o1 absD) := by
  refine CallD.one fun F B M H v x d p r e Q q => ?_
  cases x <;> cases e
  have : v = .int _ := r
  subst this
  exact ⟨_, rfl, q F H _ (.refl p) rfl⟩
/-- int(x) of an int, a truth, a text -/
def intD : D → Option D
  | .int i => some (.int i)
  | .bl b => some (.int (if b then 1 else 0))
  | .str a => if a.length ≤ 640 then (PySem.intText? a).map .int else none
  | _ => none
def rInt : List V → Hp → VK → Prop := fun xs H Q => ((∃ i, xs = [.int i] ∧ Q (.int i) H) ∨ ∃ k, xs = [.bl k] ∧ Q (.int (if k then 1 else 0)) H) ∨ (∃ a n, xs = [.str a] ∧ PySem.intText? a = some n ∧ a.length ≤ 640 ∧ Q (.int n) H)
theorem call_intA {X : Cx} : CallR X (.type "int") rInt := CallR.or call_int1 call_int_str
theorem calld_int : CallD P rInt (o1 intD) := by
  refine CallD.one fun F B M H v x d p r e Q q => ?_
  cases x <;> simp only [intD] at e
  case int i => cases e; have : v = .int i := r; subst this; exact .inl (.inl ⟨i, rfl, q F H _ (.refl p) rfl⟩)
  case bl b => cases e; have : v = .bl b := r; subst this; exact .inl (.inr ⟨b, rfl, q F H _ (.refl p) rfl⟩)
  case str a =>
    have : v = .str a := r
    subst this
    by_cases hl : a.length ≤ 640
    · rw [if_pos hl] at e
      obtain ⟨n, e1, rfl⟩ := Option.map_eq_some_iff.mp e
      exact .inr ⟨a, n, rfl, e1, hl, q F H _ (.refl p) rfl⟩
    · rw [if_neg hl] at e; cases e
  all_goals cases e
/-- list(x), tuple(x) of lists and tuples -/
def listD (d : D) : Option D := (items d).map .lst
theorem calld_list : CallD P (fun xs H Q => ∃ p ys, xs = [.ref p] ∧ (SqL P.K H p ys ∨ SqT P.K H p ys) ∧ ∀ l, H l = none → Q (.ref l) (upd H l (.lst ys))) (o1 listD) := by
  refine CallD.one fun F B M H v x d p r e Q q => ?_
  obtain ⟨ds, e1, rfl⟩ := Option.map_eq_some_iff.mp e
  obtain ⟨a, vs, rfl, hs, rs⟩ := r.seq p e1
  exact ⟨a, vs, rfl, hs, new_lst p rs fun F' H' v E r => q F' H' v E r.b⟩
def tupleD (d : D) : Option D := (items d).map .tup
theorem calld_tuple : CallD P (fun xs H Q => ∃ p ys, xs = [.ref p] ∧ ((SqL P.K H p ys ∧ ∀ l, H l = none → Q (.ref l) (upd H l (.tup ys))) ∨ (SqT P.K H p ys ∧ Q (.ref p) H))) (o1 tupleD) := by
  refine CallD.one fun F B M H v x d p r e Q q => ?_
  obtain ⟨ds, e1, rfl⟩ := Option.map_eq_some_iff.mp e
  have r0 := r
  cases x <;> try cases e1
  case tup =>
    obtain ⟨a', vs', e2, hs', rs'⟩ := r0.tupl p
    subst e2
    exact ⟨a', vs', rfl, .inr ⟨hs', q F H _ (.refl p) r0⟩⟩
  case lst => obtain ⟨a', vs', e2, q2, rs'⟩ := (by simpa only [RepB, Rep] using r0); exact ⟨a', vs', by rw [e2], .inl ⟨.of (p.f _ _ q2), new_tup p rs' fun F' H' v E r => q F' H' v E r.b⟩⟩
  case bor => obtain ⟨a', vs', e2, q2, rs'⟩ := r0; exact ⟨a', vs', by rw [e2], .inl ⟨.of (p.b _ _ q2), new_tup p rs' fun F' H' v E r => q F' H' v E r.b⟩⟩
  case scr => obtain ⟨a', vs', e2, q2, rs'⟩ := (by simpa only [RepB, Rep] using r0); exact ⟨a', vs', by rw [e2], .inl ⟨p.f.seq q2, new_tup p rs' fun F' H' v E r => q F' H' v E r.b⟩⟩
/-- all, any of a list of truths -/
def blsOf : List D → Option (List Bool)
  | [] => some []
  | d :: ds => match blOf d, blsOf ds with
    | some b, some bs => some (b :: bs)
    | _, _ => none
theorem blsOf_rep {F : Hp} : ∀ {ds : List D} {vs : List V} {bs : List Bool}, Reps P F ds vs → blsOf ds = some bs → vs = bs.map V.bl
  | [], vs, bs, r, h => by simp only [Reps] at r; simp only [blsOf] at h; cases h; exact r
  | d :: ds, vs, bs, r, h => by
    obtain ⟨v, us, rfl, r1, rs⟩ := r.uncons
    simp only [blsOf] at h
    split at h
    · rename_i b bs' e1 e2
      cases h
      have := blOf_some e1
      subst this
      simp only [Rep] at r1
      rw [r1, blsOf_rep rs e2]; rfl
    · cases h
def anyD (d : D) : Option D := ((litems d).bind blsOf).map fun bs => .bl (bs.any id)
def allD (d : D) : Option D := ((litems d).bind blsOf).map fun bs => .bl (bs.all id)
theorem calld_any : CallD P (rAny P.K) (o1 anyD) := by
  refine CallD.one fun F B M H v x d p r e Q q => ?_
  obtain ⟨bs, e1, rfl⟩ := Option.map_eq_some_iff.mp e
  obtain ⟨l, e2, e3⟩ := Option.bind_eq_some_iff.mp e1
  obtain ⟨a, vs, rfl, hs, rs⟩ := r.list p e2
  exact ⟨a, bs, rfl, .of (by rw [← blsOf_rep rs e3]; exact hs), q F H _ (.refl p) rfl⟩
theorem calld_all : CallD P (rAll P.K) (o1 allD) := by
  refine CallD.one fun F B M H v x d p r e Q q => ?_
  obtain ⟨bs, e1, rfl⟩ := Option.map_eq_some_iff.mp e
  obtain ⟨l, e2, e3⟩ := Option.bind_eq_some_iff.mp e1
  obtain ⟨a, vs, rfl, hs, rs⟩ := r.list p e2
  exact ⟨a, bs, rfl, .of (by rw [← blsOf_rep rs e3]; exact hs), q F H _ (.refl p) rfl⟩
/-- sep.join(texts) -/
def strsOf : List D → Option (List Str)
  | [] => some []
  | d :: ds => match d, strsOf ds with
    | .str b, some bs => some (b :: bs)
    | _, _ => none
theorem strsOf_rep {F : Hp} : ∀ {ds : List D} {vs : List V} {bs : List Str}, Reps P F ds vs → strsOf ds = some bs → vs = bs.map V.str
  | [], vs, bs, r, h => by simp only [Reps] at r; simp only [strsOf] at h; cases h; exact r
  | d :: ds, vs, bs, r, h => by
    obtain ⟨v, us, rfl, r1, rs⟩ := r.uncons
    simp only [strsOf] at h
    split at h
    · rename_i b bs' e2
      cases h
      simp only [Rep] at r1
      rw [r1, strsOf_rep rs e2]; rfl
    · cases h
/-- a text's method of one argument -/
def gM1 (op : Str → D → Option D) (a b : GE τ) : GE τ := fun ρ st => (a ρ st).bind fun x st => match x with
  | .str s => (b ρ st).bind fun y st => .of (op s y) st
  | _ => .stuck
def M1D (P : Pm) (r : V → List V → Hp → VK → Prop) (op : Str → D → Option D) : Prop := ∀ F B M H s y dy d, Pre F B M H → RepB P F B dy y → op s dy = some d →
  ∀ Q : VK, (∀ F' H' v, Ext F M H F' M H' → RepB P F' B d v → Q v H') → r (.str s) [y] H Q
theorem ev_m1 {r : V → List V → Hp → VK → Prop} {op : Str → D → Option D} {to te : TE} {go ge : GE τ} (hr : M1D P r op) (ho : EvD P R W to go) (he : EvD P R W te ge) :
    EvD P R W (tM1 r to te) (gM1 op go ge) := by
  intro F B M H σ ρ st w Q h
  refine ho F B M H σ ρ st w _ (h.bind.mono (fun x st1 h1 F1 M1 H1 v1 E1 R1 r1 => ?_) fun _ _ z => z)
  have w1 := w.ext E1 R1
  cases x
  case str a =>
    have : v1 = .str a := r1
    subst this
    refine ⟨⟨a, rfl⟩, he F1 B M1 H1 σ ρ st1 w1 _ ((Sat.bind h1).mono (fun y st2 h2 F2 M2 H2 v2 E2 R2 r2 => ?_) fun _ _ z => KX.ext P R z E1)⟩
    obtain ⟨d, e, q⟩ := Sat.of h2
    exact hr F2 B M2 H2 a v2 y d (w1.pre.ext E2) r2 e Q fun F' H' v E r => q F' M2 H' v ((E1.trans E2).trans E) R2 r
  all_goals exact (show False from h1).elim
def joinD (a : Str) (y : D) : Option D :=
  ((items y).bind strsOf).bind fun ys => if (ys.map (·.length)).sum + ys.length * a.length ≤ 16777216 then some (.str (Txt.join a ys)) else none
theorem m1d_join : M1D P (fun x xs H Q => ∃ a p, ∃ ys : List Str, x = .str a ∧ xs = [.ref p] ∧ (SqL P.K H p (ys.map V.str) ∨ SqT P.K H p (ys.map V.str)) ∧
      (ys.map (·.length)).sum + ys.length * a.length ≤ 16777216 ∧ Q (.str (Txt.join a ys)) H) joinD := by
  intro F B M H a y dy d p r e Q q
  obtain ⟨ys, e1, e2⟩ := Option.bind_eq_some_iff.mp e
  obtain ⟨l, e3, e4⟩ := Option.bind_eq_some_iff.mp e1
  obtain ⟨hl, rfl⟩ := if_some e2
  obtain ⟨b, vs, rfl, hs, rs⟩ := r.seq p e3
  exact ⟨a, b, ys, rfl, rfl, by rw [← strsOf_rep rs e4]; exact hs, hl, q F H _ (.refl p) rfl⟩
def splitD (a : Str) (y : D) : Option D :=
  match y with
  | .str b => if (b.length == 0) = false ∧ a.length + 2 ≤ line then some (.lst ((Txt.split a b).map .str)) else none
  | _ => none
theorem m1d_split : M1D P (fun x xs H Q => ∃ a b, x = .str a ∧ xs = [.str b] ∧ (b.length == 0) = false ∧ a.length + 2 ≤ sizeLine ∧ rNewStrs (Txt.split a b) H Q) splitD := by
  intro F B M H a y dy d p r e Q q
  unfold splitD at e
  split at e
  · rename_i b
    obtain ⟨⟨h1, h2⟩, rfl⟩ := if_some e
    have : y = .str b := r
    subst this
    exact ⟨a, b, rfl, rfl, h1, by rw [line_eq]; exact h2, new_lst p (.strs _) fun F' H' v E r => q F' H' v E r.b⟩
  · cases e

/-! ### subscripts, slices -/
def ixD (x y : D) : Option D :=
  match y with
  | .int i => match x with
    | .str z => if z.length ≤ line then (atI z.cps.toList i).map fun c => .str ⟨#[c]⟩ else none
    | _ => (items x).bind fun ds => atI ds i
  | _ => none
theorem Reps.atI {F : Hp} {ds : List D} {vs : List V} {i : Int} {d : D} (rs : Reps P F ds vs) (h : L2.atI ds i = some d) : ∃ v, L2.atI vs i = some v ∧ Rep P F d v := by
  unfold L2.atI at h ⊢
  rw [← rs.length]
  cases e : ixN ds.length i with
  | none => rw [e] at h; cases h
  | some j => rw [e] at h; exact rs.get h
theorem opd_ix : OpD P (rIx P.K) ixD := by
  intro F B M H x y dx dy d p rx ry e Q q
  cases dy <;> try cases e
  case int i =>
    have : y = .int i := ry
    subst this
    by_cases hz : ∃ z, dx = .str z
    · obtain ⟨z, rfl⟩ := hz
      simp only [ixD] at e
      have : x = .str z := rx
      subst this
      by_cases hl : z.length ≤ line
      · rw [if_pos hl] at e
        obtain ⟨c, e1, rfl⟩ := Option.map_eq_some_iff.mp e
        exact .inr (.inr ⟨z, i, c, rfl, rfl, by rw [line_eq]; exact hl, e1, q F H _ (.refl p) rfl⟩)
      · rw [if_neg hl] at e; cases e
    · have e' : (items dx).bind (fun ds => L2.atI ds i) = some d := by
        cases dx <;> first | exact e | exact absurd ⟨_, rfl⟩ hz
      obtain ⟨ds, e1, e2⟩ := Option.bind_eq_some_iff.mp e'
      obtain ⟨a, vs, rfl, hs, rs⟩ := rx.seq p e1
      obtain ⟨v, hv, r⟩ := rs.atI e2
      rcases hs with hs | hs
      · exact .inl ⟨a, vs, i, v, rfl, rfl, hs, hv, q F H _ (.refl p) r.b⟩
      · exact .inr (.inl ⟨a, vs, i, v, rfl, rfl, hs, hv, q F H _ (.refl p) r.b⟩)
abbrev GO (τ : Type) := Sl → τ → Res τ (Option Int)
def EvO (P : Pm) (R : τ → Hp → Prop) (W : WX) (tt : TO) (g : GO τ) : Prop := ∀ F B M H σ ρ st, WI P R F B M H σ ρ st → ∀ Q : Option Int → Hp → Prop,
  Sat (g ρ st) (fun b st' => ∀ F' M' H', Ext F M H F' M' H' → R st' M' → Q b H') (KX P R W F M H σ) → tt σ H Q
def gNoPart : GO τ := fun _ st => .ok none st
def intOf : D → Option Int
  | .int i => some i
  | _ => none
def gPart (g : GE τ) : GO τ := fun ρ st => (g ρ st).bind fun d st => (Res.of (intOf d) st).bind fun i st => .ok (some i) st
theorem evo_none : EvO P R W tNoPart gNoPart := fun F B M H σ ρ st w Q q => q F M H (.refl w.pre) w.r
theorem evo_some {te : TE} {g : GE τ} (h : EvD P R W te g) : EvO P R W (tPart te) (gPart g) := by
  intro F B M H σ ρ st w Q hs
  refine h F B M H σ ρ st w _ (hs.bind.mono (fun d st1 h1 F1 M1 H1 v1 E1 R1 r1 => ?_) fun _ _ z => z)
  obtain ⟨i, e, q⟩ := Sat.of (Sat.bind h1)
  cases d <;> cases e
  exact ⟨_, r1, q F1 M1 H1 E1 R1⟩
def SlD (P : Pm) (r : V → Option Int → Option Int → Hp → VK → Prop) (op : D → Option Int → Option Int → Option D) : Prop := ∀ F B M H x dx lo hi d, Pre F B M H → RepB P F B dx x → op dx lo hi = some d →
  ∀ Q : VK, (∀ F' H' v, Ext F M H F' M H' → RepB P F' B d v → Q v H') → r x lo hi H Q
def gSl (op : D → Option Int → Option Int → Option D) (a : GE τ) (l h : GO τ) : GE τ := fun ρ st => (a ρ st).bind fun x st => (l ρ st).bind fun lo st => (h ρ st).bind fun hi st => .of (op x lo hi) st
theorem ev_sl {r : V → Option Int → Option Int → Hp → VK → Prop} {op : D → Option Int → Option Int → Option D} {te : TE} {tl th : TO} {g : GE τ} {gl gh : GO τ} (hr : SlD P r op) (he : EvD P R W te g) (hl : EvO P R W tl gl) (hh : EvO P R W th gh) :
    EvD P R W (tSl r te tl th) (gSl op g gl gh) := by
  intro F B M H σ ρ st w Q h
  refine he F B M H σ ρ st w _ (h.bind.mono (fun x st1 h1 F1 M1 H1 v1 E1 R1 r1 => ?_) fun _ _ z => z)
  have w1 := w.ext E1 R1
  refine hl F1 B M1 H1 σ ρ st1 w1 _ (h1.bind.mono (fun lo st2 h2 F2 M2 H2 E2 R2 => ?_) fun _ _ z => KX.ext P R z E1)
  have w2 := w1.ext E2 R2
  refine hh F2 B M2 H2 σ ρ st2 w2 _ (h2.bind.mono (fun hi st3 h3 F3 M3 H3 E3 R3 => ?_) fun _ _ z => KX.ext P R z (E1.trans E2))
  obtain ⟨d, e, q⟩ := Sat.of h3
  exact hr F3 B M3 H3 v1 x lo hi d (w2.pre.ext E3) ((r1.mono E2.ff).mono E3.ff) e Q fun F' H' v E r => q F' M3 H' v (((E1.trans E2).trans E3).trans E) R3 r
/-- xs[lo:hi] -/
def cutL {α : Type} (xs : List α) (lo hi : Option Int) : List α := (xs.drop (HT.sIx xs.length 0 lo)).take (HT.sIx xs.length xs.length hi - HT.sIx xs.length 0 lo)
theorem Reps.cut {F : Hp} {ds : List D} {vs : List V} (rs : Reps P F ds vs) (lo hi : Option Int) : Reps P F (cutL ds lo hi) (cutV vs lo hi) := by
  unfold cutL cutV
  rw [rs.length]
  exact (rs.drop _).take _
def slD (x : D) (lo hi : Option Int) : Option D :=
  match x with
  | .str z => if z.length ≤ line then some (.str (cutS z lo hi)) else none
  | .tup ds => some (.tup (cutL ds lo hi))
  | _ => (items x).map fun ds => .lst (cutL ds lo hi)
def rSlAll (K : PySem.W.Frag) : V → Option Int → Option Int → Hp → VK → Prop := fun x lo hi H Q => rSlS x lo hi H Q ∨ (rSlA K x lo hi H Q ∨ rSlL K x lo hi H Q)
theorem sl_all {X : Cx} : SlR X (rSlAll X.K) := SlR.or sl_str (SlR.or sl_tupA sl_list)
theorem sld_all : SlD P (rSlAll P.K) slD := by
  intro F B M H x dx lo hi d p rx e Q q
  cases dx <;> try (simp only [slD, items, Option.map_none, Option.map_some] at e; cases e)
  case str z =>
    simp only [slD] at e
    obtain ⟨h, rfl⟩ := if_some e
    have : x = .str z := rx
    subst this
    exact .inl ⟨z, rfl, by rw [line_eq]; exact h, q F H _ (.refl p) rfl⟩
  case tup ds =>
    have rx0 := rx
    obtain ⟨a, vs, rfl, hs, rs⟩ := rx.tupl p
    refine .inr (.inl ⟨a, vs, rfl, hs, fun ⟨h1, h2⟩ => ?_, fun _ => new_tup p (rs.cut lo hi) fun F' H' v E r => q F' H' v E r.b⟩)
    have e : cutL ds lo hi = ds := by
      unfold cutL
      rw [rs.length, h1, h2, Nat.sub_zero, List.drop_zero, ← rs.length, List.take_length]
    rw [e] at q
    exact q F H _ (.refl p) rx0
  case lst => obtain ⟨a', vs', e2, q2, rs'⟩ := (by simpa only [RepB, Rep] using rx); exact .inr (.inr ⟨a', vs', e2, .of (p.f _ _ q2), new_lst p (rs'.cut lo hi) fun F' H' v E r => q F' H' v E r.b⟩)
  case bor => obtain ⟨a', vs', e2, q2, rs'⟩ := rx; exact .inr (.inr ⟨a', vs', e2, .of (p.b _ _ q2), new_lst p (rs'.cut lo hi) fun F' H' v E r => q F' H' v E r.b⟩)
  case scr => obtain ⟨a', vs', e2, q2, rs'⟩ := (by simpa only [RepB, Rep] using rx); exact .inr (.inr ⟨a', vs', e2, p.f.seq q2, new_lst p (rs'.cut lo hi) fun F' H' v E r => q F' H' v E r.b⟩)
end
end PD

namespace PD
open PySem PySem.Spec PyProof.Rows L2
section
variable {τ : Type} {P : Pm} {R : τ → Hp → Prop} {W : WX}

/-! ### what a loop walks -/
structure ItOk (P : Pm) (F Bo : Hp) (J : It) (ds : List D) : Prop where
  stop : ∀ i H, Same F H → Same Bo H → ds.length ≤ i → J.stop i H
  go : ∀ i H, Same F H → Same Bo H → i < ds.length → J.go i H
  yld : ∀ i F1 B1 M1 H1 x H', i < ds.length → Pre F1 B1 M1 H1 → Same F F1 → Same Bo H1 → J.yld i H1 x H' → ∃ d F2, ds[i]? = some d ∧ Ext F1 M1 H1 F2 M1 H' ∧ Rep P F2 d x
abbrev GI (τ : Type) := Sl → τ → Res τ (List D)
def EvI (P : Pm) (R : τ → Hp → Prop) (W : WX) (wi : TI) (g : GI τ) : Prop := ∀ F B M H σ ρ st, WI P R F B M H σ ρ st → ∀ Rk : It → Hp → Prop,
  Sat (g ρ st) (fun ds st' => ∀ F' M' H' J, Ext F M H F' M' H' → R st' M' → ItOk P F' B J ds → Rk J H') (KX P R W F M H σ) → wi σ H Rk
/-- nothing borrowed is walked -/
def EvJ (P : Pm) (R : τ → Hp → Prop) (W : WX) (wi : TI) (g : GI τ) : Prop := ∀ F B M H σ ρ st, WI P R F B M H σ ρ st → ∀ Rk : It → Hp → Prop,
  Sat (g ρ st) (fun ds st' => ∀ F' M' H' J, Ext F M H F' M' H' → R st' M' → ItOk P F' (fun _ => none) J ds → Rk J H') (KX P R W F M H σ) → wi σ H Rk
theorem ItOk.bor {F Bo : Hp} {J : It} {ds : List D} (h : ItOk P F (fun _ => none) J ds) : ItOk P F Bo J ds :=
  ⟨fun i H a _ l => h.stop i H a (fun _ _ z => nomatch z) l, fun i H a _ l => h.go i H a (fun _ _ z => nomatch z) l, fun i F1 B1 M1 H1 x H' l p a _ y => h.yld i F1 B1 M1 H1 x H' l p a (fun _ _ z => nomatch z) y⟩
theorem EvJ.evi {wi : TI} {g : GI τ} (h : EvJ P R W wi g) : EvI P R W wi g := fun F B M H σ ρ st w Rk hs =>
  h F B M H σ ρ st w Rk (hs.mono (fun ds st' q F' M' H' J E r ok => q F' M' H' J E r ok.bor) fun _ _ z => z)
theorem itok_list {F Bo : Hp} {a : Addr} {vs : List V} {ds : List D} (h : ∀ H, Same F H → Same Bo H → SqL P.K H a vs) (rs : Reps P F ds vs) : ItOk P F Bo (Itl P.K a) ds := by
  refine ⟨fun i H f b l => ⟨vs, h H f b, by rw [← rs.length]; exact l⟩, fun i H f b l => ?_, fun i F1 B1 M1 H1 x H' l p f b y => ?_⟩
  · obtain ⟨v, e, _⟩ := rs.get (List.getElem?_eq_getElem l)
    exact ⟨vs, v, h H f b, e⟩
  · obtain ⟨rfl, y⟩ := y
    obtain ⟨d, e, r⟩ := rs.getV (y vs (h H' (f.trans p.f) b))
    exact ⟨d, F1, e, .refl p, r.mono f⟩
theorem itok_tup {F Bo : Hp} {a : Addr} {vs : List V} {ds : List D} (h : ∀ H, Same F H → SqT P.K H a vs) (rs : Reps P F ds vs) : ItOk P F Bo (Itt P.K a) ds := by
  refine ⟨fun i H f b l => ⟨vs, h H f, by rw [← rs.length]; exact l⟩, fun i H f b l => ?_, fun i F1 B1 M1 H1 x H' l p f b y => ?_⟩
  · obtain ⟨v, e, _⟩ := rs.get (List.getElem?_eq_getElem l)
    exact ⟨vs, v, h H f, e⟩
  · obtain ⟨rfl, y⟩ := y
    obtain ⟨d, e, r⟩ := rs.getV (y vs (h H' (f.trans p.f)))
    exact ⟨d, F1, e, .refl p, r.mono f⟩
def charsOf (z : Str) : List D := z.cps.toList.map fun c => .str ⟨#[c]⟩
theorem itok_str {F Bo : Hp} {z : Str} : ItOk P F Bo (Its z) (charsOf z) := by
  have hl : (charsOf z).length = z.cps.size := by simp only [charsOf, List.length_map, Array.length_toList]
  refine ⟨fun i H f b l => by rw [hl] at l; exact l, fun i H f b l => by rw [hl] at l; exact l, fun i F1 B1 M1 H1 x H' l p f b y => ?_⟩
  obtain ⟨rfl, c, e, rfl⟩ := y
  refine ⟨.str ⟨#[c]⟩, F1, ?_, .refl p, by simp only [Rep]⟩
  simp only [charsOf, List.getElem?_map, Array.getElem?_toList, e, Option.map_some]
def rangeD (lo : Int) (n : Nat) : List D := (List.range n).map fun i => .int (lo + (i : Nat))
theorem itok_range {F Bo : Hp} {lo : Int} {n : Nat} : ItOk P F Bo (Itr lo n) (rangeD lo n) := by
  have hl : (rangeD lo n).length = n := by simp only [rangeD, List.length_map, List.length_range]
  refine ⟨fun i H f b l => by rw [hl] at l; exact l, fun i H f b l => by rw [hl] at l; exact l, fun i F1 B1 M1 H1 x H' l p f b y => ?_⟩
  obtain ⟨rfl, rfl⟩ := y
  refine ⟨.int (lo + (i : Nat)), F1, ?_, .refl p, by simp only [Rep]⟩
  rw [hl] at l
  simp only [rangeD, List.getElem?_map, List.getElem?_range l, Option.map_some]
def iterD (d : D) : Option (List D) :=
  match d with
  | .str z => some (charsOf z)
  | _ => items d
/-- for x in e: a list, a tuple, a text -/
def iAll (K : PySem.W.Frag) (te : TE) : TI := fun σ H R => iList K te σ H R ∨ (iTup K te σ H R ∨ iStr te σ H R)
theorem pi_all {X : Cx} {tg e : Expr} {te : TE} (h : PE X e te) : PI X tg e (iAll X.K te) := PI.or (pi_list h) (PI.or (pi_tup h) (pi_str h))
def gIt (g : GE τ) : GI τ := fun ρ st => (g ρ st).bind fun d st => .of (iterD d) st
/-- nothing borrowed -/
def gItF (g : GE τ) : GI τ := fun ρ st => (g ρ st).bind fun d st => if borFree d = true then .of (iterD d) st else .stuck
theorem evi_all {K : PySem.W.Frag} (hK : K = P.K) {te : TE} {g : GE τ} (h : EvD P R W te g) : EvI P R W (iAll K te) (gIt g) := by
  subst hK
  intro F B M H σ ρ st w Rk hs
  have hd := h F B M H σ ρ st w
  have hs := Sat.bind hs
  cases e : g ρ st with
  | stuck => rw [e] at hs; exact hs.elim
  | err x st1 => rw [e] at hs hd; exact .inl (hd _ hs)
  | ok d st1 =>
    rw [e] at hs hd
    obtain ⟨ds, e1, q⟩ := Sat.of (show Sat (Res.of (iterD d) st1) _ _ from hs)
    cases d <;> try (cases e1; done)
    case str => cases e1; exact .inr (.inr (hd _ fun F1 M1 H1 v E1 R1 r1 => ⟨_, r1, q F1 M1 H1 _ E1 R1 itok_str⟩))
    case tup => cases e1; exact .inr (.inl (hd _ fun F1 M1 H1 v E1 R1 r1 => by
      obtain ⟨a, vs, rfl, hs, rs⟩ := (by simpa only [RepB, Rep] using r1)
      have hh : ∀ H, Same F1 H → SqT P.K H a vs := fun H f => by
        rcases hs with (q | ⟨o, q⟩) | q
        · exact .inl (.inl (f _ _ q))
        · exact .inl (.inr ⟨o, f _ _ q⟩)
        · exact .inr q
      exact ⟨a, rfl, ⟨vs, hh H1 E1.f⟩, q F1 M1 H1 _ E1 R1 (itok_tup hh rs)⟩))
    case lst => cases e1; exact .inl (hd _ fun F1 M1 H1 v E1 R1 r1 => by
      obtain ⟨a, vs, rfl, hs, rs⟩ := (by simpa only [RepB, Rep] using r1)
      exact ⟨a, rfl, ⟨vs, .of (E1.f _ _ hs)⟩, q F1 M1 H1 _ E1 R1 (itok_list (fun H f _ => .of (f _ _ hs)) rs)⟩)
    case scr => cases e1; exact .inl (hd _ fun F1 M1 H1 v E1 R1 r1 => by
      obtain ⟨a, vs, rfl, hs, rs⟩ := (by simpa only [RepB, Rep] using r1)
      exact ⟨a, rfl, ⟨vs, E1.f.seq hs⟩, q F1 M1 H1 _ E1 R1 (itok_list (fun H f _ => f.seq hs) rs)⟩)
    case bor => cases e1; exact .inl (hd _ fun F1 M1 H1 v E1 R1 r1 => by
      obtain ⟨a, vs, rfl, hs, rs⟩ := r1
      exact ⟨a, rfl, ⟨vs, .of ((w.pre.ext E1).b _ _ hs)⟩, q F1 M1 H1 _ E1 R1 (itok_list (fun H _ b => .of (b _ _ hs)) rs)⟩)
theorem evj_all {K : PySem.W.Frag} (hK : K = P.K) {te : TE} {g : GE τ} (h : EvD P R W te g) : EvJ P R W (iAll K te) (gItF g) := by
  subst hK
  intro F B M H σ ρ st w Rk hs
  have hd := h F B M H σ ρ st w
  have hs := Sat.bind hs
  cases e : g ρ st with
  | stuck => rw [e] at hs; exact hs.elim
  | err x st1 => rw [e] at hs hd; exact .inl (hd _ hs)
  | ok d st1 =>
    rw [e] at hs hd
    obtain ⟨hb, hs⟩ := Sat.ite (show Sat (if borFree d = true then Res.of (iterD d) st1 else .stuck) _ _ from hs)
    obtain ⟨ds, e1, q⟩ := Sat.of (show Sat (Res.of (iterD d) st1) _ _ from hs)
    cases d <;> try (cases e1; done)
    case bor => cases hb
    case str => cases e1; exact .inr (.inr (hd _ fun F1 M1 H1 v E1 R1 r1 => ⟨_, r1, q F1 M1 H1 _ E1 R1 itok_str⟩))
    case tup => cases e1; exact .inr (.inl (hd _ fun F1 M1 H1 v E1 R1 r1 => by
      obtain ⟨a, vs, rfl, hs, rs⟩ := (by simpa only [RepB, Rep] using r1)
      have hh : ∀ H, Same F1 H → SqT P.K H a vs := fun H f => by
        rcases hs with (q | ⟨o, q⟩) | q
        · exact .inl (.inl (f _ _ q))
        · exact .inl (.inr ⟨o, f _ _ q⟩)
        · exact .inr q
      exact ⟨a, rfl, ⟨vs, hh H1 E1.f⟩, q F1 M1 H1 _ E1 R1 (itok_tup hh rs)⟩))
    case lst => cases e1; exact .inl (hd _ fun F1 M1 H1 v E1 R1 r1 => by
      obtain ⟨a, vs, rfl, hs, rs⟩ := (by simpa only [RepB, Rep] using r1)
      exact ⟨a, rfl, ⟨vs, .of (E1.f _ _ hs)⟩, q F1 M1 H1 _ E1 R1 (itok_list (fun H f _ => .of (f _ _ hs)) rs)⟩)
    case scr => cases e1; exact .inl (hd _ fun F1 M1 H1 v E1 R1 r1 => by
      obtain ⟨a, vs, rfl, hs, rs⟩ := (by simpa only [RepB, Rep] using r1)
      exact ⟨a, rfl, ⟨vs, E1.f.seq hs⟩, q F1 M1 H1 _ E1 R1 (itok_list (fun H f _ => f.seq hs) rs)⟩)
/-- range(n), range(a, b) -/
def rng1 : List D → Option (List D)
  | [.int j] => if -(2 ^ 62) ≤ j ∧ j < 2 ^ 62 then some (rangeD 0 j.toNat) else none
  | _ => none
def gRng1 (a : GA τ) : GI τ := fun ρ st => (a ρ st).bind fun ds st => .of (rng1 ds) st
theorem evj_rng1 {ta : TA} {a : GA τ} (h : EvA P R W ta a) : EvJ P R W (iRng1 ta) (gRng1 a) := by
  intro F B M H σ ρ st w Rk hs
  refine h F B M H σ ρ st w _ ((Sat.bind hs).mono (fun ds st1 h1 F1 M1 H1 vs E1 R1 rs => ?_) fun _ _ z => z)
  obtain ⟨l, e, q⟩ := Sat.of h1
  unfold rng1 at e
  split at e
  · rename_i j
    obtain ⟨⟨h1, h2⟩, rfl⟩ := if_some e
    obtain ⟨v, rfl, r⟩ := rs.one
    have : v = .int j := r
    subst this
    exact ⟨j, rfl, h1, h2, q F1 M1 H1 _ E1 R1 itok_range⟩
  · cases e
def rng2 : List D → Option (List D)
  | [.int i, .int j] => if -(2 ^ 62) ≤ i ∧ i < 2 ^ 62 ∧ -(2 ^ 62) ≤ j ∧ j < 2 ^ 62 then some (rangeD i (j - i).toNat) else none
  | _ => none
def gRng2 (a : GA τ) : GI τ := fun ρ st => (a ρ st).bind fun ds st => .of (rng2 ds) st
theorem evj_rng2 {ta : TA} {a : GA τ} (h : EvA P R W ta a) : EvJ P R W (iRng2 ta) (gRng2 a) := by
  intro F B M H σ ρ st w Rk hs
  refine h F B M H σ ρ st w _ ((Sat.bind hs).mono (fun ds st1 h1 F1 M1 H1 vs E1 R1 rs => ?_) fun _ _ z => z)
  obtain ⟨l, e, q⟩ := Sat.of h1
  unfold rng2 at e
  split at e
  · rename_i i j
    obtain ⟨hh, rfl⟩ := if_some e
    obtain ⟨v, ws, rfl, r, rs⟩ := rs
    obtain ⟨v2, rfl, r2⟩ := RepBs.one rs
    have : v = .int i := r
    subst this
    have : v2 = .int j := r2
    subst this
    exact ⟨i, j, rfl, hh, q F1 M1 H1 _ E1 R1 itok_range⟩
  · cases e

/-! ### targets -/
def Own (ρ : Sl) (σ : L2.St) (a : Addr) : Prop := ∃ (i : Nat) (xs : List D), ρ[i]? = some (SV.own xs) ∧ σ[i]? = some (some (V.ref a))
/-- σ with the slots of vs changed to what ρ says -/
structure Tg (P : Pm) (F B : Hp) (vs : List Nat) (σ σ' : L2.St) (ρ' : Sl) : Prop where
  len : σ'.length = σ.length
  out : ∀ i, i ∉ vs → σ'[i]? = σ[i]?
def TgD (P : Pm) (R : τ → Hp → Prop) (vs : List Nat) (g : TG) (t : D → Sl → Option Sl) : Prop := ∀ F B M H σ ρ st d x ρ', WI P R F B M H σ ρ st → Rep P F d x → t d ρ = some ρ' →
  ∀ Q : L2.St → Hp → Prop, (∀ σ', WI P R F B M H σ' ρ' st → σ'.length = σ.length → (∀ i, i ∉ vs → σ'[i]? = σ[i]? ∧ ρ'[i]? = ρ[i]?) → (∀ a, Own ρ' σ' a → Own ρ σ a) → Q σ' H) → g x σ H Q
def tgName (i : Nat) (d : D) (ρ : Sl) : Option Sl := if i < ρ.length then some (ρ.set i (.val d)) else none
theorem WI.set {F B M H : Hp} {σ : L2.St} {ρ : Sl} {st : τ} (w : WI P R F B M H σ ρ st) {i : Nat} {d : D} {v : V} (r : Rep P F d v) : WI P R F B M H (σ.set i (some v)) (ρ.set i (.val d)) st := by
  refine ⟨w.pre, w.r, by rw [List.length_set, List.length_set]; exact w.len, fun j s o h1 h2 => ?_, fun j k s t a hjk h1 h2 ho hr e => ?_⟩
  · by_cases hj : i = j
    · subst hj
      rw [List.getElem?_set] at h1 h2
      simp only [if_true] at h1 h2
      split at h1
      · cases h1
        split at h2
        · cases h2; exact ⟨v, rfl, r⟩
        · cases h2
      · cases h1
    · rw [List.getElem?_set_ne hj] at h1 h2
      exact w.sl j s o h1 h2
  · have hj : i ≠ j := fun z => by
      subst z
      rw [List.getElem?_set] at h1
      simp only [if_true] at h1
      split at h1
      · cases h1; cases ho
      · cases h1
    have hk : i ≠ k := fun z => by
      subst z
      rw [List.getElem?_set] at h2
      simp only [if_true] at h2
      split at h2
      · cases h2; cases hr
      · cases h2
    rw [List.getElem?_set_ne hj] at h1 e
    rw [List.getElem?_set_ne hk] at h2 ⊢
    exact w.dj j k s t a hjk h1 h2 ho hr e
theorem tgd_name {vs : List Nat} {i : Nat} (hi : i ∈ vs) : TgD P R vs (gName i) (tgName i) := by
  intro F B M H σ ρ st d x ρ' w r e Q q
  obtain ⟨h, rfl⟩ := if_some e
  refine q _ (w.set r) (List.length_set ..) (fun j hj => ?_) fun a ⟨j, xs, h1, h2⟩ => ?_
  · have : i ≠ j := fun z => hj (z ▸ hi)
    exact ⟨List.getElem?_set_ne this, List.getElem?_set_ne this⟩
  · by_cases hj : i = j
    · subst hj
      rw [List.getElem?_set_self h] at h1
      cases h1
    · rw [List.getElem?_set_ne hj] at h1 h2
      exact ⟨j, xs, h1, h2⟩
/-- several targets, one item each -/
def TgsD (P : Pm) (R : τ → Hp → Prop) (vs : List Nat) (g : TGs) (t : List D → Sl → Option Sl) : Prop := ∀ F B M H σ ρ st ds xs ρ', WI P R F B M H σ ρ st → Reps P F ds xs → t ds ρ = some ρ' →
  ∀ Q : L2.St → Hp → Prop, (∀ σ', WI P R F B M H σ' ρ' st → σ'.length = σ.length → (∀ i, i ∉ vs → σ'[i]? = σ[i]? ∧ ρ'[i]? = ρ[i]?) → (∀ a, Own ρ' σ' a → Own ρ σ a) → Q σ' H) → g xs σ H Q
def tgNil : List D → Sl → Option Sl
  | [], ρ => some ρ
  | _, _ => none
def tgCons (t : D → Sl → Option Sl) (u : List D → Sl → Option Sl) : List D → Sl → Option Sl
  | d :: ds, ρ => (t d ρ).bind (u ds)
  | _, _ => none
theorem tgsd_nil {vs : List Nat} : TgsD P R vs L2.gNil tgNil := by
  intro F B M H σ ρ st ds xs ρ' w rs e Q q
  cases ds with
  | cons d ds => cases e
  | nil =>
    cases e
    exact ⟨by simpa only [Reps] using rs, q σ w rfl (fun _ _ => ⟨rfl, rfl⟩) fun _ z => z⟩
theorem tgsd_cons {vs : List Nat} {g : TG} {gs : TGs} {t : D → Sl → Option Sl} {u : List D → Sl → Option Sl} (h : TgD P R vs g t) (h' : TgsD P R vs gs u) : TgsD P R vs (L2.gCons g gs) (tgCons t u) := by
  intro F B M H σ ρ st ds xs ρ' w rs e Q q
  cases ds with
  | nil => cases e
  | cons d ds =>
    obtain ⟨ρ1, e1, e2⟩ := Option.bind_eq_some_iff.mp e
    obtain ⟨v, ws, rfl, r, rs⟩ := rs.uncons
    refine ⟨v, ws, rfl, h F B M H σ ρ st d v ρ1 w r e1 _ fun σ1 w1 l1 o1 p1 => ?_⟩
    exact h' F B M H σ1 ρ1 st ds ws ρ' w1 rs e2 _ fun σ2 w2 l2 o2 p2 => q σ2 w2 (l2.trans l1) (fun i hi => ⟨(o2 i hi).1.trans (o1 i hi).1, (o2 i hi).2.trans (o1 i hi).2⟩) fun a z => p1 a (p2 a z)
/-- a, b, .. = a tuple -/
def tgTup (n : Nat) (u : List D → Sl → Option Sl) : D → Sl → Option Sl
  | .tup ds, ρ => if ds.length = n then u ds ρ else none
  | _, _ => none
theorem tgd_tup {K : PySem.W.Frag} (hK : K = P.K) {vs : List Nat} {n : Nat} {gs : TGs} {u : List D → Sl → Option Sl} (h : TgsD P R vs gs u) : TgD P R vs (L2.gTup K n gs) (tgTup n u) := by
  subst hK
  intro F B M H σ ρ st d x ρ' w r e Q q
  cases d <;> try cases e
  case tup ds =>
    have e : (if ds.length = n then u ds ρ else none) = some ρ' := e
    by_cases hn : ds.length = n
    · rw [if_pos hn] at e
      obtain ⟨a, ws, rfl, hs, rs⟩ := RepB.tupl w.pre (Rep.b (B := B) r)
      exact ⟨a, ws, rfl, hs, by rw [← rs.length]; exact hn, h F B M H σ ρ st ds ws ρ' w rs e Q q⟩
    · rw [if_neg hn] at e; cases e

/-! ### comprehensions -/
def wipeS (ρ : Sl) : List Nat → Sl
  | [] => ρ
  | v :: vs => (wipeS ρ vs).set v .un
theorem WI.un {F B M H : Hp} {σ : L2.St} {ρ : Sl} {st : τ} (w : WI P R F B M H σ ρ st) {i : Nat} {o : Option V} : WI P R F B M H (σ.set i o) (ρ.set i .un) st := by
  refine ⟨w.pre, w.r, by rw [List.length_set, List.length_set]; exact w.len, fun j s o h1 h2 => ?_, fun j k s t a hjk h1 h2 ho hr e => ?_⟩
  · by_cases hj : i = j
    · subst hj
      rw [List.getElem?_set] at h1
      simp only [if_true] at h1
      split at h1
      · cases h1; trivial
      · cases h1
    · rw [List.getElem?_set_ne hj] at h1 h2
      exact w.sl j s o h1 h2
  · have hj : i ≠ j := fun z => by
      subst z
      rw [List.getElem?_set] at h1
      simp only [if_true] at h1
      split at h1
      · cases h1; cases ho
      · cases h1
    have hk : i ≠ k := fun z => by
      subst z
      rw [List.getElem?_set] at h2
      simp only [if_true] at h2
      split at h2
      · cases h2; cases hr
      · cases h2
    rw [List.getElem?_set_ne hj] at h1 e
    rw [List.getElem?_set_ne hk] at h2 ⊢
    exact w.dj j k s t a hjk h1 h2 ho hr e
theorem WI.wipe {F B M H : Hp} {σ : L2.St} {ρ : Sl} {st : τ} (w : WI P R F B M H σ ρ st) : ∀ vs : List Nat, WI P R F B M H (L2.wipe σ vs) (wipeS ρ vs) st
  | [] => w
  | v :: vs => (WI.wipe w vs).un
theorem wipe_get (σ : L2.St) : ∀ (vs : List Nat) (i : Nat), (L2.wipe σ vs)[i]? = if i ∈ vs then (if i < σ.length then some none else none) else σ[i]?
  | [], i => by simp [L2.wipe]
  | v :: vs, i => by
    unfold L2.wipe
    rw [List.getElem?_set, wipe_get σ vs i, L2.wipe_length]
    by_cases h : v = i
    · subst h; simp
    · have h' : ¬ i = v := fun z => h z.symm
      simp [h, h']
theorem wipe_eq {σ σ' : L2.St} (hl : σ'.length = σ.length) {vs : List Nat} (h : ∀ i, i ∉ vs → σ'[i]? = σ[i]?) : L2.wipe σ' vs = L2.wipe σ vs := by
  apply List.ext_getElem?
  intro i
  rw [wipe_get, wipe_get, hl]
  by_cases hi : i ∈ vs
  · rw [if_pos hi, if_pos hi]
  · rw [if_neg hi, if_neg hi, h i hi]
/-- a new list that nobody else knows -/
def EvN (P : Pm) (R : τ → Hp → Prop) (W : WX) (te : TE) (g : GI τ) : Prop := ∀ F B M H σ ρ st, WI P R F B M H σ ρ st → ∀ Q : VK,
  Sat (g ρ st) (fun ds st' => ∀ F' M' H' a vs, Ext F M H F' M' H' → R st' M' → H a = none → F' a = none → M' a = none → H' a = some (.lst vs) → Reps P F' ds vs → Q (.ref a) H') (KX P R W F M H σ) → te σ H Q
def gFz (g : GI τ) : GE τ := fun ρ st => (g ρ st).bind fun ds st => .ok (.lst ds) st
theorem Ext.freeze {F M H F' M' H' : Hp} (e : Ext F M H F' M' H') {a : Addr} {o : HO} (h : H a = none) (hm : M' a = none) (ho : H' a = some o) (hf : F' a = none) : Ext F M H (upd F' a o) M' H' where
  ff := e.ff.trans (same_updP hf)
  f := fun b u q => by
    by_cases hb : b = a
    · subst hb; rw [upd_same] at q; cases q; exact ho
    · rw [upd_ne hb] at q; exact e.f _ _ q
  m := e.m
  keep := e.keep
  there := e.there
  newF := fun b q n => by
    have hb : b ≠ a := fun z => q (by rw [z]; exact h)
    rw [upd_ne hb]; exact e.newF b q n
  newM := e.newM
  fm := fun b => by
    by_cases hb : b = a
    · subst hb; exact .inr hm
    · rw [upd_ne hb]; exact e.fm b
/-- a change outside -/
theorem Ext.out {F M H F' M' H' : Hp} (e : Ext F M H F' M' H') {a : Addr} {o : HO} (h : H a = none) (hf : F' a = none) (hm : M' a = none) : Ext F M H F' M' (upd H' a o) where
  ff := e.ff
  f := fun b u q => by rw [upd_ne (ne_of_none q hf)]; exact e.f _ _ q
  m := fun b u q => by rw [upd_ne (ne_of_none q hm)]; exact e.m _ _ q
  keep := fun b u q n => by rw [upd_ne (ne_of_none q h)]; exact e.keep b u q n
  there := fun b q => by
    have hb : b ≠ a := fun z => q (by rw [z]; exact h)
    rw [upd_ne hb]; exact e.there b q
  newF := e.newF
  newM := e.newM
  fm := e.fm
theorem EvN.evd {te : TE} {g : GI τ} (h : EvN P R W te g) : EvD P R W te (gFz g) := by
  intro F B M H σ ρ st w Q hs
  refine h F B M H σ ρ st w Q ((Sat.bind hs).mono (fun ds st1 q F1 M1 H1 a vs E1 R1 ha hf hm ho rs => ?_) fun _ _ z => z)
  exact q _ M1 H1 _ (E1.freeze ha hm ho hf) R1 (Rep.b (by simp only [Rep]; exact ⟨a, vs, rfl, upd_same, rs.mono (same_updP hf)⟩))
/-- no exception -/
def W0 : WX := fun _ _ _ _ => False
def noErr {α : Type} : Res τ α → Res τ α
  | .err _ _ => .stuck
  | r => r
theorem Sat.noErr {α : Type} {r : Res τ α} {ok : α → τ → Prop} {er er' : Exn → τ → Prop} (h : Sat (PD.noErr r) ok er) : Sat r ok er' := by
  cases r with
  | ok a st => exact h
  | err x st => exact (show False from h).elim
  | stuck => exact h
def lcGo (tg : D → Sl → Option Sl) (c : GT τ) (e : GE τ) (ρ : Sl) : List D → τ → Res τ (List D)
  | [], st => .ok [] st
  | d :: ds, st => (Res.of (tg d ρ) st).bind fun ρ1 st => (noErr (c ρ1 st)).bind fun b st =>
      if b = true then (noErr (e ρ1 st)).bind fun y st => if borFree y = true then (lcGo tg c e ρ ds st).bind fun ys st => .ok (y :: ys) st else .stuck
      else lcGo tg c e ρ ds st
def gLc (gi : GI τ) (tg : D → Sl → Option Sl) (c : GT τ) (e : GE τ) (vs : List Nat) : GI τ := fun ρ st => (gi ρ st).bind fun ds st =>
  if ds.length ≤ line then lcGo tg c e (wipeS ρ vs) ds st else .stuck
def gYes : GT τ := fun _ st => .ok true st
theorem evt_yes : EvT P R W tYes gYes := fun F B M H σ ρ st w Q q => q F M H (.refl w.pre) w.r
theorem evn_lc {wi : TI} {g : TG} {tt : TT} {te : TE} {vs : List Nat} {gi : GI τ} {tg : D → Sl → Option Sl} {c : GT τ} {e : GE τ} (hi : EvI P R W wi gi) (hg : TgD P R vs g tg) (ht : EvT P R W0 tt c) (he : EvD P R W0 te e) :
    EvN P R W (tLc wi g tt te vs) (gLc gi tg c e vs) := by
  intro F B M H σ ρ st w Q hs
  refine hi F B M H σ ρ st w _ ((Sat.bind hs).mono (fun ds st1 h1 F1 M1 H1 J E1 R1 ok => ?_) fun _ _ z => z)
  obtain ⟨hline, h1⟩ := Sat.ite h1
  intro Dd hD
  have w1 := w.ext E1 R1
  have hDH : H Dd = none := by
    cases e : H Dd with
    | none => rfl
    | some o => exact absurd hD (E1.there Dd (ne_some e))
  refine ⟨fun i m H2 => ∃ F2 M2 st2 acc accd, m = ds.length - i ∧ i ≤ ds.length ∧ Ext F1 M1 H1 F2 M2 H2 ∧ F2 Dd = none ∧ M2 Dd = none ∧ H2 Dd = some (.lst acc) ∧ Reps P F2 accd acc ∧ acc.length ≤ i ∧ R st2 M2 ∧
    Sat (lcGo tg c e (wipeS ρ vs) (ds.drop i) st2) (fun ys st3 => ∀ F' M' H' a vs, Ext F M H F' M' H' → R st3 M' → H a = none → F' a = none → M' a = none → H' a = some (.lst vs) → Reps P F' (accd ++ ys) vs → Q (.ref a) H') (fun _ _ => True), ?_, ?_⟩
  · refine ⟨_, F1, M1, st1, [], [], rfl, Nat.zero_le _, (Ext.own w1.pre hD), w1.pre.f.none hD, w1.pre.m.none hD, upd_same, .nil, Nat.le_refl _, R1, ?_⟩
    exact h1.mono (fun _ _ z => z) fun _ _ _ => trivial
  · rintro i m H2 ⟨F2, M2, st2, acc, accd, rfl, hi, E2, fD, mD, hD2, rs, hl, R2, sat⟩
    have w2 : WI P R F2 B M2 H2 (L2.wipe σ vs) (wipeS ρ vs) st2 := (w1.ext E2 R2).wipe vs
    by_cases hlt : i < ds.length
    · refine .inr ⟨ok.go i H2 (E2.ff.trans E2.f) w2.pre.b hlt, _, fun H' q => ⟨ds.length - (i + 1), by omega, q⟩, fun x H' y => ?_⟩
      obtain ⟨d, F3, hd, E3, r3⟩ := ok.yld i F2 B M2 H2 x H' hlt w2.pre E2.ff w2.pre.b y
      have hdrop : ds.drop i = d :: ds.drop (i + 1) := by
        have h := List.drop_eq_getElem_cons hlt
        rw [List.getElem?_eq_getElem hlt] at hd
        cases hd
        exact h
      rw [hdrop] at sat
      obtain ⟨ρ1, e1, sat⟩ := Sat.of (Sat.bind sat)
      have w3 := w2.ext E3 R2
      have hD3 : H' Dd = some (.lst acc) := E3.keep _ _ hD2 mD
      have fD3 : F3 Dd = none := E3.newF _ (ne_some hD2) fD
      refine hg F3 B M2 H' _ _ st2 d x ρ1 w3 r3 e1 _ fun σ4 w4 l4 o4 _ => ⟨?_, ?_⟩
      · apply List.ext_getElem?
        intro j
        rw [wipe_get, wipe_get, l4, L2.wipe_length]
        by_cases hj : j ∈ vs
        · rw [if_pos hj, if_pos hj]
        · rw [if_neg hj, if_neg hj, (o4 j hj).1, wipe_get, if_neg hj]
      · refine ht F3 B M2 H' σ4 ρ1 st2 w4 _ (Sat.noErr (Sat.bind sat) |>.mono (fun b st5 h5 F5 M5 H5 E5 R5 => ?_) fun _ _ z => z)
        have w5 := w4.ext E5 R5
        have hD5 : H5 Dd = some (.lst acc) := E5.keep _ _ hD3 mD
        have fD5 : F5 Dd = none := E5.newF _ (ne_some hD3) fD3
        have mD5 : M5 Dd = none := E5.newM _ (ne_some hD3) mD
        cases b with
        | false =>
          refine iteF ⟨F5, M5, st5, acc, accd, rfl, hlt, (E2.trans E3).trans E5, fD5, mD5, hD5, (rs.mono E3.ff).mono E5.ff, Nat.le_succ_of_le hl, R5, Sat.ff h5⟩
        | true =>
          refine iteT (he F5 B M5 H5 σ4 ρ1 st5 w5 _ (Sat.noErr (Sat.bind (Sat.tt h5)) |>.mono (fun y st6 h6 F6 M6 H6 v E6 R6 r6 => ?_) fun _ _ z => z))
          obtain ⟨bf, h6⟩ := Sat.ite h6
          have hD6 : H6 Dd = some (.lst acc) := E6.keep _ _ hD5 mD5
          have fD6 : F6 Dd = none := E6.newF _ (ne_some hD5) fD5
          have mD6 : M6 Dd = none := E6.newM _ (ne_some hD5) mD5
          refine ⟨acc, hD6, ?_, F6, M6, st6, acc ++ [v], accd ++ [y], rfl, hlt, (((E2.trans E3).trans E5).trans E6).out hD fD6 mD6, fD6, mD6, upd_same, (((rs.mono E3.ff).mono E5.ff).mono E6.ff).append (.one (r6.rep bf)), ?_, R6, ?_⟩
          · rw [line_eq]; omega
          · rw [List.length_append, List.length_singleton]; omega
          · refine (Sat.bind h6).mono (fun ys st7 h7 => ?_) fun _ _ z => z
            have e : accd ++ [y] ++ ys = accd ++ (y :: ys) := by rw [List.append_assoc]; rfl
            rw [e]; exact h7
    · have hn : ds.drop i = [] := List.drop_eq_nil_of_le (by omega)
      rw [hn] at sat
      refine .inl ⟨ok.stop i H2 (E2.ff.trans E2.f) w2.pre.b (by omega), ?_⟩
      have q := show _ from sat
      have q' : ∀ F' M' H' a vs, Ext F M H F' M' H' → R st2 M' → H a = none → F' a = none → M' a = none → H' a = some (.lst vs) → Reps P F' (accd ++ []) vs → Q (.ref a) H' := sat
      rw [List.append_nil] at q'
      exact q' F2 M2 H2 Dd acc (E1.trans E2) R2 hDH fD mD hD2 rs
theorem evn_lst {ta : TA} {ga : GA τ} (ha : EvA P R W ta ga) : EvN P R W (tLst ta) (fun ρ st => (ga ρ st).bind fun ds st => if freeL ds = true then .ok ds st else .stuck) := by
  intro F B M H σ ρ st w Q hs
  refine ha F B M H σ ρ st w _ (hs.bind.mono (fun ds st1 h1 F1 M1 H1 vs E1 R1 rs => ?_) fun _ _ z => z)
  obtain ⟨hf, q⟩ := Sat.ite h1
  obtain ⟨h1, h2⟩ := Bool.and_eq_true_iff.mp hf
  have p := w.pre.ext E1
  refine ⟨by rw [line_eq, ← rs.length]; exact of_decide_eq_true h2, fun a ha => ?_⟩
  have hH : H a = none := by
    cases e : H a with
    | none => rfl
    | some o => exact absurd ha (E1.there a (ne_some e))
  exact q F1 M1 _ a vs (E1.trans (.own p ha)) R1 hH (p.f.none ha) (p.m.none ha) upd_same (rs.reps h1)
end
end PD

namespace PD
open PySem PySem.Spec PyProof.Rows L2

inductive Fl where
  | nx (ρ : Sl)
  | rt (d : D)
  /-- a new list that nobody else knows is handed back -/
  | rn (ds : List D)
  | bk (ρ : Sl)
  | ct (ρ : Sl)
  | ex (x : Exn) (ρ : Sl)
abbrev RS (τ : Type) := Option (Fl × τ)
abbrev GS (τ : Type) := Sl → τ → RS τ
structure ExtS (F M H : Hp) (O : Addr → Prop) (F' M' H' : Hp) (O' : Addr → Prop) : Prop where
  ff : Same F F'
  f : Same F' H'
  m : Same M' H'
  fm : ∀ a, F' a = none ∨ M' a = none
  keep : ∀ a o, H a = some o → M a = none → ¬ O a → H' a = some o
  there : ∀ a, H a ≠ none → H' a ≠ none
  newF : ∀ a, H a ≠ none → F a = none → ¬ O a → F' a = none
  newM : ∀ a, H a ≠ none → M a = none → M' a = none
  newO : ∀ a, O' a → H a ≠ none → O a
theorem ExtS.of {F M H F' M' H' : Hp} {O : Addr → Prop} (e : Ext F M H F' M' H') : ExtS F M H O F' M' H' O :=
  ⟨e.ff, e.f, e.m, e.fm, fun a o h n _ => e.keep a o h n, e.there, fun a h n _ => e.newF a h n, e.newM, fun _ h _ => h⟩
theorem ExtS.trans {F M H F1 M1 H1 F2 M2 H2 : Hp} {O O1 O2 : Addr → Prop} (a : ExtS F M H O F1 M1 H1 O1) (b : ExtS F1 M1 H1 O1 F2 M2 H2 O2) : ExtS F M H O F2 M2 H2 O2 where
  ff := a.ff.trans b.ff
  f := b.f
  m := b.m
  fm := b.fm
  keep := fun x o h n z => b.keep x o (a.keep x o h n z) (a.newM x (ne_some h) n) fun z1 => z (a.newO x z1 (ne_some h))
  there := fun x h => b.there x (a.there x h)
  newF := fun x h n z => b.newF x (a.there x h) (a.newF x h n z) fun z1 => z (a.newO x z1 h)
  newM := fun x h n => b.newM x (a.there x h) (a.newM x h n)
  newO := fun x h n => a.newO x (b.newO x h (a.there x n)) n
theorem ExtS.sub {F M H F' M' H' : Hp} {O O' O2 : Addr → Prop} (e : ExtS F M H O F' M' H' O') (h : ∀ a, O2 a → O' a) : ExtS F M H O F' M' H' O2 :=
  ⟨e.ff, e.f, e.m, e.fm, e.keep, e.there, e.newF, e.newM, fun a q n => e.newO a (h a q) n⟩
def SatS {τ : Type} (r : RS τ) (k : Fl → τ → Prop) : Prop :=
  match r with
  | some (f, st) => k f st
  | none => False
theorem SatS.mono {τ : Type} {r : RS τ} {k k' : Fl → τ → Prop} (h : SatS r k) (hk : ∀ f st, k f st → k' f st) : SatS r k' := by
  cases r with
  | none => exact h
  | some p => exact hk _ _ h
def thenE {τ α : Type} (r : Res τ α) (ρ : Sl) (f : α → τ → RS τ) : RS τ :=
  match r with
  | .ok a st => f a st
  | .err x st => some (.ex x ρ, st)
  | .stuck => none
theorem SatS.thenE {τ α : Type} {r : Res τ α} {ρ : Sl} {f : α → τ → RS τ} {k : Fl → τ → Prop} (h : SatS (PD.thenE r ρ f) k) : Sat r (fun a st => SatS (f a st) k) (fun x st => k (.ex x ρ) st) := by
  cases r <;> exact h
theorem SatS.ite {τ : Type} {c : Prop} [Decidable c] {r : RS τ} {k : Fl → τ → Prop} (h : SatS (if c then r else none) k) : c ∧ SatS r k := by
  by_cases hc : c
  · rw [if_pos hc] at h; exact ⟨hc, h⟩
  · rw [if_neg hc] at h; exact h.elim

section
variable {τ : Type} (P : Pm) (R : τ → Hp → Prop) (W : WX)
def EndK (F M H : Hp) (O : Addr → Prop) (D : Ends) : Fl → τ → Prop
  | .nx ρ', st' => ∀ F' B' M' H' σ', ExtS F M H O F' M' H' (Own ρ' σ') → WI P R F' B' M' H' σ' ρ' st' → D.nx σ' H'
  | .bk ρ', st' => ∀ F' B' M' H' σ', ExtS F M H O F' M' H' (Own ρ' σ') → WI P R F' B' M' H' σ' ρ' st' → D.bk σ' H'
  | .ct ρ', st' => ∀ F' B' M' H' σ', ExtS F M H O F' M' H' (Own ρ' σ') → WI P R F' B' M' H' σ' ρ' st' → D.ct σ' H'
  | .rt d, st' => ∀ F' M' H' v, ExtS F M H O F' M' H' (fun _ => False) → R st' M' → Rep P F' d v → D.rt v H'
  | .rn ds, st' => ∀ F' M' H' a vs, ExtS F M H O F' M' H' (fun _ => False) → R st' M' → (H a = none ∨ O a) → F' a = none → M' a = none → H' a = some (.lst vs) → Reps P F' ds vs → D.rt (.ref a) H'
  | .ex x ρ', st' => ∀ F' B' M' H' σ' c dd, ExtS F M H O F' M' H' (Own ρ' σ') → WI P R F' B' M' H' σ' ρ' st' → XRep P F' x c dd H' → W c dd σ' H'
def EvS (ts : TS) (g : GS τ) : Prop := ∀ F B M H σ ρ st, WI P R F B M H σ ρ st → ∀ D : Ends, SatS (g ρ st) (EndK P R W F M H (Own ρ σ) D) → ts D σ H
end
section
variable {τ : Type} {P : Pm} {R : τ → Hp → Prop} {W : WX}
theorem EndK.kx {F B M H : Hp} {σ : L2.St} {ρ : Sl} {st st' : τ} {D : Ends} {x : Exn} (w : WI P R F B M H σ ρ st) (h : EndK P R W F M H (Own ρ σ) D (.ex x ρ) st') : KX P R W F M H σ x st' :=
  fun F' M' H' c dd e r q => h F' B M' H' σ c dd (.of e) (w.ext e r) q
theorem EndK.trans {F M H F1 M1 H1 : Hp} {O O1 : Addr → Prop} {D : Ends} {f : Fl} {st : τ} (h : EndK P R W F M H O D f st) (e : ExtS F M H O F1 M1 H1 O1) : EndK P R W F1 M1 H1 O1 D f st := by
  cases f with
  | nx ρ' => exact fun F' B' M' H' σ' e2 w => h F' B' M' H' σ' (e.trans e2) w
  | bk ρ' => exact fun F' B' M' H' σ' e2 w => h F' B' M' H' σ' (e.trans e2) w
  | ct ρ' => exact fun F' B' M' H' σ' e2 w => h F' B' M' H' σ' (e.trans e2) w
  | rt d => exact fun F' M' H' v e2 r q => h F' M' H' v (e.trans e2) r q
  | rn ds => exact fun F' M' H' a vs e2 r ha => h F' M' H' a vs (e.trans e2) r (by
      rcases ha with ha | ha
      · left
        cases q : H a with
        | none => rfl
        | some o => exact absurd ha (e.there a (ne_some q))
      · by_cases hn : H a = none
        · exact .inl hn
        · exact .inr (e.newO a ha hn))
  | ex x ρ' => exact fun F' B' M' H' σ' c dd e2 w q => h F' B' M' H' σ' c dd (e.trans e2) w q

/-! ### blocks -/
def sNext : GS τ := fun ρ st => some (.nx ρ, st)
theorem evs_next : EvS P R W tNext sNext := fun F B M H σ ρ st w D h => h F B M H σ (.of (.refl w.pre)) w
def sBreak : GS τ := fun ρ st => some (.bk ρ, st)
theorem evs_break : EvS P R W tBreak sBreak := fun F B M H σ ρ st w D h => h F B M H σ (.of (.refl w.pre)) w
def sCont : GS τ := fun ρ st => some (.ct ρ, st)
theorem evs_cont : EvS P R W tCont sCont := fun F B M H σ ρ st w D h => h F B M H σ (.of (.refl w.pre)) w
def sSeq (a b : GS τ) : GS τ := fun ρ st =>
  match a ρ st with
  | some (.nx ρ1, st1) => b ρ1 st1
  | r => r
theorem evs_seq {t u : TS} {a b : GS τ} (ha : EvS P R W t a) (hb : EvS P R W u b) : EvS P R W (tSeq t u) (sSeq a b) := by
  intro F B M H σ ρ st w D h
  refine ha F B M H σ ρ st w { D with nx := u D } ?_
  unfold sSeq at h
  cases e : a ρ st with
  | none => rw [e] at h; exact h.elim
  | some p =>
    obtain ⟨f, st1⟩ := p
    rw [e] at h
    cases f with
    | nx ρ1 => exact fun F1 B1 M1 H1 σ1 e1 w1 => hb F1 B1 M1 H1 σ1 ρ1 st1 w1 D (SatS.mono (r := b ρ1 st1) h fun f st2 q => q.trans e1)
    | bk ρ1 => exact h
    | ct ρ1 => exact h
    | rt d => exact h
    | rn ds => exact h
    | ex x ρ1 => exact h
def sIf (t : GT τ) (a b : GS τ) : GS τ := fun ρ st => thenE (t ρ st) ρ fun c st => if c = true then a ρ st else b ρ st
theorem evs_if {tc : TT} {t u : TS} {g : GT τ} {a b : GS τ} (hc : EvT P R W tc g) (ha : EvS P R W t a) (hb : EvS P R W u b) : EvS P R W (tIfS tc t u) (sIf g a b) := by
  intro F B M H σ ρ st w D h
  refine hc F B M H σ ρ st w _ (h.thenE.mono (fun c st1 h1 F1 M1 H1 E1 R1 => ?_) fun x st1 z => EndK.kx w z)
  cases c with
  | true => exact iteT (ha F1 B M1 H1 σ ρ st1 (w.ext E1 R1) D (SatS.mono (r := a ρ st1) (by rwa [if_pos rfl] at h1) fun f st2 q => EndK.trans q (.of E1)))
  | false => exact iteF (hb F1 B M1 H1 σ ρ st1 (w.ext E1 R1) D (SatS.mono (r := b ρ st1) (by rwa [if_neg Bool.false_ne_true] at h1) fun f st2 q => EndK.trans q (.of E1)))
def sRet (g : GE τ) : GS τ := fun ρ st => thenE (g ρ st) ρ fun d st => if borFree d = true then some (.rt d, st) else none
theorem evs_ret {te : TE} {g : GE τ} (h : EvD P R W te g) : EvS P R W (tRet te) (sRet g) := by
  intro F B M H σ ρ st w D hs
  refine h F B M H σ ρ st w _ (hs.thenE.mono (fun d st1 h1 F1 M1 H1 v E1 R1 r1 => ?_) fun x st1 z => EndK.kx w z)
  obtain ⟨hb, h1⟩ := SatS.ite h1
  exact h1 F1 M1 H1 v ((ExtS.of E1).sub fun _ z => z.elim) R1 (r1.rep hb)
/-- return of a list that is new -/
def sRetN (g : GI τ) : GS τ := fun ρ st => thenE (g ρ st) ρ fun ds st => some (.rn ds, st)
theorem evs_retN {te : TE} {g : GI τ} (h : EvN P R W te g) : EvS P R W (tRet te) (sRetN g) := by
  intro F B M H σ ρ st w D hs
  refine h F B M H σ ρ st w _ (hs.thenE.mono (fun ds st1 h1 F1 M1 H1 a vs E1 R1 ha hf hm ho rs => ?_) fun x st1 z => EndK.kx w z)
  exact (show EndK P R W F M H (Own ρ σ) D (.rn ds) st1 from h1) F1 M1 H1 a vs ((ExtS.of E1).sub fun _ z => z.elim) R1 (.inl ha) hf hm ho rs
/-- return of an owned list -/
def sRetO (i : Nat) : GS τ := fun ρ st =>
  match ρ[i]? with
  | some (.own xs) => some (.rn xs, st)
  | _ => none
theorem evs_retO (i : Nat) : EvS P R W (tRet (tVar i)) (sRetO i) := by
  intro F B M H σ ρ st w D hs
  unfold sRetO at hs
  cases e : ρ[i]? with
  | none => rw [e] at hs; exact hs.elim
  | some s =>
    rw [e] at hs
    obtain ⟨o, e2, so⟩ := w.slot e
    cases s with
    | own xs =>
      obtain ⟨a, vs, rfl, eb, rs⟩ := so
      have hn : F a = none := (w.pre.fb a).resolve_right (ne_some eb)
      have hm : M a = none := (w.pre.bm a).resolve_left (ne_some eb)
      exact ⟨.ref a, e2, (show EndK P R W F M H (Own ρ σ) D (.rn xs) st from hs) F M H a vs ((ExtS.of (.refl w.pre)).sub fun _ z => z.elim) w.r (.inr ⟨i, xs, e, e2⟩) hn hm (w.pre.b _ _ eb) rs⟩
    | un => exact hs.elim
    | val d => exact hs.elim
    | bor d => exact hs.elim
def sRetV : GS τ := fun ρ st => some (.rt .non, st)
theorem evs_retV : EvS P R W L2.tRetN sRetV := fun F B M H σ ρ st w D h =>
  (show EndK P R W F M H (Own ρ σ) D (.rt .non) st from h) F M H .non ((ExtS.of (.refl w.pre)).sub fun _ z => z.elim) w.r (by simp only [Rep])
def sDrop (g : GE τ) : GS τ := fun ρ st => thenE (g ρ st) ρ fun _ st => some (.nx ρ, st)
theorem evs_drop {te : TE} {g : GE τ} (h : EvD P R W te g) : EvS P R W (tDrop te) (sDrop g) := by
  intro F B M H σ ρ st w D hs
  refine h F B M H σ ρ st w _ (hs.thenE.mono (fun d st1 h1 F1 M1 H1 v E1 R1 r1 => ?_) fun x st1 z => EndK.kx w z)
  exact (show EndK P R W F M H (Own ρ σ) D (.nx ρ) st1 from h1) F1 B M1 H1 σ (.of E1) (w.ext E1 R1)
/-- target = e -/
def sAsg (t : D → Sl → Option Sl) (g : GE τ) : GS τ := fun ρ st => thenE (g ρ st) ρ fun d st => if borFree d = true then (t d ρ).map fun ρ' => (.nx ρ', st) else none
theorem evs_asg {vs : List Nat} {te : TE} {tg : TG} {t : D → Sl → Option Sl} {g : GE τ} (h : EvD P R W te g) (ht : TgD P R vs tg t) : EvS P R W (tAsg te tg) (sAsg t g) := by
  intro F B M H σ ρ st w D hs
  refine h F B M H σ ρ st w _ (hs.thenE.mono (fun d st1 h1 F1 M1 H1 v E1 R1 r1 => ?_) fun x st1 z => EndK.kx w z)
  obtain ⟨hb, h1⟩ := SatS.ite h1
  cases e : t d ρ with
  | none => rw [e] at h1; exact h1.elim
  | some ρ' =>
    rw [e] at h1
    exact ht F1 B M1 H1 σ ρ st1 d v ρ' (w.ext E1 R1) (r1.rep hb) e _ fun σ' w' _ _ ho =>
      (show EndK P R W F M H (Own ρ σ) D (.nx ρ') st1 from h1) F1 B M1 H1 σ' ((ExtS.of E1).sub ho) w'
/-- name = a new list that is owned from here on -/
def sOwn (i : Nat) (g : GI τ) : GS τ := fun ρ st => thenE (g ρ st) ρ fun ds st => if i < ρ.length then some (.nx (ρ.set i (.own ds)), st) else none
theorem evs_own {i : Nat} {te : TE} {g : GI τ} (h : EvN P R W te g) : EvS P R W (tAsg te (gName i)) (sOwn i g) := by
  intro F B M H σ ρ st w D hs
  refine h F B M H σ ρ st w _ (hs.thenE.mono (fun ds st1 h1 F1 M1 H1 a vs E1 R1 ha hf hm ho rs => ?_) fun x st1 z => EndK.kx w z)
  obtain ⟨hi, h1⟩ := SatS.ite h1
  have w1 := w.ext E1 R1
  have hB : B a = none := w.pre.b.none ha
  have sB : Same B (upd B a (.lst vs)) := same_updP hB
  have noA : ∀ (j : Nat) (s : SV), ρ[j]? = some s → s.isRef = true → σ[j]? ≠ some (some (.ref a)) := fun j s e1 e2 e3 => by
    obtain ⟨o, e4, so⟩ := w.slot e1
    rw [e3] at e4; cases e4
    cases s with
    | un => cases e2
    | val d => cases e2
    | own xs => obtain ⟨a', vs', e5, e6, _⟩ := so; cases e5; rw [hB] at e6; cases e6
    | bor xs => obtain ⟨a', vs', e5, e6, _⟩ := so; cases e5; rw [hB] at e6; cases e6
  have own_ref : ∀ {s : SV}, s.isOwn = true → s.isRef = true := fun {s} h => by cases s <;> first | rfl | cases h
  refine (show EndK P R W F M H (Own ρ σ) D (.nx (ρ.set i (.own ds))) st1 from h1) F1 (upd B a (.lst vs)) M1 H1 (σ.set i (some (.ref a))) ?_ ⟨⟨w1.pre.f, ?_, w1.pre.m, ?_, w1.pre.fm, ?_⟩, R1, by rw [List.length_set, List.length_set]; exact w.len, ?_, ?_⟩
  · refine ⟨E1.ff, E1.f, E1.m, E1.fm, fun b o h n _ => E1.keep b o h n, E1.there, fun b h n _ => E1.newF b h n, E1.newM, fun b ⟨j, xs, h1, h2⟩ hn => ?_⟩
    by_cases hj : i = j
    · subst hj
      have hl : i < σ.length := by rw [← w.len]; exact hi
      rw [List.getElem?_set_self hl] at h2
      cases h2
      exact absurd ha hn
    · rw [List.getElem?_set_ne hj] at h1 h2
      exact ⟨j, xs, h1, h2⟩
  · intro b o q
    by_cases hb : b = a
    · subst hb; rw [upd_same] at q; cases q; exact ho
    · rw [upd_ne hb] at q; exact w1.pre.b _ _ q
  · intro b
    by_cases hb : b = a
    · subst hb; exact .inl hf
    · rw [upd_ne hb]; exact w1.pre.fb b
  · intro b
    by_cases hb : b = a
    · subst hb; exact .inr hm
    · rw [upd_ne hb]; exact w1.pre.bm b
  · intro j s o h1 h2
    by_cases hj : i = j
    · subst hj
      have hl : i < σ.length := by rw [← w.len]; exact hi
      rw [List.getElem?_set_self hi] at h1
      rw [List.getElem?_set_self hl] at h2
      cases h1; cases h2
      exact ⟨a, vs, rfl, upd_same, rs⟩
    · rw [List.getElem?_set_ne hj] at h1 h2
      have so := w1.sl j s o h1 h2
      cases s with
      | un => trivial
      | val d => exact so
      | own xs => obtain ⟨a', vs', e, q, r⟩ := so; exact ⟨a', vs', e, sB _ _ q, r⟩
      | bor xs => obtain ⟨a', vs', e, q, r⟩ := so; exact ⟨a', vs', e, sB _ _ q, r⟩
  · intro j k s t b hjk h1 h2 hs ht e1
    have hl : i < σ.length := by rw [← w.len]; exact hi
    by_cases hj : i = j
    · subst hj
      rw [List.getElem?_set_self hl] at e1
      cases e1
      rw [List.getElem?_set_ne hjk] at h2 ⊢
      exact noA k t h2 ht
    · rw [List.getElem?_set_ne hj] at h1 e1
      by_cases hk : i = k
      · subst hk
        rw [List.getElem?_set_self hl]
        intro z
        cases z
        exact noA j s h1 (own_ref hs) e1
      · rw [List.getElem?_set_ne hk] at h2 ⊢
        exact w.dj j k s t b hjk h1 h2 hs ht e1
/-- an owned list is a value from here on -/
def fz (i : Nat) (ρ : Sl) : Sl :=
  match ρ[i]? with
  | some (.own xs) => ρ.set i (.val (.lst xs))
  | _ => ρ
def sFz (i : Nat) (g : GS τ) : GS τ := fun ρ st => g (fz i ρ) st
theorem WI.fz {F B M H : Hp} {σ : L2.St} {ρ : Sl} {st : τ} (w : WI P R F B M H σ ρ st) {i : Nat} {a : Addr} {vs : List V} {xs : List D} (hi : ρ[i]? = some (.own xs)) (ha : σ[i]? = some (some (.ref a))) (eb : B a = some (.lst vs)) (rs : Reps P F xs vs) :
    WI P R (upd F a (.lst vs)) (fun b => if b = a then none else B b) M H σ (ρ.set i (.val (.lst xs))) st ∧ ExtS F M H (Own ρ σ) (upd F a (.lst vs)) M H (Own (ρ.set i (.val (.lst xs))) σ) := by
  have hl : i < ρ.length := (List.getElem?_eq_some_iff.mp hi).1
  have hn : F a = none := (w.pre.fb a).resolve_right (ne_some eb)
  have hm : M a = none := (w.pre.bm a).resolve_left (ne_some eb)
  have sF : Same F (upd F a (.lst vs)) := same_updP hn
  have pf : Same (upd F a (.lst vs)) H := fun b o q => by
    by_cases hb : b = a
    · subst hb; rw [upd_same] at q; cases q; exact w.pre.b _ _ eb
    · rw [upd_ne hb] at q; exact w.pre.f _ _ q
  have pm : ∀ b, upd F a (.lst vs) b = none ∨ M b = none := fun b => by
    by_cases hb : b = a
    · subst hb; exact .inr hm
    · rw [upd_ne hb]; exact w.pre.fm b
  have sub : ∀ b, Own (ρ.set i (.val (.lst xs))) σ b → Own ρ σ b := fun b ⟨j, ys, h1, h2⟩ => by
    by_cases hj : i = j
    · subst hj; rw [List.getElem?_set_self hl] at h1; cases h1
    · rw [List.getElem?_set_ne hj] at h1; exact ⟨j, ys, h1, h2⟩
  refine ⟨⟨⟨pf, fun b o q => ?_, w.pre.m, fun b => ?_, pm, fun b => ?_⟩, w.r, by rw [List.length_set]; exact w.len, fun j s o h1 h2 => ?_, fun j k s t b hjk h1 h2 hs ht e => ?_⟩, ⟨sF, pf, w.pre.m, pm, fun b o h _ _ => h, fun b h => h, fun b h n z => ?_, fun b _ n => n, fun b h _ => sub b h⟩⟩
  · split at q
    · cases q
    · exact w.pre.b _ _ q
  · by_cases hb : b = a
    · right; rw [if_pos hb]
    · rw [upd_ne hb, if_neg hb]; exact w.pre.fb b
  · by_cases hb : b = a
    · left; rw [if_pos hb]
    · rw [if_neg hb]; exact w.pre.bm b
  · by_cases hj : i = j
    · subst hj
      rw [List.getElem?_set_self hl] at h1
      cases h1
      rw [ha] at h2; cases h2
      exact ⟨.ref a, rfl, by simp only [Rep]; exact ⟨a, vs, rfl, upd_same, rs.mono sF⟩⟩
    · rw [List.getElem?_set_ne hj] at h1
      have so := w.sl j s o h1 h2
      cases s with
      | un => trivial
      | val d => exact SlotOk.mono (s := .val d) sF so
      | own ys =>
        obtain ⟨a', vs', rfl, q, r⟩ := so
        have ne : a' ≠ a := fun z => w.dj i j _ _ a (fun z => hj z) hi h1 rfl rfl ha (by rw [h2, z])
        exact ⟨a', vs', rfl, (if_neg ne).trans q, r.mono sF⟩
      | bor ys =>
        obtain ⟨a', vs', rfl, q, r⟩ := so
        have ne : a' ≠ a := fun z => w.dj i j _ _ a (fun z => hj z) hi h1 rfl rfl ha (by rw [h2, z])
        exact ⟨a', vs', rfl, (if_neg ne).trans q, r.mono sF⟩
  · have hj : i ≠ j := fun z => by subst z; rw [List.getElem?_set_self hl] at h1; cases h1; cases hs
    have hk : i ≠ k := fun z => by subst z; rw [List.getElem?_set_self hl] at h2; cases h2; cases ht
    rw [List.getElem?_set_ne hj] at h1
    rw [List.getElem?_set_ne hk] at h2
    exact w.dj j k s t b hjk h1 h2 hs ht e
  · have hb : b ≠ a := fun q => z (by rw [q]; exact ⟨i, xs, hi, ha⟩)
    rw [upd_ne hb]; exact n
theorem evs_fz {i : Nat} {ts : TS} {g : GS τ} (h : EvS P R W ts g) : EvS P R W ts (sFz i g) := by
  intro F B M H σ ρ st w D hs
  unfold sFz PD.fz at hs
  cases e : ρ[i]? with
  | none => rw [e] at hs; exact h F B M H σ ρ st w D hs
  | some s =>
    rw [e] at hs
    cases s with
    | own xs =>
      obtain ⟨o, e2, a, vs, rfl, eb, rs⟩ := w.slot e
      obtain ⟨w', es⟩ := w.fz e e2 eb rs
      exact h _ _ M H σ _ st w' D (SatS.mono hs fun f st1 q => q.trans es)
    | un => exact h F B M H σ ρ st w D hs
    | val d => exact h F B M H σ ρ st w D hs
    | bor d => exact h F B M H σ ρ st w D hs
end
end PD

namespace PD
open PySem PySem.Spec PyProof.Rows L2
section
variable {τ : Type} {P : Pm} {R : τ → Hp → Prop} {W : WX}
/-! ### loops -/
def sForGo (t : D → Sl → Option Sl) (body : GS τ) : List D → Sl → τ → RS τ
  | [], ρ, st => some (.nx ρ, st)
  | d :: ds, ρ, st =>
    match t d ρ with
    | none => none
    | some ρ1 =>
      match body ρ1 st with
      | some (.nx ρ2, st2) => sForGo t body ds ρ2 st2
      | some (.ct ρ2, st2) => sForGo t body ds ρ2 st2
      | some (.bk ρ2, st2) => some (.nx ρ2, st2)
      | r => r
def sFor (gi : GI τ) (t : D → Sl → Option Sl) (body : GS τ) : GS τ := fun ρ st => thenE (gi ρ st) ρ fun ds st => sForGo t body ds ρ st
theorem evs_for {vs : List Nat} {wi : TI} {g : TG} {tb : TS} {gi : GI τ} {t : D → Sl → Option Sl} {body : GS τ} (hi : EvJ P R W wi gi) (ht : TgD P R vs g t) (hb : EvS P R W tb body) : EvS P R W (tFor wi g tb) (sFor gi t body) := by
  intro F B M H σ ρ st w D hs
  refine hi F B M H σ ρ st w _ (hs.thenE.mono (fun ds st1 h1 F1 M1 H1 J E1 R1 ok => ?_) fun x st1 z => EndK.kx w z)
  have w1 := w.ext E1 R1
  refine ⟨fun i m σ2 H2 => m = ds.length - i ∧ i ≤ ds.length ∧ ∃ F2 B2 M2 ρ2 st2, ExtS F1 M1 H1 (Own ρ σ) F2 M2 H2 (Own ρ2 σ2) ∧ WI P R F2 B2 M2 H2 σ2 ρ2 st2 ∧ SatS (sForGo t body (ds.drop i) ρ2 st2) (EndK P R W F M H (Own ρ σ) D), ⟨_, rfl, Nat.zero_le _, F1, B, M1, ρ, st1, .of (.refl w1.pre), w1, h1⟩, ?_⟩
  rintro i m σ2 H2 ⟨rfl, hi, F2, B2, M2, ρ2, st2, E2, w2, sat⟩
  have hnone : Same (fun _ => none) H2 := fun _ _ z => nomatch z
  have base : ExtS F M H (Own ρ σ) F1 M1 H1 (Own ρ σ) := .of E1
  by_cases hlt : i < ds.length
  · have hdrop : ds.drop i = ds[i] :: ds.drop (i + 1) := List.drop_eq_getElem_cons hlt
    rw [hdrop] at sat
    refine .inr ⟨ok.go i H2 (E2.ff.trans E2.f) hnone hlt, fun σ' H' => i + 1 ≤ ds.length ∧ ∃ F2 B2 M2 ρ2 st2, ExtS F1 M1 H1 (Own ρ σ) F2 M2 H' (Own ρ2 σ') ∧ WI P R F2 B2 M2 H' σ' ρ2 st2 ∧ SatS (sForGo t body (ds.drop (i + 1)) ρ2 st2) (EndK P R W F M H (Own ρ σ) D), fun σ' H' ⟨hl, q⟩ => ⟨ds.length - (i + 1), by omega, rfl, hl, q⟩, fun x H' y => ?_⟩
    obtain ⟨d, F3, hd, E3, r3⟩ := ok.yld i F2 B2 M2 H2 x H' hlt w2.pre E2.ff hnone y
    rw [List.getElem?_eq_getElem hlt] at hd
    cases hd
    have w3 := w2.ext E3 w2.r
    unfold sForGo at sat
    cases e : t ds[i] ρ2 with
    | none => rw [e] at sat; exact sat.elim
    | some ρ3 =>
      rw [e] at sat
      refine ht F3 B2 M2 H' σ2 ρ2 st2 _ x ρ3 w3 r3 e _ fun σ4 w4 l4 o4 own4 => ?_
      have E4 : ExtS F1 M1 H1 (Own ρ σ) F3 M2 H' (Own ρ3 σ4) := E2.trans ((ExtS.of E3).sub own4)
      refine hb F3 B2 M2 H' σ4 ρ3 st2 w4 _ ?_
      cases e5 : body ρ3 st2 with
      | none =>
        have sat : SatS (match body ρ3 st2 with | some (.nx ρ2, st2) => sForGo t body (ds.drop (i + 1)) ρ2 st2 | some (.ct ρ2, st2) => sForGo t body (ds.drop (i + 1)) ρ2 st2 | some (.bk ρ2, st2) => some (.nx ρ2, st2) | r => r) (EndK P R W F M H (Own ρ σ) D) := sat
        rw [e5] at sat; exact sat.elim
      | some p =>
        obtain ⟨f, st5⟩ := p
        have sat : SatS (match body ρ3 st2 with | some (.nx ρ2, st2) => sForGo t body (ds.drop (i + 1)) ρ2 st2 | some (.ct ρ2, st2) => sForGo t body (ds.drop (i + 1)) ρ2 st2 | some (.bk ρ2, st2) => some (.nx ρ2, st2) | r => r) (EndK P R W F M H (Own ρ σ) D) := sat
        rw [e5] at sat
        cases f with
        | nx ρ5 => exact fun F6 B6 M6 H6 σ6 E6 w6 => ⟨hlt, F6, B6, M6, ρ5, st5, E4.trans E6, w6, sat⟩
        | ct ρ5 => exact fun F6 B6 M6 H6 σ6 E6 w6 => ⟨hlt, F6, B6, M6, ρ5, st5, E4.trans E6, w6, sat⟩
        | bk ρ5 => exact fun F6 B6 M6 H6 σ6 E6 w6 => (show EndK P R W F M H (Own ρ σ) D (.nx ρ5) st5 from sat) F6 B6 M6 H6 σ6 ((base.trans E4).trans E6) w6
        | rt d => (have q := EndK.trans (W := W) (D := D) (f := .rt d) sat (base.trans E4)); exact q
        | rn d => (have q := EndK.trans (W := W) (D := D) (f := .rn d) sat (base.trans E4)); exact q
        | ex x ρ5 => (have q := EndK.trans (W := W) (D := D) (f := .ex x ρ5) sat (base.trans E4)); exact q
  · have hn : ds.drop i = [] := List.drop_eq_nil_of_le (by omega)
    rw [hn] at sat
    refine .inl ⟨ok.stop i H2 (E2.ff.trans E2.f) hnone (by omega), ?_⟩
    exact (show EndK P R W F M H (Own ρ σ) D (.nx ρ2) st2 from sat) F2 B2 M2 H2 σ2 (base.trans E2) w2
def sWhile (t : GT τ) (body : GS τ) : Nat → GS τ
  | 0, _, _ => none
  | n + 1, ρ, st => thenE (t ρ st) ρ fun c st1 => if c = true then
      match body ρ st1 with
      | some (.nx ρ2, st2) => sWhile t body n ρ2 st2
      | some (.ct ρ2, st2) => sWhile t body n ρ2 st2
      | some (.bk ρ2, st2) => some (.nx ρ2, st2)
      | r => r
    else some (.nx ρ, st1)
theorem evs_while {n : Nat} {tc : TT} {tb : TS} {g : GT τ} {body : GS τ} (hc : EvT P R W tc g) (hb : EvS P R W tb body) : EvS P R W (tWhile tc tb) (sWhile g body n) := by
  intro F B M H σ ρ st w D hs
  refine ⟨fun m σ2 H2 => ∃ F2 B2 M2 ρ2 st2, ExtS F M H (Own ρ σ) F2 M2 H2 (Own ρ2 σ2) ∧ WI P R F2 B2 M2 H2 σ2 ρ2 st2 ∧ SatS (sWhile g body m ρ2 st2) (EndK P R W F M H (Own ρ σ) D), ⟨n, F, B, M, ρ, st, .of (.refl w.pre), w, hs⟩, ?_⟩
  rintro m σ2 H2 ⟨F2, B2, M2, ρ2, st2, E2, w2, sat⟩
  cases m with
  | zero => exact sat.elim
  | succ m =>
    refine hc F2 B2 M2 H2 σ2 ρ2 st2 w2 _ (sat.thenE.mono (fun c st3 h3 F3 M3 H3 E3 R3 => ?_) fun x st3 z => EndK.kx w2 (EndK.trans z E2))
    have w3 := w2.ext E3 R3
    have E3' := E2.trans (ExtS.of E3)
    cases c with
    | false =>
      rw [if_neg Bool.false_ne_true] at h3
      exact iteF ((show EndK P R W F M H (Own ρ σ) D (.nx ρ2) st3 from h3) F3 B2 M3 H3 σ2 E3' w3)
    | true =>
      rw [if_pos rfl] at h3
      refine iteT ⟨fun σ' H' => ∃ F2 B2 M2 ρ2 st2, ExtS F M H (Own ρ σ) F2 M2 H' (Own ρ2 σ') ∧ WI P R F2 B2 M2 H' σ' ρ2 st2 ∧ SatS (sWhile g body m ρ2 st2) (EndK P R W F M H (Own ρ σ) D), fun σ' H' q => ⟨m, Nat.lt_succ_self m, q⟩, hb F3 B2 M3 H3 σ2 ρ2 st3 w3 _ ?_⟩
      cases e5 : body ρ2 st3 with
      | none => rw [e5] at h3; exact h3.elim
      | some p =>
        obtain ⟨f, st5⟩ := p
        rw [e5] at h3
        cases f with
        | nx ρ5 => exact fun F6 B6 M6 H6 σ6 E6 w6 => ⟨F6, B6, M6, ρ5, st5, E3'.trans E6, w6, h3⟩
        | ct ρ5 => exact fun F6 B6 M6 H6 σ6 E6 w6 => ⟨F6, B6, M6, ρ5, st5, E3'.trans E6, w6, h3⟩
        | bk ρ5 => exact fun F6 B6 M6 H6 σ6 E6 w6 => (show EndK P R W F M H (Own ρ σ) D (.nx ρ5) st5 from h3) F6 B6 M6 H6 σ6 (E3'.trans E6) w6
        | rt d => (have q := EndK.trans (W := W) (D := D) (f := .rt d) h3 E3'); exact q
        | rn d => (have q := EndK.trans (W := W) (D := D) (f := .rn d) h3 E3'); exact q
        | ex x ρ5 => (have q := EndK.trans (W := W) (D := D) (f := .ex x ρ5) h3 E3'); exact q

/-! ### what changes an owned list -/
def ownOf : Option SV → Option (List D)
  | some (.own xs) => some xs
  | _ => none
theorem ownOf_some {s : Option SV} {xs : List D} (h : ownOf s = some xs) : s = some (.own xs) := by
  match s, h with
  | some (.own _), h => cases h; rfl
theorem WI.mut {F B M H : Hp} {σ : L2.St} {ρ : Sl} {st : τ} (w : WI P R F B M H σ ρ st) {i : Nat} {a : Addr} {xs : List D} (hi : ρ[i]? = some (.own xs)) (ha : σ[i]? = some (some (.ref a))) {ws : List V} {ys : List D} {vs0 : List V} (eb : B a = some (.lst vs0)) (rs : Reps P F ys ws) :
    WI P R F (upd B a (.lst ws)) M (upd H a (.lst ws)) σ (ρ.set i (.own ys)) st ∧ ExtS F M H (Own ρ σ) F M (upd H a (.lst ws)) (Own (ρ.set i (.own ys)) σ) := by
  have hl : i < ρ.length := (List.getElem?_eq_some_iff.mp hi).1
  have hn : F a = none := (w.pre.fb a).resolve_right (ne_some eb)
  have hm : M a = none := (w.pre.bm a).resolve_left (ne_some eb)
  have pf : Same F (upd H a (.lst ws)) := fun b o q => by rw [upd_ne (ne_of_none q hn)]; exact w.pre.f _ _ q
  have pm : Same M (upd H a (.lst ws)) := fun b o q => by rw [upd_ne (ne_of_none q hm)]; exact w.pre.m _ _ q
  have sub : ∀ b, Own (ρ.set i (.own ys)) σ b → Own ρ σ b := fun b ⟨j, zs, h1, h2⟩ => by
    by_cases hj : i = j
    · subst hj; exact ⟨i, xs, hi, h2⟩
    · rw [List.getElem?_set_ne hj] at h1; exact ⟨j, zs, h1, h2⟩
  refine ⟨⟨⟨pf, fun b o q => ?_, pm, fun b => ?_, w.pre.fm, fun b => ?_⟩, w.r, by rw [List.length_set]; exact w.len, fun j s o h1 h2 => ?_, fun j k s t b hjk h1 h2 hs ht e => ?_⟩, ⟨.refl F, pf, pm, w.pre.fm, fun b o h _ z => ?_, fun b h => ?_, fun b h n z => n, fun b _ n => n, fun b h _ => sub b h⟩⟩
  · by_cases hb : b = a
    · subst hb; rw [upd_same] at q ⊢; exact q
    · rw [upd_ne hb] at q ⊢; exact w.pre.b _ _ q
  · by_cases hb : b = a
    · subst hb; exact .inl hn
    · rw [upd_ne hb]; exact w.pre.fb b
  · by_cases hb : b = a
    · subst hb; exact .inr hm
    · rw [upd_ne hb]; exact w.pre.bm b
  · by_cases hj : i = j
    · subst hj
      rw [List.getElem?_set_self hl] at h1
      cases h1
      rw [ha] at h2; cases h2
      exact ⟨a, ws, rfl, upd_same, rs⟩
    · rw [List.getElem?_set_ne hj] at h1
      have so := w.sl j s o h1 h2
      cases s with
      | un => trivial
      | val d => exact so
      | own zs =>
        obtain ⟨a', vs', rfl, q, r⟩ := so
        have ne : a' ≠ a := fun z => w.dj i j _ _ a (fun z => hj z) hi h1 rfl rfl ha (by rw [h2, z])
        exact ⟨a', vs', rfl, by rw [upd_ne ne]; exact q, r⟩
      | bor zs =>
        obtain ⟨a', vs', rfl, q, r⟩ := so
        have ne : a' ≠ a := fun z => w.dj i j _ _ a (fun z => hj z) hi h1 rfl rfl ha (by rw [h2, z])
        exact ⟨a', vs', rfl, by rw [upd_ne ne]; exact q, r⟩
  · by_cases hj : i = j
    · subst hj
      have hk : ¬ i = k := hjk
      rw [List.getElem?_set_ne hk] at h2
      exact w.dj i k (.own xs) t b hjk hi h2 rfl ht e
    · rw [List.getElem?_set_ne hj] at h1
      by_cases hk : i = k
      · subst hk
        exact w.dj j i s (.own xs) b hjk h1 hi hs rfl e
      · rw [List.getElem?_set_ne hk] at h2
        exact w.dj j k s t b hjk h1 h2 hs ht e
  · have hb : b ≠ a := fun q => z (by rw [q]; exact ⟨i, xs, hi, ha⟩)
    rw [upd_ne hb]; exact h
  · by_cases hb : b = a
    · subst hb; rw [upd_same]; exact nofun
    · rw [upd_ne hb]; exact h
theorem WI.own {F B M H : Hp} {σ : L2.St} {ρ : Sl} {st : τ} (w : WI P R F B M H σ ρ st) {i : Nat} {xs : List D} (h : ρ[i]? = some (.own xs)) : ∃ a vs, σ[i]? = some (some (.ref a)) ∧ B a = some (.lst vs) ∧ H a = some (.lst vs) ∧ Reps P F xs vs := by
  obtain ⟨o, e2, a, vs, rfl, eb, rs⟩ := w.slot h
  exact ⟨a, vs, e2, eb, w.pre.b _ _ eb, rs⟩
/-- xs.append(e), xs in slot i -/
def sApp (i : Nat) (g : GE τ) : GS τ := fun ρ st => if (ownOf ρ[i]?).isSome = true then thenE (g ρ st) ρ fun d st =>
    match ownOf ρ[i]? with
    | some xs => if borFree d = true ∧ xs.length < line then some (.nx (ρ.set i (.own (xs ++ [d]))), st) else none
    | none => none
  else none
theorem evs_app {i : Nat} {te : TE} {g : GE τ} (h : EvD P R W te g) : EvS P R W (tDrop (tBM P.K "list" rAppend (tVar i) (tCons te tNil))) (sApp i g) := by
  intro F B M H σ ρ st w D hs
  obtain ⟨ho, hs⟩ := SatS.ite hs
  obtain ⟨xs, e⟩ := Option.isSome_iff_exists.mp ho
  have hi := ownOf_some e
  obtain ⟨a, vs, ha, eb, eh, rs⟩ := w.own hi
  refine ⟨.ref a, ha, .inl ⟨rfl, vs, .of eh⟩, h F B M H σ ρ st w _ (hs.thenE.mono (fun d st1 h1 F1 M1 H1 v E1 R1 r1 => ?_) fun x st1 z => EndK.kx w z)⟩
  rw [e] at h1
  obtain ⟨⟨bf, hl⟩, h1⟩ := SatS.ite h1
  have w1 := w.ext E1 R1
  have rs1 := rs.mono E1.ff
  obtain ⟨w2, E2⟩ := w1.mut (ws := vs ++ [v]) (ys := xs ++ [d]) hi ha eb (rs1.append (.one (r1.rep bf)))
  refine ⟨a, vs, v, rfl, rfl, w1.pre.b _ _ eb, by rw [line_eq, ← rs.length]; exact hl, ?_⟩
  exact (show EndK P R W F M H (Own ρ σ) D (.nx (ρ.set i (.own (xs ++ [d])))) st1 from h1) F1 _ M1 _ σ ((ExtS.of E1).trans E2) w2
/-- xs.append(ys.pop(e)) -/
def sAppPop (i j : Nat) (g : GE τ) : GS τ := fun ρ st => if ((ownOf ρ[i]?).isSome = true ∧ (ownOf ρ[j]?).isSome = true) ∧ i ≠ j then thenE (g ρ st) ρ fun d st =>
    match ownOf ρ[i]?, ownOf ρ[j]?, intOf d with
    | some xs, some ys, some k => if xs.length < line ∧ 0 ≤ k ∧ k < 2 ^ 63 then
        match ys[k.toNat]? with
        | some y => some (.nx ((ρ.set j (.own (ys.eraseIdx k.toNat))).set i (.own (xs ++ [y]))), st)
        | none => none
      else none
    | _, _, _ => none
  else none
theorem evs_appPop {i j : Nat} {te : TE} {g : GE τ} (h : EvD P R W te g) :
    EvS P R W (tDrop (tBM P.K "list" rAppend (tVar i) (tCons (tBM P.K "list" rPopAt (tVar j) (tCons te tNil)) tNil))) (sAppPop i j g) := by
  intro F B M H σ ρ st w D hs
  obtain ⟨⟨⟨ho, hp⟩, hij⟩, hs⟩ := SatS.ite hs
  obtain ⟨xs, e⟩ := Option.isSome_iff_exists.mp ho
  obtain ⟨ys, e'⟩ := Option.isSome_iff_exists.mp hp
  have hi := ownOf_some e
  have hj := ownOf_some e'
  obtain ⟨a, vs, ha, eb, eh, rs⟩ := w.own hi
  obtain ⟨b, ws, hb, ebb, ehb, rsb⟩ := w.own hj
  refine ⟨.ref a, ha, .inl ⟨rfl, vs, .of eh⟩, .ref b, hb, .inl ⟨rfl, ws, .of ehb⟩, h F B M H σ ρ st w _ (hs.thenE.mono (fun d st1 h1 F1 M1 H1 v E1 R1 r1 => ?_) fun x st1 z => EndK.kx w z)⟩
  rw [e, e'] at h1
  cases d
  case int k =>
    simp only [intOf] at h1
    obtain ⟨⟨hl, k0, k1⟩, h1⟩ := SatS.ite h1
    have : v = .int k := r1
    subst this
    cases ey : ys[k.toNat]? with
    | none => rw [ey] at h1; exact h1.elim
    | some y =>
      rw [ey] at h1
      have w1 := w.ext E1 R1
      have rsb1 := rsb.mono E1.ff
      obtain ⟨u, eu, ru⟩ := rsb1.get ey
      have hlen : k.toNat < ws.length := (List.getElem?_eq_some_iff.mp eu).1
      have hk : seqIndex? k ws.length = some k.toNat := PySem.seqIndex_of k0 (by omega)
      obtain ⟨w2, E2⟩ := w1.mut (ws := ws.eraseIdx k.toNat) (ys := ys.eraseIdx k.toNat) hj hb ebb (rsb1.eraseIdx _)
      have hi2 : (ρ.set j (.own (ys.eraseIdx k.toNat)))[i]? = some (.own xs) := by rw [List.getElem?_set_ne (fun z => hij z.symm)]; exact hi
      have nab : a ≠ b := fun z => w.dj i j _ _ a hij hi hj rfl rfl ha (by rw [hb, z])
      have eb2 : upd B b (.lst (ws.eraseIdx k.toNat)) a = some (.lst vs) := by rw [upd_ne nab]; exact eb
      obtain ⟨w3, E3⟩ := w2.mut (ws := vs ++ [u]) (ys := xs ++ [y]) hi2 ha eb2 ((rs.mono E1.ff).append (.one ru))
      refine ⟨b, ws, k, k.toNat, u, rfl, rfl, w1.pre.b _ _ ebb, by omega, k1, hk, eu, a, vs, u, rfl, rfl, ?_, by rw [line_eq, ← rs.length]; exact hl, ?_⟩
      · rw [upd_ne nab]; exact w1.pre.b _ _ eb
      · exact (show EndK P R W F M H (Own ρ σ) D (.nx _) st1 from h1) F1 _ M1 _ σ (((ExtS.of E1).trans E2).trans E3) w3
  all_goals exact (show False from h1).elim
/-- xs[e1] = e2, xs in slot i -/
def sPut (i : Nat) (gv gk : GE τ) : GS τ := fun ρ st => if (ownOf ρ[i]?).isSome = true then thenE (gv ρ st) ρ fun d st => thenE (gk ρ st) ρ fun k st =>
    match ownOf ρ[i]?, intOf k with
    | some xs, some k => if borFree d = true then
        match ixN xs.length k with
        | some j => some (.nx (ρ.set i (.own (xs.set j d))), st)
        | none => none
      else none
    | _, _ => none
  else none
theorem evs_put {i : Nat} {tv tk : TE} {gv gk : GE τ} (hv : EvD P R W tv gv) (hk : EvD P R W tk gk) : EvS P R W (tAsg tv (gSub (tVar i) tk rSetL)) (sPut i gv gk) := by
  intro F B M H σ ρ st w D hs
  obtain ⟨ho, hs⟩ := SatS.ite hs
  obtain ⟨xs, e⟩ := Option.isSome_iff_exists.mp ho
  have hi := ownOf_some e
  obtain ⟨a, vs, ha, eb, eh, rs⟩ := w.own hi
  refine hv F B M H σ ρ st w _ (hs.thenE.mono (fun d st1 h1 F1 M1 H1 v E1 R1 r1 => ?_) fun x st1 z => EndK.kx w z)
  have w1 := w.ext E1 R1
  refine ⟨.ref a, ha, hk F1 B M1 H1 σ ρ st1 w1 _ (SatS.thenE h1 |>.mono (fun k st2 h2 F2 M2 H2 u E2 R2 r2 => ?_) fun x st1 z => EndK.kx w1 (EndK.trans z (.of E1)))⟩
  rw [e] at h2
  cases k
  case int k =>
    simp only [intOf] at h2
    obtain ⟨bf, h2⟩ := SatS.ite h2
    have : u = .int k := r2
    subst this
    cases ej : ixN xs.length k with
    | none => rw [ej] at h2; exact h2.elim
    | some j =>
      rw [ej] at h2
      have w2 := w1.ext E2 R2
      have rs2 := (rs.mono E1.ff).mono E2.ff
      obtain ⟨w3, E3⟩ := w2.mut (ws := vs.set j v) (ys := xs.set j d) hi ha eb (Reps.set ((r1.rep bf).mono E2.ff) j rs2)
      refine ⟨a, vs, k, j, rfl, rfl, w2.pre.b _ _ eb, by rw [← rs.length]; exact ej, ?_⟩
      exact (show EndK P R W F M H (Own ρ σ) D (.nx _) st2 from h2) F2 _ M2 _ σ (((ExtS.of E1).trans (.of E2)).trans E3) w3
  all_goals exact (show False from h2).elim

/-! ### defs -/
/-- n arguments; m says what comes back; the state stands somewhere (sa) -/
def spD (K : PySem.W.Frag) (mg : Str → Option Value) (Rf : Addr → τ → Hp → Prop) (n : Nat) (m : List D → τ → Res τ D) : Sp := fun vs H Q E => vs.length = n ∧ ∃ sa F B M ds st, Pre F B M H ∧ Rf sa st M ∧ RepBs ⟨K, mg, sa⟩ F B ds vs ∧
  Sat (m ds st) (fun d st' => ∀ F' M' H' v, Ext F M H F' M' H' → Rf sa st' M' → Rep ⟨K, mg, sa⟩ F' d v → Q v H') (fun x st' => ∀ F' M' H' c dd, Ext F M H F' M' H' → Rf sa st' M' → XRep ⟨K, mg, sa⟩ F' x c dd H' → E c dd H')
/-- the same, the result a new list that nobody else knows -/
def spN (K : PySem.W.Frag) (mg : Str → Option Value) (Rf : Addr → τ → Hp → Prop) (n : Nat) (m : List D → τ → Res τ (List D)) : Sp := fun vs H Q E => vs.length = n ∧ ∃ sa F B M ds st, Pre F B M H ∧ Rf sa st M ∧ RepBs ⟨K, mg, sa⟩ F B ds vs ∧
  Sat (m ds st) (fun ds st' => ∀ F' M' H' a vs, Ext F M H F' M' H' → Rf sa st' M' → H a = none → F' a = none → M' a = none → H' a = some (.lst vs) → Reps ⟨K, mg, sa⟩ F' ds vs → Q (.ref a) H')
    (fun x st' => ∀ F' M' H' c dd, Ext F M H F' M' H' → Rf sa st' M' → XRep ⟨K, mg, sa⟩ F' x c dd H' → E c dd H')
def gCall (m : List D → τ → Res τ D) (a : GA τ) : GE τ := fun ρ st => (a ρ st).bind m
def gCallN (m : List D → τ → Res τ (List D)) (a : GA τ) : GI τ := fun ρ st => (a ρ st).bind m
theorem evd_call {Rf : Addr → τ → Hp → Prop} {n : Nat} {m : List D → τ → Res τ D} {ta : TA} {a : GA τ} (hl : ∀ ρ st ds st', a ρ st = .ok ds st' → ds.length = n) (ha : EvA P (Rf P.sa) W ta a) : EvD P (Rf P.sa) W (tCallS (spD P.K P.mg Rf n m) (WE W) ta) (gCall m a) := by
  intro F B M H σ ρ st w Q hs
  have hs := Sat.bind hs
  have q := ha F B M H σ ρ st w
  cases e : a ρ st with
  | stuck => rw [e] at hs; exact hs.elim
  | err x st1 => rw [e] at hs q; exact q _ hs
  | ok ds st1 =>
    rw [e] at hs q
    refine q _ fun F1 M1 H1 vs E1 R1 rs => ⟨by rw [← rs.length]; exact hl ρ st ds st1 e, P.sa, F1, B, M1, ds, st1, w.pre.ext E1, R1, rs, ?_⟩
    exact (show Sat (m ds st1) _ _ from hs).mono (fun d st2 h2 F' M' H' v E r r2 => h2 F' M' H' v (E1.trans E) r r2.b) fun x st2 h2 F' M' H' c dd E r x => h2 F' M' H' c dd (E1.trans E) r x
theorem evn_call {Rf : Addr → τ → Hp → Prop} {n : Nat} {m : List D → τ → Res τ (List D)} {ta : TA} {a : GA τ} (hl : ∀ ρ st ds st', a ρ st = .ok ds st' → ds.length = n) (ha : EvA P (Rf P.sa) W ta a) : EvN P (Rf P.sa) W (tCallS (spN P.K P.mg Rf n m) (WE W) ta) (gCallN m a) := by
  intro F B M H σ ρ st w Q hs
  have hs := Sat.bind hs
  have q := ha F B M H σ ρ st w
  cases e : a ρ st with
  | stuck => rw [e] at hs; exact hs.elim
  | err x st1 => rw [e] at hs q; exact q _ hs
  | ok ds st1 =>
    rw [e] at hs q
    refine q _ fun F1 M1 H1 vs E1 R1 rs => ⟨by rw [← rs.length]; exact hl ρ st ds st1 e, P.sa, F1, B, M1, ds, st1, w.pre.ext E1, R1, rs, ?_⟩
    refine (show Sat (m ds st1) _ _ from hs).mono (fun d st2 h2 F' M' H' a vs E r ha hf hm ho rs => h2 F' M' H' a vs (E1.trans E) r ?_ hf hm ho rs) fun x st2 h2 F' M' H' c dd E r x => h2 F' M' H' c dd (E1.trans E) r x
    cases q : H a with
    | none => rfl
    | some o => exact absurd ha (E1.there a (ne_some q))
theorem gCons_len {n : Nat} {g : GE τ} {r : GA τ} (h : ∀ ρ st ds st', r ρ st = .ok ds st' → ds.length = n) : ∀ ρ st ds st', gCons g r ρ st = .ok ds st' → ds.length = n + 1 := by
  intro ρ st ds st' e
  unfold gCons at e
  cases e1 : g ρ st with
  | stuck => rw [e1] at e; cases e
  | err x st1 => rw [e1] at e; cases e
  | ok d st1 =>
    rw [e1] at e
    have e : (r ρ st1).bind (fun ds st => .ok (d :: ds) st) = .ok ds st' := e
    cases e2 : r ρ st1 with
    | stuck => rw [e2] at e; cases e
    | err x st2 => rw [e2] at e; cases e
    | ok es st2 =>
      rw [e2] at e
      cases e
      rw [List.length_cons, h _ _ _ _ e2]
theorem gNil_len : ∀ (ρ : Sl) (st : τ) ds st', gNil ρ st = .ok ds st' → ds.length = 0 := by
  intro ρ st ds st' e
  cases e; rfl
def slOf : D → SV
  | .bor xs => .bor xs
  | d => .val d
/-- a def's body as a function of its arguments: N slots in all -/
def gFn (N : Nat) (g : GS τ) : List D → τ → Res τ D := fun ds st =>
  match g (ds.map slOf ++ List.replicate (N - ds.length) .un) st with
  | some (.rt d, st') => .ok d st'
  | some (.rn xs, st') => .ok (.lst xs) st'
  | some (.nx _, st') => .ok .non st'
  | some (.ex x _, st') => .err x st'
  | _ => .stuck
def gFnN (N : Nat) (g : GS τ) : List D → τ → Res τ (List D) := fun ds st =>
  match g (ds.map slOf ++ List.replicate (N - ds.length) .un) st with
  | some (.rn xs, st') => .ok xs st'
  | some (.ex x _, st') => .err x st'
  | _ => .stuck
theorem wi_start {F B M H : Hp} {N : List Str} {ds : List D} {vs : List V} {st : τ} (p : Pre F B M H) (r : R st M) (rs : RepBs P F B ds vs) (hn : ds.length ≤ N.length) :
    WI P R F B M H (L2.start N vs) (ds.map slOf ++ List.replicate (N.length - ds.length) .un) st := by
  have hlen := rs.length
  have get : ∀ {ds : List D} {vs : List V} (i : Nat) (d : D), RepBs P F B ds vs → ds[i]? = some d → ∃ v, vs[i]? = some v ∧ RepB P F B d v := by
    intro ds
    induction ds with
    | nil => intro vs i d _ h; simp at h
    | cons x ds ih =>
      intro vs i d ⟨v, ws, e, r, rs⟩ h
      subst e
      cases i with
      | zero => simp at h; subst h; exact ⟨v, rfl, r⟩
      | succ i => simpa using ih i d rs (by simpa using h)
  have noOwn : ∀ (i : Nat) (s : SV), (ds.map slOf ++ List.replicate (N.length - ds.length) .un)[i]? = some s → s.isOwn = false := by
    intro i s h
    have hm := List.mem_of_getElem? h
    rcases List.mem_append.mp hm with hm | hm
    · obtain ⟨d, _, rfl⟩ := List.mem_map.mp hm
      cases d <;> rfl
    · rw [List.eq_of_mem_replicate hm]; rfl
  refine ⟨p, r, ?_, fun i s o h1 h2 => ?_, fun i j s t a hij h1 h2 ho _ _ => ?_⟩
  · unfold L2.start
    simp only [List.length_append, List.length_map, List.length_replicate]
    omega
  · by_cases hi : i < ds.length
    · rw [List.getElem?_append_left (by simpa using hi), List.getElem?_map] at h1
      obtain ⟨d, e1⟩ : ∃ d, ds[i]? = some d := ⟨_, List.getElem?_eq_getElem hi⟩
      rw [e1] at h1
      cases h1
      obtain ⟨v, e2, r2⟩ := get i d rs e1
      unfold L2.start at h2
      rw [List.getElem?_append_left (by rw [List.length_map]; omega), List.getElem?_map, e2] at h2
      cases h2
      cases d
      case bor xs =>
        obtain ⟨a, ws, rfl, q, rr⟩ := r2
        exact ⟨a, ws, rfl, q, rr⟩
      all_goals exact ⟨v, rfl, r2⟩
    · rw [List.getElem?_append_right (by simpa using hi), List.getElem?_replicate] at h1
      split at h1
      · cases h1; trivial
      · cases h1
  · rw [noOwn i s h1] at ho; cases ho
end
section
variable {τ : Type} {K : PySem.W.Frag} {mg : Str → Option Value} {Rf : Addr → τ → Hp → Prop}
/-- THE RULE for a def: its body's term, and what that term comes to -/
theorem fn_d {Pr : Program} {w : World} {base : Heap} {x qual : Str} {stm : Stmt} {f : Addr} {fd : FuncData} {N ps : List Str} {k n : Nat} {g : GS τ} (F : Fun K x qual stm f fd) (S : FnScope N ps (defScope stm)) (hn : ps.length = n) (hN : n ≤ N.length)
    (hbody : ∀ (sa : Addr) (cdv : Value) (A : Around) (outer : List Env) (s : Shared) (H : Hp) (E : XK), Room k (A.deeper (envOfC qual (defScope stm) s.heap.objs.size f cdv)) →
      ∃ t, PSs (cxOf (L2.CX Pr w) Pr w K mg base N qual (defScope stm) f cdv A outer s H E) (defBody stm) t ∧ EvS ⟨K, mg, sa⟩ (Rf sa) (fun c d _ H' => E c d H') t g) :
    FnOk Pr w K mg base (L2.CX Pr w) (k + 1) f fd ps (spD K mg Rf n (gFn N.length g)) := by
  refine F.okX S (fun vs H Q E h => by rw [hn]; exact h.1) (fun cdv A outer s H vs Q E hr h => ?_)
  obtain ⟨hv, sa, F0, B, M, ds, st, p, r, rs, sat⟩ := h
  obtain ⟨t, ht, hev⟩ := hbody sa cdv A outer s H E hr
  have hl : ds.length = n := by rw [rs.length]; exact hv
  refine ⟨t, ht, hev F0 B M H _ _ st (wi_start p r rs (by rw [hl]; exact hN)) _ ?_⟩
  have own0 : ∀ a, ¬ Own (ds.map slOf ++ List.replicate (N.length - ds.length) .un) (L2.start N vs) a := fun a ⟨i, xs, h1, _⟩ => by
    have hm := List.mem_of_getElem? h1
    rcases List.mem_append.mp hm with hm | hm
    · obtain ⟨d, _, e⟩ := List.mem_map.mp hm
      cases d <;> cases e
    · have := List.eq_of_mem_replicate hm
      cases this
  have toE : ∀ {F' M' H' : Hp} {O' : Addr → Prop}, ExtS F0 M H (Own (ds.map slOf ++ List.replicate (N.length - ds.length) .un) (L2.start N vs)) F' M' H' O' → Ext F0 M H F' M' H' := fun e =>
    ⟨e.ff, e.f, e.m, fun a o h n => e.keep a o h n (own0 a), e.there, fun a h n => e.newF a h n (own0 a), e.newM, e.fm⟩
  unfold gFn at sat
  cases e : g (ds.map slOf ++ List.replicate (N.length - ds.length) .un) st with
  | none => rw [e] at sat; exact sat.elim
  | some q =>
    obtain ⟨fl, st'⟩ := q
    rw [e] at sat
    cases fl with
    | rt d => exact fun F' M' H' v e r q => sat F' M' H' v (toE e) r q
    | rn xs =>
      refine fun F' M' H' a vs e r ha hf hm ho rs => ?_
      have ha' : H a = none := ha.resolve_right (own0 a)
      exact sat _ M' H' (.ref a) ((toE e).freeze ha' hm ho hf) r (by simp only [Rep]; exact ⟨a, vs, rfl, upd_same, rs.mono (same_updP hf)⟩)
    | nx ρ' => exact fun F' B' M' H' σ' e w => sat F' M' H' .non (toE e) w.r (by simp only [Rep])
    | ex x ρ' => exact fun F' B' M' H' σ' c dd e w q => sat F' M' H' c dd (toE e) w.r q
    | bk ρ' => exact sat.elim
    | ct ρ' => exact sat.elim
theorem fn_n {Pr : Program} {w : World} {base : Heap} {x qual : Str} {stm : Stmt} {f : Addr} {fd : FuncData} {N ps : List Str} {k n : Nat} {g : GS τ} (F : Fun K x qual stm f fd) (S : FnScope N ps (defScope stm)) (hn : ps.length = n) (hN : n ≤ N.length)
    (hbody : ∀ (sa : Addr) (cdv : Value) (A : Around) (outer : List Env) (s : Shared) (H : Hp) (E : XK), Room k (A.deeper (envOfC qual (defScope stm) s.heap.objs.size f cdv)) →
      ∃ t, PSs (cxOf (L2.CX Pr w) Pr w K mg base N qual (defScope stm) f cdv A outer s H E) (defBody stm) t ∧ EvS ⟨K, mg, sa⟩ (Rf sa) (fun c d _ H' => E c d H') t g) :
    FnOk Pr w K mg base (L2.CX Pr w) (k + 1) f fd ps (spN K mg Rf n (gFnN N.length g)) := by
  refine F.okX S (fun vs H Q E h => by rw [hn]; exact h.1) (fun cdv A outer s H vs Q E hr h => ?_)
  obtain ⟨hv, sa, F0, B, M, ds, st, p, r, rs, sat⟩ := h
  obtain ⟨t, ht, hev⟩ := hbody sa cdv A outer s H E hr
  have hl : ds.length = n := by rw [rs.length]; exact hv
  refine ⟨t, ht, hev F0 B M H _ _ st (wi_start p r rs (by rw [hl]; exact hN)) _ ?_⟩
  have own0 : ∀ a, ¬ Own (ds.map slOf ++ List.replicate (N.length - ds.length) .un) (L2.start N vs) a := fun a ⟨i, xs, h1, _⟩ => by
    have hm := List.mem_of_getElem? h1
    rcases List.mem_append.mp hm with hm | hm
    · obtain ⟨d, _, e⟩ := List.mem_map.mp hm
      cases d <;> cases e
    · have := List.eq_of_mem_replicate hm
      cases this
  have toE : ∀ {F' M' H' : Hp} {O' : Addr → Prop}, ExtS F0 M H (Own (ds.map slOf ++ List.replicate (N.length - ds.length) .un) (L2.start N vs)) F' M' H' O' → Ext F0 M H F' M' H' := fun e =>
    ⟨e.ff, e.f, e.m, fun a o h n => e.keep a o h n (own0 a), e.there, fun a h n => e.newF a h n (own0 a), e.newM, e.fm⟩
  unfold gFnN at sat
  cases e : g (ds.map slOf ++ List.replicate (N.length - ds.length) .un) st with
  | none => rw [e] at sat; exact sat.elim
  | some q =>
    obtain ⟨fl, st'⟩ := q
    rw [e] at sat
    cases fl with
    | rt d => exact sat.elim
    | rn xs => exact fun F' M' H' a vs e r ha hf hm ho rs => sat F' M' H' a vs (toE e) r (ha.resolve_right (own0 a)) hf hm ho rs
    | nx ρ' => exact sat.elim
    | ex x ρ' => exact fun F' B' M' H' σ' c dd e w q => sat F' M' H' c dd (toE e) w.r q
    | bk ρ' => exact sat.elim
    | ct ρ' => exact sat.elim
end
end PD

namespace PD
open PySem PySem.Spec PyProof.Rows L2
section
variable {X : Cx}
theorem get_list : PGet X (rIxL X.K) := by
  intro pins s σ H x y v u Q I rx ry h
  obtain ⟨p, xs, i, z, rfl, rfl, hq, he, q⟩ := h
  cases rx
  obtain ⟨t, rfl⟩ := ry
  obtain ⟨its, r, pl, hz⟩ := I.list hq
  obtain ⟨j, h1, h2, h3, h4, h5⟩ := atI_get he
  obtain ⟨w, ew, rw'⟩ := r.get h2
  have hl := r.length
  have hn := line63
  have fin : EP X pins σ Q w s := ⟨z, H, I, rw', q⟩
  by_cases h0 : 0 ≤ i
  · have hj : i.toNat = j := by
      rw [seqIndex_of h0 h5] at h1
      exact Option.some.inj h1
    exact wpAny_getItem_list pl.isList h0 (by omega) (by rw [hj]; simpa using ew) fin
  · have hj : (i + (its.toArray.size : Int)).toNat = j := by
      rw [PySem.seqIndex_neg (by omega) h4] at h1
      rw [List.size_toArray, ← hl]
      exact Option.some.inj h1
    exact wpAny_getItem_list_neg pl.isList (by omega) (by rw [List.size_toArray] <;> omega) (by omega) (by rw [hj]; simpa using ew) fin
def revStr (z : Str) : Str := ⟨z.cps.toList.reverse.toArray⟩
theorem revStr_length (z : Str) : (revStr z).length = z.length := by
  show (z.cps.toList.reverse.toArray).size = z.cps.size
  rw [List.size_toArray, List.length_reverse, Array.length_toList]
def tRevS (te : TE) : TE := fun σ H Q => te σ H fun x H1 => ∃ z, x = .str z ∧ z.length ≤ sizeLine ∧ Q (.str (revStr z)) H1
theorem slice_rev (n : Nat) : Builtin.Str.strSliceIndices none none (-1) n = (List.range n).reverse := by
  unfold Builtin.Str.strSliceIndices
  show sliceRange ((n : Int) - 1) (-1) (-1) = _
  rw [PySem.W.krv_sliceRange, PySem.W.krv_range]
theorem filterMap_range (l : List Nat) : (List.range l.length).filterMap (fun i => l[i]?) = l := by
  induction l with
  | nil => rfl
  | cons a l ih =>
    rw [List.length_cons, List.range_succ_eq_map, List.filterMap_cons]
    simp only [List.getElem?_cons_zero, List.filterMap_map]
    congr 1
theorem pe_revS {e : Expr} {te : TE} {k : Nat} {p1 p2 p3 pos : Pos} (he : PE X e te) : PE X (.Subscript e (.Slice none none (some (.UnaryOp .USub (.Constant (.int 1) k p1) p2)) p3) pos) (tRevS te) := by
  refine ⟨fun pins s σ H Q I h => ?_⟩
  refine Subscript_ (thn (he.run pins s σ H _ I h) fun v s1 ⟨x, H1, I1, r1, q1⟩ => ?_)
  obtain ⟨z, ex, hz, q⟩ := q1
  subst ex
  obtain ⟨t, rfl⟩ := r1
  have hst : PO X (some (.UnaryOp .USub (.Constant (.int 1) k p1) p2)) (tPart (tUn (rU fun i => .int (-i)) (tC (.int 1)))) := po_some (pe_un un_neg pe_int)
  refine wpAny_Slice (thn (po_none.run pins s1 σ H1 (fun o H2 => o = none ∧ H2 = H1) I1 ⟨rfl, rfl⟩) fun vl s2 ⟨l, H2, I2, pl, el, e2⟩ => ?_)
  subst el e2
  refine thn (po_none.run pins s2 σ H2 (fun o H3 => o = none ∧ H3 = H2) I2 ⟨rfl, rfl⟩) fun vu s3 ⟨u, H3, I3, pu, eu, e3⟩ => ?_
  subst eu e3
  refine thn (hst.run pins s3 σ H3 (fun o H4 => o = some (-1) ∧ H4 = H3) I3 ⟨1, rfl, -1, rfl, rfl, rfl⟩) fun vs s4 ⟨o, H4, I4, ps, eo, e4⟩ => ?_
  subst eo e4
  have I5 : Inv X pins σ H4 { s4 with heap := s4.heap.push { cls := .type "slice", data := .fields #[vl, vu, vs] } } := I4.kept (t' := s4.toks) fun b ob q => Heap.get?_push_of_some _ q
  show wpAny (model X.prog X.w) X.A (subscriptTail e (.Slice none none (some (.UnaryOp .USub (.Constant (.int 1) k p1) p2)) p3) (.str z t) (.ref s4.heap.objs.size)) (EP X pins σ Q) X.xe { s4 with heap := s4.heap.push { cls := .type "slice", data := .fields #[vl, vu, vs] } }
  refine tail_any (ops := [.ref s4.heap.objs.size, .str z t]) (typeIs_str _ _ _) F.slot_str_getitem.lookup ?_ (by with_unfolding_all rfl)
  obtain ⟨l', rfl, hl'⟩ := IsPart.raw pl
  obtain ⟨u', rfl, hu'⟩ := IsPart.raw pu
  obtain ⟨o, rfl, ho⟩ := IsPart.raw ps
  have el' : l' = none := by cases l' <;> first | rfl | cases hl'
  have eu' : u' = none := by cases u' <;> first | rfl | cases hu'
  subst el' eu'
  refine wpAny_getItem_str_slice (l := none) (u := none) (st := o) (Heap.IsSliceOf.new _ _ _ _) (by rw [ho]; rfl) ?_
  have hpick : slicePicked z none none o = (List.range z.length).reverse := by
    unfold slicePicked
    rw [ho]
    exact slice_rev z.length
  have hrev : (((List.range z.length).reverse).filterMap (z.cps[·]?)).toArray = z.cps.toList.reverse.toArray := by
    rw [List.filterMap_reverse]
    have := filterMap_range z.cps.toList
    rw [Array.length_toList] at this
    simp only [Array.getElem?_toList] at this
    show (List.filterMap (fun i => z.cps[i]?) (List.range z.cps.size)).reverse.toArray = _
    rw [this]
  have hlen : (revStr z).length ≤ sizeLine := by rw [revStr_length]; exact hz
  unfold sliceMade
  rw [hpick, hrev, ho]
  rw [if_neg (by simp)]
  exact ⟨hlen, .str _, H4, I5.tok _, ⟨_, rfl⟩, q⟩

/-! ### a callee -/
structure Cal (Pr : Program) (w : World) (K : PySem.W.Frag) (mg : Str → Option Value) (base : Heap) (lvl : Nat) (x : Str) (ps : List Str) (sp : Sp) : Prop where
  ex : ∃ f fd, mg x = some (.ref f) ∧ PySem.W.keepIn K (.ref f) = true ∧ Binds K fd ps [] ∧ FnOk Pr w K mg base (L2.CX Pr w) lvl f fd ps sp
theorem pe_cal {W : WX} {lvl : Nat} {x : Str} {ps : List Str} {sp : Sp} {e : Expr} {es : List Expr} {t : TA} {p pos : Pos} (c : Cal X.prog X.w X.K X.mg X.base lvl x ps sp) (hr : Room lvl X.A) (tk : Takes X W) (ha : PA X (e :: es) t) (hg : Gl X x := by rfl)
    (hdb : (x == ("__debug__" : Str)) = false := by decide) (he : starEach (e :: es) X.env = (false, eval e X.env) :: starEach es X.env := by rfl) (hpl : (backTo pos (starEach es X.env)).any (·.1) = false := by rfl) :
    PE X (.Call (.Name x p) (e :: es) [] pos) (tCallS sp (WE W) t) := by
  obtain ⟨f, fd, hm, hk, hb, F⟩ := c.ex
  exact pe_callS F hr hg hm hk hb (fun σ => passAt tk σ) ha hdb he hpl
/-- f() -/
theorem pe_cal0 {W : WX} {lvl : Nat} {x : Str} {sp : Sp} {p pos : Pos} (c : Cal X.prog X.w X.K X.mg X.base lvl x [] sp) (hr : Room lvl X.A) (tk : Takes X W) (hg : Gl X x := by rfl)
    (hdb : (x == ("__debug__" : Str)) = false := by decide) : PE X (.Call (.Name x p) [] [] pos) (tCallS sp (WE W) tNil) := by
  obtain ⟨f, fd, hm, hk, hb, F⟩ := c.ex
  refine ⟨fun pins s σ H Q I h => ?_⟩
  refine wpAny_Call_Name_kw (ld_glob I hg hm ?_ hdb)
  exact PySem.W.callWith_K0 I.kIn hk (run_fnS (us := []) F hr hb (passAt tk σ) I .nil h)
theorem room65 {k : Nat} {A : Around} (r : Room k A) : A.units + 65 < cLine := by have := r.un; omega
end
section
variable {τ : Type} {P : Pm} {R : τ → Hp → Prop} {W : WX}
theorem ev_chain {r r' : R2} {op op' : D → D → Option D} {ta tb tc : TE} {ga gb gc : GE τ} (ho : OpD P r op) (ho' : OpD P r' op') (ha : EvD P R W ta ga) (hb : EvD P R W tb gb) (hc : EvD P R W tc gc) : EvD P R W (tChain r r' ta tb tc) (gChain op op' ga gb gc) := by
  intro F B M H σ ρ st w Q h
  refine ha F B M H σ ρ st w _ (h.bind.mono (fun x st1 h1 F1 M1 H1 v1 E1 R1 r1 => ?_) fun _ _ z => z)
  have w1 := w.ext E1 R1
  refine hb F1 B M1 H1 σ ρ st1 w1 _ (h1.bind.mono (fun y st2 h2 F2 M2 H2 v2 E2 R2 r2 => ?_) fun _ _ z => KX.ext P R z E1)
  have w2 := w1.ext E2 R2
  obtain ⟨k, e, q⟩ := Sat.of h2.bind
  obtain ⟨d, e1, e2⟩ := Option.bind_eq_some_iff.mp e
  have := blOf_some e2
  subst this
  refine ho F2 B M2 H2 v1 v2 x y _ w2.pre (r1.mono E2.ff) r2 e1 _ fun F3 H3 v3 E3 r3 => ⟨k, r3, ?_⟩
  have w3 := w2.ext E3 R2
  have E13 := (E1.trans E2).trans E3
  cases k with
  | false => exact iteF ((Sat.ff q) F3 M2 H3 _ E13 R2 rfl)
  | true =>
    refine iteT (hc F3 B M2 H3 σ ρ st2 w3 _ ((Sat.tt q).bind.mono (fun z st4 h4 F4 M4 H4 v4 E4 R4 r4 => ?_) fun _ _ z => KX.ext P R z E13))
    obtain ⟨d, e5, q5⟩ := Sat.of h4
    exact ho' F4 B M4 H4 v2 v4 y z d (w3.pre.ext E4) ((r2.mono E3.ff).mono E4.ff) r4 e5 Q fun F' H' v E r => q5 F' M4 H' v ((E13.trans E4).trans E) R4 r
/-- x[::-1] -/
def tRevA (K : PySem.W.Frag) (te : TE) : TE := fun σ H Q => tRevL K te σ H Q ∨ tRevS te σ H Q
theorem pe_revA {X : Cx} {e : Expr} {te : TE} {k : Nat} {p1 p2 p3 pos : Pos} (he : PE X e te) : PE X (.Subscript e (.Slice none none (some (.UnaryOp .USub (.Constant (.int 1) k p1) p2)) p3) pos) (tRevA X.K te) := PE.or (pe_revL he) (pe_revS he)
def revD (d : D) : Option D :=
  match d with
  | .str z => if z.length ≤ line then some (.str (revStr z)) else none
  | .lst xs => some (.lst xs.reverse)
  | .bor xs => some (.lst xs.reverse)
  | _ => none
theorem ev_rev {K : PySem.W.Frag} (hK : K = P.K) {te : TE} {g : GE τ} (h : EvD P R W te g) : EvD P R W (tRevA K te) (gUn revD g) := by
  subst hK
  intro F B M H σ ρ st w Q hs
  have hd := h F B M H σ ρ st w
  have hs := Sat.bind hs
  cases e : g ρ st with
  | stuck => rw [e] at hs; exact hs.elim
  | err x st1 => rw [e] at hs hd; exact .inl (hd _ hs)
  | ok d st1 =>
    rw [e] at hs hd
    obtain ⟨d', e1, q⟩ := Sat.of (show Sat (Res.of (revD d) st1) _ _ from hs)
    cases d <;> try (cases e1; done)
    case str z =>
      obtain ⟨hl, rfl⟩ := if_some (show (if z.length ≤ line then some (D.str (revStr z)) else none) = some d' from e1)
      exact .inr (hd _ fun F1 M1 H1 v E1 R1 r1 => ⟨z, r1, by rw [line_eq]; exact hl, q F1 M1 H1 _ E1 R1 rfl⟩)
    case lst xs =>
      cases e1
      refine .inl (hd _ fun F1 M1 H1 v E1 R1 r1 => ?_)
      obtain ⟨a, vs, rfl, hs, rs⟩ := r1.list (w.pre.ext E1) rfl
      exact ⟨a, vs, rfl, .of hs, new_lst (w.pre.ext E1) rs.reverse fun F' H' v E r => q F' M1 H' v (E1.trans E) R1 r.b⟩
    case bor xs =>
      cases e1
      refine .inl (hd _ fun F1 M1 H1 v E1 R1 r1 => ?_)
      obtain ⟨a, vs, rfl, hs, rs⟩ := r1.list (w.pre.ext E1) rfl
      exact ⟨a, vs, rfl, .of hs, new_lst (w.pre.ext E1) rs.reverse fun F' H' v E r => q F' M1 H' v (E1.trans E) R1 r.b⟩

/-! ### isinstance of a built-in class -/
def tyNm : D → Option String
  | .non => some "NoneType"
  | .bl _ => some "bool"
  | .int _ => some "int"
  | .str _ => some "str"
  | .tup _ => some "tuple"
  | .lst _ => some "list"
  | .bor _ => some "list"
  | .dct _ => some "dict"
  | _ => none
theorem tyNm_x {F B M H : Hp} {d : D} {v : V} {n : String} (p : Pre F B M H) (r : RepB P F B d v) (e : tyNm d = some n) : TyX P.K H v (.type n) := by
  cases d <;> cases e
  case non => have : v = .non := r; subst this; exact .base .non
  case bl b => have : v = .bl b := r; subst this; exact .base (.bl b)
  case int i => have : v = .int i := r; subst this; exact .base (.int i)
  case str s => have : v = .str s := r; subst this; exact .base (.str s)
  case tup xs =>
    obtain ⟨a, vs, rfl, hs, rs⟩ := r.tupl p
    rcases hs with (q | ⟨o, q⟩) | ⟨o, _, _, h1, h2, _⟩
    · exact .base (.tup q)
    · exact .fTuple q
    · exact .kTuple h1 h2
  case lst xs => obtain ⟨a, vs, rfl, hs, rs⟩ := r.list p rfl; exact .base (.lst hs)
  case bor xs => obtain ⟨a, vs, rfl, hs, rs⟩ := r.list p rfl; exact .base (.lst hs)
  case dct kvs =>
    obtain ⟨a, rfl, q⟩ := (by simpa only [RepB, Rep] using r)
    rcases q with ⟨ks, q, _⟩ | ⟨ks, q, _⟩
    · exact .base (.dK (p.f _ _ q))
    · exact .base (.dT (p.f _ _ q))
/-- isinstance(e, T) -/
def isiD (T : String) (d : D) : Option D := (tyNm d).bind fun n => (kitB n T).map .bl
def gIsi (T : String) (g : GE τ) : GE τ := gUn (isiD T) g
theorem ev_isi {T : String} {te : TE} {g : GE τ} (h : EvD P R W te g) : EvD P R W (tCB (rIsi P.K) (tCons te (tCons (tC (.ty T)) tNil))) (gIsi T g) := by
  intro F B M H σ ρ st w Q hs
  refine h F B M H σ ρ st w _ ((Sat.bind hs).mono (fun d st1 h1 F1 M1 H1 v E1 R1 r1 => ?_) fun _ _ z => z)
  obtain ⟨d', e, q⟩ := Sat.of h1
  obtain ⟨n, e1, e2⟩ := Option.bind_eq_some_iff.mp e
  obtain ⟨b, e3, rfl⟩ := Option.map_eq_some_iff.mp e2
  exact ⟨v, .ty T, .type n, .type T, b, rfl, .ty T, tyNm_x (w.pre.ext E1) r1 e1, kit_ty e3, q F1 M1 H1 _ E1 R1 rfl⟩
end
end PD

namespace PD
open PySem PySem.Spec PyProof.Rows L2
section
variable {X : Cx}
theorem pe_gint {x : Str} {i : Int} {pos : Pos} (hm : ∃ t, X.mg x = some (.int i t)) (hg : Gl X x := by rfl) (hd : (x == ("__debug__" : Str)) = false := by decide) : PE X (.Name x pos) (tC (.int i)) := by
  obtain ⟨t, h⟩ := hm
  exact pe_glob hg h ⟨t, rfl⟩ hd
theorem pe_gstr {x : Str} {i : Str} {pos : Pos} (hm : ∃ t, X.mg x = some (.str i t)) (hg : Gl X x := by rfl) (hd : (x == ("__debug__" : Str)) = false := by decide) : PE X (.Name x pos) (tC (.str i)) := by
  obtain ⟨t, h⟩ := hm
  exact pe_glob hg h ⟨t, rfl⟩ hd
/-! ### a call by keywords alone -/
structure CalK (Pr : Program) (w : World) (K : PySem.W.Frag) (mg : Str → Option Value) (base : Heap) (lvl : Nat) (x : Str) (ps ks : List Str) (pm : List Nat) (sp : Sp) : Prop where
  ex : ∃ f fd, mg x = some (.ref f) ∧ PySem.W.keepIn K (.ref f) = true ∧ (∀ (s : Shared) (ws : List Value), K.In s.heap → ws.length = ks.length → BindsTo s fd ⟨[], ks.zip ws⟩ (ps.zip (pm.map fun i => ws.getD i .none))) ∧ FnOk Pr w K mg base (L2.CX Pr w) lvl f fd ps sp
  len : ∀ i ∈ pm, i < ks.length
theorem vals_perm {zs : List V} {ws : List Value} (rz : Vals zs ws) : ∀ {pm : List Nat}, (∀ i ∈ pm, i < zs.length) → Vals (pm.map fun i => zs.getD i .non) (pm.map fun i => ws.getD i .none)
  | [], _ => .nil
  | i :: pm, h => by
    have hi : i < zs.length := h i List.mem_cons_self
    obtain ⟨u, hu, ru⟩ := rz.get (List.getElem?_eq_getElem hi)
    refine .cons ?_ (vals_perm rz fun j hj => h j (List.mem_cons_of_mem _ hj))
    show RelV (zs.getD i .non) (ws.getD i .none)
    rw [List.getD_eq_getElem?_getD, List.getD_eq_getElem?_getD, List.getElem?_eq_getElem hi, hu]
    exact ru
def tCallKw (n : Nat) (sp : Sp) (pm : List Nat) (E : L2.St → XK) (t : TA) : TE := fun σ H Q => t σ H fun zs H1 => zs.length = n ∧ sp (pm.map fun i => zs.getD i .non) H1 Q (E σ)
theorem pe_calK {W : WX} {lvl : Nat} {x : Str} {ps ks : List Str} {pm : List Nat} {sp : Sp} {kws : List Keyword} {t : TA} {p pos : Pos} (c : CalK X.prog X.w X.K X.mg X.base lvl x ps ks pm sp) (hr : Room lvl X.A) (tk : Takes X W) (hkw : PK X kws t) (hg : Gl X x := by rfl)
    (hdb : (x == ("__debug__" : Str)) = false := by decide) (hall : (backToKw pos (keywordEach kws X.env)).all (·.1.isSome) = true := by rfl) (hks : (backToKw pos (keywordEach kws X.env)).filterMap (·.1) = ks := by rfl)
    (hpl : ((backTo pos (starEach [] X.env)).any (·.1) || (backToKw pos (keywordEach kws X.env)).any (·.1.isNone)) = false := by rfl) :
    PE X (.Call (.Name x p) [] kws pos) (tCallKw ks.length sp pm (WE W) t) := by
  obtain ⟨f, fd, hm, hk, hb, F⟩ := c.ex
  refine ⟨fun pins s σ H Q I h => ?_⟩
  refine wpAny_Call_Name_kw (ld_glob I hg hm ?_ hdb)
  refine PySem.W.callWith_KW0 (h₀ := X.base) I.ok.mod.kin hk hall ?_ hpl
  refine thn (hkw.run pos pins s σ H _ I h) fun ws s2 ⟨zs, H2, I2, rz, l2, q2⟩ => ⟨I2.kIn, ?_⟩
  rw [hks]
  have r2 : Vals (pm.map fun i => zs.getD i .non) (pm.map fun i => ws.getD i .none) := vals_perm rz fun i hi => by rw [l2]; exact c.len i hi
  refine wpAny_call (codeAny_mono (F.run X.A X.stack s2 H2 ⟨[], ks.zip ws⟩ (pm.map fun i => ws.getD i .none) (pm.map fun i => zs.getD i .non) Q (WE W σ) hr I2.env0 (hb s2 ws I2.kIn (rz.length.symm.trans l2)) r2 q2) fun r s' hq => ?_)
  cases r with
  | error e => exact passAt tk σ pins H2 s2 e s' I2 hq
  | ok fl =>
    cases fl with
    | ret u => exact I2.after hq
    | next => exact False.elim hq
    | brk => exact False.elim hq
    | cont => exact False.elim hq
end
section
variable {τ : Type} {P : Pm} {R : τ → Hp → Prop} {W : WX}
def gCallK (m : List D → τ → Res τ D) (pm : List Nat) (a : GA τ) : GE τ := fun ρ st => (a ρ st).bind fun ds st => m (pm.map fun i => ds.getD i .non) st
theorem RepBs.get {F B : Hp} : ∀ {ds : List D} {vs : List V} {i : Nat}, RepBs P F B ds vs → i < ds.length → RepB P F B (ds.getD i .non) (vs.getD i .non)
  | d :: ds, vs, 0, ⟨v, ws, e, r, rs⟩, _ => by subst e; exact r
  | d :: ds, vs, i + 1, ⟨v, ws, e, r, rs⟩, h => by
    subst e
    simpa using rs.get (i := i) (by simpa using h)
theorem evd_callK {Rf : Addr → τ → Hp → Prop} {n nk : Nat} {m : List D → τ → Res τ D} {pm : List Nat} {ta : TA} {a : GA τ} (hl : ∀ ρ st ds st', a ρ st = .ok ds st' → ds.length = nk) (hp : pm.length = n) (hi : pm.all (fun i => decide (i < nk)) = true) (ha : EvA P (Rf P.sa) W ta a) :
    EvD P (Rf P.sa) W (tCallKw nk (spD P.K P.mg Rf n m) pm (WE W) ta) (gCallK m pm a) := by
  intro F B M H σ ρ st w Q hs
  have hs := Sat.bind hs
  have q := ha F B M H σ ρ st w
  cases e : a ρ st with
  | stuck => rw [e] at hs; exact hs.elim
  | err x st1 => rw [e] at hs q; exact q _ hs
  | ok ds st1 =>
    rw [e] at hs q
    refine q _ fun F1 M1 H1 vs E1 R1 rs => ?_
    have hlen := hl ρ st ds st1 e
    refine ⟨by rw [← rs.length]; exact hlen, by rw [List.length_map]; exact hp, P.sa, F1, B, M1, pm.map (fun i => ds.getD i .non), st1, w.pre.ext E1, R1, ?_, ?_⟩
    · have key : ∀ l : List Nat, l.all (fun i => decide (i < nk)) = true → RepBs P F1 B (l.map fun i => ds.getD i .non) (l.map fun i => vs.getD i .non) := by
        intro l
        induction l with
        | nil => intro _; rfl
        | cons i l ih =>
          intro h
          obtain ⟨h1, h2⟩ := Bool.and_eq_true_iff.mp (by simpa only [List.all_cons] using h)
          exact ⟨_, _, rfl, rs.get (by rw [hlen]; exact of_decide_eq_true h1), ih h2⟩
      exact key pm hi
    · exact (show Sat (m (pm.map fun i => ds.getD i .non) st1) _ _ from hs).mono (fun d st2 h2 F' M' H' v E r r2 => h2 F' M' H' v (E1.trans E) r r2.b) fun x st2 h2 F' M' H' c dd E r x => h2 F' M' H' c dd (E1.trans E) r x
end
/-! ### the rules with the written part told -/
section
variable {X : Cx} (K : PySem.W.Frag)
theorem k_add (h : X.K = K := by rfl) : OpR X (binaryOp .Add) (rAddA K) := by subst h; exact op_addA
theorem k_eq (hu : X.A.units + 64 < cLine) (h : X.K = K := by rfl) : OpR X (compareOp .Eq) (rEqD K) := by subst h; exact op_eqD hu
theorem k_ne (hu : X.A.units + 64 < cLine) (h : X.K = K := by rfl) : OpR X (compareOp .NotEq) (rNeD K) := by subst h; exact op_neD hu
theorem k_in (hu : X.A.units + 65 < cLine) (h : X.K = K := by rfl) : OpR X (compareOp .In) (rInA K) := by subst h; exact op_inA hu
theorem k_notIn (hu : X.A.units + 65 < cLine) (h : X.K = K := by rfl) : OpR X (compareOp .NotIn) (rNotInA K) := by subst h; exact op_notInA hu
theorem k_ix (h : X.K = K := by rfl) : IxR X (rIx K) := by subst h; exact ix_seq
theorem k_sl (h : X.K = K := by rfl) : SlR X (rSlAll K) := by subst h; exact sl_all
def rLenA (K : PySem.W.Frag) : List V → Hp → VK → Prop := fun xs H Q => (∃ p ys, xs = [.ref p] ∧ (SqL K H p ys ∨ SqT K H p ys) ∧ Q (.int ys.length) H) ∨ (∃ z, xs = [.str z] ∧ z.length ≤ sizeLine ∧ Q (.int z.length) H)
theorem k_len (h : X.K = K := by rfl) : CallR X (.builtin "len") (rLenA K) := by subst h; exact call_lenA
def rListA (K : PySem.W.Frag) : List V → Hp → VK → Prop := fun xs H Q => ∃ p ys, xs = [.ref p] ∧ (SqL K H p ys ∨ SqT K H p ys) ∧ ∀ l, H l = none → Q (.ref l) (upd H l (.lst ys))
theorem k_list (h : X.K = K := by rfl) : CallR X (.type "list") (rListA K) := by subst h; exact call_list_of
def rTupleA (K : PySem.W.Frag) : List V → Hp → VK → Prop := fun xs H Q => ∃ p ys, xs = [.ref p] ∧ ((SqL K H p ys ∧ ∀ l, H l = none → Q (.ref l) (upd H l (.tup ys))) ∨ (SqT K H p ys ∧ Q (.ref p) H))
theorem k_tuple (h : X.K = K := by rfl) : CallR X (.type "tuple") (rTupleA K) := by subst h; exact call_tuple_of
theorem k_any (hc : X.calm = true) (h : X.K = K := by rfl) : CallR X (.builtin "any") (rAny K) := by subst h; exact cr_any hc
theorem k_all (hc : X.calm = true) (h : X.K = K := by rfl) : CallR X (.builtin "all") (rAll K) := by subst h; exact cr_all hc
theorem k_isi (h : X.K = K := by rfl) : CallR X (.builtin "isinstance") (rIsi K) := by subst h; exact call_isi
theorem k_it {tg e : Expr} {te : TE} (he : PE X e te) (h : X.K = K := by rfl) : PI X tg e (iAll K te) := by subst h; exact pi_all he
def rJoin (K : PySem.W.Frag) : V → List V → Hp → VK → Prop := fun x xs H Q => ∃ a p, ∃ ys : List Str, x = .str a ∧ xs = [.ref p] ∧ (SqL K H p (ys.map V.str) ∨ SqT K H p (ys.map V.str)) ∧
      (ys.map (·.length)).sum + ys.length * a.length ≤ 16777216 ∧ Q (.str (Txt.join a ys)) H
theorem k_join {o e : Expr} {to te : TE} {apos pos : Pos} (ho : PE X o to) (he : PE X e te) (h : X.K = K := by rfl) (hs : starEach [e] X.env = [(false, eval e X.env)] := by rfl) (hbase : attributeBase o "join" X.env (eval o X.env) = eval o X.env := by rfl) (hline : (apos.endLine == pos.line) = true := by rfl) :
    PE X (.Call (.Attribute o "join" apos) [e] [] pos) (tM1 (rJoin K) to te) := by subst h; exact pe_join ho he hs hbase hline
theorem k_rev {e : Expr} {te : TE} {k : Nat} {p1 p2 p3 pos : Pos} (he : PE X e te) (h : X.K = K := by rfl) : PE X (.Subscript e (.Slice none none (some (.UnaryOp .USub (.Constant (.int 1) k p1) p2)) p3) pos) (tRevA K te) := by subst h; exact pe_revA he
theorem k_tup {es : List Expr} {k : Nat} {t : TGs} {n : Nat} {pos : Pos} (hc : X.calm = true) (h : PGs X es t) (hK : X.K = K := by rfl)
    (hn : (assignEach es X.env).length = n := by rfl) (hst : (assignEach es X.env).findIdx? (·.1) = none := by rfl) : PG X (.Tuple es k pos) (L2.gTup K n t) := by subst hK; exact pg_tup hc h hn hst
theorem k_app {o e : Expr} {to te : TE} {apos cpos : Pos} (ho : PE X o to) (he : PE X e te) (h : X.K = K := by rfl) (hbase : attributeBase o "append" X.env (eval o X.env) = eval o X.env := by rfl)
    (hfew : ((backTo cpos (starEach [e] X.env)).all (fun x => !x.1) && (backToKw cpos (keywordEach [] X.env)).all (fun x => x.1.isSome)
      && decide ([e].length + ([] : List Keyword).length + (if ([] : List Keyword).isEmpty then 0 else 1) < 30)) = true := by rfl)
    (hline : (apos.endLine == cpos.line) = true := by rfl) (hs : starEach [e] X.env = (false, eval e X.env) :: starEach [] X.env := by rfl) (hplain : (backTo cpos (starEach [] X.env)).any (·.1) = false := by rfl) :
    PE X (.Call (.Attribute o "append" apos) [e] [] cpos) (tBM K "list" rAppend to (tCons te tNil)) := by
  subst h; exact pe_bm PySem.F.plainAttrs_list PySem.F.slot_list_append PySem.F.type_list_append mt_append ho (pa_cons he pa_nil hs) hbase hfew hline hs hplain
theorem k_popAt {o e : Expr} {to te : TE} {apos cpos : Pos} (ho : PE X o to) (he : PE X e te) (h : X.K = K := by rfl) (hbase : attributeBase o "pop" X.env (eval o X.env) = eval o X.env := by rfl)
    (hfew : ((backTo cpos (starEach [e] X.env)).all (fun x => !x.1) && (backToKw cpos (keywordEach [] X.env)).all (fun x => x.1.isSome)
      && decide ([e].length + ([] : List Keyword).length + (if ([] : List Keyword).isEmpty then 0 else 1) < 30)) = true := by rfl)
    (hline : (apos.endLine == cpos.line) = true := by rfl) (hs : starEach [e] X.env = (false, eval e X.env) :: starEach [] X.env := by rfl) (hplain : (backTo cpos (starEach [] X.env)).any (·.1) = false := by rfl) :
    PE X (.Call (.Attribute o "pop" apos) [e] [] cpos) (tBM K "list" rPopAt to (tCons te tNil)) := by
  subst h; exact pe_bm PySem.F.plainAttrs_list PySem.F.slot_list_pop PySem.F.type_list_pop mt_popAt ho (pa_cons he pa_nil hs) hbase hfew hline hs hplain
end
theorem boot_x_len : bootBuiltins "len" = some (.builtin "len") := by decide +kernel
theorem boot_x_abs : bootBuiltins "abs" = some (.builtin "abs") := by decide +kernel
theorem boot_x_any : bootBuiltins "any" = some (.builtin "any") := by decide +kernel
theorem boot_x_all : bootBuiltins "all" = some (.builtin "all") := by decide +kernel
theorem boot_x_max : bootBuiltins "max" = some (.builtin "max") := by decide +kernel
theorem boot_x_min : bootBuiltins "min" = some (.builtin "min") := by decide +kernel
theorem boot_x_sum : bootBuiltins "sum" = some (.builtin "sum") := by decide +kernel
theorem boot_x_sorted : bootBuiltins "sorted" = some (.builtin "sorted") := by decide +kernel
theorem boot_isi : bootBuiltins "isinstance" = some (.builtin "isinstance") := by decide +kernel
theorem boot_x_int : bootBuiltins "int" = some (.type "int") := by decide +kernel
theorem boot_x_str : bootBuiltins "str" = some (.type "str") := by decide +kernel
theorem boot_x_bool : bootBuiltins "bool" = some (.type "bool") := by decide +kernel
theorem boot_x_list : bootBuiltins "list" = some (.type "list") := by decide +kernel
theorem boot_x_tuple : bootBuiltins "tuple" = some (.type "tuple") := by decide +kernel
theorem boot_x_dict : bootBuiltins "dict" = some (.type "dict") := by decide +kernel
theorem boot_x_set : bootBuiltins "set" = some (.type "set") := by decide +kernel
end PD

namespace PD
open PySem PySem.Spec PyProof.Rows L2
/-! ### the draws' state: great numbers, the script's numbers and one more, the count of draws -/
structure St0 where
  bigs : List Int
  cells : List Int
  n : Int
structure SAt (sa : Addr) (st : St0) (M : Hp) (a0 a1 : Addr) : Prop where
  hs : M sa = some (.lst [.ref a0, .ref a1, .int st.n])
  h0 : M a0 = some (.lst (st.bigs.map V.int))
  h1 : M a1 = some (.lst (st.cells.map V.int))
  n0 : a0 ≠ sa
  n1 : a1 ≠ sa
  n2 : a0 ≠ a1
def RA (sa : Addr) (st : St0) (M : Hp) : Prop := ∃ a0 a1, SAt sa st M a0 a1
theorem Ext.mut {F M H F' M' H' : Hp} (e : Ext F M H F' M' H') {a : Addr} {o : HO} (h : M' a ≠ none) : Ext F M H F' (upd M' a o) (upd H' a o) where
  ff := e.ff
  f := fun b u q => by
    have hb : b ≠ a := fun z => (e.fm b).elim (fun k => by rw [q] at k; cases k) fun k => h (by rw [← z]; exact k)
    rw [upd_ne hb]; exact e.f _ _ q
  m := fun b u q => by
    by_cases hb : b = a
    · subst hb; rw [upd_same] at q ⊢; exact q
    · rw [upd_ne hb] at q ⊢; exact e.m _ _ q
  keep := fun b u q n => by
    have hb : b ≠ a := fun z => h (by rw [← z]; exact e.newM b (ne_some q) n)
    rw [upd_ne hb]; exact e.keep b u q n
  there := fun b q => by
    by_cases hb : b = a
    · subst hb; rw [upd_same]; exact nofun
    · rw [upd_ne hb]; exact e.there b q
  newF := e.newF
  newM := fun b q n => by
    have hb : b ≠ a := fun z => h (by rw [← z]; exact e.newM b q n)
    rw [upd_ne hb]; exact e.newM b q n
  fm := fun b => by
    by_cases hb : b = a
    · subst hb; exact .inl ((e.fm b).resolve_right h)
    · rw [upd_ne hb]; exact e.fm b
/-- a new object of the state -/
theorem Ext.newM' {F M H F' M' H' : Hp} (e : Ext F M H F' M' H') {a : Addr} {o : HO} (h : H' a = none) : Ext F M H F' (upd M' a o) (upd H' a o) where
  ff := e.ff
  f := fun b u q => by
    have hb : b ≠ a := fun z => by rw [z] at q; rw [e.f _ _ q] at h; cases h
    rw [upd_ne hb]; exact e.f _ _ q
  m := fun b u q => by
    by_cases hb : b = a
    · subst hb; rw [upd_same] at q ⊢; exact q
    · rw [upd_ne hb] at q ⊢; exact e.m _ _ q
  keep := fun b u q n => by
    have hb : b ≠ a := fun z => by rw [z] at q; exact e.there a (ne_some q) h
    rw [upd_ne hb]; exact e.keep b u q n
  there := fun b q => by
    by_cases hb : b = a
    · subst hb; rw [upd_same]; exact nofun
    · rw [upd_ne hb]; exact e.there b q
  newF := e.newF
  newM := fun b q n => by
    have hb : b ≠ a := fun z => e.there b q (by rw [z]; exact h)
    rw [upd_ne hb]; exact e.newM b q n
  fm := fun b => by
    by_cases hb : b = a
    · subst hb; exact .inl (e.f.none h)
    · rw [upd_ne hb]; exact e.fm b
/-- garbage -/
theorem Ext.junk {F M H F' M' H' : Hp} (e : Ext F M H F' M' H') {a : Addr} {o : HO} (h : H' a = none) : Ext F M H F' M' (upd H' a o) where
  ff := e.ff
  f := e.f.trans (same_updP h)
  m := e.m.trans (same_updP h)
  keep := fun b u q n => same_updP h _ _ (e.keep b u q n)
  there := fun b q => (same_updP h).ne (e.there b q)
  newF := e.newF
  newM := e.newM
  fm := e.fm
/-- where the state stands while a draw goes on -/
def Dr (F M H : Hp) (sa : Addr) (st : St0) (a0 a1 : Addr) (H' : Hp) : Prop := ∃ M', Ext F M H F M' H' ∧ SAt sa st M' a0 a1
section
variable {F M H : Hp} {sa a0 a1 : Addr} {st : St0} {Hc : Hp}
theorem Dr.hs (d : Dr F M H sa st a0 a1 Hc) : Hc sa = some (.lst [.ref a0, .ref a1, .int st.n]) := let ⟨_, e, s⟩ := d; e.m _ _ s.hs
theorem Dr.h0 (d : Dr F M H sa st a0 a1 Hc) : Hc a0 = some (.lst (st.bigs.map V.int)) := let ⟨_, e, s⟩ := d; e.m _ _ s.h0
theorem Dr.h1 (d : Dr F M H sa st a0 a1 Hc) : Hc a1 = some (.lst (st.cells.map V.int)) := let ⟨_, e, s⟩ := d; e.m _ _ s.h1
theorem Dr.junk (d : Dr F M H sa st a0 a1 Hc) {p : Addr} {o : HO} (h : Hc p = none) : Dr F M H sa st a0 a1 (upd Hc p o) := let ⟨M', e, s⟩ := d; ⟨M', e.junk h, s⟩
theorem Dr.setN (d : Dr F M H sa st a0 a1 Hc) (n : Int) : Dr F M H sa { st with n := n } a0 a1 (upd Hc sa (.lst [.ref a0, .ref a1, .int n])) := by
  obtain ⟨M', e, s⟩ := d
  exact ⟨_, e.mut (ne_some s.hs), ⟨upd_same, by rw [upd_ne s.n0]; exact s.h0, by rw [upd_ne s.n1]; exact s.h1, s.n0, s.n1, s.n2⟩⟩
theorem Dr.setB (d : Dr F M H sa st a0 a1 Hc) (bs : List Int) : Dr F M H sa { st with bigs := bs } a0 a1 (upd Hc a0 (.lst (bs.map V.int))) := by
  obtain ⟨M', e, s⟩ := d
  exact ⟨_, e.mut (ne_some s.h0), ⟨by rw [upd_ne (Ne.symm s.n0)]; exact s.hs, upd_same, by rw [upd_ne (Ne.symm s.n2)]; exact s.h1, s.n0, s.n1, s.n2⟩⟩
theorem Dr.tail (d : Dr F M H sa st a0 a1 Hc) {p : Addr} (h : Hc p = none) (bs : List Int) : Dr F M H sa { st with bigs := bs } p a1 (upd (upd Hc p (.lst (bs.map V.int))) sa (.lst [.ref p, .ref a1, .int st.n])) := by
  obtain ⟨M', e, s⟩ := d
  have nsp : sa ≠ p := fun z => by rw [← z, e.m _ _ s.hs] at h; cases h
  have n1p : a1 ≠ p := fun z => by rw [← z, e.m _ _ s.h1] at h; cases h
  have e1 := e.newM' (o := .lst (bs.map V.int)) h
  exact ⟨_, e1.mut (by rw [upd_ne nsp, s.hs]; exact nofun), ⟨upd_same, by rw [upd_ne (Ne.symm nsp), upd_same], by rw [upd_ne s.n1, upd_ne n1p]; exact s.h1, Ne.symm nsp, s.n1, Ne.symm n1p⟩⟩
end
/-- a draw's outcome where no great number is left -/
def drawnA (st : St0) (size : Int) : Int :=
  let cell := (st.cells.getD ((st.n.fmod st.cells.length).toNat) 0).fmod 2147483647
  let one := ((cell * 48271 + st.n * 69621 + 7) ^ 5).fmod 2147483647
  (((one * 16807 + st.n * 40692 + 13) ^ 5).fmod 2147483629).fmod size
def dropZ : List Int → List Int
  | [] => []
  | b :: r => if b = 0 then dropZ r else b :: r
def lim : Int := 1152921504606
def drawA (size : Int) (st : St0) : Res St0 D :=
  if 0 < size ∧ size < 1073741824 ∧ 0 ≤ st.n ∧ st.n + 1 < lim ∧ st.cells ≠ [] then
    match dropZ st.bigs with
    | b :: r => .ok (.int (b.fmod size)) { st with bigs := b.fdiv size :: r, n := st.n + 1 }
    | [] => .ok (.int (drawnA { st with n := st.n + 1 } size)) { st with bigs := [], n := st.n + 1 }
  else .stuck
def m_law_draw : List D → St0 → Res St0 D
  | [.state, .int size], st => drawA size st
  | _, _ => .stuck
def pyInts (ns : List Int) : PyData := .list (ns.map .int)
theorem pyInts_lay : ∀ ns : List Int, PyData.canLayAll0 (ns.map .int) = true
  | [] => by simp [PyData.canLayAll0]
  | n :: ns => by simp [PyData.canLayAll0, PyData.canLay0, pyInts_lay ns]
theorem pyInts_depth : ∀ ns : List Int, PyData.depthAll (ns.map .int) ≤ 1
  | [] => by simp [PyData.depthAll]
  | n :: ns => by
    have h := pyInts_depth ns
    simp only [List.map_cons, PyData.depthAll, PyData.depth]
    omega
theorem pyInts_shaped (ns : List Int) : SeqAt.shaped (pyInts ns) = true := by
  have h1 := pyInts_depth ns
  have h2 : PyData.depth (pyInts ns) ≤ 64 := by
    simp only [pyInts, PyData.depth]
    omega
  show (PyData.canLay0 (pyInts ns) && decide (PyData.depth (pyInts ns) ≤ 64)) = true
  rw [Bool.and_eq_true]
  exact ⟨by simp only [pyInts, PyData.canLay0]; exact pyInts_lay ns, decide_eq_true h2⟩
theorem pyInts_dp {K : PySem.W.Frag} {H : Hp} : ∀ ns : List Int, DpAll K H (ns.map V.int) (ns.map .int)
  | [] => .nil
  | n :: ns => .cons (.int n) (pyInts_dp ns)
theorem pyInts_eqv_nil : ∀ ns : List Int, PyData.eqv (pyInts ns) (.list []) = ns.isEmpty
  | [] => by simp [pyInts, PyData.eqv, PyData.eqvAll]
  | n :: ns => by simp [pyInts, PyData.eqv, PyData.eqvAll]
/-- xs != [] of a list of pyInts -/
theorem ne_nil {K : PySem.W.Frag} {H : Hp} {a p : Addr} {ns : List Int} (h : H a = some (.lst (ns.map V.int))) (hp : H p = some (.lst [])) {Q : VK} (q : Q (.bl (!ns.isEmpty)) H) : rNeD K (.ref a) (.ref p) H Q := by
  refine ⟨pyInts ns, .list [], .lst (.of h) (pyInts_dp ns), .lst (.of hp) .nil, pyInts_shaped ns, by decide, ?_⟩
  rw [pyInts_eqv_nil]
  exact q
theorem fmod_lt {a b : Int} (h : 0 < b) : 0 ≤ a.fmod b ∧ a.fmod b < b := by
  rw [Int.fmod_eq_emod_of_nonneg a (by omega)]
  exact ⟨Int.emod_nonneg a (by omega), Int.emod_lt_of_pos a h⟩
end PD

namespace PD
open PySem PySem.Spec PyProof.Rows L2
def topS (i : Nat) : Stmt := PySem.Challenge.pw_tailpick_k01_valid_names.main.body.getD i (.Pass ⟨0, 0, 0, 0⟩)
abbrev s_law_start : Stmt := topS 6
abbrev s_law_draw : Stmt := topS 7


theorem sc_law_draw : FnScope ["_law_state", "_law_size", "_law_digit", "_law_cell", "_law_one"] ["_law_state", "_law_size"] (defScope s_law_draw) := ⟨rfl, rfl, rfl, by decide +kernel, rfl, by decide +kernel, by decide +kernel⟩
theorem sc_law_start : FnScope ["_law_script", "_law_cell"] ["_law_script"] (defScope s_law_start) := ⟨rfl, rfl, rfl, by decide +kernel, rfl, by decide +kernel, by decide +kernel⟩
structure TxtA (mg : Str → Option Value) : Prop where
  n_len : mg "len" = none
  n_int : mg "int" = none
  n_abs : mg "abs" = none
  n_list : mg "list" = none
theorem dropZ_cons0 (r : List Int) : dropZ (0 :: r) = dropZ r := by simp [dropZ]
/-! the readings, named -/
def rModI : R2 := rI (fun _ j => j ≠ 0) fun i j => .int (i.fmod j)
def rIntC : List V → Hp → VK → Prop := fun xs H Q => (∃ i, xs = [.int i] ∧ Q (.int i) H) ∨ ∃ k, xs = [.bl k] ∧ Q (.int (if k then 1 else 0)) H
def rLenC (K : PySem.W.Frag) : List V → Hp → VK → Prop := fun xs H Q => ∃ p ys, xs = [.ref p] ∧ (SqL K H p ys ∨ SqT K H p ys) ∧ Q (.int ys.length) H
def tS (K : PySem.W.Frag) (i : Int) : TE := tOp (rIxL K) (tVar 0) (tC (.int i))
def tB0 (K : PySem.W.Frag) : TE := tOp (rIxL K) (tS K 0) (tC (.int 0))
def tInt (t : TE) : TE := tCB rIntC (tCons t tNil)
def tMix (K : PySem.W.Frag) (i : Nat) (a b c : Int) : TE := tInt (tOp (rI CPow fun i j => .int (i ^ j.toNat)) (tOp (rI0 fun i j => .int (i + j)) (tOp (rI0 fun i j => .int (i + j)) (tOp (rI CMul fun i j => .int (i * j)) (tVar i) (tC (.int a))) (tOp (rI CMul fun i j => .int (i * j)) (tS K 2) (tC (.int b)))) (tC (.int c))) (tC (.int 5)))
def tAft (K : PySem.W.Frag) : TS := tSeq (tIfS (tTest (tOp (rNeD K) (tS K 0) (tLst tNil)))
    (tSeq (tAsg (tOp rModI (tInt (tB0 K)) (tVar 1)) (gName 2)) (tSeq (tAsg (tOp (rI CDivN fun i j => .int (i.fdiv j)) (tB0 K) (tVar 1)) (gSub (tS K 0) (tC (.int 0)) rSetL)) (tRet (tVar 2)))) tNext)
  (tSeq (tAsg (tOp rModI (tInt (tOp (rIxL K) (tS K 1) (tOp rModI (tInt (tS K 2)) (tCB (rLenC K) (tCons (tS K 1) tNil))))) (tC (.int 2147483647))) (gName 3))
  (tSeq (tAsg (tOp rModI (tMix K 3 48271 69621 7) (tC (.int 2147483647))) (gName 4))
  (tRet (tOp rModI (tOp rModI (tMix K 4 16807 40692 13) (tC (.int 2147483629))) (tVar 1)))))
def tDraw (K : PySem.W.Frag) : TS := tSeq (tAugS (tVar 0) (tC (.int 2)) (tC (.int 1)) (rIxL K) (ipI fun i j => i + j) rSetL)
  (tSeq (tWhile (tAnd (tTest (tOp (rNeD K) (tS K 0) (tLst tNil))) (tTest (tOp rEq (tB0 K) (tC (.int 0))))) (tAsg (tSl (rSlL K) (tS K 0) (tPart (tC (.int 1))) tNoPart) (gSub (tVar 0) (tC (.int 0)) rSetL)))
  (tAft K))
theorem dropZ_idem : ∀ bs : List Int, dropZ (dropZ bs) = dropZ bs
  | [] => rfl
  | b :: r => by
    by_cases h : b = 0
    · simp [dropZ, h, dropZ_idem r]
    · simp [dropZ, h]
theorem ixN0 {n : Nat} (h : 0 < n) : ixN n 0 = some 0 := by
  unfold ixN
  rw [if_pos (by decide), if_pos (by omega)]
  rfl
theorem fm_ne {a : Int} (h : 0 < a) : a ≠ 0 := by omega
theorem cpow5 {i : Int} (h : i.natAbs < 2 ^ 64) : CPow i 5 := ⟨by decide, by decide, h⟩
theorem small_l {i j : Int} (h0 : 0 ≤ i) (h : i < 2 ^ 62) : CMul i j := .inl ⟨by omega, by omega⟩
section
variable {K : PySem.W.Frag} {F M H : Hp} {sa a0 a1 : Addr} {st : St0} {Hc : Hp} {size : Int} {x2 x3 x4 : Option V} {Q : VK} {D : Ends}
theorem tS0 (d : Dr F M H sa st a0 a1 Hc) {σ : L2.St} (e : σ[0]? = some (some (.ref sa))) (q : Q (.ref a0) Hc) : tS K 0 σ Hc Q := ⟨_, e, sa, _, 0, .ref a0, rfl, rfl, .of d.hs, rfl, q⟩
theorem tS1 (d : Dr F M H sa st a0 a1 Hc) {σ : L2.St} (e : σ[0]? = some (some (.ref sa))) (q : Q (.ref a1) Hc) : tS K 1 σ Hc Q := ⟨_, e, sa, _, 1, .ref a1, rfl, rfl, .of d.hs, rfl, q⟩
theorem tS2 (d : Dr F M H sa st a0 a1 Hc) {σ : L2.St} (e : σ[0]? = some (some (.ref sa))) (q : Q (.int st.n) Hc) : tS K 2 σ Hc Q := ⟨_, e, sa, _, 2, .int st.n, rfl, rfl, .of d.hs, rfl, q⟩
theorem tB0' {b : Int} {r : List Int} (d : Dr F M H sa st a0 a1 Hc) {σ : L2.St} (e : σ[0]? = some (some (.ref sa))) (eb : st.bigs = b :: r) (q : Q (.int b) Hc) : tB0 K σ Hc Q :=
  tS0 d e ⟨a0, _, 0, .int b, rfl, rfl, .of d.h0, at_of (j := 0) rfl (by rw [eb]; rfl), q⟩
theorem tInt' {t : TE} {σ : L2.St} (h : t σ Hc fun x H' => ∃ i, x = .int i ∧ Q (.int i) H') (mono : ∀ Q Q' : VK, (∀ x H', Q x H' → Q' x H') → t σ Hc Q → t σ Hc Q') : tInt t σ Hc Q :=
  mono _ _ (fun x H' ⟨i, e, q⟩ => .inl ⟨i, by rw [e], q⟩) h
/-- the two mixings -/
theorem tMix' (d : Dr F M H sa st a0 a1 Hc) {σ : L2.St} {i : Nat} {c a b k : Int} (e : σ[0]? = some (some (.ref sa))) (ei : σ[i]? = some (some (.int c))) (h0 : 0 ≤ c) (h1 : c < 2147483648) (hn0 : 0 ≤ st.n) (hn1 : st.n < lim) (ha : 0 ≤ a ∧ a < 100000) (hb : 0 ≤ b ∧ b < 100000) (hk : 0 ≤ k ∧ k < 100)
    (q : Q (.int ((c * a + st.n * b + k) ^ 5)) Hc) : tMix K i a b k σ Hc Q := by
  have l1 : lim = 1152921504606 := rfl
  rw [l1] at hn1
  have m1 : 0 ≤ c * a := Int.mul_nonneg h0 ha.1
  have m2 : c * a ≤ 2147483648 * 100000 := Int.mul_le_mul (by omega) (by omega) ha.1 (by omega)
  have m3 : 0 ≤ st.n * b := Int.mul_nonneg hn0 hb.1
  have m4 : st.n * b ≤ 1152921504606 * 100000 := Int.mul_le_mul (by omega) (by omega) hb.1 (by omega)
  refine ⟨_, ei, c, a, rfl, rfl, small_l h0 (by omega), ?_⟩
  refine tS2 d e ⟨st.n, b, rfl, rfl, small_l hn0 (by omega), c * a, st.n * b, rfl, rfl, _, k, rfl, rfl, _, 5, rfl, rfl, cpow5 ?_, .inl ⟨_, rfl, q⟩⟩
  omega
theorem aft_ok (d : Dr F M H sa st a0 a1 Hc) (hz : 0 < size) (hz2 : size < 1073741824) (hn0 : 0 ≤ st.n) (hn1 : st.n < lim) (hc : st.cells ≠ [])
    (q1 : ∀ b r, st.bigs = b :: r → ∀ H', Dr F M H sa { st with bigs := b.fdiv size :: r } a0 a1 H' → D.rt (.int (b.fmod size)) H')
    (q2 : st.bigs = [] → ∀ H', Dr F M H sa st a0 a1 H' → D.rt (.int (drawnA st size)) H') :
    tAft K D [some (.ref sa), some (.int size), x2, x3, x4] Hc := by
  refine tS0 d rfl ⟨by show 0 ≤ sizeLine; decide, fun e ne => ?_⟩
  have de := d.junk (o := .lst []) ne
  refine ne_nil de.h0 upd_same ⟨!st.bigs.isEmpty, rfl, ?_⟩
  cases hb : st.bigs with
  | cons b r =>
    refine iteT ?_
    refine tB0' de rfl hb (.inl ⟨b, rfl, _, rfl, b, size, rfl, rfl, fm_ne hz, ?_⟩)
    refine tB0' de rfl hb ⟨_, rfl, b, size, rfl, rfl, ⟨fm_ne hz, by omega⟩, tS0 de rfl ⟨a0, _, 0, 0, rfl, rfl, de.h0, ixN0 (by rw [hb]; simp), ?_⟩⟩
    refine ⟨_, rfl, ?_⟩
    have d2 := de.setB (b.fdiv size :: r)
    rw [hb]
    exact q1 b r hb _ d2
  | nil =>
    refine iteF ?_
    refine tS1 de rfl (tS2 de rfl (.inl ⟨_, rfl, tS1 de rfl ⟨a1, _, rfl, .inl (.of de.h1), ?_⟩⟩))
    have hlen : 0 < st.cells.length := List.length_pos_iff.mpr hc
    obtain ⟨m0, m1⟩ := fmod_lt (a := st.n) (b := (st.cells.length : Nat)) (by omega)
    rw [List.length_map]
    refine ⟨st.n, (st.cells.length : Nat), rfl, rfl, by omega, ?_⟩
    have hix : (st.n.fmod (st.cells.length : Nat)).toNat < st.cells.length := by omega
    refine ⟨a1, _, _, .int (st.cells.getD (st.n.fmod (st.cells.length : Nat)).toNat 0), rfl, rfl, .of de.h1, ?_, .inl ⟨_, rfl, _, 2147483647, rfl, rfl, (by show (2147483647 : Int) ≠ 0; decide), ?_⟩⟩
    · have e : st.n.fmod (st.cells.length : Nat) = (((st.n.fmod (st.cells.length : Nat)).toNat : Nat) : Int) := by omega
      refine at_of e ?_
      rw [List.getElem?_map, List.getD_eq_getElem?_getD, List.getElem?_eq_getElem hix]
      rfl
    obtain ⟨c0, c1⟩ := fmod_lt (a := st.cells.getD (st.n.fmod (st.cells.length : Nat)).toNat 0) (b := 2147483647) (by decide)
    refine tMix' de rfl rfl c0 (by omega) hn0 hn1 (by decide) (by decide) (by decide) ⟨_, 2147483647, rfl, rfl, (by show (2147483647 : Int) ≠ 0; decide), ?_⟩
    obtain ⟨o0, o1⟩ := fmod_lt (a := ((st.cells.getD (st.n.fmod (st.cells.length : Nat)).toNat 0).fmod 2147483647 * 48271 + st.n * 69621 + 7) ^ 5) (b := 2147483647) (by decide)
    refine tMix' de rfl rfl o0 (by omega) hn0 hn1 (by decide) (by decide) (by decide) ⟨_, 2147483629, rfl, rfl, (by show (2147483629 : Int) ≠ 0; decide), _, rfl, _, size, rfl, rfl, fm_ne hz, ?_⟩
    exact q2 hb _ de
theorem draw_ok (d0 : Dr F M H sa st a0 a1 Hc) (hz : 0 < size) (hz2 : size < 1073741824) (hn0 : 0 ≤ st.n) (hn1 : st.n + 1 < lim) (hc : st.cells ≠ [])
    (q1 : ∀ b r, dropZ st.bigs = b :: r → ∀ b0 H', Dr F M H sa { st with bigs := b.fdiv size :: r, n := st.n + 1 } b0 a1 H' → D.rt (.int (b.fmod size)) H')
    (q2 : dropZ st.bigs = [] → ∀ b0 H', Dr F M H sa { st with bigs := [], n := st.n + 1 } b0 a1 H' → D.rt (.int (drawnA { st with bigs := [], n := st.n + 1 } size)) H') :
    tDraw K D [some (.ref sa), some (.int size), none, none, none] Hc := by
  refine ⟨_, rfl, sa, _, 2, .int st.n, rfl, rfl, .of d0.hs, rfl, st.n, 1, rfl, rfl, sa, _, 2, 2, rfl, rfl, d0.hs, rfl, ?_⟩
  have d1 := d0.setN (st.n + 1)
  refine ⟨fun m σ H' => σ = [some (.ref sa), some (.int size), none, none, none] ∧ ∃ a0 bs, m = bs.length ∧ Dr F M H sa { st with bigs := bs, n := st.n + 1 } a0 a1 H' ∧ dropZ bs = dropZ st.bigs, ⟨_, rfl, a0, st.bigs, rfl, d1, rfl⟩, ?_⟩
  rintro m σ H1 ⟨rfl, b0, bs, rfl, d, hbs⟩
  refine tS0 d rfl ⟨by show 0 ≤ sizeLine; decide, fun e ne => ?_⟩
  have de := d.junk (o := .lst []) ne
  refine ne_nil de.h0 upd_same ⟨!bs.isEmpty, rfl, ?_⟩
  cases bs with
  | nil =>
    refine iteF (iteF ?_)
    exact aft_ok de hz hz2 (by show 0 ≤ st.n + 1; omega) hn1 hc (fun b r z => nomatch z) fun _ H' d' => q2 hbs.symm b0 H' d'
  | cons b r =>
    refine iteT (tB0' de rfl rfl ⟨rfl, _, rfl, ?_⟩)
    by_cases hb : b = 0
    · subst hb
      have e1 : decide ((V.int 0) = V.int 0) = true := decide_eq_true rfl
      rw [e1]
      refine iteT ⟨_, fun σ' H' (z : σ' = [some (.ref sa), some (.int size), none, none, none] ∧ ∃ a0, Dr F M H sa { st with bigs := r, n := st.n + 1 } a0 a1 H') => ⟨r.length, Nat.lt_succ_self _, z.1, z.2.choose, r, rfl, z.2.choose_spec, by rw [← hbs]; simp [dropZ]⟩, ?_⟩
      refine tS0 de rfl ⟨1, rfl, b0, _, rfl, .of de.h0, fun p hp => ?_⟩
      have e2 : cutV (((0 : Int) :: r).map V.int) (some 1) none = r.map V.int := by
        rw [List.map_cons]
        unfold cutV
        rw [show HT.sIx ((V.int 0) :: r.map V.int).length 0 (some 1) = min 1 ((V.int 0) :: r.map V.int).length from HT.sIx_nat _ 0 1, HT.sIx_none, List.length_cons, show min 1 ((r.map V.int).length + 1) = 1 by omega]
        show List.take ((r.map V.int).length + 1 - 1) (r.map V.int) = r.map V.int
        rw [Nat.add_sub_cancel, List.take_length]
      show gSub (tVar 0) (tC (.int 0)) rSetL (.ref p) _ _ _
      rw [e2]
      refine ⟨_, rfl, sa, _, 0, 0, rfl, rfl, (by rw [upd_ne (fun z => by rw [← z, de.hs] at hp; cases hp)]; exact de.hs), rfl, rfl, p, ?_⟩
      exact de.tail hp r
    · have e1 : decide ((V.int b) = V.int 0) = false := decide_eq_false fun z => hb (V.int.inj z)
      rw [e1]
      refine iteF ?_
      have e3 : dropZ (b :: r) = b :: r := by simp [dropZ, hb]
      exact aft_ok de hz hz2 (by show 0 ≤ st.n + 1; omega) hn1 hc (fun b' r' z H' d' => q1 b' r' (by rw [← hbs, e3]; exact z) b0 H' d') fun z => nomatch z
end
section
variable {Pr : Program} {w : World} {K : PySem.W.Frag} {mg : Str → Option Value} {base : Heap}
theorem ok_law_draw {f : Addr} {fd : FuncData} (T : TxtA mg) (F : Fun K "_law_draw" "_law_draw" s_law_draw f fd) : FnOk Pr w K mg base (L2.CX Pr w) 1 f fd ["_law_state", "_law_size"] (spD K mg RA 2 m_law_draw) := by
  refine F.okX sc_law_draw (fun vs H Q E h => h.1) (fun cdv A outer s H vs Q E hr h => ?_)
  have sc := sc_law_draw
  refine ⟨tDraw K, pss_cons (ps_augS (pv 0) pe_int get_list pe_int ip_add set_list)
    (pss_cons (ps_while (passes_of rfl) (PW.pt (pw_and (pt_cmpR (op_neD hr.units) (pe_ix ix_list (pv 0) pe_int (fun _ _ => rfl)) (pe_lst pa_nil) (nomark _)) (pw_and1 (pt_cmpR op_eq (pe_ix ix_list (pe_ix ix_list (pv 0) pe_int (fun _ _ => rfl)) pe_int (fun _ _ => rfl)) pe_int (nomark _)))))
      (pss_one (ps_asg (pe_slice sl_list (pe_ix ix_list (pv 0) pe_int (fun _ _ => rfl)) (po_some pe_int) po_none) (pg_sub (pv 0) pe_int set_list))))
    (pss_cons (ps_if (pt_cmpR (op_neD hr.units) (pe_ix ix_list (pv 0) pe_int (fun _ _ => rfl)) (pe_lst pa_nil) (nomark _))
      (pss_cons (ps_set (i := 2) sc.nd rfl (Or.inl rfl) (pe_op op_modN (pe_callTy call_int1 (by rfl) T.n_int boot_x_int (pa_cons (pe_ix ix_list (pe_ix ix_list (pv 0) pe_int (fun _ _ => rfl)) pe_int (fun _ _ => rfl)) pa_nil)) (pv 1)))
      (pss_cons (ps_asg (pe_op op_fdivN (pe_ix ix_list (pe_ix ix_list (pv 0) pe_int (fun _ _ => rfl)) pe_int (fun _ _ => rfl)) (pv 1)) (pg_sub (pe_ix ix_list (pv 0) pe_int (fun _ _ => rfl)) pe_int set_list))
      (pss_one (ps_ret (pv 2))))) pss_nil)
    (pss_cons (ps_set (i := 3) sc.nd rfl (Or.inl rfl) (pe_op op_modN (pe_callTy call_int1 (by rfl) T.n_int boot_x_int (pa_cons (pe_ix ix_list (pe_ix ix_list (pv 0) pe_int (fun _ _ => rfl)) (pe_op op_modN (pe_callTy call_int1 (by rfl) T.n_int boot_x_int (pa_cons (pe_ix ix_list (pv 0) pe_int (fun _ _ => rfl)) pa_nil)) (pe_callB call_len_seq (by rfl) T.n_len boot_x_len (pa_cons (pe_ix ix_list (pv 0) pe_int (fun _ _ => rfl)) pa_nil))) (fun _ _ => rfl)) pa_nil)) pe_int))
    (pss_cons (ps_set (i := 4) sc.nd rfl (Or.inl rfl) (pe_op op_modN (pe_callTy call_int1 (by rfl) T.n_int boot_x_int (pa_cons (pe_op op_pow (pe_op op_add (pe_op op_add (pe_op op_mul (pv 3) pe_int) (pe_op op_mul (pe_ix ix_list (pv 0) pe_int (fun _ _ => rfl)) pe_int)) pe_int) pe_int) pa_nil)) pe_int))
    (pss_one (ps_ret (pe_op op_modN (pe_op op_modN (pe_callTy call_int1 (by rfl) T.n_int boot_x_int (pa_cons (pe_op op_pow (pe_op op_add (pe_op op_add (pe_op op_mul (pv 4) pe_int) (pe_op op_mul (pe_ix ix_list (pv 0) pe_int (fun _ _ => rfl)) pe_int)) pe_int) pe_int) pa_nil)) pe_int) (pv 1)))))))), ?_⟩
  obtain ⟨hv, sa, F0, B, M, ds, st, p, ⟨a0, a1, sat⟩, rs, res⟩ := h
  have dd : ∃ size, ds = [.state, .int size] := by
    unfold m_law_draw at res
    split at res
    · exact ⟨_, rfl⟩
    · exact res.elim
  obtain ⟨size, rfl⟩ := dd
  obtain ⟨v0, vs1, rfl, r0, rs1⟩ := rs
  obtain ⟨v1, rfl, r1⟩ := RepBs.one rs1
  have r0 : v0 = .ref sa := r0
  have r1 : v1 = .int size := r1
  subst r0 r1
  have res : Sat (drawA size st) _ _ := res
  unfold drawA at res
  obtain ⟨⟨hz, hz2, hn0, hnl, hc⟩, res⟩ := Sat.ite res
  have d0 : Dr F0 M H sa st a0 a1 H := ⟨M, .refl p, sat⟩
  refine draw_ok d0 hz hz2 hn0 hnl hc (fun b r e b0 H' d => ?_) fun e b0 H' d => ?_
  · rw [e] at res
    obtain ⟨M', ex, sat'⟩ := d
    exact res F0 M' H' _ ex ⟨_, _, sat'⟩ (by simp only [Rep])
  · rw [e] at res
    obtain ⟨M', ex, sat'⟩ := d
    exact res F0 M' H' _ ex ⟨_, _, sat'⟩ (by simp only [Rep]; rfl)
end
end PD

namespace PD
open PySem PySem.Spec PyProof.Rows L2
section
variable {τ : Type} {P : Pm} {R : τ → Hp → Prop} {W : WX}
def gLstN (a : GA τ) : GI τ := fun ρ st => (a ρ st).bind fun ds st => if freeL ds = true then .ok ds st else .stuck
def gListN (a : GA τ) : GI τ := fun ρ st => (a ρ st).bind fun ds st => match ds with
  | [d] => .of (items d) st
  | _ => .stuck
theorem evn_list {ta : TA} {ga : GA τ} (ha : EvA P R W ta ga) : EvN P R W (tCB (fun xs H Q => ∃ p ys, xs = [.ref p] ∧ (SqL P.K H p ys ∨ SqT P.K H p ys) ∧ ∀ l, H l = none → Q (.ref l) (upd H l (.lst ys))) ta) (gListN ga) := by
  intro F B M H σ ρ st w Q hs
  refine ha F B M H σ ρ st w _ ((Sat.bind hs).mono (fun ds st1 h1 F1 M1 H1 vs E1 R1 rs => ?_) fun _ _ z => z)
  match ds, h1, rs with
  | [d], h1, rs =>
    obtain ⟨v, rfl, r⟩ := rs.one
    obtain ⟨l, e, q⟩ := Sat.of h1
    have p := w.pre.ext E1
    obtain ⟨a, ws, rfl, hq, rw'⟩ := r.seq p e
    refine ⟨a, ws, rfl, hq, fun b hb => ?_⟩
    have hH : H b = none := by
      cases e : H b with
      | none => rfl
      | some o => exact absurd hb (E1.there b (ne_some e))
    exact q F1 M1 _ b ws (E1.trans (.own p hb)) R1 hH (p.f.none hb) (p.m.none hb) upd_same rw'
  | [], h1, rs => exact (show False from h1).elim
  | _ :: _ :: _, h1, rs => exact (show False from h1).elim
end
/-! ### the state's making -/
theorem ret_lst3 {t1 t2 t3 : TE} {D : Ends} {σ : L2.St} {H : Hp} (h : t1 σ H (fun x H1 => t2 σ H1 fun y H2 => t3 σ H2 fun z H3 => 3 ≤ sizeLine ∧ ∀ p, H3 p = none → D.rt (.ref p) (upd H3 p (.lst [x, y, z])))) : tRet (tLst (tCons t1 (tCons t2 (tCons t3 tNil)))) D σ H := h
def bigsOf (ns : List Int) : List Int := (ns.map fun i => if i < 0 then -i else i).filter fun i => decide (10 ^ 18 ≤ i)
def st0 (ns : List Int) : St0 := ⟨bigsOf ns, ns ++ [5], 0⟩
def spStart (K : PySem.W.Frag) : Sp := fun vs H Q _ => ∃ (a : Addr) (ns : List Int), vs = [.ref a] ∧ SqL K H a (ns.map V.int) ∧ ns.length ≤ 63 ∧
  ∀ s M H', Same H H' → Same M H' → (∀ b, M b ≠ none → H b = none) → RA s (st0 ns) M → Q (.ref s) H'
def cStart : GE Unit := gCB (o1 absD) (gCons (gVar 1) gNil)
theorem lc_start (ns : List Int) (ρ : Sl) (h1 : 1 < ρ.length) : lcGo (tgName 1) (gB (gBin dGe cStart (gBin dPow (gC (.int 10)) (gC (.int 18))))) cStart ρ (ns.map D.int) () = .ok ((bigsOf ns).map D.int) () := by
  induction ns with
  | nil => rfl
  | cons n ns ih =>
    have e0 : ∀ d, (ρ.set 1 (.val d))[1]? = some (.val d) := fun d => List.getElem?_set_self h1
    have e1 : tgName 1 (.int n) ρ = some (ρ.set 1 (.val (.int n))) := if_pos h1
    have e2 : cStart (ρ.set 1 (.val (.int n))) () = .ok (.int (if n < 0 then -n else n)) () := by
      simp [cStart, gCB, gCons, gVar, gNil, e0, slotD, Res.bind, Res.of, o1, absD]
    have e3 : (gB (gBin dGe cStart (gBin dPow (gC (.int 10)) (gC (.int 18))))) (ρ.set 1 (.val (.int n))) () = .ok (decide ((10 : Int) ^ 18 ≤ (if n < 0 then -n else n))) () := by
      simp [gB, gBin, e2, gC, Res.bind, Res.of, dPow, oI, dGe, blOf]
    rw [List.map_cons]
    unfold lcGo
    rw [e1]
    show Res.bind (noErr _) _ = _
    rw [e3]
    show (if decide ((10 : Int) ^ 18 ≤ (if n < 0 then -n else n)) = true then _ else _) = _
    have eb : bigsOf (n :: ns) = if decide ((10 : Int) ^ 18 ≤ (if n < 0 then -n else n)) = true then (if n < 0 then -n else n) :: bigsOf ns else bigsOf ns := by
      unfold bigsOf
      rw [List.map_cons, List.filter_cons]
    by_cases hc : decide ((10 : Int) ^ 18 ≤ (if n < 0 then -n else n)) = true
    · rw [if_pos hc, e2, eb, if_pos hc]
      show (Res.bind (lcGo (tgName 1) (gB (gBin dGe cStart (gBin dPow (gC (.int 10)) (gC (.int 18))))) cStart ρ (ns.map D.int) ()) fun ys st => .ok (.int (if n < 0 then -n else n) :: ys) st) = _
      rw [ih]
      rfl
    · rw [if_neg hc, eb, if_neg hc, ih]
section
variable {Pr : Program} {w : World} {K : PySem.W.Frag} {mg : Str → Option Value} {base : Heap}
theorem scr_rep {P : Pm} {F : Hp} {a : Addr} {ns : List Int} (h : SqL P.K F a (ns.map V.int)) : Rep P F (.scr (ns.map D.int)) (.ref a) := by
  simp only [Rep]
  exact ⟨a, _, rfl, h, Reps.pyI ns⟩
theorem ok_law_start {f : Addr} {fd : FuncData} (T : TxtA mg) (F : Fun K "_law_start" "_law_start" s_law_start f fd) : FnOk Pr w K mg base (L2.CX Pr w) 1 f fd ["_law_script"] (spStart K) := by
  refine F.okX sc_law_start (fun vs H Q E h => by obtain ⟨a, ns, rfl, _⟩ := h; rfl) (fun cdv A outer s H vs Q E hr h => ?_)
  obtain ⟨a, ns, rfl, hS, hlen, k⟩ := h
  have sc := sc_law_start
  refine ⟨_, pss_one (ps_ret (pe_lst (pa_cons (pe_lc (own := [("_law_cell", 1)]) rfl sc.nd (pi_all (pv 0)) (blkOk_by (N := ["_law_script", "_law_cell"]) (sc := defScope s_law_start) (by decide +kernel)) (fun _ _ _ _ _ => (pg_name (i := 1) sc.nd rfl (by first | exact Or.inl rfl | exact Or.inr rfl)))
      (fun _ _ _ _ _ => pts_one (pt_cmpR op_ge (pe_callB call_abs (by rfl) T.n_abs boot_x_abs (pa_cons (pv 1) pa_nil)) (pe_op op_pow pe_int pe_int) (nomark _)))
      (fun _ _ _ _ _ => (pe_callB call_abs (by rfl) T.n_abs boot_x_abs (pa_cons (pv 1) pa_nil))))
    (pa_cons (pe_op op_cat (pe_callTy call_list_of (by rfl) T.n_list boot_x_list (pa_cons (pv 0) pa_nil)) (pe_lst (pa_cons pe_int pa_nil))) (pa_cons pe_int pa_nil))))), ?_⟩
  have pre : Pre H (fun _ => none) (fun _ => none) H := ⟨.refl H, fun _ _ z => (nomatch z), fun _ _ z => (nomatch z), fun _ => .inr rfl, fun _ => .inr rfl, fun _ => .inr rfl⟩
  have wi : WI (τ := Unit) ⟨K, mg, 0⟩ (fun _ _ => True) H (fun _ => none) (fun _ => none) H (L2.start ["_law_script", "_law_cell"] [.ref a]) [.val (.scr (ns.map D.int)), .un] () :=
    wi_start (N := ["_law_script", "_law_cell"]) (ds := [.scr (ns.map D.int)]) pre trivial ⟨.ref a, [], rfl, (scr_rep (P := ⟨K, mg, 0⟩) hS).b, rfl⟩ (by simp)
  have ev : EvN (τ := Unit) ⟨K, mg, 0⟩ (fun _ _ => True) W0 _ (gLc (gIt (gVar 0)) (tgName 1) (gB (gBin dGe cStart (gBin dPow (gC (.int 10)) (gC (.int 18))))) cStart [1]) :=
    evn_lc (vs := [1]) (evi_all rfl (ev_var 0)) (tgd_name (by decide)) (evt_test (ev_op opd_ge (ev_cb calld_abs (eva_cons (ev_var 1) eva_nil)) (ev_op opd_pow ev_int ev_int))) (ev_cb calld_abs (eva_cons (ev_var 1) eva_nil))
  have cal : (gLc (gIt (gVar 0)) (tgName 1) (gB (gBin dGe cStart (gBin dPow (gC (.int 10)) (gC (.int 18))))) cStart [1]) [.val (.scr (ns.map D.int)), .un] () = .ok ((bigsOf ns).map D.int) () := by
    show (if (ns.map D.int).length ≤ line then lcGo _ _ _ _ (ns.map D.int) () else .stuck) = _
    rw [if_pos (by rw [List.length_map]; show ns.length ≤ 16777216; omega)]
    exact lc_start ns _ (by simp [wipeS])
  refine ret_lst3 (ev H _ _ H _ _ () wi _ ?_)
  rw [cal]
  intro F1 M1 H1 a0 vs E1 _ n0 f0 m0 h0 rs
  have s1 : Same H H1 := fun b o e => E1.keep b o e rfl
  have ev0 : vs = (bigsOf ns).map V.int := by
    have key : ∀ (l : List Int) (vs : List V), Reps ⟨K, mg, 0⟩ F1 (l.map D.int) vs → vs = l.map V.int := by
      intro l
      induction l with
      | nil => intro vs r; simpa only [List.map_nil, Reps] using r
      | cons x l ih =>
        intro vs r
        obtain ⟨v, ws, rfl, r1, rs⟩ := r.uncons
        simp only [Rep] at r1
        rw [r1, ih ws rs]; rfl
    exact key _ _ rs
  subst ev0
  refine ⟨.ref a, rfl, a, ns.map V.int, rfl, .inl (s1.seq hS), fun l hl => ⟨?_, fun q hq => ⟨l, q, ns.map V.int, [V.int 5], rfl, rfl, ?_, upd_same, ?_, fun p hp => ?_⟩⟩⟩
  · show 1 ≤ sizeLine; decide
  · rw [upd_ne (fun z => by rw [← z, upd_same] at hq; cases hq)]
    exact upd_same
  · rw [List.length_map, line_eq]
    show ns.length + 1 ≤ 16777216
    omega
  refine ⟨?_, fun s hs => ?_⟩
  · show 3 ≤ sizeLine; decide
  have sl := same_updP (o := .lst (ns.map V.int)) hl
  have sq := same_updP (o := .lst [V.int 5]) hq
  have sp := same_updP (o := .lst (ns.map V.int ++ [V.int 5])) hp
  have ss := same_updP (o := .lst [V.ref a0, V.ref p, V.int 0]) hs
  have hp1 : H1 p = none := sl.none (sq.none hp)
  have hpH : H p = none := s1.none hp1
  have hs1 : H1 s = none := sl.none (sq.none (sp.none hs))
  have hsH : H s = none := s1.none hs1
  have n0p : a0 ≠ p := fun z => by rw [← z, h0] at hp1; cases hp1
  have n0s : a0 ≠ s := fun z => by rw [← z, h0] at hs1; cases hs1
  have nps : p ≠ s := fun z => by rw [← z, upd_same] at hs; cases hs
  have all := sl.trans (sq.trans (sp.trans ss))
  refine k s (upd (upd (upd (fun _ => none) a0 (.lst ((bigsOf ns).map V.int))) p (.lst ((ns ++ [5]).map V.int))) s (.lst [V.ref a0, V.ref p, V.int 0])) _ (s1.trans all) (fun b o e => ?_) (fun b e => ?_) ⟨a0, p, upd_same, ?_, ?_, n0s, nps, n0p⟩
  · by_cases hb : b = s
    · subst hb; rw [upd_same] at e ⊢; exact e
    · rw [upd_ne hb] at e
      by_cases hb2 : b = p
      · subst hb2
        rw [upd_same] at e; cases e
        rw [List.map_append]
        exact ss _ _ upd_same
      · rw [upd_ne hb2] at e
        by_cases hb3 : b = a0
        · subst hb3; rw [upd_same] at e; cases e; exact all _ _ h0
        · rw [upd_ne hb3] at e; cases e
  · by_cases hb : b = s
    · rw [hb]; exact hsH
    · rw [upd_ne hb] at e
      by_cases hb2 : b = p
      · rw [hb2]; exact hpH
      · rw [upd_ne hb2] at e
        by_cases hb3 : b = a0
        · rw [hb3]; exact n0
        · rw [upd_ne hb3] at e; exact absurd rfl e
  · rw [upd_ne n0s, upd_ne n0p, upd_same]; rfl
  · rw [upd_ne nps, upd_same]; rfl

/-! ### the law -/
def spLaw (K : PySem.W.Frag) : Sp := fun vs H Q _ => ∃ (a : Addr) (ns : List Int), vs = [.ref a] ∧ SqL K H a (ns.map V.int) ∧ ns.length ≤ 63 ∧ ∀ H', Q (.bl true) H'
theorem fn_law {f : Addr} {fd : FuncData} {stm : Stmt} {N : List Str} {lv k : Nat} {g : GS St0} (F : Fun K "law" "law" stm f fd) (S : FnScope ("_law_script" :: "_law_state" :: N) ["_law_script"] (defScope stm)) (cs : Cal Pr w K mg base lv "_law_start" ["_law_script"] (spStart K)) (hlv : lv ≤ k)
    {first : Stmt} {rest : List Stmt} (hb : defBody stm = first :: rest)
    (h1 : ∀ (cdv : Value) (A : Around) (outer : List Env) (s : Shared) (H : Hp) (E : XK), Room k (A.deeper (envOfC "law" (defScope stm) s.heap.objs.size f cdv)) →
      PS (cxOf (L2.CX Pr w) Pr w K mg base ("_law_script" :: "_law_state" :: N) "law" (defScope stm) f cdv A outer s H E) first (tAsg (tCallS (spStart K) (WE fun c d _ H' => E c d H') (tCons (tVar 0) tNil)) (gName 1)))
    (hbody : ∀ (cdv : Value) (A : Around) (outer : List Env) (s : Shared) (H : Hp) (E : XK), Room k (A.deeper (envOfC "law" (defScope stm) s.heap.objs.size f cdv)) →
      ∃ t, PSs (cxOf (L2.CX Pr w) Pr w K mg base ("_law_script" :: "_law_state" :: N) "law" (defScope stm) f cdv A outer s H E) rest t ∧ ∀ sa, EvS ⟨K, mg, sa⟩ (RA sa) (fun c d _ H' => E c d H') t g)
    (hg : ∀ ns : List Int, ns.length ≤ 63 → SatS (g (.val (.scr (ns.map D.int)) :: .val .state :: List.replicate N.length .un) (st0 ns)) (fun fl _ => fl = .rt (.bl true))) :
    FnOk Pr w K mg base (L2.CX Pr w) (k + 1) f fd ["_law_script"] (spLaw K) := by
  refine F.okX S (fun vs H Q E h => by obtain ⟨a, ns, rfl, _⟩ := h; rfl) (fun cdv A outer s H vs Q E hr h => ?_)
  obtain ⟨a, ns, rfl, hS, hlen, q⟩ := h
  obtain ⟨t, ht, hev⟩ := hbody cdv A outer s H E hr
  refine ⟨tSeq _ t, by rw [hb]; exact pss_cons (h1 cdv A outer s H E hr) ht, ?_⟩
  refine ⟨.ref a, rfl, a, ns, rfl, hS, hlen, fun sa M H' hH hM hd hR => ?_⟩
  have pre : Pre H (fun _ => none) M H' := ⟨hH, fun _ _ z => (nomatch z), hM, fun _ => .inr rfl, fun b => by
    by_cases e : M b = none
    · exact .inr e
    · exact .inl (hd b e), fun _ => .inl rfl⟩
  have wi : WI ⟨K, mg, sa⟩ (RA sa) H (fun _ => none) M H' (L2.start ("_law_script" :: "_law_state" :: N) [.ref a]) (.val (.scr (ns.map D.int)) :: List.replicate (N.length + 1) .un) (st0 ns) :=
    wi_start (N := "_law_script" :: "_law_state" :: N) (ds := [.scr (ns.map D.int)]) pre hR ⟨.ref a, [], rfl, (scr_rep (P := ⟨K, mg, sa⟩) hS).b, rfl⟩ (by simp)
  have wi2 := wi.set (i := 1) (d := .state) (v := .ref sa) (by simp only [Rep])
  refine hev sa H _ M H' _ _ (st0 ns) wi2 _ ?_
  have hs := hg ns hlen
  refine SatS.mono (r := g _ _) (k := fun fl _ => fl = .rt (.bl true)) (by simpa [List.replicate_succ] using hs) fun fl st' e => ?_
  subst e
  intro F' M' H2 v e R' r
  simp only [Rep] at r
  subst r
  exact q H2
end
end PD

namespace PD
open PySem PySem.Spec PyProof.Rows L2
/-! ### what a mirror comes to, step by step -/
section
variable {τ α β : Type}
@[simp] theorem Sat.bind_iff {r : Res τ α} {f : α → τ → Res τ β} {ok : β → τ → Prop} {er : Exn → τ → Prop} : Sat (r.bind f) ok er ↔ Sat r (fun a st => Sat (f a st) ok er) er := by
  cases r <;> exact Iff.rfl
@[simp] theorem Sat.ok_iff {a : α} {st : τ} {ok : α → τ → Prop} {er : Exn → τ → Prop} : Sat (.ok a st) ok er ↔ ok a st := Iff.rfl
@[simp] theorem Sat.err_iff {x : Exn} {st : τ} {ok : α → τ → Prop} {er : Exn → τ → Prop} : Sat (.err x st) ok er ↔ er x st := Iff.rfl
@[simp] theorem Sat.of_some {a : α} {st : τ} {ok : α → τ → Prop} {er : Exn → τ → Prop} : Sat (.of (some a) st) ok er ↔ ok a st := Iff.rfl
theorem Sat.of_iff {o : Option α} {st : τ} {ok : α → τ → Prop} {er : Exn → τ → Prop} : Sat (.of o st) ok er ↔ ∃ a, o = some a ∧ ok a st := by
  cases o with
  | none => exact ⟨fun h => h.elim, fun ⟨_, h, _⟩ => nomatch h⟩
  | some a => exact ⟨fun h => ⟨a, rfl, h⟩, fun ⟨_, h, k⟩ => by cases h; exact k⟩
@[simp] theorem Sat.ite_iff {c : Prop} [Decidable c] {a b : Res τ α} {ok : α → τ → Prop} {er : Exn → τ → Prop} : Sat (if c then a else b) ok er ↔ if c then Sat a ok er else Sat b ok er := by
  split <;> exact Iff.rfl
@[simp] theorem Sat.noErr_iff {r : Res τ α} {ok : α → τ → Prop} {er : Exn → τ → Prop} : Sat (PD.noErr r) ok er ↔ Sat r ok (fun _ _ => False) := by
  cases r <;> exact Iff.rfl
@[simp] theorem SatS.some_iff {f : Fl} {st : τ} {k : Fl → τ → Prop} : SatS (some (f, st)) k ↔ k f st := Iff.rfl
@[simp] theorem SatS.none_iff {k : Fl → τ → Prop} : SatS none k ↔ False := Iff.rfl
@[simp] theorem SatS.thenE_iff {r : Res τ α} {ρ : Sl} {f : α → τ → RS τ} {k : Fl → τ → Prop} : SatS (PD.thenE r ρ f) k ↔ Sat r (fun a st => SatS (f a st) k) (fun x st => k (.ex x ρ) st) := by
  cases r <;> exact Iff.rfl
@[simp] theorem SatS.ite_iff {c : Prop} [Decidable c] {a b : RS τ} {k : Fl → τ → Prop} : SatS (if c then a else b) k ↔ if c then SatS a k else SatS b k := by
  split <;> exact Iff.rfl
/-- what follows a block's end -/
def thenS (b : GS τ) (k : Fl → τ → Prop) : Fl → τ → Prop
  | .nx ρ, st => SatS (b ρ st) k
  | f, st => k f st
@[simp] theorem SatS.seq_iff {a b : GS τ} {ρ : Sl} {st : τ} {k : Fl → τ → Prop} : SatS (sSeq a b ρ st) k ↔ SatS (a ρ st) (thenS b k) := by
  unfold sSeq
  cases e : a ρ st with
  | none => exact Iff.rfl
  | some p => obtain ⟨f, st'⟩ := p; cases f <;> exact Iff.rfl
@[simp] theorem thenS_nx {b : GS τ} {k : Fl → τ → Prop} {ρ : Sl} {st : τ} : thenS b k (.nx ρ) st ↔ SatS (b ρ st) k := Iff.rfl
@[simp] theorem thenS_rt {b : GS τ} {k : Fl → τ → Prop} {d : D} {st : τ} : thenS b k (.rt d) st ↔ k (.rt d) st := Iff.rfl
@[simp] theorem thenS_rn {b : GS τ} {k : Fl → τ → Prop} {d : List D} {st : τ} : thenS b k (.rn d) st ↔ k (.rn d) st := Iff.rfl
@[simp] theorem thenS_ex {b : GS τ} {k : Fl → τ → Prop} {x : Exn} {ρ : Sl} {st : τ} : thenS b k (.ex x ρ) st ↔ k (.ex x ρ) st := Iff.rfl
/-- a loop -/
def forK (t : D → Sl → Option Sl) (body : GS τ) (ds : List D) (k : Fl → τ → Prop) : Fl → τ → Prop
  | .nx ρ, st => SatS (sForGo t body ds ρ st) k
  | .ct ρ, st => SatS (sForGo t body ds ρ st) k
  | .bk ρ, st => k (.nx ρ) st
  | f, st => k f st
theorem SatS.for_cons {t : D → Sl → Option Sl} {body : GS τ} {d : D} {ds : List D} {ρ ρ1 : Sl} {st : τ} {k : Fl → τ → Prop} (h : t d ρ = some ρ1) : SatS (sForGo t body (d :: ds) ρ st) k ↔ SatS (body ρ1 st) (forK t body ds k) := by
  have e : sForGo t body (d :: ds) ρ st = match body ρ1 st with
      | some (.nx ρ2, st2) => sForGo t body ds ρ2 st2
      | some (.ct ρ2, st2) => sForGo t body ds ρ2 st2
      | some (.bk ρ2, st2) => some (.nx ρ2, st2)
      | r => r := by
    rw [sForGo, h] <;> rfl
  rw [e]
  cases e2 : body ρ1 st with
  | none => exact Iff.rfl
  | some p => obtain ⟨f, st'⟩ := p; cases f <;> exact Iff.rfl
theorem SatS.for_nil {t : D → Sl → Option Sl} {body : GS τ} {ρ : Sl} {st : τ} {k : Fl → τ → Prop} : SatS (sForGo t body [] ρ st) k ↔ k (.nx ρ) st := Iff.rfl
@[simp] theorem SatS.for_iff {gi : GI τ} {t : D → Sl → Option Sl} {body : GS τ} {ρ : Sl} {st : τ} {k : Fl → τ → Prop} : SatS (sFor gi t body ρ st) k ↔ Sat (gi ρ st) (fun ds st => SatS (sForGo t body ds ρ st) k) (fun x st => k (.ex x ρ) st) := SatS.thenE_iff
@[simp] theorem forK_nx {t : D → Sl → Option Sl} {body : GS τ} {ds : List D} {k : Fl → τ → Prop} {ρ : Sl} {st : τ} : forK t body ds k (.nx ρ) st ↔ SatS (sForGo t body ds ρ st) k := Iff.rfl
@[simp] theorem forK_rt {t : D → Sl → Option Sl} {body : GS τ} {ds : List D} {k : Fl → τ → Prop} {d : D} {st : τ} : forK t body ds k (.rt d) st ↔ k (.rt d) st := Iff.rfl
/-- over a list, by an invariant: I before the items that are left -/
theorem SatS.for_inv {t : D → Sl → Option Sl} {body : GS τ} {k : Fl → τ → Prop} (I : List D → Sl → τ → Prop)
    (hd : ∀ ρ st, I [] ρ st → k (.nx ρ) st)
    (hs : ∀ d ds ρ st, I (d :: ds) ρ st → ∃ ρ1, t d ρ = some ρ1 ∧ SatS (body ρ1 st) (fun f st' => match f with
      | .nx ρ2 => I ds ρ2 st'
      | .ct ρ2 => I ds ρ2 st'
      | .bk ρ2 => k (.nx ρ2) st'
      | f => k f st')) : ∀ (ds : List D) (ρ : Sl) (st : τ), I ds ρ st → SatS (sForGo t body ds ρ st) k
  | [], ρ, st, h => hd ρ st h
  | d :: ds, ρ, st, h => by
    obtain ⟨ρ1, e, q⟩ := hs d ds ρ st h
    rw [SatS.for_cons e]
    refine q.mono fun f st' r => ?_
    cases f with
    | nx ρ2 => exact SatS.for_inv I hd hs ds ρ2 st' r
    | ct ρ2 => exact SatS.for_inv I hd hs ds ρ2 st' r
    | bk ρ2 => exact r
    | rt d => exact r
    | rn d => exact r
    | ex x ρ => exact r
/-- the call of a def, by its body -/
theorem Sat.fn_iff {N : Nat} {g : GS τ} {ds : List D} {st : τ} {ok : D → τ → Prop} {er : Exn → τ → Prop}
    (h : SatS (g (ds.map slOf ++ List.replicate (N - ds.length) .un) st) (fun f st' => match f with
      | .rt d => ok d st'
      | .rn xs => ok (.lst xs) st'
      | .nx _ => ok .non st'
      | .ex x _ => er x st'
      | _ => False)) : Sat (gFn N g ds st) ok er := by
  unfold gFn
  cases e : g (ds.map slOf ++ List.replicate (N - ds.length) .un) st with
  | none => rw [e] at h; exact h.elim
  | some p =>
    obtain ⟨f, st'⟩ := p
    rw [e] at h
    cases f <;> exact h
theorem Sat.fnN_iff {N : Nat} {g : GS τ} {ds : List D} {st : τ} {ok : List D → τ → Prop} {er : Exn → τ → Prop}
    (h : SatS (g (ds.map slOf ++ List.replicate (N - ds.length) .un) st) (fun f st' => match f with
      | .rn xs => ok xs st'
      | .ex x _ => er x st'
      | _ => False)) : Sat (gFnN N g ds st) ok er := by
  unfold gFnN
  cases e : g (ds.map slOf ++ List.replicate (N - ds.length) .un) st with
  | none => rw [e] at h; exact h.elim
  | some p =>
    obtain ⟨f, st'⟩ := p
    rw [e] at h
    cases f <;> exact h
/-- a comprehension, item by item -/
theorem Sat.lc_cons {tg : D → Sl → Option Sl} {c : GT τ} {e : GE τ} {ρ ρ1 : Sl} {d : D} {ds : List D} {st : τ} {ok : List D → τ → Prop} {er : Exn → τ → Prop} (h : tg d ρ = some ρ1) :
    Sat (lcGo tg c e ρ (d :: ds) st) ok er ↔ Sat (c ρ1 st) (fun b st => if b = true then Sat (e ρ1 st) (fun y st => borFree y = true ∧ Sat (lcGo tg c e ρ ds st) (fun ys st => ok (y :: ys) st) er) (fun _ _ => False) else Sat (lcGo tg c e ρ ds st) ok er) (fun _ _ => False) := by
  rw [lcGo, h]
  simp only [Sat.bind_iff, Sat.of_some, Sat.noErr_iff, Sat.ite_iff]
  have key : ∀ (y : D) (st : τ), (if borFree y = true then Sat (lcGo tg c e ρ ds st) (fun a st => Sat (Res.ok (y :: a) st) ok er) er else Sat Res.stuck ok er) ↔ (borFree y = true ∧ Sat (lcGo tg c e ρ ds st) (fun ys st => ok (y :: ys) st) er) := by
    intro y st
    by_cases hb : borFree y = true
    · rw [if_pos hb]; exact ⟨fun q => ⟨hb, q⟩, fun q => q.2⟩
    · rw [if_neg hb]; exact ⟨fun q => q.elim, fun q => absurd q.1 hb⟩
  simp only [key]
theorem Sat.lc_nil {tg : D → Sl → Option Sl} {c : GT τ} {e : GE τ} {ρ : Sl} {st : τ} {ok : List D → τ → Prop} {er : Exn → τ → Prop} : Sat (lcGo tg c e ρ [] st) ok er ↔ ok [] st := Iff.rfl
end
/-! ### draws -/
/-- k draws may still come -/
structure Ok (k : Nat) (st : St0) : Prop where
  h0 : 0 ≤ st.n
  h1 : st.n + (k : Nat) < lim
  h2 : st.cells ≠ []
theorem Ok.le {j k : Nat} {st : St0} (h : Ok k st) (l : j ≤ k) : Ok j st := ⟨h.h0, by have := h.h1; omega, h.h2⟩
theorem sat_draw {size : Int} {st : St0} {k : Nat} {ok : D → St0 → Prop} {er : Exn → St0 → Prop} (h : Ok (k + 1) st) (hz : 0 < size) (hz2 : size < 1073741824) (q : ∀ r st', 0 ≤ r → r < size → Ok k st' → ok (.int r) st') :
    Sat (m_law_draw [.state, .int size] st) ok er := by
  have h0 := h.h0
  have h1 := h.h1
  have h2 := h.h2
  show Sat (drawA size st) ok er
  unfold drawA
  rw [if_pos ⟨hz, hz2, h0, by omega, h2⟩]
  cases e : dropZ st.bigs with
  | cons b r =>
    obtain ⟨m0, m1⟩ := fmod_lt (a := b) hz
    exact q _ _ m0 m1 ⟨by show 0 ≤ st.n + 1; omega, by show st.n + 1 + (k : Nat) < lim; omega, h2⟩
  | nil =>
    obtain ⟨m0, m1⟩ := fmod_lt (a := ((((((st.cells.getD (((st.n + 1).fmod st.cells.length).toNat) 0).fmod 2147483647) * 48271 + (st.n + 1) * 69621 + 7) ^ 5).fmod 2147483647 * 16807 + (st.n + 1) * 40692 + 13) ^ 5).fmod 2147483629) hz
    exact q _ _ m0 m1 ⟨by show 0 ≤ st.n + 1; omega, by show st.n + 1 + (k : Nat) < lim; omega, h2⟩
theorem st0_ok (ns : List Int) : Ok 1000000000 (st0 ns) := ⟨Int.le_refl 0, show (0 : Int) + ((1000000000 : Nat) : Int) < lim by decide, by simp [st0]⟩
/-! ### values -/
theorem shaped_int (i : Int) : SeqAt.shaped (.int i) = true := by simp [SeqAt.shaped, PyData.canLay0, PyData.depth]
theorem shaped_bool (i : Bool) : SeqAt.shaped (.bool i) = true := by simp [SeqAt.shaped, PyData.canLay0, PyData.depth]
/-- the signs of a text are signs -/
def sOk (i : Str) : Bool := PyData.strOk i
theorem shaped_str {i : Str} (h : sOk i = true) : SeqAt.shaped (.str i) = true := by
  have h : PyData.strOk i = true := h
  simp [SeqAt.shaped, PyData.canLay0, PyData.depth, h]
@[simp] theorem dEq_int (a b : Int) : dEq (.int a) (.int b) = some (.bl (a == b)) := by simp [dEq, dEqB, toPy, shaped_int, PyData.eqv]
@[simp] theorem dNe_int (a b : Int) : dNe (.int a) (.int b) = some (.bl (!(a == b))) := by simp [dNe, dEqB, toPy, shaped_int, PyData.eqv]
theorem dEq_str {a b : Str} (h : sOk a = true) (k : sOk b = true) : dEq (.str a) (.str b) = some (.bl (a == b)) := by simp [dEq, dEqB, toPy, shaped_str h, shaped_str k, PyData.eqv]
theorem dNe_str {a b : Str} (h : sOk a = true) (k : sOk b = true) : dNe (.str a) (.str b) = some (.bl (!(a == b))) := by simp [dNe, dEqB, toPy, shaped_str h, shaped_str k, PyData.eqv]
@[simp] theorem dEq_bl (a b : Bool) : dEq (.bl a) (.bl b) = some (.bl (a == b)) := by simp [dEq, dEqB, toPy, shaped_bool, PyData.eqv]
@[simp] theorem dNe_bl (a b : Bool) : dNe (.bl a) (.bl b) = some (.bl (!(a == b))) := by simp [dNe, dEqB, toPy, shaped_bool, PyData.eqv]
/-! data that the kit compares -/
mutual
def okD : D → Bool
  | .non => true
  | .bl _ => true
  | .int _ => true
  | .str s => sOk s
  | .tup xs => okDs xs
  | .lst xs => okDs xs
  | .bor xs => okDs xs
  | .scr xs => okDs xs
  | .dct _ => false
  | .ins _ _ => false
  | .state => false
def okDs : List D → Bool
  | [] => true
  | d :: ds => okD d && okDs ds
end
mutual
def dptD : D → Nat
  | .tup xs => dptDs xs + 1
  | .lst xs => dptDs xs + 1
  | .bor xs => dptDs xs + 1
  | .scr xs => dptDs xs + 1
  | _ => 0
def dptDs : List D → Nat
  | [] => 0
  | d :: ds => max (dptD d) (dptDs ds)
end
mutual
theorem okD_py : ∀ d : D, okD d = true → ∃ p, toPy d = some p ∧ PyData.canLay0 p = true ∧ PyData.depth p = dptD d
  | .non, _ => ⟨.none, by simp only [toPy], by simp only [PyData.canLay0], by simp only [PyData.depth, dptD]⟩
  | .bl b, _ => ⟨.bool b, by simp only [toPy], by simp only [PyData.canLay0], by simp only [PyData.depth, dptD]⟩
  | .int i, _ => ⟨.int i, by simp only [toPy], by simp only [PyData.canLay0], by simp only [PyData.depth, dptD]⟩
  | .str s, h => ⟨.str s, by simp only [toPy], by simp only [PyData.canLay0]; simpa only [okD, sOk] using h, by simp only [PyData.depth, dptD]⟩
  | .tup xs, h => by
    obtain ⟨ps, e, c, k⟩ := okDs_py xs (by simpa only [okD] using h)
    exact ⟨.tuple ps, by simp only [toPy, e, Option.map_some], by simpa only [PyData.canLay0] using c, by simp only [PyData.depth, dptD, k]⟩
  | .lst xs, h => by
    obtain ⟨ps, e, c, k⟩ := okDs_py xs (by simpa only [okD] using h)
    exact ⟨.list ps, by simp only [toPy, e, Option.map_some], by simpa only [PyData.canLay0] using c, by simp only [PyData.depth, dptD, k]⟩
  | .bor xs, h => by
    obtain ⟨ps, e, c, k⟩ := okDs_py xs (by simpa only [okD] using h)
    exact ⟨.list ps, by simp only [toPy, e, Option.map_some], by simpa only [PyData.canLay0] using c, by simp only [PyData.depth, dptD, k]⟩
  | .scr xs, h => by
    obtain ⟨ps, e, c, k⟩ := okDs_py xs (by simpa only [okD] using h)
    exact ⟨.list ps, by simp only [toPy, e, Option.map_some], by simpa only [PyData.canLay0] using c, by simp only [PyData.depth, dptD, k]⟩
  | .dct _, h => by simp only [okD] at h; cases h
  | .ins _ _, h => by simp only [okD] at h; cases h
  | .state, h => by simp only [okD] at h; cases h
theorem okDs_py : ∀ ds : List D, okDs ds = true → ∃ ps, toPys ds = some ps ∧ PyData.canLayAll0 ps = true ∧ PyData.depthAll ps = dptDs ds
  | [], _ => ⟨[], by simp only [toPys], by simp only [PyData.canLayAll0], by simp only [PyData.depthAll, dptDs]⟩
  | d :: ds, h => by
    have h : okD d = true ∧ okDs ds = true := by simpa only [okDs, Bool.and_eq_true] using h
    obtain ⟨p, e, c, k⟩ := okD_py d h.1
    obtain ⟨ps, e2, c2, k2⟩ := okDs_py ds h.2
    exact ⟨p :: ps, by simp only [toPys, e, e2], by simp only [PyData.canLayAll0, c, c2, Bool.and_self], by simp only [PyData.depthAll, dptDs, k, k2]⟩
end
/-- == of data -/
def eqD (x y : D) : Bool :=
  match toPy x, toPy y with
  | some a, some b => PyData.eqv a b
  | _, _ => false
theorem dEqB_ok {x y : D} (hx : okD x = true) (hy : okD y = true) (dx : dptD x ≤ 64) (dy : dptD y ≤ 64) : dEqB x y = some (eqD x y) := by
  obtain ⟨a, e, c, k⟩ := okD_py x hx
  obtain ⟨b, e2, c2, k2⟩ := okD_py y hy
  have h1 : SeqAt.shaped a = true := by simp only [SeqAt.shaped, c, k, dx, decide_true, Bool.and_self]
  have h2 : SeqAt.shaped b = true := by simp only [SeqAt.shaped, c2, k2, dy, decide_true, Bool.and_self]
  simp only [dEqB, eqD, e, e2]
  rw [if_pos ⟨h1, h2⟩]
theorem dEq_ok {x y : D} (hx : okD x = true) (hy : okD y = true) (dx : dptD x ≤ 64) (dy : dptD y ≤ 64) : dEq x y = some (.bl (eqD x y)) := by simp only [dEq, dEqB_ok hx hy dx dy, Option.map_some]
theorem dNe_ok {x y : D} (hx : okD x = true) (hy : okD y = true) (dx : dptD x ≤ 64) (dy : dptD y ≤ 64) : dNe x y = some (.bl (!eqD x y)) := by simp only [dNe, dEqB_ok hx hy dx dy, Option.map_some]
theorem okDs_all : ∀ {ds : List D}, (∀ d ∈ ds, okD d = true) → okDs ds = true
  | [], _ => by simp only [okDs]
  | d :: ds, h => by simp only [okDs, h d (.head _), okDs_all fun e he => h e (.tail _ he), Bool.and_self]
theorem dptDs_le : ∀ {ds : List D} {n : Nat}, (∀ d ∈ ds, dptD d ≤ n) → dptDs ds ≤ n
  | [], _, _ => by simp only [dptDs]; exact Nat.zero_le _
  | d :: ds, n, h => by simp only [dptDs]; exact Nat.max_le.mpr ⟨h d (.head _), dptDs_le fun e he => h e (.tail _ he)⟩
theorem eqD_nil {xs : List D} (h : okDs xs = true) : eqD (.lst xs) (.lst []) = xs.isEmpty := by
  obtain ⟨ps, e, _, _⟩ := okDs_py xs h
  cases xs with
  | nil => simp [eqD, toPy, toPys, PyData.eqv, PyData.eqvAll]
  | cons d ds =>
    simp only [toPys] at e
    split at e
    · rename_i a r e1 e2
      simp [eqD, toPy, toPys, e1, e2, PyData.eqv, PyData.eqvAll]
    · cases e
theorem eqD_bnil {xs : List D} (h : okDs xs = true) : eqD (.bor xs) (.lst []) = xs.isEmpty := by
  have := eqD_nil h
  simpa only [eqD, toPy] using this
@[simp] theorem dIn_sign (c : Nat) (z : Str) : dIn (.str ⟨#[c]⟩) (.str z) = some (.bl (decide (c ∈ z.cps))) := by
  simp only [dIn, inD, Option.map_some]
  rw [PySem.StrLaws.found_one]
  simp
@[simp] theorem dNotIn_sign (c : Nat) (z : Str) : dNotIn (.str ⟨#[c]⟩) (.str z) = some (.bl (!decide (c ∈ z.cps))) := by
  simp only [dNotIn, inD, Option.map_some]
  rw [PySem.StrLaws.found_one]
  simp
end PD

namespace PD
open PySem PySem.Spec PyProof.Rows L2
structure Txt (mg : Str → Option Value) : Prop where
  n_abs : mg "abs" = none
  n_bool : mg "bool" = none
  n_int : mg "int" = none
  n_isinstance : mg "isinstance" = none
  n_len : mg "len" = none
  n_list : mg "list" = none
  n_range : mg "range" = none
  c_DIGITS : ∃ t, mg "DIGITS" = some (.str (PySem.Str.ofString "0123456789") t)
  c_LETTERS : ∃ t, mg "LETTERS" = some (.str (PySem.Str.ofString "abcdefghijklmnopqrstuvwxyz") t)
  c_LONGEST : ∃ t, mg "LONGEST" = some (.int 6 t)
section
variable {Pr : Program} {w : World} {K : PySem.W.Frag} {mg : Str → Option Value} {base : Heap}
abbrev s_valid_name : Stmt := topS 4
abbrev n_valid_name : List Str := ["text", "char"]
theorem sc_valid_name : FnScope n_valid_name ["text"] (defScope s_valid_name) := ⟨rfl, rfl, rfl, by decide +kernel, rfl, by decide +kernel, by decide +kernel⟩
def b_valid_name : GS St0 :=
    (sSeq (sIf (gOr (gNot (gB (gChain dLe dLe (gC (.int 1)) (gCB (o1 lenD) (gCons (gVar 0) gNil)) (gC (.int 6))))) (gB (gBin dNotIn (gBin ixD (gVar 0) (gC (.int 0))) (gC (.str (PySem.Str.ofString "abcdefghijklmnopqrstuvwxyz")))))) (sRet (gC (.bl false))) sNext)
    (sSeq (sFor (gItF (gVar 0)) (tgName 1) (sIf (gAnd (gB (gBin dNotIn (gVar 1) (gC (.str (PySem.Str.ofString "abcdefghijklmnopqrstuvwxyz"))))) (gB (gBin dNotIn (gVar 1) (gC (.str (PySem.Str.ofString "0123456789")))))) (sRet (gC (.bl false))) sNext))
    (sRet (gC (.bl true)))))
def m_valid_name : List D → St0 → Res St0 D := gFn 2 b_valid_name
theorem ok_valid_name {f : Addr} {fd : FuncData} (T : Txt mg) (F : Fun K "valid_name" "valid_name" s_valid_name f fd) : FnOk Pr w K mg base (L2.CX Pr w) 1 f fd ["text"] (spD K mg RA 1 m_valid_name) :=
  fn_d F sc_valid_name rfl (by decide) fun sa cdv A outer s H E hr => by
    have sc := sc_valid_name
    have tk : Takes (cxOf (L2.CX Pr w) Pr w K mg base n_valid_name "valid_name" (defScope s_valid_name) f cdv A outer s H E) (fun c d _ H' => E c d H') := takes_of rfl rfl rfl rfl
    refine ⟨_, (pss_cons (ps_if (PW.pt (pw_or (pt_not (pt_chain op_le op_le pe_int (pe_callB (k_len K) (by rfl) T.n_len boot_x_len (pa_cons (pv 0) pa_nil)) (pe_gint T.c_LONGEST))) (pw_or1 (pt_cmpR (k_notIn K (room65 hr)) (pe_ix (k_ix K) (pv 0) pe_int (fun _ _ => rfl)) (pe_gstr T.c_LETTERS) (by rfl))))) (pss_one (ps_ret pe_bl)) pss_nil)
      (pss_cons (ps_for (passes_of rfl) rfl (k_it K (pv 0)) (pg_name (i := 1) sc.nd rfl (by first | exact Or.inl rfl | exact Or.inr rfl)) (pss_one (ps_if (PW.pt (pw_and (pt_cmpR (k_notIn K (room65 hr)) (pv 1) (pe_gstr T.c_LETTERS) (by rfl)) (pw_and1 (pt_cmpR (k_notIn K (room65 hr)) (pv 1) (pe_gstr T.c_DIGITS) (by rfl))))) (pss_one (ps_ret pe_bl)) pss_nil)))
      (pss_one (ps_ret pe_bl)))), ?_⟩
    exact (evs_seq (evs_if (evt_or (evt_not (evt_test (ev_chain opd_le opd_le ev_int (ev_cb calld_len (eva_cons (ev_var 0) eva_nil)) ev_int))) (evt_test (ev_op opd_notIn (ev_op opd_ix (ev_var 0) ev_int) ev_str))) (evs_ret ev_bl) evs_next)
      (evs_seq (evs_for (vs := [1]) (evj_all rfl (ev_var 0)) (tgd_name (by decide)) (evs_if (evt_and (evt_test (ev_op opd_notIn (ev_var 1) ev_str)) (evt_test (ev_op opd_notIn (ev_var 1) ev_str))) (evs_ret ev_bl) evs_next))
      (evs_ret ev_bl)))
abbrev s_law_signs : Stmt := topS 8
abbrev n_law_signs : List Str := ["_law_signs_here"]
theorem sc_law_signs : FnScope n_law_signs [] (defScope s_law_signs) := ⟨rfl, rfl, rfl, by decide +kernel, rfl, by decide +kernel, by decide +kernel⟩
def b_law_signs : GS St0 :=
    (sSeq (sAsg (tgName 0) (gC (.str (PySem.Str.ofString " !\"#$&'()*+,-./0123456789:;<=>?@ABCDEFGHIJKLMNOPQRSTUVWXYZ[\\]^_`"))))
    (sRet (gBin dAdd (gVar 0) (gC (.str (PySem.Str.ofString "abcdefghijklmnopqrstuvwxyz{|}~\n"))))))
def m_law_signs : List D → St0 → Res St0 D := gFn 1 b_law_signs
theorem ok_law_signs {f : Addr} {fd : FuncData} (T : Txt mg) (F : Fun K "_law_signs" "_law_signs" s_law_signs f fd) : FnOk Pr w K mg base (L2.CX Pr w) 1 f fd [] (spD K mg RA 0 m_law_signs) :=
  fn_d F sc_law_signs rfl (by decide) fun sa cdv A outer s H E hr => by
    have sc := sc_law_signs
    have tk : Takes (cxOf (L2.CX Pr w) Pr w K mg base n_law_signs "_law_signs" (defScope s_law_signs) f cdv A outer s H E) (fun c d _ H' => E c d H') := takes_of rfl rfl rfl rfl
    refine ⟨_, (pss_cons (ps_set (i := 0) sc.nd rfl (by first | exact Or.inl rfl | exact Or.inr rfl) pe_str)
      (pss_one (ps_ret (pe_op (k_add K) (pv 0) pe_str)))), ?_⟩
    exact (evs_seq (evs_asg ev_str (tgd_name (vs := [0]) (by decide)))
      (evs_ret (ev_op opd_add (ev_var 0) ev_str)))
abbrev s_law_good : Stmt := topS 9
abbrev n_law_good : List Str := ["_law_word", "_law_letters", "_law_sign"]
theorem sc_law_good : FnScope n_law_good ["_law_word"] (defScope s_law_good) := ⟨rfl, rfl, rfl, by decide +kernel, rfl, by decide +kernel, by decide +kernel⟩
def b_law_good : GS St0 :=
    (sSeq (sAsg (tgName 1) (gC (.str (PySem.Str.ofString "abcdefghijklmnopqrstuvwxyz"))))
    (sSeq (sIf (gOr (gB (gBin dLt (gCB (o1 lenD) (gCons (gVar 0) gNil)) (gC (.int 1)))) (gOr (gB (gBin dGt (gCB (o1 lenD) (gCons (gVar 0) gNil)) (gC (.int 6)))) (gB (gBin dNotIn (gBin ixD (gVar 0) (gC (.int 0))) (gVar 1))))) (sRet (gC (.bl false))) sNext)
    (sRet (gBin dEq (gFz (gLc (gIt (gVar 0)) (tgName 2) (gB (gBin dNotIn (gVar 2) (gBin dAdd (gVar 1) (gC (.str (PySem.Str.ofString "0123456789")))))) (gVar 2) [2])) (gFz (gLstN gNil))))))
def m_law_good : List D → St0 → Res St0 D := gFn 3 b_law_good
theorem ok_law_good {f : Addr} {fd : FuncData} (T : Txt mg) (F : Fun K "_law_good" "_law_good" s_law_good f fd) : FnOk Pr w K mg base (L2.CX Pr w) 1 f fd ["_law_word"] (spD K mg RA 1 m_law_good) :=
  fn_d F sc_law_good rfl (by decide) fun sa cdv A outer s H E hr => by
    have sc := sc_law_good
    have tk : Takes (cxOf (L2.CX Pr w) Pr w K mg base n_law_good "_law_good" (defScope s_law_good) f cdv A outer s H E) (fun c d _ H' => E c d H') := takes_of rfl rfl rfl rfl
    refine ⟨_, (pss_cons (ps_set (i := 1) sc.nd rfl (by first | exact Or.inl rfl | exact Or.inr rfl) pe_str)
      (pss_cons (ps_if (PW.pt (pw_or (pt_cmpR op_ltA (pe_callB (k_len K) (by rfl) T.n_len boot_x_len (pa_cons (pv 0) pa_nil)) pe_int (nomark _)) (pw_or (pt_cmpR op_gt (pe_callB (k_len K) (by rfl) T.n_len boot_x_len (pa_cons (pv 0) pa_nil)) pe_int (nomark _)) (pw_or1 (pt_cmpR (k_notIn K (room65 hr)) (pe_ix (k_ix K) (pv 0) pe_int (fun _ _ => rfl)) (pv 1) (by rfl)))))) (pss_one (ps_ret pe_bl)) pss_nil)
      (pss_one (ps_ret (pe_cmpR (k_eq K hr.units) (pe_lc (own := [("_law_sign", 2)]) rfl sc.nd (k_it K (pv 0)) (blkOk_by (N := n_law_good) (sc := defScope s_law_good) (by decide +kernel)) (fun _ _ _ _ _ => (pg_name (i := 2) sc.nd rfl (by first | exact Or.inl rfl | exact Or.inr rfl))) (fun _ _ _ _ _ => pts_one (pt_cmpR (k_notIn K (room65 hr)) (pv 2) (pe_op (k_add K) (pv 1) pe_str) (by rfl))) (fun _ _ _ _ _ => (pv 2))) (pe_lst pa_nil) (nomark _)))))), ?_⟩
    exact (evs_seq (evs_asg ev_str (tgd_name (vs := [1]) (by decide)))
      (evs_seq (evs_if (evt_or (evt_test (ev_op opd_lt (ev_cb calld_len (eva_cons (ev_var 0) eva_nil)) ev_int)) (evt_or (evt_test (ev_op opd_gt (ev_cb calld_len (eva_cons (ev_var 0) eva_nil)) ev_int)) (evt_test (ev_op opd_notIn (ev_op opd_ix (ev_var 0) ev_int) (ev_var 1))))) (evs_ret ev_bl) evs_next)
      (evs_ret (ev_op opd_eq (EvN.evd (evn_lc (vs := [2]) (evi_all rfl (ev_var 0)) (tgd_name (by decide)) (evt_test (ev_op opd_notIn (ev_var 2) (ev_op opd_add (ev_var 1) ev_str))) (ev_var 2))) (EvN.evd (evn_lst eva_nil))))))
abbrev s_law : Stmt := topS 10
abbrev n_law : List Str := ["_law_script", "_law_state", "_law_plan", "_law_signs_here", "_law_chars", "_law_word", "_law_actual", "_law_k"]
theorem sc_law : FnScope n_law ["_law_script"] (defScope s_law) := ⟨rfl, rfl, rfl, by decide +kernel, rfl, by decide +kernel, by decide +kernel⟩
def b_law : GS St0 :=
    (sSeq (sAsg (tgName 2) (gCall m_law_draw (gCons (gVar 1) (gCons (gC (.int 3)) gNil))))
    (sSeq (sAsg (tgName 3) (gC (.str (PySem.Str.ofString "abcdefghijklmnopqrstuvwxyz0123456789"))))
    (sSeq (sIf (gB (gBin dEq (gVar 2) (gC (.int 0)))) (sAsg (tgName 3) (gCall m_law_signs gNil)) sNext)
    (sSeq (sOwn 4 (gLc (gRng1 (gCons (gCall m_law_draw (gCons (gVar 1) (gCons (gBin ixD (gFz (gLstN (gCons (gC (.int 9)) (gCons (gC (.int 9)) (gCons (gC (.int 9)) (gCons (gC (.int 80)) gNil)))))) (gCall m_law_draw (gCons (gVar 1) (gCons (gC (.int 4)) gNil)))) gNil))) gNil)) (tgName 7) gYes (gBin ixD (gVar 3) (gCall m_law_draw (gCons (gVar 1) (gCons (gCB (o1 lenD) (gCons (gVar 3) gNil)) gNil)))) [7]))
    (sSeq (sIf (gAnd (gB (gBin dEq (gVar 2) (gC (.int 2)))) (gB (gBin dNe (gVar 4) (gFz (gLstN gNil))))) (sPut 4 (gBin ixD (gCall m_law_signs gNil) (gCall m_law_draw (gCons (gVar 1) (gCons (gCB (o1 lenD) (gCons (gCall m_law_signs gNil) gNil)) gNil)))) (gCall m_law_draw (gCons (gVar 1) (gCons (gCB (o1 lenD) (gCons (gVar 4) gNil)) gNil)))) sNext)
    (sSeq (sAsg (tgName 5) (gM1 joinD (gC (.str (PySem.Str.ofString ""))) (gVar 4)))
    (sSeq (sIf (gB (gBin dEq (gCall m_law_draw (gCons (gVar 1) (gCons (gC (.int 6)) gNil))) (gC (.int 0)))) (sAsg (tgName 5) (gBin ixD (gFz (gLstN (gCons (gBin dAdd (gVar 5) (gC (.str (PySem.Str.ofString "\n")))) (gCons (gBin dAdd (gVar 5) (gC (.str (PySem.Str.ofString " ")))) (gCons (gBin dAdd (gC (.str (PySem.Str.ofString " "))) (gVar 5)) (gCons (gBin dAdd (gC (.str (PySem.Str.ofString "\n"))) (gVar 5)) gNil)))))) (gCall m_law_draw (gCons (gVar 1) (gCons (gC (.int 4)) gNil))))) sNext)
    (sSeq (sAsg (tgName 6) (gCall m_valid_name (gCons (gVar 5) gNil)))
    (sSeq (sIf (gOr (gNot (gB (gIsi "bool" (gVar 6)))) (gB (gBin dNe (gVar 6) (gCall m_law_good (gCons (gVar 5) gNil))))) (sRet (gC (.bl false))) sNext)
    (sRet (gBin dEq (gCallK m_valid_name [0] (gCons (gUn revD (gVar 5)) gNil)) (gCall m_law_good (gCons (gUn revD (gVar 5)) gNil)))))))))))))
abbrev abc : Array Nat := (PySem.Str.ofString "abcdefghijklmnopqrstuvwxyz").cps
abbrev dig : Array Nat := (PySem.Str.ofString "0123456789").cps
/-- what the document asks -/
def vnB (l : List Nat) : Bool := decide (1 ≤ l.length) && (decide (l.length ≤ 6) && (decide (l.getD 0 0 ∈ abc) && l.all fun c => decide (c ∈ abc) || decide (c ∈ dig)))
theorem ix0 {s : Str} {c : Nat} {cs : List Nat} (e : s.cps.toList = c :: cs) (h : s.length ≤ line) : ixD (.str s) (.int 0) = some (.str ⟨#[c]⟩) := by
  simp only [ixD]
  rw [if_pos h, e]
  simp [L2.atI, L2.ixN]
theorem vn_loop (s : Str) (st : St0) {k : Fl → St0 → Prop} (ρ1 : Sl → Prop) : ∀ (cs : List Nat) (v : SV) (hv : True)
    (hn : (cs.all fun c => decide (c ∈ abc) || decide (c ∈ dig)) = true → ∀ v, k (.nx [.val (.str s), v]) st)
    (hf : (cs.all fun c => decide (c ∈ abc) || decide (c ∈ dig)) = false → k (.rt (.bl false)) st),
    SatS (sForGo (tgName 1) (sIf (gAnd (gB (gBin dNotIn (gVar 1) (gC (.str (PySem.Str.ofString "abcdefghijklmnopqrstuvwxyz"))))) (gB (gBin dNotIn (gVar 1) (gC (.str (PySem.Str.ofString "0123456789")))))) (sRet (gC (.bl false))) sNext) (cs.map fun c => D.str ⟨#[c]⟩) [.val (.str s), v] st) k
  | [], v, _, hn, _ => hn rfl v
  | c :: cs, v, _, hn, hf => by
    rw [List.map_cons, SatS.for_cons (ρ1 := [.val (.str s), .val (.str ⟨#[c]⟩)]) (by simp [tgName])]
    by_cases h : c ∈ abc
    · simp [sIf, gAnd, gB, gBin, gVar, gC, slotD, blOf, h, forK, sNext]
      exact vn_loop s st ρ1 cs _ trivial (fun q => hn (by simp only [List.all_cons, h, decide_true, Bool.true_or, Bool.true_and]; exact q)) (fun q => hf (by simp only [List.all_cons, h, decide_true, Bool.true_or, Bool.true_and]; exact q))
    · by_cases h2 : c ∈ dig
      · simp [sIf, gAnd, gB, gBin, gVar, gC, slotD, blOf, h, h2, forK, sNext]
        exact vn_loop s st ρ1 cs _ trivial (fun q => hn (by simp only [List.all_cons, h2, decide_true, Bool.or_true, Bool.true_and]; exact q)) (fun q => hf (by simp only [List.all_cons, h2, decide_true, Bool.or_true, Bool.true_and]; exact q))
      · simp [sIf, gAnd, gB, gBin, gVar, gC, slotD, blOf, h, h2, forK, sRet, borFree]
        exact hf (by simp only [List.all_cons, h, h2, decide_false, Bool.or_false, Bool.false_and])
theorem vn_is (s : Str) (st : St0) (hs : s.length ≤ line) {ok : D → St0 → Prop} {er : Exn → St0 → Prop} (q : ok (.bl (vnB s.cps.toList)) st) : Sat (m_valid_name [.str s] st) ok er := by
  refine Sat.fn_iff ?_
  unfold b_valid_name
  have hl : s.length = s.cps.toList.length := by simp [Str.length]
  cases e : s.cps.toList with
  | nil =>
    rw [e] at q hl
    have hl : s.length = 0 := hl
    simp [sIf, gOr, gNot, gB, gChain, gC, gCB, o1, lenD, gCons, gNil, gVar, slotD, slOf, hl, dLe, oI, blOf, sRet, borFree, line]
    exact q
  | cons c cs =>
    rw [e] at q hl
    have hl : s.length = cs.length + 1 := hl
    have hs' : cs.length + 1 ≤ line := by rw [← hl]; exact hs
    have hi := ix0 e hs
    by_cases h6 : cs.length + 1 ≤ 6
    · have h6' : ((cs.length : Int) + 1 ≤ 6) = True := by simp; omega
      have h1' : ((1 : Int) ≤ (cs.length : Int) + 1) = True := by simp; omega
      by_cases ha : c ∈ abc
      · simp [sIf, gOr, gNot, gB, gBin, gChain, gC, gCB, o1, lenD, gCons, gNil, gVar, slotD, slOf, hl, dLe, oI, blOf, hs', h6', h1', hi, ha, sNext, sFor, gItF, iterD, borFree, charsOf, e]
        refine vn_loop s st (fun _ => True) (c :: cs) _ trivial (fun qa v => ?_) (fun qa => ?_)
        · simp [gC, sRet, borFree]
          have : vnB (c :: cs) = true := by simp only [vnB, qa]; simp [ha]; omega
          rw [← this]; exact q
        · simp
          have : vnB (c :: cs) = false := by simp only [vnB, qa]; simp
          rw [← this]; exact q
      · simp [sIf, gOr, gNot, gB, gBin, gChain, gC, gCB, o1, lenD, gCons, gNil, gVar, slotD, slOf, hl, dLe, oI, blOf, hs', h6', h1', hi, ha, sRet, borFree]
        have : vnB (c :: cs) = false := by simp [vnB, ha]
        rw [← this]; exact q
    · have h6' : ((cs.length : Int) + 1 ≤ 6) = False := by simp; omega
      have h1' : ((1 : Int) ≤ (cs.length : Int) + 1) = True := by simp; omega
      simp [sIf, gOr, gNot, gB, gBin, gChain, gC, gCB, o1, lenD, gCons, gNil, gVar, slotD, slOf, hl, dLe, oI, blOf, hs', h6', h1', hi, sRet, borFree]
      have : vnB (c :: cs) = false := by simp [vnB]; omega
      rw [← this]; exact q
theorem lg_loop (s : Str) (st : St0) : ∀ (cs : List Nat) {ok : List D → St0 → Prop} {er : Exn → St0 → Prop}
    (hn : (cs.all fun c => decide (c ∈ abc) || decide (c ∈ dig)) = true → ok [] st)
    (hf : (cs.all fun c => decide (c ∈ abc) || decide (c ∈ dig)) = false → ∀ (x : Nat) (xs : List Nat), (∀ z ∈ x :: xs, z ∈ cs) → ok (.str ⟨#[x]⟩ :: xs.map fun c => D.str ⟨#[c]⟩) st),
    Sat (lcGo (tgName 2) (gB (gBin dNotIn (gVar 2) (gBin dAdd (gVar 1) (gC (.str (PySem.Str.ofString "0123456789")))))) (gVar 2) [.val (.str s), .val (.str (PySem.Str.ofString "abcdefghijklmnopqrstuvwxyz")), .un] (cs.map fun c => D.str ⟨#[c]⟩) st) ok er := by
  have hadd : dAdd (.str (PySem.Str.ofString "abcdefghijklmnopqrstuvwxyz")) (.str (PySem.Str.ofString "0123456789")) = some (.str (PySem.Str.ofString "abcdefghijklmnopqrstuvwxyz" ++ PySem.Str.ofString "0123456789")) := by
    simp only [dAdd, oI, dAddS, oS, Option.none_or]
    rw [if_pos (by decide)]; rfl
  have hmem : ∀ c, (c ∈ (PySem.Str.ofString "abcdefghijklmnopqrstuvwxyz" ++ PySem.Str.ofString "0123456789").cps) ↔ (c ∈ abc ∨ c ∈ dig) := by
    intro c
    show c ∈ abc ++ dig ↔ _
    exact Array.mem_append
  intro cs
  induction cs with
  | nil => intro ok er hn hf; exact hn rfl
  | cons c cs ih =>
    intro ok er hn hf
    rw [List.map_cons, Sat.lc_cons (ρ1 := [.val (.str s), .val (.str (PySem.Str.ofString "abcdefghijklmnopqrstuvwxyz")), .val (.str ⟨#[c]⟩)]) (by simp [tgName])]
    by_cases h : c ∈ abc ∨ c ∈ dig
    · have h' : (decide (c ∈ abc) || decide (c ∈ dig)) = true := by simpa using h
      simp only [gB, gBin, gVar, gC, slotD, blOf, hadd, hmem, h, Sat.bind_iff, Sat.of_some, Sat.ok_iff, List.getElem?_cons_succ, List.getElem?_cons_zero, Option.bind_some, dNotIn_sign, decide_true, Bool.not_true, Bool.false_eq_true, if_false]
      exact ih (fun q => hn (by simp only [List.all_cons, h', Bool.true_and]; exact q)) (fun q x xs z => hf (by simp only [List.all_cons, h', Bool.true_and]; exact q) x xs fun a b => .tail _ (z a b))
    · have h' : (decide (c ∈ abc) || decide (c ∈ dig)) = false := by simpa using h
      simp only [gB, gBin, gVar, gC, slotD, blOf, hadd, hmem, h, Sat.bind_iff, Sat.of_some, Sat.ok_iff, List.getElem?_cons_succ, List.getElem?_cons_zero, Option.bind_some, dNotIn_sign, decide_false, Bool.not_false, if_true, borFree, true_and]
      have hf' := hf (by simp only [List.all_cons, h', Bool.false_and])
      exact ih (fun q => hf' c [] (by simp)) (fun q x xs z => hf' c (x :: xs) (fun a b => by
        cases b with
        | head => exact .head _
        | tail _ b => exact .tail _ (z a b)))
theorem sign_ok {c : Nat} (h : c < 1114112) : okD (.str ⟨#[c]⟩) = true := by simp [okD, sOk, PyData.strOk, h]
theorem signs_ok {cs : List Nat} (h : ∀ c ∈ cs, c < 1114112) : okDs (cs.map fun c => D.str ⟨#[c]⟩) = true := okDs_all fun d hd => by
  obtain ⟨c, hc, rfl⟩ := List.mem_map.mp hd
  exact sign_ok (h c hc)
theorem signs_dpt {cs : List Nat} : dptDs (cs.map fun c => D.str ⟨#[c]⟩) ≤ 63 := dptDs_le fun d hd => by
  obtain ⟨c, hc, rfl⟩ := List.mem_map.mp hd
  simp only [dptD]; exact Nat.zero_le _
theorem lg_is (s : Str) (st : St0) (hs : s.length ≤ line) (hz : ∀ c ∈ s.cps.toList, c < 1114112) {ok : D → St0 → Prop} {er : Exn → St0 → Prop} (q : ok (.bl (vnB s.cps.toList)) st) : Sat (m_law_good [.str s] st) ok er := by
  refine Sat.fn_iff ?_
  unfold b_law_good
  have hl : s.length = s.cps.toList.length := by simp [Str.length]
  cases e : s.cps.toList with
  | nil =>
    rw [e] at q hl
    have hl : s.length = 0 := hl
    simp [sAsg, tgName, sIf, gOr, gNot, gB, gBin, gC, gCB, o1, lenD, gCons, gNil, gVar, slotD, slOf, hl, dLt, oI, blOf, sRet, borFree, line]
    exact q
  | cons c cs =>
    rw [e] at q hl
    have hl : s.length = cs.length + 1 := hl
    have hs' : cs.length + 1 ≤ line := by rw [← hl]; exact hs
    have hi := ix0 e hs
    have h1' : ((cs.length : Int) + 1 < 1) = False := by simp; omega
    by_cases h6 : cs.length + 1 ≤ 6
    · have h6' : ((6 : Int) < (cs.length : Int) + 1) = False := by simp; omega
      by_cases ha : c ∈ abc
      · simp [sAsg, tgName, sIf, gOr, gNot, gB, gBin, gC, gCB, o1, lenD, gCons, gNil, gVar, slotD, slOf, hl, dLt, dGt, oI, blOf, hs', h6', h1', hi, ha, sNext, sRet, borFree, gFz, gLc, gIt, iterD, charsOf, e, wipeS]
        rw [e] at hz
        refine lg_loop s st (c :: cs) (fun qa => ?_) (fun qa x xs hx => ?_)
        · have : vnB (c :: cs) = true := by simp only [vnB, qa]; simp [ha]; omega
          rw [this] at q
          first | exact q | (simp [gLstN, gFz, freeL, dEq_ok, okD, okDs, dptD, dptDs, eqD_nil]; exact q)
        · have : vnB (c :: cs) = false := by simp only [vnB, qa]; simp
          rw [this] at q
          have h1 := signs_ok (cs := x :: xs) fun z hz' => hz z (hx z hz')
          have h2 := signs_dpt (cs := x :: xs)
          rw [List.map_cons] at h1 h2
          have h3 : dEq (.lst (.str ⟨#[x]⟩ :: xs.map fun c => D.str ⟨#[c]⟩)) (.lst []) = some (.bl false) := by
            rw [dEq_ok (by simpa only [okD] using h1) (by simp [okD, okDs]) (by simp only [dptD]; omega) (by simp [dptD, dptDs]), eqD_nil h1]; rfl
          simp [gLstN, gFz, freeL, gNil, h3, borFree]
          exact q
      · simp [sAsg, tgName, sIf, gOr, gNot, gB, gBin, gC, gCB, o1, lenD, gCons, gNil, gVar, slotD, slOf, hl, dLt, dGt, oI, blOf, hs', h6', h1', hi, ha, sRet, borFree]
        have : vnB (c :: cs) = false := by simp [vnB, ha]
        rw [← this]; exact q
    · have h6' : ((6 : Int) < (cs.length : Int) + 1) = True := by simp; omega
      simp [sAsg, tgName, sIf, gOr, gNot, gB, gBin, gC, gCB, o1, lenD, gCons, gNil, gVar, slotD, slOf, hl, dLt, dGt, oI, blOf, hs', h6', h1', hi, sRet, borFree]
      have : vnB (c :: cs) = false := by simp [vnB]; omega
      rw [← this]; exact q
abbrev sg1 : Str := PySem.Str.ofString "abcdefghijklmnopqrstuvwxyz0123456789"
abbrev sg2 : Str := PySem.Str.ofString " !\"#$&'()*+,-./0123456789:;<=>?@ABCDEFGHIJKLMNOPQRSTUVWXYZ[\\]^_`" ++ PySem.Str.ofString "abcdefghijklmnopqrstuvwxyz{|}~\n"
def SgOk (z : Str) : Prop := 0 < z.length ∧ z.length < 1000 ∧ ∀ c ∈ z.cps.toList, c < 1114112
theorem sg1_ok : SgOk sg1 := ⟨by decide +kernel, by decide +kernel, by decide +kernel⟩
theorem sg2_ok : SgOk sg2 := ⟨by decide +kernel, by decide +kernel, by decide +kernel⟩
theorem ls_is (st : St0) {ok : D → St0 → Prop} {er : Exn → St0 → Prop} (q : ok (.str sg2) st) : Sat (m_law_signs [] st) ok er := by
  refine Sat.fn_iff ?_
  unfold b_law_signs
  have hadd : dAdd (.str (PySem.Str.ofString " !\"#$&'()*+,-./0123456789:;<=>?@ABCDEFGHIJKLMNOPQRSTUVWXYZ[\\]^_`")) (.str (PySem.Str.ofString "abcdefghijklmnopqrstuvwxyz{|}~\n")) = some (.str sg2) := by
    simp only [dAdd, oI, dAddS, oS, Option.none_or]
    rw [if_pos (by decide +kernel)]; rfl
  simp [sAsg, tgName, gC, gBin, gVar, slotD, slOf, hadd, sRet, borFree]
  exact q
theorem ix_sign {z : Str} {r : Int} (h0 : 0 ≤ r) (h1 : r < z.length) (hz : z.length < 1000) : ∃ c, c ∈ z.cps.toList ∧ ixD (.str z) (.int r) = some (.str ⟨#[c]⟩) := by
  have hl : z.length = z.cps.toList.length := by simp [Str.length]
  have h2 : r.toNat < z.cps.toList.length := by omega
  refine ⟨z.cps.toList[r.toNat], List.getElem_mem h2, ?_⟩
  simp only [ixD]
  rw [if_pos (by unfold line; omega)]
  simp only [L2.atI, L2.ixN]
  rw [if_pos h0, if_pos (by omega)]
  simp only [Option.bind_some, List.getElem?_eq_getElem h2, Option.map_some]
theorem len_str {z : Str} (h : z.length < 1000) : lenD (.str z) = some (.int z.length) := by
  simp only [lenD]; rw [if_pos (by unfold line; omega)]
theorem chars_loop {z : Str} (hz : SgOk z) (k : Nat) {ρ : Sl} (h1 : ρ[1]? = some (.val .state)) (h3 : ρ[3]? = some (.val (.str z))) (h7 : 7 < ρ.length) : ∀ (ds : List D) (st : St0) {ok : List D → St0 → Prop} {er : Exn → St0 → Prop},
    Ok (ds.length + k) st → (∀ (zs : List Nat) st', zs.length = ds.length → (∀ c ∈ zs, c < 1114112) → Ok k st' → ok (zs.map fun c => D.str ⟨#[c]⟩) st') →
    Sat (lcGo (tgName 7) gYes (gBin ixD (gVar 3) (gCall m_law_draw (gCons (gVar 1) (gCons (gCB (o1 lenD) (gCons (gVar 3) gNil)) gNil)))) ρ ds st) ok er
  | [], st, ok, er, hk, q => q [] st rfl (by simp) (by simpa using hk)
  | d :: ds, st, ok, er, hk, q => by
    rw [Sat.lc_cons (ρ1 := ρ.set 7 (.val d)) (by simp [tgName, h7])]
    have h1' : (ρ.set 7 (.val d))[1]? = some (.val .state) := by rw [List.getElem?_set_ne (by decide)]; exact h1
    have h3' : (ρ.set 7 (.val d))[3]? = some (.val (.str z)) := by rw [List.getElem?_set_ne (by decide)]; exact h3
    simp only [gYes, Sat.ok_iff, if_true, gBin, gVar, gCall, gCons, gNil, gCB, o1, h1', h3', Option.bind_some, slotD, Sat.bind_iff, Sat.of_some, len_str hz.2.1]
    refine sat_draw (k := ds.length + k) (by refine hk.le ?_; simp only [List.length_cons]; omega) (by have := hz.1; omega) (by have := hz.2.1; omega) fun r st' r0 r1 hk' => ?_
    obtain ⟨c, hc, e⟩ := ix_sign r0 r1 hz.2.1
    simp only [e, Sat.of_some, borFree, true_and]
    refine chars_loop hz k h1 h3 h7 ds st' hk' fun zs st2 l hzs k2 => ?_
    exact q (c :: zs) st2 (by simp only [List.length_cons, l]) (fun x hx => by
      cases hx with
      | head => exact hz.2.2 _ hc
      | tail _ hx => exact hzs x hx) k2
theorem len_join : ∀ zs : List Nat, (Txt.join (PySem.Str.ofString "") (zs.map fun c => (⟨#[c]⟩ : Str))).cps.toList = zs := by
  intro zs
  have e : ∀ l : List Nat, (Str.join (PySem.Str.ofString "") (l.map fun c => (⟨#[c]⟩ : Str))).cps.toList = l := by
    intro l
    induction l with
    | nil => rfl
    | cons c r ih =>
      cases r with
      | nil => rfl
      | cons d r =>
        show ((⟨#[c]⟩ : Str) ++ PySem.Str.ofString "" ++ Str.join (PySem.Str.ofString "") ((d :: r).map fun c => (⟨#[c]⟩ : Str))).cps.toList = _
        have : ∀ a b : Str, (a ++ b).cps.toList = a.cps.toList ++ b.cps.toList := fun a b => by
          show (a.cps ++ b.cps).toList = _
          simp
        rw [this, this, ih]; rfl
  have : Txt.join (PySem.Str.ofString "") (zs.map fun c => (⟨#[c]⟩ : Str)) = Str.join (PySem.Str.ofString "") (zs.map fun c => (⟨#[c]⟩ : Str)) := PySem.StrLaws.glued_eq_join _ _
  rw [this, e]
theorem strsOf_map : ∀ zs : List Nat, strsOf (zs.map fun c => D.str ⟨#[c]⟩) = some (zs.map fun c => (⟨#[c]⟩ : Str))
  | [] => rfl
  | c :: zs => by simp [strsOf, strsOf_map zs]
theorem join_is {zs : List Nat} (h : zs.length < 1000) : ∃ w : Str, w.cps.toList = zs ∧ joinD (PySem.Str.ofString "") (.lst (zs.map fun c => D.str ⟨#[c]⟩)) = some (.str w) := by
  refine ⟨_, len_join zs, ?_⟩
  have hs : ∀ l : List Nat, (l.map fun c => (⟨#[c]⟩ : Str)).map (·.length) = l.map fun _ => 1 := fun l => by
    rw [List.map_map]; rfl
  have hsum : ∀ l : List Nat, (l.map fun _ => 1).sum = l.length := fun l => by
    induction l with
    | nil => rfl
    | cons a l ih => simp only [List.map_cons, List.sum_cons, ih, List.length_cons]; omega
  have e0 : (PySem.Str.ofString "").length = 0 := by decide
  simp only [joinD, items, Option.bind_some, strsOf_map]
  rw [if_pos (by rw [hs, hsum, e0, List.length_map]; omega)]
def wOk (w : Str) : Prop := w.length < 2000 ∧ ∀ c ∈ w.cps.toList, c < 1114112
theorem app_list (a b : Str) : (a ++ b).cps.toList = a.cps.toList ++ b.cps.toList := by
  show (a.cps ++ b.cps).toList = _
  simp
theorem add_str {a b : Str} (h : a.length < 1000) (h2 : b.length < 1000) : dAdd (.str a) (.str b) = some (.str (a ++ b)) := by
  simp only [dAdd, oI, dAddS, oS, Option.none_or]
  rw [if_pos (by unfold line; omega)]; rfl
theorem wOk_app {a b : Str} (h : a.length < 1000) (h2 : b.length < 1000) (za : ∀ c ∈ a.cps.toList, c < 1114112) (zb : ∀ c ∈ b.cps.toList, c < 1114112) : wOk (a ++ b) := by
  have la : a.length = a.cps.toList.length := by simp [Str.length]
  have lb : b.length = b.cps.toList.length := by simp [Str.length]
  have lab : (a ++ b).length = (a ++ b).cps.toList.length := by simp [Str.length]
  refine ⟨by rw [lab, app_list, List.length_append]; omega, fun c hc => ?_⟩
  rw [app_list] at hc
  rcases List.mem_append.mp hc with hc | hc
  · exact za c hc
  · exact zb c hc
theorem ix4 {a b c d : Str} {r : Int} (ha : wOk a) (hb : wOk b) (hc : wOk c) (hd : wOk d) (r0 : 0 ≤ r) (r1 : r < 4) : ∃ w, wOk w ∧ ixD (.lst [.str a, .str b, .str c, .str d]) (.int r) = some (.str w) := by
  have : r = 0 ∨ r = 1 ∨ r = 2 ∨ r = 3 := by omega
  rcases this with rfl | rfl | rfl | rfl
  · exact ⟨a, ha, rfl⟩
  · exact ⟨b, hb, rfl⟩
  · exact ⟨c, hc, rfl⟩
  · exact ⟨d, hd, rfl⟩
theorem le_line {n : Nat} (h : n ≤ 1000) : decide (n ≤ line) = true := decide_eq_true (by unfold line; omega)
/-- behind the drawn word -/
def tailL : GS St0 :=
    (sSeq (sAsg (tgName 6) (gCall m_valid_name (gCons (gVar 5) gNil)))
    (sSeq (sIf (gOr (gNot (gB (gIsi "bool" (gVar 6)))) (gB (gBin dNe (gVar 6) (gCall m_law_good (gCons (gVar 5) gNil))))) (sRet (gC (.bl false))) sNext)
    (sRet (gBin dEq (gCallK m_valid_name [0] (gCons (gUn revD (gVar 5)) gNil)) (gCall m_law_good (gCons (gUn revD (gVar 5)) gNil))))))
theorem tail_is {w : Str} (hw : wOk w) {a b c d e g h : SV} (st : St0) : SatS (tailL [a, b, c, d, e, .val (.str w), g, h] st) (fun fl _ => fl = .rt (.bl true)) := by
  have l1 : w.length ≤ line := by have := hw.1; unfold line; omega
  have lw : w.length = w.cps.toList.length := by simp [Str.length]
  have l2 : (revStr w).cps.toList = w.cps.toList.reverse := by simp [revStr]
  have l3 : (revStr w).length ≤ line := by
    have : (revStr w).length = (revStr w).cps.toList.length := by simp [Str.length]
    rw [this, l2, List.length_reverse, ← lw]; exact l1
  have hr : revD (.str w) = some (.str (revStr w)) := by simp only [revD]; rw [if_pos l1]
  unfold tailL
  simp only [SatS.seq_iff, sAsg, SatS.thenE_iff, gCall, gCons, gNil, gVar, Sat.bind_iff, Sat.ok_iff, List.getElem?_cons_succ, List.getElem?_cons_zero, Option.bind_some, slotD, Sat.of_some]
  refine vn_is w st l1 ?_
  simp [borFree, tgName, sIf, gOr, gNot, gB, gIsi, gUn, gVar, slotD, isiD, tyNm, kitB, blOf, gBin, gCall, gCons, gNil]
  refine lg_is w st l1 hw.2 ?_
  simp [blOf, sNext, sRet, gBin, gCallK, gCons, gNil, gUn, gVar, slotD, hr, gCall]
  refine vn_is _ st l3 ?_
  refine lg_is _ st l3 (fun c hc => hw.2 c (by rw [l2] at hc; exact List.mem_reverse.mp hc)) ?_
  simp [borFree]
theorem law_pure : ∀ ns : List Int, ns.length ≤ 63 → SatS (b_law (.val (.scr (ns.map D.int)) :: .val .state :: List.replicate (n_law.length - 2) .un) (st0 ns)) (fun fl _ => fl = .rt (.bl true)) := by
  intro ns _
  have k0 := st0_ok ns
  generalize st0 ns = st at k0
  generalize (SV.val (.scr (ns.map D.int))) = s0
  show SatS (b_law [s0, .val .state, .un, .un, .un, .un, .un, .un] st) _
  unfold b_law
  simp only [SatS.seq_iff, sAsg, SatS.thenE_iff, gCall, gCons, gNil, gC, gVar, Sat.bind_iff, Sat.ok_iff, List.getElem?_cons_succ, List.getElem?_cons_zero, Option.bind_some, slotD, Sat.of_some]
  refine sat_draw (k := 2000) (k0.le (by decide)) (by decide) (by decide) fun plan st1 p0 p1 k1 => ?_
  simp only [borFree, if_true, tgName, List.length_cons, List.length_nil, List.set_cons_succ, List.set_cons_zero, Option.map_some, SatS.some_iff, thenS_nx, SatS.seq_iff, SatS.thenE_iff, Sat.ok_iff, Nat.reduceAdd, Nat.reduceLT]
  -- the signs
  have key : ∀ z : Str, SgOk z → SatS (sSeq (sOwn 4 (gLc (gRng1 (gCons (gCall m_law_draw (gCons (gVar 1) (gCons (gBin ixD (gFz (gLstN (gCons (gC (.int 9)) (gCons (gC (.int 9)) (gCons (gC (.int 9)) (gCons (gC (.int 80)) gNil)))))) (gCall m_law_draw (gCons (gVar 1) (gCons (gC (.int 4)) gNil)))) gNil))) gNil)) (tgName 7) gYes (gBin ixD (gVar 3) (gCall m_law_draw (gCons (gVar 1) (gCons (gCB (o1 lenD) (gCons (gVar 3) gNil)) gNil)))) [7]))
    (sSeq (sIf (gAnd (gB (gBin dEq (gVar 2) (gC (.int 2)))) (gB (gBin dNe (gVar 4) (gFz (gLstN gNil))))) (sPut 4 (gBin ixD (gCall m_law_signs gNil) (gCall m_law_draw (gCons (gVar 1) (gCons (gCB (o1 lenD) (gCons (gCall m_law_signs gNil) gNil)) gNil)))) (gCall m_law_draw (gCons (gVar 1) (gCons (gCB (o1 lenD) (gCons (gVar 4) gNil)) gNil)))) sNext)
    (sSeq (sAsg (tgName 5) (gM1 joinD (gC (.str (PySem.Str.ofString ""))) (gVar 4)))
    (sSeq (sIf (gB (gBin dEq (gCall m_law_draw (gCons (gVar 1) (gCons (gC (.int 6)) gNil))) (gC (.int 0)))) (sAsg (tgName 5) (gBin ixD (gFz (gLstN (gCons (gBin dAdd (gVar 5) (gC (.str (PySem.Str.ofString "\n")))) (gCons (gBin dAdd (gVar 5) (gC (.str (PySem.Str.ofString " ")))) (gCons (gBin dAdd (gC (.str (PySem.Str.ofString " "))) (gVar 5)) (gCons (gBin dAdd (gC (.str (PySem.Str.ofString "\n"))) (gVar 5)) gNil)))))) (gCall m_law_draw (gCons (gVar 1) (gCons (gC (.int 4)) gNil))))) sNext)
    tailL))) [s0, .val .state, .val (.int plan), .val (.str z), .un, .un, .un, .un] st1) (fun fl _ => fl = .rt (.bl true)) := by
    intro z hz
    simp only [SatS.seq_iff, sOwn, SatS.thenE_iff, gLc, gRng1, gCall, gCons, gNil, gC, gVar, gBin, gFz, gLstN, Sat.bind_iff, Sat.ok_iff, List.getElem?_cons_succ, List.getElem?_cons_zero, Option.bind_some, slotD, Sat.of_some, freeL, List.all_cons, List.all_nil, borFree, Bool.and_self, Bool.true_and, List.length_cons, List.length_nil]
    rw [if_pos (by decide)]
    simp only [Sat.ok_iff]
    refine sat_draw (k := 1999) k1 (by decide) (by decide) fun r st2 r0 r1 k2 => ?_
    have hi : ∃ m : Int, 0 < m ∧ m ≤ 80 ∧ ixD (.lst [.int 9, .int 9, .int 9, .int 80]) (.int r) = some (.int m) := by
      have : r = 0 ∨ r = 1 ∨ r = 2 ∨ r = 3 := by omega
      rcases this with rfl | rfl | rfl | rfl
      · exact ⟨9, by decide, by decide, rfl⟩
      · exact ⟨9, by decide, by decide, rfl⟩
      · exact ⟨9, by decide, by decide, rfl⟩
      · exact ⟨80, by decide, by decide, rfl⟩
    obtain ⟨m, m0, m1, e⟩ := hi
    simp only [e, Sat.of_some]
    refine sat_draw (k := 1998) k2 m0 (by omega) fun n st3 n0 n1 k3 => ?_
    simp only [rng1]
    rw [if_pos (by omega)]
    have hlen : (rangeD 0 n.toNat).length = n.toNat := by simp [rangeD]
    simp only [Sat.of_some, hlen]
    rw [if_pos (by unfold line; omega)]
    refine chars_loop (k := 1000) hz rfl rfl (by simp [wipeS]) _ st3 (k3.le (by rw [hlen]; omega)) fun zs st4 lz zz k4 => ?_
    have lz' : zs.length ≤ 79 := by omega
    simp only [List.length_cons, List.length_nil, List.set_cons_succ, List.set_cons_zero]
    rw [if_pos (by decide)]
    simp only [SatS.some_iff, thenS_nx, SatS.seq_iff]
    -- one other sign
    have key2 : ∀ (zs : List Nat) (st5 : St0), zs.length ≤ 79 → (∀ c ∈ zs, c < 1114112) → Ok 500 st5 → SatS (sSeq (sAsg (tgName 5) (gM1 joinD (gC (.str (PySem.Str.ofString ""))) (gVar 4)))
    (sSeq (sIf (gB (gBin dEq (gCall m_law_draw (gCons (gVar 1) (gCons (gC (.int 6)) gNil))) (gC (.int 0)))) (sAsg (tgName 5) (gBin ixD (gFz (gLstN (gCons (gBin dAdd (gVar 5) (gC (.str (PySem.Str.ofString "\n")))) (gCons (gBin dAdd (gVar 5) (gC (.str (PySem.Str.ofString " ")))) (gCons (gBin dAdd (gC (.str (PySem.Str.ofString " "))) (gVar 5)) (gCons (gBin dAdd (gC (.str (PySem.Str.ofString "\n"))) (gVar 5)) gNil)))))) (gCall m_law_draw (gCons (gVar 1) (gCons (gC (.int 4)) gNil))))) sNext)
    tailL) [s0, .val .state, .val (.int plan), .val (.str z), .own (zs.map fun c => D.str ⟨#[c]⟩), .un, .un, .un] st5) (fun fl _ => fl = .rt (.bl true)) := by
      intro zs st5 l5 z5 k5
      obtain ⟨w, ew, ej⟩ := join_is (zs := zs) (by omega)
      have ej' : joinD (PySem.Str.ofString "") (.bor (zs.map fun c => D.str ⟨#[c]⟩)) = some (.str w) := by rw [← ej]; rfl
      have lw : w.length = w.cps.toList.length := by simp [Str.length]
      have lw2 : w.length < 1000 := by rw [lw, ew]; omega
      have zw : ∀ c ∈ w.cps.toList, c < 1114112 := by rw [ew]; exact z5
      simp only [SatS.seq_iff, sAsg, SatS.thenE_iff, gM1, gC, gVar, Sat.bind_iff, Sat.ok_iff, List.getElem?_cons_succ, List.getElem?_cons_zero, Option.bind_some, slotD, Sat.of_some, ej', borFree, if_true, tgName, List.length_cons, List.length_nil, List.set_cons_succ, List.set_cons_zero, Option.map_some, SatS.some_iff, thenS_nx, Nat.reduceAdd, Nat.reduceLT, sIf, gB, gBin, gCall, gCons, gNil]
      refine sat_draw (k := 400) (k5.le (by decide)) (by decide) (by decide) fun r st6 r0 r1 k6 => ?_
      simp only [dEq_int, Sat.of_some, blOf, SatS.ite_iff, sNext, SatS.some_iff, thenS_nx]
      by_cases hr : r = 0
      · subst hr
        simp only [beq_self_eq_true, if_true, SatS.thenE_iff, gFz, gLstN, gCons, gNil, gC, gVar, gBin, Sat.bind_iff, Sat.ok_iff, List.getElem?_cons_succ, List.getElem?_cons_zero, Option.bind_some, slotD, Sat.of_some]
        rw [add_str lw2 (b := PySem.Str.ofString "\n") (by decide), add_str lw2 (b := PySem.Str.ofString " ") (by decide), add_str (a := PySem.Str.ofString " ") (by decide) lw2, add_str (a := PySem.Str.ofString "\n") (by decide) lw2]
        simp only [Sat.of_some, freeL, List.all_cons, List.all_nil, borFree, Bool.and_self, Bool.true_and, List.length_cons, List.length_nil]
        rw [if_pos (le_line (by decide))]
        simp only [Sat.ok_iff]
        refine sat_draw (k := 300) (k6.le (by decide)) (by decide) (by decide) fun r st7 r0 r1 k7 => ?_
        have za : ∀ c ∈ (PySem.Str.ofString "\n").cps.toList, c < 1114112 := by decide
        have zb : ∀ c ∈ (PySem.Str.ofString " ").cps.toList, c < 1114112 := by decide
        obtain ⟨w', hw', e'⟩ := ix4 (wOk_app lw2 (by decide) zw za) (wOk_app lw2 (by decide) zw zb) (wOk_app (by decide) lw2 zb zw) (wOk_app (by decide) lw2 za zw) r0 r1
        simp only [e', Sat.of_some, borFree, if_true, tgName, List.length_cons, List.length_nil, List.set_cons_succ, List.set_cons_zero, Option.map_some, SatS.some_iff, thenS_nx, Nat.reduceAdd, Nat.reduceLT]
        exact tail_is hw' _
      · have : (r == 0) = false := by simpa using hr
        simp only [this, Bool.false_eq_true, if_false]
        exact tail_is ⟨by omega, zw⟩ _
    simp only [sIf, SatS.thenE_iff, gAnd, gB, gBin, gC, gVar, gFz, gLstN, gNil, Sat.bind_iff, Sat.ok_iff, List.getElem?_cons_succ, List.getElem?_cons_zero, Option.bind_some, slotD, Sat.of_some, dEq_int, blOf, Sat.ite_iff, freeL, List.all_nil, Bool.true_and, List.length_nil]
    by_cases hp : plan = 2
    · subst hp
      have e2 : dNe (.bor (zs.map fun c => D.str ⟨#[c]⟩)) (.lst []) = some (.bl (!(zs.map fun c => D.str ⟨#[c]⟩).isEmpty)) := by
        rw [dNe_ok (by simpa only [okD] using signs_ok zz) (by simp [okD, okDs]) (by simp only [dptD]; have := signs_dpt (cs := zs); omega) (by simp [dptD, dptDs]), eqD_bnil (signs_ok zz)]
      simp only [beq_self_eq_true, if_true]
      rw [if_pos (by decide)]
      simp only [Sat.ok_iff, e2, Sat.of_some, blOf, SatS.ite_iff]
      cases zs with
      | nil =>
        simp [sNext]
        exact key2 [] st4 (by simp) (by simp) (k4.le (by decide))
      | cons c cs =>
        simp only [List.map_cons, List.isEmpty_cons, Bool.not_false, if_true, sPut, ownOf, List.getElem?_cons_succ, List.getElem?_cons_zero, Option.isSome_some, SatS.thenE_iff, gBin, gCall, gNil, gCons, gVar, gCB, o1, Sat.bind_iff, Sat.ok_iff, SatS.ite_iff, Option.bind_some, slotD, Sat.of_some]
        refine ls_is _ ?_
        refine ls_is _ ?_
        simp only [len_str sg2_ok.2.1, Sat.of_some]
        refine sat_draw (k := 900) (k4.le (by decide)) (by have := sg2_ok.1; omega) (by have := sg2_ok.2.1; omega) fun r st5 r0 r1 k5 => ?_
        obtain ⟨c', hc', e⟩ := ix_sign r0 r1 sg2_ok.2.1
        simp only [e, Sat.of_some]
        have hlb : lenD (.bor (.str ⟨#[c]⟩ :: cs.map fun c => D.str ⟨#[c]⟩)) = some (.int ((c :: cs).length : Nat)) := by simp [lenD, items]
        simp only [hlb, Sat.of_some]
        refine sat_draw (k := 800) (k5.le (by decide)) (by simp only [List.length_cons]; omega) (by omega) fun j st6 j0 j1 k6 => ?_
        have hj : L2.ixN (D.str ⟨#[c]⟩ :: cs.map fun c => D.str ⟨#[c]⟩).length j = some j.toNat := by
          simp only [L2.ixN]
          rw [if_pos j0, if_pos (by simp only [List.length_cons, List.length_map] at j1 ⊢; exact j1)]
        simp only [intOf, borFree, if_true, hj, SatS.some_iff, thenS_nx, List.set_cons_succ, List.set_cons_zero]
        have hset : (D.str ⟨#[c]⟩ :: cs.map fun c => D.str ⟨#[c]⟩).set j.toNat (D.str ⟨#[c']⟩) = ((c :: cs).set j.toNat c').map fun c => D.str ⟨#[c]⟩ := by
          rw [List.map_set]; rfl
        rw [hset]
        refine key2 _ st6 (by rw [List.length_set]; exact lz') (fun x hx => ?_) (k6.le (by decide))
        rcases List.mem_or_eq_of_mem_set hx with h | h
        · exact zz x h
        · rw [h]; exact sg2_ok.2.2 _ hc'
    · have : (plan == 2) = false := by simpa using hp
      simp only [this, Bool.false_eq_true, if_false, SatS.ite_iff, sNext, SatS.some_iff, thenS_nx]
      exact key2 zs st4 lz' zz (k4.le (by decide))
  simp only [sAsg, SatS.seq_iff, borFree, if_true, tgName, List.length_cons, List.length_nil, List.set_cons_succ, List.set_cons_zero, Option.map_some, SatS.some_iff, thenS_nx, Nat.reduceAdd, Nat.reduceLT, sIf, SatS.thenE_iff, gB, gBin, gC, gVar, Sat.bind_iff, Sat.ok_iff, List.getElem?_cons_succ, List.getElem?_cons_zero, Option.bind_some, slotD, Sat.of_some, dEq_int, blOf, SatS.ite_iff]
  by_cases hp : plan = 0
  · subst hp
    simp only [beq_self_eq_true, if_true]
    refine ls_is _ ?_
    simp only [borFree, if_true, tgName, List.length_cons, List.length_nil, List.set_cons_succ, List.set_cons_zero, Option.map_some, SatS.some_iff, thenS_nx, Nat.reduceAdd, Nat.reduceLT]
    exact SatS.seq_iff.mp (key sg2 sg2_ok)
  · have : (plan == 0) = false := by simpa using hp
    simp only [this, Bool.false_eq_true, if_false, sNext, SatS.some_iff, thenS_nx]
    exact key sg1 sg1_ok

theorem ok_law {f : Addr} {fd : FuncData} (T : Txt mg) (F : Fun K "law" "law" s_law f fd) (c_valid_name : Cal Pr w K mg base 1 "valid_name" ["text"] (spD K mg RA 1 m_valid_name)) (c_law_start : Cal Pr w K mg base 1 "_law_start" ["_law_script"] (spStart K)) (c_law_draw : Cal Pr w K mg base 1 "_law_draw" ["_law_state", "_law_size"] (spD K mg RA 2 m_law_draw)) (c_law_signs : Cal Pr w K mg base 1 "_law_signs" [] (spD K mg RA 0 m_law_signs)) (c_law_good : Cal Pr w K mg base 1 "_law_good" ["_law_word"] (spD K mg RA 1 m_law_good)) (ck_valid_name_text : CalK Pr w K mg base 1 "valid_name" ["text"] ["text"] [0] (spD K mg RA 1 m_valid_name)) : FnOk Pr w K mg base (L2.CX Pr w) 2 f fd ["_law_script"] (spLaw K) :=
  fn_law (lv := 1) (N := ["_law_plan", "_law_signs_here", "_law_chars", "_law_word", "_law_actual", "_law_k"]) F sc_law c_law_start (by decide) rfl
    (fun cdv A outer s H E hr => by
      have sc := sc_law
      have tk : Takes (cxOf (L2.CX Pr w) Pr w K mg base n_law "law" (defScope s_law) f cdv A outer s H E) (fun c d _ H' => E c d H') := takes_of rfl rfl rfl rfl
      exact ps_set (i := 1) sc.nd rfl (by first | exact Or.inl rfl | exact Or.inr rfl) (pe_cal c_law_start (hr.mono (by decide)) tk (pa_cons (pv 0) pa_nil)))
    (fun cdv A outer s H E hr => by
      have sc := sc_law
      have tk : Takes (cxOf (L2.CX Pr w) Pr w K mg base n_law "law" (defScope s_law) f cdv A outer s H E) (fun c d _ H' => E c d H') := takes_of rfl rfl rfl rfl
      refine ⟨_, (pss_cons (ps_set (i := 2) sc.nd rfl (by first | exact Or.inl rfl | exact Or.inr rfl) (pe_cal c_law_draw hr tk (pa_cons (pv 1) (pa_cons pe_int pa_nil))))
      (pss_cons (ps_set (i := 3) sc.nd rfl (by first | exact Or.inl rfl | exact Or.inr rfl) pe_str)
      (pss_cons (ps_if (pt_cmpR (k_eq K hr.units) (pv 2) pe_int (nomark _)) (pss_one (ps_set (i := 3) sc.nd rfl (by first | exact Or.inl rfl | exact Or.inr rfl) (pe_cal0 c_law_signs hr tk))) pss_nil)
      (pss_cons (ps_setLc (i := 4) (own := [("_law_k", 7)]) rfl sc.nd rfl rfl (sw_true rfl rfl rfl (by decide +kernel)) (pi_range1 rfl T.n_range (pa_cons (pe_cal c_law_draw hr tk (pa_cons (pv 1) (pa_cons (pe_ix (k_ix K) (pe_lst (pa_cons pe_int (pa_cons pe_int (pa_cons pe_int (pa_cons pe_int pa_nil))))) (pe_cal c_law_draw hr tk (pa_cons (pv 1) (pa_cons pe_int pa_nil))) (fun _ _ => rfl)) pa_nil))) pa_nil)) (blkOk_by (N := n_law) (sc := defScope s_law) (by decide +kernel)) (fun _ _ _ _ _ => (pg_name (i := 7) sc.nd rfl (by first | exact Or.inl rfl | exact Or.inr rfl))) (fun _ _ _ _ _ => pts_nil) (fun _ _ _ _ _ => (pe_ix (k_ix K) (pv 3) (pe_cal c_law_draw hr takes0 (pa_cons (pv 1) (pa_cons (pe_callB (k_len K) (by rfl) T.n_len boot_x_len (pa_cons (pv 3) pa_nil)) pa_nil))) (fun _ _ => rfl))))
      (pss_cons (ps_if (PW.pt (pw_and (pt_cmpR (k_eq K hr.units) (pv 2) pe_int (nomark _)) (pw_and1 (pt_cmpR (k_ne K hr.units) (pv 4) (pe_lst pa_nil) (nomark _))))) (pss_one (ps_asg (pe_ix (k_ix K) (pe_cal0 c_law_signs hr tk) (pe_cal c_law_draw hr tk (pa_cons (pv 1) (pa_cons (pe_callB (k_len K) (by rfl) T.n_len boot_x_len (pa_cons (pe_cal0 c_law_signs hr tk) pa_nil)) pa_nil))) (fun _ _ => rfl)) (pg_sub (pv 4) (pe_cal c_law_draw hr tk (pa_cons (pv 1) (pa_cons (pe_callB (k_len K) (by rfl) T.n_len boot_x_len (pa_cons (pv 4) pa_nil)) pa_nil))) set_list))) pss_nil)
      (pss_cons (ps_set (i := 5) sc.nd rfl (by first | exact Or.inl rfl | exact Or.inr rfl) (k_join K pe_str (pv 4)))
      (pss_cons (ps_if (pt_cmpR (k_eq K hr.units) (pe_cal c_law_draw hr tk (pa_cons (pv 1) (pa_cons pe_int pa_nil))) pe_int (nomark _)) (pss_one (ps_set (i := 5) sc.nd rfl (by first | exact Or.inl rfl | exact Or.inr rfl) (pe_ix (k_ix K) (pe_lst (pa_cons (pe_op (k_add K) (pv 5) pe_str) (pa_cons (pe_op (k_add K) (pv 5) pe_str) (pa_cons (pe_op (k_add K) pe_str (pv 5)) (pa_cons (pe_op (k_add K) pe_str (pv 5)) pa_nil))))) (pe_cal c_law_draw hr tk (pa_cons (pv 1) (pa_cons pe_int pa_nil))) (fun _ _ => rfl)))) pss_nil)
      (pss_cons (ps_set (i := 6) sc.nd rfl (by first | exact Or.inl rfl | exact Or.inr rfl) (pe_cal c_valid_name hr tk (pa_cons (pv 5) pa_nil)))
      (pss_cons (ps_if (PW.pt (pw_or (pt_not (pt_val (pe_callB (k_isi K) (by rfl) T.n_isinstance boot_isi (pa_cons (pv 6) (pa_cons (pe_bltn (v := .ty "bool") (by rfl) T.n_bool boot_x_bool rfl) pa_nil))))) (pw_or1 (pt_cmpR (k_ne K hr.units) (pv 6) (pe_cal c_law_good hr tk (pa_cons (pv 5) pa_nil)) (nomark _))))) (pss_one (ps_ret pe_bl)) pss_nil)
      (pss_one (ps_ret (pe_cmpR (k_eq K hr.units) (pe_calK ck_valid_name_text hr tk (pk_cons (k_rev K (pv 5)) pk_nil)) (pe_cal c_law_good hr tk (pa_cons (k_rev K (pv 5)) pa_nil)) (nomark _))))))))))))), fun sa => ?_⟩
      exact (evs_seq (evs_asg (evd_call (gCons_len (gCons_len gNil_len)) (eva_cons (ev_var 1) (eva_cons ev_int eva_nil))) (tgd_name (vs := [2]) (by decide)))
      (evs_seq (evs_asg ev_str (tgd_name (vs := [3]) (by decide)))
      (evs_seq (evs_if (evt_test (ev_op opd_eq (ev_var 2) ev_int)) (evs_asg (evd_call gNil_len eva_nil) (tgd_name (vs := [3]) (by decide))) evs_next)
      (evs_seq (evs_own (i := 4) (evn_lc (vs := [7]) (EvJ.evi (evj_rng1 (eva_cons (evd_call (gCons_len (gCons_len gNil_len)) (eva_cons (ev_var 1) (eva_cons (ev_op opd_ix (EvN.evd (evn_lst (eva_cons ev_int (eva_cons ev_int (eva_cons ev_int (eva_cons ev_int eva_nil)))))) (evd_call (gCons_len (gCons_len gNil_len)) (eva_cons (ev_var 1) (eva_cons ev_int eva_nil)))) eva_nil))) eva_nil))) (tgd_name (by decide)) evt_yes (ev_op opd_ix (ev_var 3) (evd_call (gCons_len (gCons_len gNil_len)) (eva_cons (ev_var 1) (eva_cons (ev_cb calld_len (eva_cons (ev_var 3) eva_nil)) eva_nil))))))
      (evs_seq (evs_if (evt_and (evt_test (ev_op opd_eq (ev_var 2) ev_int)) (evt_test (ev_op opd_ne (ev_var 4) (EvN.evd (evn_lst eva_nil))))) (evs_put (i := 4) (ev_op opd_ix (evd_call gNil_len eva_nil) (evd_call (gCons_len (gCons_len gNil_len)) (eva_cons (ev_var 1) (eva_cons (ev_cb calld_len (eva_cons (evd_call gNil_len eva_nil) eva_nil)) eva_nil)))) (evd_call (gCons_len (gCons_len gNil_len)) (eva_cons (ev_var 1) (eva_cons (ev_cb calld_len (eva_cons (ev_var 4) eva_nil)) eva_nil)))) evs_next)
      (evs_seq (evs_asg (ev_m1 m1d_join ev_str (ev_var 4)) (tgd_name (vs := [5]) (by decide)))
      (evs_seq (evs_if (evt_test (ev_op opd_eq (evd_call (gCons_len (gCons_len gNil_len)) (eva_cons (ev_var 1) (eva_cons ev_int eva_nil))) ev_int)) (evs_asg (ev_op opd_ix (EvN.evd (evn_lst (eva_cons (ev_op opd_add (ev_var 5) ev_str) (eva_cons (ev_op opd_add (ev_var 5) ev_str) (eva_cons (ev_op opd_add ev_str (ev_var 5)) (eva_cons (ev_op opd_add ev_str (ev_var 5)) eva_nil)))))) (evd_call (gCons_len (gCons_len gNil_len)) (eva_cons (ev_var 1) (eva_cons ev_int eva_nil)))) (tgd_name (vs := [5]) (by decide))) evs_next)
      (evs_seq (evs_asg (evd_call (gCons_len gNil_len) (eva_cons (ev_var 5) eva_nil)) (tgd_name (vs := [6]) (by decide)))
      (evs_seq (evs_if (evt_or (evt_not (evt_B (ev_isi (T := "bool") (ev_var 6)))) (evt_test (ev_op opd_ne (ev_var 6) (evd_call (gCons_len gNil_len) (eva_cons (ev_var 5) eva_nil))))) (evs_ret ev_bl) evs_next)
      (evs_ret (ev_op opd_eq (evd_callK (gCons_len gNil_len) rfl (by decide) (eva_cons (ev_rev rfl (ev_var 5)) eva_nil)) (evd_call (gCons_len gNil_len) (eva_cons (ev_rev rfl (ev_var 5)) eva_nil)))))))))))))) law_pure
end
theorem all_mk {l : PySem.W.OpenLaw} {w : World} {K : PySem.W.Frag} {h : Heap} {mg : Str → Option Value} {fa : Addr} (X : K.In h) (G : h.Ns mainGlobals mg) (hfa : mg "law" = some (.ref fa))
    {x_law_start : Addr} {od_law_start an_law_start : Option Addr} {sl_law_start : Array (Option Value)} {oc_law_start kV_law_start dc_law_start pm_law_start cd_law_start ct_law_start : Value}
    {x_law_draw : Addr} {od_law_draw an_law_draw : Option Addr} {sl_law_draw : Array (Option Value)} {oc_law_draw kV_law_draw dc_law_draw pm_law_draw cd_law_draw ct_law_draw : Value}
    {x_valid_name : Addr} {od_valid_name an_valid_name : Option Addr} {sl_valid_name : Array (Option Value)} {oc_valid_name kV_valid_name dc_valid_name pm_valid_name cd_valid_name ct_valid_name : Value}
    {x_law_signs : Addr} {od_law_signs an_law_signs : Option Addr} {sl_law_signs : Array (Option Value)} {oc_law_signs kV_law_signs dc_law_signs pm_law_signs cd_law_signs ct_law_signs : Value}
    {x_law_good : Addr} {od_law_good an_law_good : Option Addr} {sl_law_good : Array (Option Value)} {oc_law_good kV_law_good dc_law_good pm_law_good cd_law_good ct_law_good : Value}
    {x_law : Addr} {od_law an_law : Option Addr} {sl_law : Array (Option Value)} {oc_law kV_law dc_law pm_law cd_law ct_law : Value}
    (a_law_start : PySem.W.nsIn K mainGlobals "_law_start" = some (some (.ref x_law_start))) (l_law_start : K.lookup x_law_start = some ⟨oc_law_start, od_law_start, .func (PySem.W.fnOf "_law_start" "_law_start" (defArgs s_law_start) (defBody s_law_start) (defScope s_law_start) .none kV_law_start dc_law_start pm_law_start an_law_start cd_law_start ct_law_start), sl_law_start⟩) (c_law_start : PySem.W.codeIn K cd_law_start "_law_start" = true) (k_law_start : PySem.W.keepIn K (.ref x_law_start) = true)
    (a_law_draw : PySem.W.nsIn K mainGlobals "_law_draw" = some (some (.ref x_law_draw))) (l_law_draw : K.lookup x_law_draw = some ⟨oc_law_draw, od_law_draw, .func (PySem.W.fnOf "_law_draw" "_law_draw" (defArgs s_law_draw) (defBody s_law_draw) (defScope s_law_draw) .none kV_law_draw dc_law_draw pm_law_draw an_law_draw cd_law_draw ct_law_draw), sl_law_draw⟩) (c_law_draw : PySem.W.codeIn K cd_law_draw "_law_draw" = true) (k_law_draw : PySem.W.keepIn K (.ref x_law_draw) = true)
    (a_valid_name : PySem.W.nsIn K mainGlobals "valid_name" = some (some (.ref x_valid_name))) (l_valid_name : K.lookup x_valid_name = some ⟨oc_valid_name, od_valid_name, .func (PySem.W.fnOf "valid_name" "valid_name" (defArgs s_valid_name) (defBody s_valid_name) (defScope s_valid_name) .none kV_valid_name dc_valid_name pm_valid_name an_valid_name cd_valid_name ct_valid_name), sl_valid_name⟩) (c_valid_name : PySem.W.codeIn K cd_valid_name "valid_name" = true) (k_valid_name : PySem.W.keepIn K (.ref x_valid_name) = true)
    (a_law_signs : PySem.W.nsIn K mainGlobals "_law_signs" = some (some (.ref x_law_signs))) (l_law_signs : K.lookup x_law_signs = some ⟨oc_law_signs, od_law_signs, .func (PySem.W.fnOf "_law_signs" "_law_signs" (defArgs s_law_signs) (defBody s_law_signs) (defScope s_law_signs) .none kV_law_signs dc_law_signs pm_law_signs an_law_signs cd_law_signs ct_law_signs), sl_law_signs⟩) (c_law_signs : PySem.W.codeIn K cd_law_signs "_law_signs" = true) (k_law_signs : PySem.W.keepIn K (.ref x_law_signs) = true)
    (a_law_good : PySem.W.nsIn K mainGlobals "_law_good" = some (some (.ref x_law_good))) (l_law_good : K.lookup x_law_good = some ⟨oc_law_good, od_law_good, .func (PySem.W.fnOf "_law_good" "_law_good" (defArgs s_law_good) (defBody s_law_good) (defScope s_law_good) .none kV_law_good dc_law_good pm_law_good an_law_good cd_law_good ct_law_good), sl_law_good⟩) (c_law_good : PySem.W.codeIn K cd_law_good "_law_good" = true) (k_law_good : PySem.W.keepIn K (.ref x_law_good) = true)
    (a_law : PySem.W.nsIn K mainGlobals "law" = some (some (.ref x_law))) (l_law : K.lookup x_law = some ⟨oc_law, od_law, .func (PySem.W.fnOf "law" "law" (defArgs s_law) (defBody s_law) (defScope s_law) .none kV_law dc_law pm_law an_law cd_law ct_law), sl_law⟩) (c_law : PySem.W.codeIn K cd_law "law" = true) (k_law : PySem.W.keepIn K (.ref x_law) = true)
    (z_abs : PySem.W.nsIn K mainGlobals "abs" = some none)
    (z_bool : PySem.W.nsIn K mainGlobals "bool" = some none)
    (z_int : PySem.W.nsIn K mainGlobals "int" = some none)
    (z_isinstance : PySem.W.nsIn K mainGlobals "isinstance" = some none)
    (z_len : PySem.W.nsIn K mainGlobals "len" = some none)
    (z_list : PySem.W.nsIn K mainGlobals "list" = some none)
    (z_range : PySem.W.nsIn K mainGlobals "range" = some none)
    {t_DIGITS : Tok} (v_DIGITS : PySem.W.nsIn K mainGlobals "DIGITS" = some (some (.str (PySem.Str.ofString "0123456789") t_DIGITS)))
    {t_LETTERS : Tok} (v_LETTERS : PySem.W.nsIn K mainGlobals "LETTERS" = some (some (.str (PySem.Str.ofString "abcdefghijklmnopqrstuvwxyz") t_LETTERS)))
    {t_LONGEST : Tok} (v_LONGEST : PySem.W.nsIn K mainGlobals "LONGEST" = some (some (.int 6 t_LONGEST))) :
    ∃ fd : FuncData, (∀ (s : Shared) (v : Value), BindsTo s fd ⟨[v], []⟩ [("_law_script", v)]) ∧ ∀ base : Heap, K.In base → base.Ns mainGlobals mg → FnOk l.prog w K mg base (L2.CX l.prog w) 2 fa fd ["_law_script"] (spLaw K) := by
  have e := hfa.symm.trans (PySem.W.mg_of X G a_law)
  cases e
  have T : Txt mg := ⟨PySem.W.mg_none_of X G z_abs, PySem.W.mg_none_of X G z_bool, PySem.W.mg_none_of X G z_int, PySem.W.mg_none_of X G z_isinstance, PySem.W.mg_none_of X G z_len, PySem.W.mg_none_of X G z_list, PySem.W.mg_none_of X G z_range, ⟨_, PySem.W.mg_of X G v_DIGITS⟩, ⟨_, PySem.W.mg_of X G v_LETTERS⟩, ⟨_, PySem.W.mg_of X G v_LONGEST⟩⟩
  have TA : TxtA mg := ⟨T.n_len, T.n_int, T.n_abs, T.n_list⟩
  refine ⟨PySem.W.fnOf "law" "law" (defArgs s_law) (defBody s_law) (defScope s_law) .none kV_law dc_law pm_law an_law cd_law ct_law, fun s v => .of_eq rfl, fun base _ _ => ?_⟩
  have F_law_start := fun_mk (st := s_law_start) l_law_start c_law_start k_law_start
  have ok1_law_start := ok_law_start (Pr := l.prog) (w := w) (base := base) TA F_law_start
  have C_law_start : Cal l.prog w K mg base 1 "_law_start" ["_law_script"] (spStart K) := ⟨⟨_, _, PySem.W.mg_of X G a_law_start, k_law_start, F_law_start.binds (ps := ["_law_script"]) fun _ _ _ _ _ _ us hl => match us, hl with | [_], _ => rfl, ok1_law_start⟩⟩
  have F_law_draw := fun_mk (st := s_law_draw) l_law_draw c_law_draw k_law_draw
  have ok1_law_draw := ok_law_draw (Pr := l.prog) (w := w) (base := base) TA F_law_draw
  have C_law_draw : Cal l.prog w K mg base 1 "_law_draw" ["_law_state", "_law_size"] (spD K mg RA 2 m_law_draw) := ⟨⟨_, _, PySem.W.mg_of X G a_law_draw, k_law_draw, F_law_draw.binds (ps := ["_law_state", "_law_size"]) fun _ _ _ _ _ _ us hl => match us, hl with | [_, _], _ => rfl, ok1_law_draw⟩⟩
  have F_valid_name := fun_mk (st := s_valid_name) l_valid_name c_valid_name k_valid_name
  have ok1_valid_name := ok_valid_name (Pr := l.prog) (w := w) (base := base) T F_valid_name
  have C_valid_name : Cal l.prog w K mg base 1 "valid_name" ["text"] (spD K mg RA 1 m_valid_name) := ⟨⟨_, _, PySem.W.mg_of X G a_valid_name, k_valid_name, F_valid_name.binds (ps := ["text"]) fun _ _ _ _ _ _ us hl => match us, hl with | [_], _ => rfl, ok1_valid_name⟩⟩
  have CK_valid_name_text : CalK l.prog w K mg base 1 "valid_name" ["text"] ["text"] [0] (spD K mg RA 1 m_valid_name) := ⟨⟨_, _, PySem.W.mg_of X G a_valid_name, k_valid_name, fun s ws _ hl => match ws, hl with | [_], _ => .of_eq rfl, ok1_valid_name⟩, by decide⟩
  have F_law_signs := fun_mk (st := s_law_signs) l_law_signs c_law_signs k_law_signs
  have ok1_law_signs := ok_law_signs (Pr := l.prog) (w := w) (base := base) T F_law_signs
  have C_law_signs : Cal l.prog w K mg base 1 "_law_signs" [] (spD K mg RA 0 m_law_signs) := ⟨⟨_, _, PySem.W.mg_of X G a_law_signs, k_law_signs, F_law_signs.binds (ps := []) fun _ _ _ _ _ _ us hl => match us, hl with | [], _ => rfl, ok1_law_signs⟩⟩
  have F_law_good := fun_mk (st := s_law_good) l_law_good c_law_good k_law_good
  have ok1_law_good := ok_law_good (Pr := l.prog) (w := w) (base := base) T F_law_good
  have C_law_good : Cal l.prog w K mg base 1 "_law_good" ["_law_word"] (spD K mg RA 1 m_law_good) := ⟨⟨_, _, PySem.W.mg_of X G a_law_good, k_law_good, F_law_good.binds (ps := ["_law_word"]) fun _ _ _ _ _ _ us hl => match us, hl with | [_], _ => rfl, ok1_law_good⟩⟩
  have F_law := fun_mk (st := s_law) l_law c_law k_law
  exact ok_law T F_law C_valid_name C_law_start C_law_draw C_law_signs C_law_good CK_valid_name_text
end PD
open PySem PySem.W PyProof.Rows
set_option maxHeartbeats 0 in
theorem PySem.Challenge.cw_tailpick_k01_valid_names_holds : PySem.Challenge.rw_tailpick_k01_valid_names.Holds := by
  w_on; o_law; k_head; (case hw => w_witness2)
  k_fill
  refine L2.walk_of (l := PySem.Challenge.rw_tailpick_k01_valid_names) (n := 63) (k := 2) (x := "_law_script") (CX := fun w => L2.CX PySem.Challenge.rw_tailpick_k01_valid_names.prog w) (sp := fun w => PD.spLaw _) rfl (by decide) rfl ⟨rfl, by decide, by decide⟩ (fun w h Y => PySem.W.kIn_of Y) ?F (fun _ _ a ns hl _ hS => ⟨a, ns, rfl, hS, hl, fun _ => rfl⟩) (fun _ _ _ _ _ h => by
    obtain ⟨_, _, _, _, _, _, _, _, _, _, _, _, z⟩ := h
    exact z.elim)
  case F =>
    intro w mg fa h KX G hmg
    refine' PD.all_mk KX G hmg ?a_law_start ?l_law_start ?c_law_start ?k_law_start ?a_law_draw ?l_law_draw ?c_law_draw ?k_law_draw ?a_valid_name ?l_valid_name ?c_valid_name ?k_valid_name ?a_law_signs ?l_law_signs ?c_law_signs ?k_law_signs ?a_law_good ?l_law_good ?c_law_good ?k_law_good ?a_law ?l_law ?c_law ?k_law ?z_abs ?z_bool ?z_int ?z_isinstance ?z_len ?z_list ?z_range ?v_DIGITS ?v_LETTERS ?v_LONGEST
    (case a_law_start => k_is)
    (case l_law_start => k_is)
    (case c_law_start => k_is)
    (case k_law_start => k_is)
    (case a_law_draw => k_is)
    (case l_law_draw => k_is)
    (case c_law_draw => k_is)
    (case k_law_draw => k_is)
    (case a_valid_name => k_is)
    (case l_valid_name => k_is)
    (case c_valid_name => k_is)
    (case k_valid_name => k_is)
    (case a_law_signs => k_is)
    (case l_law_signs => k_is)
    (case c_law_signs => k_is)
    (case k_law_signs => k_is)
    (case a_law_good => k_is)
    (case l_law_good => k_is)
    (case c_law_good => k_is)
    (case k_law_good => k_is)
    (case a_law => k_is)
    (case l_law => k_is)
    (case c_law => k_is)
    (case k_law => k_is)
    (case z_abs => k_is)
    (case z_bool => k_is)
    (case z_int => k_is)
    (case z_isinstance => k_is)
    (case z_len => k_is)
    (case z_list => k_is)
    (case z_range => k_is)
    (case v_DIGITS => k_is)
    (case v_LETTERS => k_is)
    (case v_LONGEST => k_is)

