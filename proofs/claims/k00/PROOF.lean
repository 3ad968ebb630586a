import PyProof.Rows.All
import Wide.All
import OpenK.AllK
import Wide.FinOn
import HandS.Base
import HandS.Call
import HandS.List
import HandS.Comp
import HandS.Ends
import HandS.Iter
import HandS.Strs
import HandS.ExcInit
import HandS.TupMul
import HandS.TupAny
import HandS.TupLe
import HandS.SortInts
import HandS.DeepEq
import HandS.IsInst
import HandS.Style
import HandS.Exc
import HandS.ExcOwn
import HandS.ExcIs
import HandS.TryMany
import KE.KExcMake
import KE.KExcSuper
import KE.KSuper
import KE.KSuperObj
import HandS.Nested
import HandS.ExcField
import HandS.WordsExc
import HandS.ExcValue
import HandS.Flow
import KE.GoesEnum
import HandS.SetFor
import HandS.Defaults
import HandS.Head0
import HandS.Head1
import HandS.Head2
import HandS.HeadEnd
import HandS.HeadHook1
import HandS.HeadHook2
import HandS.Words
import KE.KStateDown
import Lean
import PySem.Challenge.RW_staletags_k00_errors_of_the_package
set_option Elab.async false
set_option linter.all false
set_option maxRecDepth 100000
set_option maxHeartbeats 4000000
/-! Data values, the relation to the hand layer's heap. -/
namespace Qv
open PySem PySem.Spec PyProof.Rows L2

/-- a value as data -/
inductive D where
  | non | bl (b : Bool) | int (i : Int) | str (x : Str)
  | tup (xs : List D) | lst (xs : List D) | dic (kvs : List (D × D)) | set (xs : List Int)
  | ins (c : Nat) (fs : List (Nat × D)) | exc (c : Nat) (fs : List (Nat × D))
  | ref (l : Nat) | ty (n : String) | glo (g : Nat) | clo (f : Nat) (cs : List D) | scr (ns : List Int)
  deriving Inhabited

/-- a shared object -/
inductive Ob where
  | lst (xs : List D) | ins (c : Nat) (fs : List (Nat × D)) | dead
  deriving Inhabited
abbrev Sh := List Ob

/-- the law's names -/
structure Tb where
  nm : Nat → Str
  ad : Nat → Addr
  cl : Nat → Prop
  w : World
  /-- the module's own lists -/
  kl : Addr → List V → Prop
  /-- the exception that a suite holds: where it stands, its class, its dict -/
  xa : Addr
  xc : Value
  xd : Option Addr
/-- within a suite -/
def Tb.sx (T : Tb) (a : Addr) (c : Value) (d : Option Addr) : Tb := ⟨T.nm, T.ad, T.cl, T.w, T.kl, a, c, d⟩

/-- what is known of the real heap: the objects that never change again, the shared objects' addresses -/
structure Wd where
  G : Hp
  m : List Addr

section
variable (T : Tb)
mutual
inductive Rep (W : Wd) : D → V → Prop
  | non : Rep W .non .non
  | bl (b : Bool) : Rep W (.bl b) (.bl b)
  | int (i : Int) : Rep W (.int i) (.int i)
  | str (x : Str) : Rep W (.str x) (.str x)
  | tup {xs : List D} {vs : List V} {a : Addr} : W.G a = some (.tup vs) → Reps W xs vs → Rep W (.tup xs) (.ref a)
  | lst {xs : List D} {vs : List V} {a : Addr} : W.G a = some (.lst vs) → Reps W xs vs → Rep W (.lst xs) (.ref a)
  | dic0 {a : Addr} : W.G a = some (.dK []) → Rep W (.dic []) (.ref a)
  | exc0 {c : Nat} {a : Addr} : W.G a = some (exo a (T.ad c) none) → Rep W (.exc c []) (.ref a)
  | exc1 {c f : Nat} {d : D} {v : V} {a dx : Addr} : W.G a = some (exo a (T.ad c) (some dx)) → W.G dx = some (exd dx [(T.nm f, v)]) → Rep W d v → Rep W (.exc c [(f, d)]) (.ref a)
  | set {xs : List Int} {S : Int → Bool} {a : Addr} : W.G a = some (SetO T.w a S xs.length) → (∀ i, S i = decide (i ∈ xs)) → xs.Nodup → Rep W (.set xs) (.ref a)
  | ins {c : Nat} {fs : List (Nat × D)} {fv : List (Str × V)} {a dx : Addr} : T.cl c → W.G a = some (.ins (T.ad c) dx fv) → W.G dx = some (.own a) → RepF W fs fv → Rep W (.ins c fs) (.ref a)
  | ref {l : Nat} {a : Addr} : W.m[l]? = some a → Rep W (.ref l) (.ref a)
  | ty (n : String) : Rep W (.ty n) (.ty n)
  | glo (g : Nat) : Rep W (.glo g) (.ref (T.ad g))
  | scr {ns : List Int} {a : Addr} : (T.kl a (ns.map V.int) ∨ ∃ o, W.G a = some (.frz o (.lst (ns.map V.int)))) → Rep W (.scr ns) (.ref a)
inductive Reps (W : Wd) : List D → List V → Prop
  | nil : Reps W [] []
  | cons {d : D} {v : V} {ds : List D} {vs : List V} : Rep W d v → Reps W ds vs → Reps W (d :: ds) (v :: vs)
inductive RepF (W : Wd) : List (Nat × D) → List (Str × V) → Prop
  | nil : RepF W [] []
  | cons {f : Nat} {d : D} {v : V} {fs : List (Nat × D)} {fv : List (Str × V)} : Rep W d v → RepF W fs fv → RepF W ((f, d) :: fs) ((T.nm f, v) :: fv)
end
end

/-- more is known -/
structure Wd.Le (W W' : Wd) : Prop where
  g : ∀ a o, W.G a = some o → W'.G a = some o
  m : ∀ (l : Nat) (a : Addr), W.m[l]? = some a → W'.m[l]? = some a
theorem Wd.Le.refl (W : Wd) : W.Le W := ⟨fun _ _ h => h, fun _ _ h => h⟩
theorem Wd.Le.trans {A B C : Wd} (h : A.Le B) (k : B.Le C) : A.Le C := ⟨fun a o e => k.g a o (h.g a o e), fun l a e => k.m l a (h.m l a e)⟩

section
variable {T : Tb}
mutual
theorem Rep.mono {W W' : Wd} (h : W.Le W') : ∀ {d : D} {v : V}, Rep T W d v → Rep T W' d v
  | _, _, .non => .non
  | _, _, .bl b => .bl b
  | _, _, .int i => .int i
  | _, _, .str x => .str x
  | _, _, .tup e r => .tup (h.g _ _ e) (Reps.mono h r)
  | _, _, .lst e r => .lst (h.g _ _ e) (Reps.mono h r)
  | _, _, .dic0 e => .dic0 (h.g _ _ e)
  | _, _, .exc0 e => .exc0 (h.g _ _ e)
  | _, _, .exc1 e e2 r => .exc1 (h.g _ _ e) (h.g _ _ e2) (Rep.mono h r)
  | _, _, .set e a b => .set (h.g _ _ e) a b
  | _, _, .ins c e e2 r => .ins c (h.g _ _ e) (h.g _ _ e2) (RepF.mono h r)
  | _, _, .ref e => .ref (h.m _ _ e)
  | _, _, .ty n => .ty n
  | _, _, .glo g => .glo g
  | _, _, .scr e => .scr (e.imp id fun ⟨o, q⟩ => ⟨o, h.g _ _ q⟩)
theorem Reps.mono {W W' : Wd} (h : W.Le W') : ∀ {d : List D} {v : List V}, Reps T W d v → Reps T W' d v
  | _, _, .nil => .nil
  | _, _, .cons a b => .cons (Rep.mono h a) (Reps.mono h b)
theorem RepF.mono {W W' : Wd} (h : W.Le W') : ∀ {d : List (Nat × D)} {v : List (Str × V)}, RepF T W d v → RepF T W' d v
  | _, _, .nil => .nil
  | _, _, .cons a b => .cons (Rep.mono h a) (RepF.mono h b)
end
theorem Reps.length {W : Wd} : ∀ {ds : List D} {vs : List V}, Reps T W ds vs → ds.length = vs.length
  | _, _, .nil => rfl
  | _, _, .cons _ b => by simp [Reps.length b]
theorem Reps.append {W : Wd} : ∀ {a b : List D} {u v : List V}, Reps T W a u → Reps T W b v → Reps T W (a ++ b) (u ++ v)
  | _, _, _, _, .nil, h => h
  | _, _, _, _, .cons x r, h => .cons x (Reps.append r h)
theorem Reps.get {W : Wd} : ∀ {ds : List D} {vs : List V} {i : Nat} {d : D}, Reps T W ds vs → ds[i]? = some d → ∃ v, vs[i]? = some v ∧ Rep T W d v
  | _, _, _, _, .nil, e => by simp at e
  | _, _, 0, _, .cons r _, e => by simp at e; subst e; exact ⟨_, rfl, r⟩
  | _, _, i + 1, d, .cons _ t, e => by
    obtain ⟨v, h1, h2⟩ := Reps.get (i := i) (d := d) t (by simpa using e)
    exact ⟨v, by simpa using h1, h2⟩
theorem Reps.get' {W : Wd} : ∀ {ds : List D} {vs : List V} {i : Nat} {v : V}, Reps T W ds vs → vs[i]? = some v → ∃ d, ds[i]? = some d ∧ Rep T W d v
  | _, _, _, _, .nil, e => by simp at e
  | _, _, 0, _, .cons r _, e => by simp at e; subst e; exact ⟨_, rfl, r⟩
  | _, _, i + 1, v, .cons _ t, e => by
    obtain ⟨d, h1, h2⟩ := Reps.get' (i := i) (v := v) t (by simpa using e)
    exact ⟨d, by simpa using h1, h2⟩
theorem Reps.set {W : Wd} {d : D} {v : V} (r : Rep T W d v) : ∀ {ds : List D} {vs : List V} (i : Nat), Reps T W ds vs → Reps T W (ds.set i d) (vs.set i v)
  | _, _, _, .nil => .nil
  | _, _, 0, .cons _ t => .cons r t
  | _, _, i + 1, .cons q t => .cons q (Reps.set r i t)
theorem Reps.reverse {W : Wd} : ∀ {ds : List D} {vs : List V}, Reps T W ds vs → Reps T W ds.reverse vs.reverse
  | _, _, .nil => .nil
  | _, _, .cons r t => by
    rw [List.reverse_cons, List.reverse_cons]
    exact (Reps.reverse t).append (.cons r .nil)
theorem Reps.take {W : Wd} : ∀ {ds : List D} {vs : List V} (n : Nat), Reps T W ds vs → Reps T W (ds.take n) (vs.take n)
  | _, _, 0, _ => .nil
  | _, _, _ + 1, .nil => .nil
  | _, _, n + 1, .cons r t => .cons r (Reps.take n t)
theorem Reps.drop {W : Wd} : ∀ {ds : List D} {vs : List V} (n : Nat), Reps T W ds vs → Reps T W (ds.drop n) (vs.drop n)
  | _, _, 0, r => r
  | _, _, _ + 1, .nil => .nil
  | _, _, n + 1, .cons _ t => Reps.drop n t
theorem Reps.rep {W : Wd} {ds : List D} {vs : List V} (h : Reps T W ds vs) : ∀ k : Nat, Reps T W (List.replicate k ds).flatten (List.replicate k vs).flatten
  | 0 => .nil
  | k + 1 => by
    rw [List.replicate_succ, List.replicate_succ, List.flatten_cons, List.flatten_cons]
    exact h.append (Reps.rep h k)
theorem RepF.look {W : Wd} {f : Nat} {d : D} (inj : ∀ i j, T.nm i = T.nm j → i = j) : ∀ {fs : List (Nat × D)} {fv : List (Str × V)}, RepF T W fs fv → fs.lookup f = some d → ∃ v, fv.lookup (T.nm f) = some v ∧ Rep T W d v
  | _, _, .nil, e => by simp at e
  | _, _, .cons (f := g) r t, e => by
    simp only [List.lookup] at e ⊢
    by_cases h : f = g
    · subst h
      simp only [beq_self_eq_true] at e ⊢
      cases e
      exact ⟨_, rfl, r⟩
    · have h1 : (f == g) = false := by simpa using h
      have h2 : (T.nm f == T.nm g) = false := by simpa using fun q => h (inj _ _ q)
      simp only [h1] at e
      simp only [h2]
      exact RepF.look inj t e
theorem RepF.none {W : Wd} {f : Nat} (inj : ∀ i j, T.nm i = T.nm j → i = j) : ∀ {fs : List (Nat × D)} {fv : List (Str × V)}, RepF T W fs fv → fs.lookup f = none → fv.lookup (T.nm f) = none
  | _, _, .nil, _ => rfl
  | _, _, .cons (f := g) r t, e => by
    simp only [List.lookup] at e ⊢
    by_cases h : f = g
    · subst h
      simp at e
    · have h1 : (f == g) = false := by simpa using h
      have h2 : (T.nm f == T.nm g) = false := by simpa using fun q => h (inj _ _ q)
      simp only [h1] at e
      simp only [h2]
      exact RepF.none inj t e
end

/-! ### exceptions -/
def XRep (T : Tb) (W : Wd) (x : D) (cls : Value) (d : Option Addr) : Prop := match x with
  | .exc c fs => cls = .ref (T.ad c) ∧ ((fs = [] ∧ d = none) ∨ ∃ dx fv, fs ≠ [] ∧ d = some dx ∧ W.G dx = some (.xd fv) ∧ RepF T W fs fv)
  | _ => False
theorem XRep.mono {T : Tb} {W W' : Wd} (h : W.Le W') {x : D} {cls : Value} {d : Option Addr} (r : XRep T W x cls d) : XRep T W' x cls d := by
  cases x with
  | exc c fs =>
    obtain ⟨e, r⟩ := r
    rcases r with r | ⟨dx, fv, e0, e1, e2, e3⟩
    · exact ⟨e, .inl r⟩
    · exact ⟨e, .inr ⟨dx, fv, e0, e1, h.g _ _ e2, e3.mono h⟩⟩
  | _ => exact r
section
variable {T : Tb} {W : Wd} {a : Addr} {c : Value} {e : Option Addr}
mutual
theorem Rep.sx : ∀ {d : D} {v : V}, Rep T W d v → Rep (T.sx a c e) W d v
  | _, _, .non => .non
  | _, _, .bl b => .bl b
  | _, _, .int i => .int i
  | _, _, .str x => .str x
  | _, _, .tup e r => .tup e (Reps.sx r)
  | _, _, .lst e r => .lst e (Reps.sx r)
  | _, _, .dic0 e => .dic0 e
  | _, _, .exc0 e => .exc0 (T := T.sx a _ _) e
  | _, _, .exc1 e e2 r => .exc1 (T := T.sx a _ _) e e2 (Rep.sx r)
  | _, _, .set e a b => .set e a b
  | _, _, .ins c e e2 r => .ins (T := T.sx a _ _) c e e2 (RepF.sx r)
  | _, _, .ref e => .ref e
  | _, _, .ty n => .ty n
  | _, _, .glo g => .glo (T := T.sx a _ _) g
  | _, _, .scr e => .scr e
theorem Reps.sx : ∀ {d : List D} {v : List V}, Reps T W d v → Reps (T.sx a c e) W d v
  | _, _, .nil => .nil
  | _, _, .cons r t => .cons (Rep.sx r) (Reps.sx t)
theorem RepF.sx : ∀ {d : List (Nat × D)} {v : List (Str × V)}, RepF T W d v → RepF (T.sx a c e) W d v
  | _, _, .nil => .nil
  | _, _, .cons r t => .cons (T := T.sx a _ _) (Rep.sx r) (RepF.sx t)
end
theorem Rep.ux {d : D} {v : V} (h : Rep (T.sx a c e) W d v) : Rep T W d v := Rep.sx (T := T.sx a c e) (a := T.xa) (c := T.xc) (e := T.xd) h
theorem Reps.ux {d : List D} {v : List V} (h : Reps (T.sx a c e) W d v) : Reps T W d v := Reps.sx (T := T.sx a c e) (a := T.xa) (c := T.xc) (e := T.xd) h
theorem RepF.ux {d : List (Nat × D)} {v : List (Str × V)} (h : RepF (T.sx a c e) W d v) : RepF T W d v := RepF.sx (T := T.sx a c e) (a := T.xa) (c := T.xc) (e := T.xd) h
theorem XRep.sx {x : D} {cls : Value} {d : Option Addr} (r : XRep T W x cls d) : XRep (T.sx a c e) W x cls d := by
  cases x with
  | exc n fs =>
    obtain ⟨q, r⟩ := r
    rcases r with r | ⟨dx, fv, e0, e1, e2, e3⟩
    · exact ⟨q, .inl r⟩
    · exact ⟨q, .inr ⟨dx, fv, e0, e1, e2, e3.sx⟩⟩
  | _ => exact r
theorem XRep.ux {x : D} {cls : Value} {d : Option Addr} (r : XRep (T.sx a c e) W x cls d) : XRep T W x cls d := XRep.sx (T := T.sx a c e) (a := T.xa) (c := T.xc) (e := T.xd) r
end
/-! ### one step of the real machine: what may have changed -/
structure Stp (W : Wd) (H : Hp) (W' : Wd) (H' : Hp) : Prop where
  le : W.Le W'
  keep : ∀ a o, H a = some o → a ∉ W.m → H' a = some o
  newG : ∀ a o, W'.G a = some o → W.G a = some o ∨ H a = none ∨ a ∈ W.m
  newM : ∀ a, a ∈ W'.m → a ∈ W.m ∨ H a = none
  there : ∀ a, a ∈ W.m → H' a ≠ none
theorem Stp.refl {W : Wd} {H : Hp} (h : ∀ a, a ∈ W.m → H a ≠ none) : Stp W H W H := ⟨.refl W, fun _ _ h _ => h, fun _ _ h => .inl h, fun _ h => .inl h, h⟩
theorem Stp.trans {W1 W2 W3 : Wd} {H1 H2 H3 : Hp} (h : Stp W1 H1 W2 H2) (k : Stp W2 H2 W3 H3) : Stp W1 H1 W3 H3 := by
  have old : ∀ a, H2 a = none → H1 a = none ∨ a ∈ W1.m := fun a e => by
    cases q : H1 a with
    | none => exact .inl rfl
    | some o =>
      by_cases hm : a ∈ W1.m
      · exact .inr hm
      · rw [h.keep a o q hm] at e; cases e
  refine ⟨h.le.trans k.le, fun a o e n => ?_, fun a o e => ?_, fun a e => ?_, fun a e => ?_⟩
  · refine k.keep a o (h.keep a o e n) fun z => ?_
    rcases h.newM a z with q | q
    · exact n q
    · rw [q] at e; cases e
  · rcases k.newG a o e with q | q | q
    · exact h.newG a o q
    · exact .inr (old a q)
    · rcases h.newM a q with z | z
      · exact .inr (.inr z)
      · exact .inr (.inl z)
  · rcases k.newM a e with q | q
    · exact h.newM a q
    · rcases old a q with z | z
      · exact .inr z
      · exact .inl z
  · obtain ⟨l, e'⟩ := List.getElem?_of_mem e
    exact k.there a (List.mem_of_getElem? (h.le.m l a e'))

/-! ### the shared objects -/
def ORep (T : Tb) (W : Wd) (H : Hp) (a : Addr) : Ob → Prop
  | .lst xs => ∃ vs, H a = some (.lst vs) ∧ Reps T W xs vs
  | .ins c fs => ∃ dx fv, T.cl c ∧ H a = some (.ins (T.ad c) dx fv) ∧ W.G dx = some (.own a) ∧ RepF T W fs fv
  | .dead => H a ≠ none
structure SRel (T : Tb) (W : Wd) (S : Sh) (H : Hp) : Prop where
  sub : ∀ a o, W.G a = some o → H a = some o
  len : W.m.length = S.length
  nd : W.m.Nodup
  apart : ∀ a, a ∈ W.m → W.G a = none
  obs : ∀ (l : Nat) (a : Addr) (o : Ob), W.m[l]? = some a → S[l]? = some o → ORep T W H a o
theorem ORep.there {T : Tb} {W : Wd} {H : Hp} {a : Addr} {o : Ob} (h : ORep T W H a o) : H a ≠ none := by
  cases o with
  | lst xs => obtain ⟨vs, e, _⟩ := h; rw [e]; simp
  | ins c fs => obtain ⟨dx, fv, _, e, _⟩ := h; rw [e]; simp
  | dead => exact h
theorem SRel.there {T : Tb} {W : Wd} {S : Sh} {H : Hp} (r : SRel T W S H) (a : Addr) (h : a ∈ W.m) : H a ≠ none := by
  obtain ⟨l, e⟩ := List.getElem?_of_mem h
  have hl : l < S.length := by rw [← r.len]; exact (List.getElem?_eq_some_iff.mp e).1
  exact (r.obs l a _ e (List.getElem?_eq_getElem hl)).there
theorem SRel.stp {T : Tb} {W : Wd} {S : Sh} {H : Hp} (r : SRel T W S H) : Stp W H W H := Stp.refl r.there
theorem SRel.nonG {T : Tb} {W : Wd} {S : Sh} {H : Hp} (r : SRel T W S H) {a : Addr} (h : H a = none) : W.G a = none := by
  cases q : W.G a with
  | none => rfl
  | some o => have := r.sub a o q; rw [h] at this; cases this
theorem SRel.nonM {T : Tb} {W : Wd} {S : Sh} {H : Hp} (r : SRel T W S H) {a : Addr} (h : H a = none) : a ∉ W.m := fun z => r.there a z h

theorem ne_mem {a b : Addr} {l : List Addr} (n : a ∉ l) (h : b ∈ l) : b ≠ a := fun z => n (z ▸ h)
/-- what is known, with one more object -/
def Wd.add (W : Wd) (a : Addr) (o : HO) : Wd := ⟨upd W.G a o, W.m⟩
theorem Wd.le_add {W : Wd} {a : Addr} {o : HO} (h : W.G a = none) : W.Le (W.add a o) :=
  ⟨fun b u e => by show upd W.G a o b = _; rw [upd_ne (ne_of_none e h)]; exact e, fun _ _ e => e⟩
section
variable {T : Tb} {W : Wd} {S : Sh} {H : Hp} {a : Addr} {o : HO}
/-- the shared objects, over a heap in which they stand as they stood -/
theorem ORep.stay {T : Tb} {W W' : Wd} {H H' : Hp} {a : Addr} {o : Ob} (h : ORep T W H a o) (le : W.Le W') (k : ∀ u, H a = some u → H' a = some u) : ORep T W' H' a o := by
  cases o with
  | lst xs => obtain ⟨vs, e, r⟩ := h; exact ⟨vs, k _ e, r.mono le⟩
  | ins c fs => obtain ⟨dx, fv, hc, e, d, r⟩ := h; exact ⟨dx, fv, hc, k _ e, le.g _ _ d, r.mono le⟩
  | dead =>
    intro z
    cases q : H a with
    | none => exact h q
    | some u => rw [k u q] at z; cases z
/-- a new object is laid that will never change -/
theorem SRel.laid (r : SRel T W S H) (h : H a = none) : SRel T (W.add a o) S (upd H a o) ∧ Stp W H (W.add a o) (upd H a o) := by
  have g := r.nonG h
  have le := Wd.le_add (o := o) g
  have nm := r.nonM h
  refine ⟨⟨fun b u e => ?_, r.len, r.nd, fun b hb => ?_, fun l b u e1 e2 => ?_⟩, ⟨le, fun b u e _ => ?_, fun b u e => ?_, fun b hb => .inl hb, fun b hb => ?_⟩⟩
  · by_cases hb : b = a
    · subst hb
      have e' : upd W.G b o b = some u := e
      rw [upd_same] at e' ⊢; exact e'
    · have e' : upd W.G a o b = some u := e
      rw [upd_ne hb] at e' ⊢
      exact r.sub b u e'
  · show upd W.G a o b = none
    rw [upd_ne (ne_mem nm hb)]
    exact r.apart b hb
  · refine (r.obs l b u e1 e2).stay le fun v q => ?_
    rw [upd_ne (ne_of_none q h)]; exact q
  · rw [upd_ne (ne_of_none e h)]; exact e
  · by_cases hb : b = a
    · subst hb; exact .inr (.inl h)
    · have e' : upd W.G a o b = some u := e
      rw [upd_ne hb] at e'; exact .inl e'
  · rw [upd_ne (ne_mem nm hb)]
    exact r.there b hb
/-- a new object is laid that belongs to whoever made it -/
theorem SRel.fresh (r : SRel T W S H) (h : H a = none) : SRel T W S (upd H a o) ∧ Stp W H W (upd H a o) := by
  have nm := r.nonM h
  refine ⟨⟨fun b u e => ?_, r.len, r.nd, r.apart, fun l b u e1 e2 => ?_⟩, ⟨.refl W, fun b u e _ => ?_, fun b u e => .inl e, fun b hb => .inl hb, fun b hb => ?_⟩⟩
  · have e' := r.sub b u e
    rw [upd_ne (ne_of_none e' h)]; exact e'
  · refine (r.obs l b u e1 e2).stay (.refl W) fun v q => ?_
    rw [upd_ne (ne_of_none q h)]; exact q
  · rw [upd_ne (ne_of_none e h)]; exact e
  · rw [upd_ne (ne_mem nm hb)]
    exact r.there b hb
/-- an object of one's own is changed (it is neither known nor shared) -/
theorem SRel.ownSet (r : SRel T W S H) (g : W.G a = none) (nm : a ∉ W.m) : SRel T W S (upd H a o) := by
  refine ⟨fun b u e => ?_, r.len, r.nd, r.apart, fun l b u e1 e2 => ?_⟩
  · rw [upd_ne (ne_of_none e g)]; exact r.sub b u e
  · refine (r.obs l b u e1 e2).stay (.refl W) fun v q => ?_
    rw [upd_ne (ne_mem nm (List.mem_of_getElem? e1))]; exact q
/-- an object of one's own becomes known -/
theorem SRel.freeze (r : SRel T W S H) (h : H a = some o) (g : W.G a = none) (nm : a ∉ W.m) : SRel T (W.add a o) S H := by
  have le := Wd.le_add (o := o) g
  refine ⟨fun b u e => ?_, r.len, r.nd, fun b hb => ?_, fun l b u e1 e2 => (r.obs l b u e1 e2).stay le fun _ q => q⟩
  · by_cases hb : b = a
    · subst hb
      have e' : upd W.G b o b = some u := e
      rw [upd_same] at e'; rw [← e']; exact h
    · have e' : upd W.G a o b = some u := e
      rw [upd_ne hb] at e'; exact r.sub b u e'
  · show upd W.G a o b = none
    rw [upd_ne (ne_mem nm hb)]; exact r.apart b hb
/-- an object of one's own becomes shared -/
theorem SRel.share {ob : Ob} (r : SRel T W S H) (h : ORep T W H a ob) (g : W.G a = none) (nm : a ∉ W.m) : SRel T ⟨W.G, W.m ++ [a]⟩ (S ++ [ob]) H ∧ W.Le ⟨W.G, W.m ++ [a]⟩ := by
  have le : W.Le ⟨W.G, W.m ++ [a]⟩ := ⟨fun _ _ e => e, fun l b e => by
    show (W.m ++ [a])[l]? = some b
    rw [List.getElem?_append_left (List.getElem?_eq_some_iff.mp e).1]; exact e⟩
  refine ⟨⟨r.sub, by simp [r.len], ?_, fun b hb => ?_, fun l b u e1 e2 => ?_⟩, le⟩
  · rw [List.nodup_append]
    exact ⟨r.nd, by simp, fun x hx y hy => by simp at hy; subst hy; exact fun z => nm (z ▸ hx)⟩
  · have hb' : b ∈ W.m ++ [a] := hb
    rcases List.mem_append.mp hb' with z | z
    · exact r.apart b z
    · simp at z; subst z; exact g
  · have e1' : (W.m ++ [a])[l]? = some b := e1
    by_cases hl : l < W.m.length
    · rw [List.getElem?_append_left hl] at e1'
      rw [List.getElem?_append_left (by rw [← r.len]; exact hl)] at e2
      exact (r.obs l b u e1' e2).stay le fun _ q => q
    · rw [List.getElem?_append_right (Nat.le_of_not_lt hl)] at e1'
      rw [List.getElem?_append_right (by rw [← r.len]; exact Nat.le_of_not_lt hl), ← r.len] at e2
      have hz : l - W.m.length = 0 := by
        have := (List.getElem?_eq_some_iff.mp e1').1
        simp at this; omega
      rw [hz] at e1' e2
      simp at e1' e2
      subst e1' e2
      exact h.stay le fun _ q => q
/-- a shared object is changed -/
theorem SRel.setAt {l : Nat} {ob : Ob} {u : HO} (r : SRel T W S H) (hl : W.m[l]? = some a) (h : ORep T W (upd H a u) a ob) : SRel T W (S.set l ob) (upd H a u) ∧ Stp W H W (upd H a u) := by
  have hm := List.mem_of_getElem? hl
  have g := r.apart a hm
  refine ⟨⟨fun b v e => ?_, by simp [r.len], r.nd, r.apart, fun k b v e1 e2 => ?_⟩, ⟨.refl W, fun b v e n => ?_, fun b v e => .inl e, fun b hb => .inl hb, fun b hb => ?_⟩⟩
  · rw [upd_ne (ne_of_none e g)]; exact r.sub b v e
  · by_cases hk : k = l
    · subst hk
      rw [hl] at e1; cases e1
      rw [List.getElem?_set_self (by rw [← r.len]; exact (List.getElem?_eq_some_iff.mp hl).1)] at e2
      cases e2
      exact h
    · rw [List.getElem?_set_ne (Ne.symm hk)] at e2
      have hne : b ≠ a := fun z => by
        subst z
        have h1 := (List.getElem?_eq_some_iff.mp e1)
        have h2 := (List.getElem?_eq_some_iff.mp hl)
        exact hk ((List.getElem_inj r.nd).mp (h1.2.trans h2.2.symm))
      refine (r.obs k b v e1 e2).stay (.refl W) fun w q => ?_
      rw [upd_ne hne]; exact q
  · rw [upd_ne (Ne.symm (ne_mem n hm))]; exact e
  · by_cases hb' : b = a
    · subst hb'; rw [upd_same]; simp
    · rw [upd_ne hb']; exact r.there b hb
end

section
variable {T : Tb} {W : Wd} {S : Sh} {H : Hp} {a : Addr} {c : Value} {e : Option Addr}
theorem ORep.sx {o : Ob} {b : Addr} (h : ORep T W H b o) : ORep (T.sx a c e) W H b o := by
  cases o with
  | lst xs => obtain ⟨vs, e, r⟩ := h; exact ⟨vs, e, r.sx⟩
  | ins c fs => obtain ⟨dx, fv, hc, e, d, r⟩ := h; exact ⟨dx, fv, hc, e, d, r.sx⟩
  | dead => exact h
theorem SRel.sx (h : SRel T W S H) : SRel (T.sx a c e) W S H := ⟨h.sub, h.len, h.nd, h.apart, fun l b o e1 e2 => (h.obs l b o e1 e2).sx⟩
theorem SRel.ux (h : SRel (T.sx a c e) W S H) : SRel T W S H := SRel.sx (T := T.sx a c e) (a := T.xa) (c := T.xc) (e := T.xd) h
end

/-! ### a frame's slots -/
inductive Sl where
  | v (d : D) | ol (xs : List D) | os (xs : List Int) | xv (c : Nat) (fs : List (Nat × D))
abbrev En := List (Option Sl)
def SlRep (T : Tb) (H0 : Hp) (W : Wd) (H : Hp) : Sl → Option (Option V) → Prop
  | .v d, x => ∃ v, x = some (some v) ∧ Rep T W d v
  | .ol xs, x => ∃ a vs, x = some (some (.ref a)) ∧ H a = some (.lst vs) ∧ Reps T W xs vs ∧ W.G a = none ∧ a ∉ W.m ∧ H0 a = none
  | .os xs, x => ∃ a S, x = some (some (.ref a)) ∧ H a = some (SetO T.w a S xs.length) ∧ (∀ i, S i = decide (i ∈ xs)) ∧ xs.Nodup ∧ W.G a = none ∧ a ∉ W.m ∧ H0 a = none
  | .xv c fs, x => x = some (some (.ref T.xa)) ∧ XRep T W (.exc c fs) T.xc T.xd
def Sl.own : Sl → Bool
  | .v _ => false
  | .xv _ _ => false
  | _ => true
structure FRel (T : Tb) (H0 : Hp) (W : Wd) (E : En) (σ : L2.St) (H : Hp) : Prop where
  len : E.length = σ.length
  at_ : ∀ (i : Nat) (s : Sl), E[i]? = some (some s) → SlRep T H0 W H s σ[i]?
  sep : ∀ (i j : Nat) (s t : Sl) (a : Addr), E[i]? = some (some s) → E[j]? = some (some t) → s.own = true → t.own = true → σ[i]? = some (some (.ref a)) → σ[j]? = some (some (.ref a)) → i = j
theorem SlRep.stp {T : Tb} {H0 : Hp} {W W' : Wd} {H H' : Hp} {s : Sl} {x : Option (Option V)} (st : Stp W H W' H') (h : SlRep T H0 W H s x) : SlRep T H0 W' H' s x := by
  cases s with
  | v d => obtain ⟨v, e, r⟩ := h; exact ⟨v, e, r.mono st.le⟩
  | ol xs =>
    obtain ⟨a, vs, e, q, r, g, nm, z⟩ := h
    refine ⟨a, vs, e, st.keep a _ q nm, r.mono st.le, ?_, fun c => ?_, z⟩
    · cases k : W'.G a with
      | none => rfl
      | some o =>
        rcases st.newG a o k with c | c | c
        · rw [g] at c; cases c
        · rw [q] at c; cases c
        · exact absurd c nm
    · rcases st.newM a c with c | c
      · exact nm c
      · rw [q] at c; cases c
  | os xs =>
    obtain ⟨a, S, e, q, r1, r2, g, nm, z⟩ := h
    refine ⟨a, S, e, st.keep a _ q nm, r1, r2, ?_, fun c => ?_, z⟩
    · cases k : W'.G a with
      | none => rfl
      | some o =>
        rcases st.newG a o k with c | c | c
        · rw [g] at c; cases c
        · rw [q] at c; cases c
        · exact absurd c nm
    · rcases st.newM a c with c | c
      · exact nm c
      · rw [q] at c; cases c
  | xv c fs => exact ⟨h.1, h.2.mono st.le⟩
theorem FRel.stp {T : Tb} {H0 : Hp} {W W' : Wd} {E : En} {σ : L2.St} {H H' : Hp} (h : FRel T H0 W E σ H) (st : Stp W H W' H') : FRel T H0 W' E σ H' :=
  ⟨h.len, fun i s e => (h.at_ i s e).stp st, h.sep⟩
/-- a plain value is stored -/
theorem FRel.setV {T : Tb} {H0 : Hp} {W : Wd} {E : En} {σ : L2.St} {H : Hp} {d : D} {v : V} (h : FRel T H0 W E σ H) (i : Nat) (r : Rep T W d v) : FRel T H0 W (E.set i (some (.v d))) (σ.set i (some v)) H := by
  refine ⟨by simp [h.len], fun j s e => ?_, fun j k s t a e1 e2 o1 o2 q1 q2 => ?_⟩
  · by_cases hj : i = j
    · subst hj
      have hi : i < E.length := by have := (List.getElem?_eq_some_iff.mp e).1; simpa using this
      rw [List.getElem?_set_self hi] at e
      cases e
      exact ⟨v, List.getElem?_set_self (by rw [← h.len]; exact hi), r⟩
    · rw [List.getElem?_set_ne hj] at e
      rw [List.getElem?_set_ne hj]
      exact h.at_ j s e
  · have ne : ∀ {j : Nat} {s : Sl}, (E.set i (some (.v d)))[j]? = some (some s) → s.own = true → i ≠ j := fun {j s} e o z => by
      subst z
      have hi : i < E.length := by have := (List.getElem?_eq_some_iff.mp e).1; simpa using this
      rw [List.getElem?_set_self hi] at e
      cases e; cases o
    have n1 := ne e1 o1
    have n2 := ne e2 o2
    rw [List.getElem?_set_ne n1] at e1 q1
    rw [List.getElem?_set_ne n2] at e2 q2
    exact h.sep j k s t a e1 e2 o1 o2 q1 q2
end Qv
set_option Elab.async false
set_option linter.all false
set_option maxRecDepth 100000
set_option maxHeartbeats 4000000
/-! The small language of defs and what it computes. -/
namespace Qv
open PySem

inductive BinO where
  | add | sub | mul | fdiv | mod | pow
  deriving DecidableEq
inductive CmpO where
  | eq | ne | lt | le | gt | ge | inn | nin
  deriving DecidableEq
inductive BI where
  | len | abs | int | sum | all | any | max1 | min1 | max2 | min2 | isi | tuple
  deriving DecidableEq
inductive Tg where
  | n (i : Nat) | t (a b : Tg) | t3 (a b c : Tg)
inductive Res (α : Type) where
  | ok (a : α) (S : Sh) | ex (x : D) (S : Sh) | bad

mutual
inductive IE where
  | c (d : D)
  | g (n : Nat)
  | v (i : Nat)
  | tup (es : IEs)
  | l (le : LE)
  | sh (le : LE)
  | bin (o : BinO) (a b : IE)
  | neg (a : IE)
  | cmp (o : CmpO) (a b : IE)
  | cmpc (o1 o2 : CmpO) (a b c : IE)
  | isn (a : IE)
  | nnn (a : IE)
  | not (a : IE)
  | and (a b : IE)
  | or (a b : IE)
  | ife (t a b : IE)
  | call (f : Nat) (es : IEs)
  | mk (c : Nat) (es : IEs)
  | bi (b : BI) (es : IEs)
  | ix (a b : IE)
  | sl (a : IE) (lo hi : IO)
  | at (a : IE) (f : Nat)
  | st (a : IE)
  | is (b n : Bool) (a : IE)
  | rev (a : IE)
  | dic0
  | xis (i n : Nat)
  | xat (i f : Nat)
  | exv (c : Nat) (es : IEs)
  | exf (c f : Nat) (a : IE)
  | xiv (a : IE) (n : Nat)
  | cnt (a : IE) (b : Bool)
inductive IO where
  | no | ye (e : IE)
inductive IEs where
  | nil | cons (e : IE) (es : IEs)
inductive LE where
  | disp (es : IEs)
  | comp (elt : IE) (tg : Tg) (it : II) (cond : IO) (vs : List Nat)
  | list (a : IE)
  | sorted (a : IE)
  | rep (a n : IE)
inductive II where
  | seq (a : IE) | rng1 (a : IE) | rng2 (a b : IE) | enum (a : IE) | zip (a b : IE)
end
inductive SE where
  | set (a : IE) | emp

mutual
inductive IS where
  | asg (tg : Tg) (e : IE)
  | par (is : List Nat) (es : IEs)
  | own (i : Nat) (le : LE)
  | owns (i : Nat) (se : SE)
  | aug (i : Nat) (o : BinO) (e : IE)
  | app (i : Nat) (e : IE)
  | ext (i : Nat) (e : IE)
  | add (i : Nat) (e : IE)
  | sti (i : Nat) (ix e : IE)
  | sts (o ix e : IE)
  | sat (o : IE) (f : Nat) (e : IE)
  | expr (e : IE) | ret (e : IE) | retn | pas | brk | cnt
  | ite (t : IE) (a b : ISs)
  | for (tg : Tg) (it : II) (b : ISs)
  | whl (t : IE) (b : ISs)
  | nvr
  | raise (c : Nat) (es : IEs)
  | tryA (b : ISs) (n i : Nat) (su : ISs)
  | tryM (b : ISs) (hs : Hs)
inductive ISs where
  | nil | cons (s : IS) (b : ISs) | frz (i : Nat) (b : ISs)
inductive Hs where
  | nil | cons (n : Nat) (su : ISs) (r : Hs)
end

/-! ### values -/
def LIM : Nat := 1000000
def Res.bind {α β : Type} : Res α → (α → Sh → Res β) → Res β
  | .ok a S, k => k a S
  | .ex x S, _ => .ex x S
  | .bad, _ => .bad
def lift {α : Type} : Option α → Sh → Res α
  | some d, S => .ok d S
  | none, _ => .bad
def drf (S : Sh) : D → D
  | .ref l => (match S[l]? with
    | some (.lst xs) => .lst xs
    | _ => .ref l)
  | d => d
def seqD : D → Option (List D)
  | .tup xs => some xs
  | .lst xs => some xs
  | _ => none
mutual
def D.beq : D → D → Bool
  | .non, .non => true
  | .bl a, .bl b => a == b
  | .bl a, .int j => (if a then 1 else 0) == j
  | .int i, .bl b => i == (if b then 1 else 0)
  | .int i, .int j => i == j
  | .str x, .str y => x == y
  | .lst xs, .lst ys => D.beqs xs ys
  | .tup xs, .tup ys => D.beqs xs ys
  | _, _ => false
def D.beqs : List D → List D → Bool
  | [], [] => true
  | x :: xs, y :: ys => D.beq x y && D.beqs xs ys
  | _, _ => false
end
mutual
/-- == of it is told, and how deep it is -/
def D.okq : D → Bool
  | .non => true
  | .bl _ => true
  | .int _ => true
  | .str x => PyData.canLay0 (.str x)
  | .lst xs => D.okqs xs
  | .tup xs => D.okqs xs
  | _ => false
def D.okqs : List D → Bool
  | [] => true
  | x :: xs => D.okq x && D.okqs xs
end
mutual
def D.dep : D → Nat
  | .lst xs => D.deps xs + 1
  | .tup xs => D.deps xs + 1
  | _ => 0
def D.deps : List D → Nat
  | [] => 0
  | x :: xs => max (D.dep x) (D.deps xs)
end
def D.flat : D → Bool
  | .non => true
  | .bl _ => true
  | .int _ => true
  | .str _ => true
  | _ => false
def mulOk (i j : Int) : Prop := (-(2 ^ 64) < i ∧ i < 2 ^ 64) ∨ (-(2 ^ 64) < j ∧ j < 2 ^ 64)
instance (i j : Int) : Decidable (mulOk i j) := by unfold mulOk; infer_instance
def binD : BinO → D → D → Option D
  | .add, .int i, .int j => some (.int (i + j))
  | .sub, .int i, .int j => some (.int (i - j))
  | .mul, .int i, .int j => if mulOk i j then some (.int (i * j)) else none
  | .fdiv, .int i, .int j => if 0 < j ∧ j < 1073741824 then some (.int (i / j)) else none
  | .mod, .int i, .int j => if 0 < j then some (.int (i % j)) else none
  | .pow, .int i, .int j => if 0 ≤ j ∧ j ≤ 1000000 ∧ i.natAbs < 2 ^ 64 then some (.int (i ^ j.toNat)) else none
  | .add, .tup xs, .tup ys => if xs.length + ys.length ≤ LIM then some (.tup (xs ++ ys)) else none
  | .add, .lst xs, .lst ys => if xs.length + ys.length ≤ LIM then some (.lst (xs ++ ys)) else none
  | .mul, .tup xs, .int k => if 1 ≤ k ∧ k ≤ 1000 ∧ xs ≠ [] ∧ xs.length ≤ 1000 then some (.tup (List.replicate k.toNat xs).flatten) else none
  | .mul, .lst xs, .int k => if 0 ≤ k ∧ k ≤ 1000 ∧ xs.length ≤ 1000 then some (.lst (List.replicate k.toNat xs).flatten) else none
  | _, _, _ => none
instance (xs : List D) : Decidable (xs = []) := by cases xs <;> first | exact isTrue rfl | exact isFalse (fun h => nomatch h)
/-- an index, from the front or from behind -/
def ixAt (n : Nat) (i : Int) : Option Nat := if 0 ≤ i then (if i < n then some i.toNat else none) else if -(n : Int) ≤ i then some (i + n).toNat else none
def intsOf : List D → Option (List Int)
  | [] => some []
  | .int i :: r => (intsOf r).map (i :: ·)
  | _ => none
def blsOf : List D → Option (List Bool)
  | [] => some []
  | .bl i :: r => (blsOf r).map (i :: ·)
  | _ => none
def lexI : List Int → List Int → Bool
  | [], _ => true
  | _ :: _, [] => false
  | x :: xs, y :: ys => if x = y then lexI xs ys else decide (x < y)
/-- {} -/
def D.emp : D → Bool
  | .dic [] => true
  | _ => false
def cmpD : CmpO → D → D → Option Bool
  | .eq, x, y => if x.okq && y.okq && decide (x.dep ≤ 64) && decide (y.dep ≤ 64) then some (D.beq x y) else if x.emp && y.emp then some true else none
  | .ne, x, y => if x.okq && y.okq && decide (x.dep ≤ 64) && decide (y.dep ≤ 64) then some (!D.beq x y) else none
  | .lt, .int i, .int j => some (decide (i < j))
  | .le, .int i, .int j => some (decide (i ≤ j))
  | .gt, .int i, .int j => some (decide (j < i))
  | .ge, .int i, .int j => some (decide (j ≤ i))
  | .le, .tup xs, .tup ys => (match intsOf xs, intsOf ys with
    | some a, some b => some (lexI a b)
    | _, _ => none)
  | .inn, .int i, .set xs => some (decide (i ∈ xs))
  | .nin, .int i, .set xs => some (!decide (i ∈ xs))
  | .inn, x, y => (match seqD y with
    | some ys => if x.flat && ys.all D.flat then some (ys.any fun z => D.beq z x) else none
    | none => none)
  | .nin, x, y => (match seqD y with
    | some ys => if x.flat && ys.all D.flat then some (!ys.any fun z => D.beq z x) else none
    | none => none)
  | _, _, _ => none
def truD : D → Option Bool
  | .non => some false
  | .bl b => some b
  | .int i => some (i != 0)
  | .tup xs => some (!xs.isEmpty)
  | .lst xs => some (!xs.isEmpty)
  | _ => none
/-- the built-in class of a value -/
def kindD : D → Option String
  | .non => some "NoneType"
  | .bl _ => some "bool"
  | .int _ => some "int"
  | .str _ => some "str"
  | .tup _ => some "tuple"
  | .lst _ => some "list"
  | .dic _ => some "dict"
  | _ => none
def isiK (k n : String) : Option Bool :=
  if n = "int" then some (k = "int" || k = "bool") else if n = "bool" then some (k = "bool") else if n = "str" then some (k = "str")
  else if n = "tuple" then some (k = "tuple") else if n = "list" then some (k = "list") else if n = "dict" then some (k = "dict") else none
def isiT (k : String) : List D → Option Bool
  | [] => some false
  | .ty n :: r => (isiK k n).bind fun b => (isiT k r).map fun c => b || c
  | _ => none
def foldMax : Int → List Int → Int
  | a, [] => a
  | a, x :: xs => foldMax (if x > a then x else a) xs
def foldMin : Int → List Int → Int
  | a, [] => a
  | a, x :: xs => foldMin (if x < a then x else a) xs
def biD : BI → List D → Option D
  | .len, [.tup xs] => some (.int xs.length)
  | .len, [.lst xs] => some (.int xs.length)
  | .len, [.scr ns] => some (.int ns.length)
  | .len, [.str x] => if x.length ≤ LIM then some (.int x.length) else none
  | .abs, [.int i] => some (.int (if i < 0 then -i else i))
  | .int, [.int i] => some (.int i)
  | .int, [.bl b] => some (.int (if b then 1 else 0))
  | .sum, [.lst xs] => (intsOf xs).map fun l => .int l.sum
  | .all, [.lst xs] => (blsOf xs).map fun l => .bl (l.all id)
  | .any, [.lst xs] => (blsOf xs).map fun l => .bl (l.any id)
  | .max2, [.int i, .int j] => some (.int (if j > i then j else i))
  | .min2, [.int i, .int j] => some (.int (if j < i then j else i))
  | .isi, [d, .ty n] => (match kindD d with
    | some k => (isiK k n).map .bl
    | none => none)
  | .isi, [d, .tup ts] => (match kindD d with
    | some k => (isiT k ts).map .bl
    | none => none)
  | .tuple, [.lst xs] => some (.tup xs)
  | .tuple, [.tup xs] => some (.tup xs)
  | _, _ => none
def sIxO (n d : Nat) : Option Int → Nat
  | none => d
  | some v => if v < 0 then (v + (n : Int)).toNat else min v.toNat n
def cutD (xs : List D) (lo hi : Option Int) : List D := (xs.drop (sIxO xs.length 0 lo)).take (sIxO xs.length xs.length hi - sIxO xs.length 0 lo)
def seqI : D → Option (List D)
  | .scr ns => some (ns.map .int)
  | d => seqD d
def slD : D → Option Int → Option Int → Option D
  | .tup xs, lo, hi => some (.tup (cutD xs lo hi))
  | .lst xs, lo, hi => some (.lst (cutD xs lo hi))
  | .scr ns, lo, hi => some (.lst (cutD (ns.map .int) lo hi))
  | _, _, _ => none
def ixD : D → D → Option D
  | .tup xs, .int i => (ixAt xs.length i).bind fun j => xs[j]?
  | .lst xs, .int i => (ixAt xs.length i).bind fun j => xs[j]?
  | _, _ => none
def insI (x : Int) : List Int → List Int
  | [] => [x]
  | y :: r => if x ≤ y then x :: y :: r else y :: insI x r
def sortI : List Int → List Int
  | [] => []
  | x :: r => insI x (sortI r)
def addS (xs : List Int) (x : Int) : List Int := if x ∈ xs then xs else xs ++ [x]
def rngD (a b : Int) : List D := (List.range (b - a).toNat).map fun (i : Nat) => D.int (a + i)
def enumD : Nat → List D → List D
  | _, [] => []
  | n, x :: r => .tup [.int n, x] :: enumD (n + 1) r
def zipD : List D → List D → List D
  | x :: xs, y :: ys => .tup [x, y] :: zipD xs ys
  | _, _ => []
def setOf (d : D) : Option (List Int) := ((seqD d).bind intsOf).bind fun l => if l.length < 4000 then some (l.foldl addS []) else none
def wipeE (E : En) : List Nat → En
  | [] => E
  | v :: vs => (wipeE E vs).set v none
def asgT : Tg → D → En → Option En
  | .n i, d, E => if i < E.length then some (E.set i (some (.v d))) else none
  | .t a b, .tup [x, y], E => (asgT a x E).bind (asgT b y)
  | .t3 a b c, .tup [x, y, z], E => ((asgT a x E).bind (asgT b y)).bind (asgT c z)
  | _, _, _ => none
def atD (S : Sh) (f : Nat) : D → Option D
  | .ins _ fs => fs.lookup f
  | .ref l => (match S[l]? with
    | some (.ins _ fs) => fs.lookup f
    | _ => none)
  | _ => none

def revD : D → Option D
  | .tup xs => some (.tup xs.reverse)
  | .lst xs => some (.lst xs.reverse)
  | _ => none

structure Calls where
  fn : Nat → List D → Sh → Res D
  new : Nat → List D → Sh → Res D
  gl : Nat → Option D
  /-- is a class of exceptions under a named one -/
  sub : Nat → Nat → Option Bool
  /-- a class of exceptions: its fields -/
  exn : Nat → Option (List Nat)
/-- within a suite nothing is called -/
def Calls.hot (C : Calls) : Calls := ⟨fun _ _ _ => .bad, fun _ _ _ => .bad, C.gl, C.sub, C.exn⟩

def compL (f : D → Sh → Res (Option D)) : List D → List D → Sh → Res (List D)
  | [], acc, S => .ok acc S
  | x :: xs, acc, S => (f x S).bind fun o S1 => match o with
    | none => compL f xs acc S1
    | some y => if acc.length < LIM then compL f xs (acc ++ [y]) S1 else .bad
def slotA (E : En) (i : Nat) : Option D := match E[i]? with
  | some (some (.v d)) => some d
  | some (some (.ol xs)) => some (.lst xs)
  | some (some (.os xs)) => some (.set xs)
  | _ => none
def slotV (E : En) (i : Nat) : Option D := match E[i]? with
  | some (some (.v d)) => some d
  | _ => none
def noEx {α : Type} : Res α → Res α
  | .ok a S => .ok a S
  | _ => .bad

/-- an argument that a built-in only looks at: a list of one's own may stand there -/
def brw : IE → En → Sh → Res D → Res D
  | .v i, E, S, _ => lift (slotA E i) S
  | _, _, _, r => r
def tst (e : IE) (E : En) (S : Sh) (r : Res D) : Res Bool := (brw e E S r).bind fun x S => lift (truD (drf S x)) S

/-- what is raised: the class's fields, the arguments -/
def raiseD : Option (List Nat) → Nat → List D → Option D
  | some [], c, [] => some (.exc c [])
  | some [f], c, [d] => some (.exc c [(f, d)])
  | _, _, _ => none
/-- how many flags of a list are b -/
def cntD : D → Bool → Option D
  | .lst xs, b => (blsOf xs).map fun bs => .int (bs.count b : Nat)
  | _, _ => none
mutual
def ev (C : Calls) : IE → En → Sh → Res D
  | .c d, _, S => .ok d S
  | .g n, _, S => lift (C.gl n) S
  | .v i, E, S => lift (slotV E i) S
  | .tup es, E, S => (evs C es E S).bind fun ds S => if ds.length ≤ LIM then .ok (.tup ds) S else .bad
  | .l le, E, S => (evL C le E S).bind fun ds S => .ok (.lst ds) S
  | .sh le, E, S => (evL C le E S).bind fun ds S => .ok (.ref S.length) (S ++ [.lst ds])
  | .bin o a b, E, S => (brw a E S (ev C a E S)).bind fun x S => (brw b E S (ev C b E S)).bind fun y S => lift (binD o (drf S x) (drf S y)) S
  | .neg a, E, S => (ev C a E S).bind fun x S => match x with
    | .int i => .ok (.int (-i)) S
    | _ => .bad
  | .cmp o a b, E, S => (brw a E S (ev C a E S)).bind fun x S => (brw b E S (ev C b E S)).bind fun y S => (lift (cmpD o (drf S x) (drf S y)) S).bind fun b S => .ok (.bl b) S
  | .cmpc o1 o2 a b c, E, S => (ev C a E S).bind fun x S => (ev C b E S).bind fun y S => (lift (cmpD o1 (drf S x) (drf S y)) S).bind fun t S => match t with
    | true => (ev C c E S).bind fun z S => (lift (cmpD o2 (drf S y) (drf S z)) S).bind fun b S => .ok (.bl b) S
    | false => .ok (.bl false) S
  | .isn a, E, S => (ev C a E S).bind fun x S => match x with
    | .non => .ok (.bl true) S
    | _ => .ok (.bl false) S
  | .nnn a, E, S => (ev C a E S).bind fun x S => match x with
    | .non => .ok (.bl false) S
    | _ => .ok (.bl true) S
  | .not a, E, S => (tst a E S (ev C a E S)).bind fun t S => .ok (.bl (!t)) S
  | .and a b, E, S => (ev C a E S).bind fun x S => match truD (drf S x) with
    | some true => ev C b E S
    | some false => .ok x S
    | none => .bad
  | .or a b, E, S => (ev C a E S).bind fun x S => match truD (drf S x) with
    | some true => .ok x S
    | some false => ev C b E S
    | none => .bad
  | .ife t a b, E, S => (tst t E S (ev C t E S)).bind fun t S => match t with
    | true => ev C a E S
    | false => ev C b E S
  | .call f es, E, S => (evs C es E S).bind fun ds S => C.fn f ds S
  | .mk c es, E, S => (evs C es E S).bind fun ds S => C.new c ds S
  | .bi b es, E, S => (evAs C es E S).bind fun ds S => lift (biD b (ds.map (drf S))) S
  | .ix a b, E, S => (brw a E S (ev C a E S)).bind fun x S => (ev C b E S).bind fun y S => lift (ixD (drf S x) y) S
  | .sl a lo hi, E, S => (brw a E S (ev C a E S)).bind fun x S => (evO C lo E S).bind fun l S => (evO C hi E S).bind fun h S => lift (slD (drf S x) l h) S
  | .at a f, E, S => (ev C a E S).bind fun x S => lift (atD S f x) S
  | .st a, E, S => (brw a E S (ev C a E S)).bind fun x S => (lift (setOf (drf S x)) S).bind fun l S => .ok (.set l) S
  | .is b n a, E, S => (ev C a E S).bind fun x S => match x with
    | .bl c => .ok (.bl (if n then !decide (c = b) else decide (c = b))) S
    | _ => .bad
  | .rev a, E, S => (brw a E S (ev C a E S)).bind fun x S => lift (revD (drf S x)) S
  | .dic0, _, S => .ok (.dic []) S
  | .xis i n, E, S => (match E[i]? with
    | some (some (.xv c _)) => (lift (C.sub c n) S).bind fun b S => .ok (.bl b) S
    | _ => .bad)
  | .xat i f, E, S => (match E[i]? with
    | some (some (.xv c fs)) => (match C.exn c with
      | some fl => if fl.contains f then lift (fs.lookup f) S else .bad
      | none => .bad)
    | _ => .bad)
  | .exv c es, E, S => (evs C es E S).bind fun ds S => lift (raiseD (C.exn c) c ds) S
  | .exf c f a, E, S => (ev C a E S).bind fun d S => if C.exn c = some [f] then .ok d S else .bad
  | .xiv a n, E, S => (ev C a E S).bind fun x S => match x with
    | .exc c _ => (lift (C.sub c n) S).bind fun b S => .ok (.bl b) S
    | _ => .bad
  | .cnt a b, E, S => (brw a E S (ev C a E S)).bind fun x S => lift (cntD (drf S x) b) S
def evO (C : Calls) : IO → En → Sh → Res (Option Int)
  | .no, _, S => .ok none S
  | .ye e, E, S => (ev C e E S).bind fun x S => match x with
    | .int i => .ok (some i) S
    | _ => .bad
def evs (C : Calls) : IEs → En → Sh → Res (List D)
  | .nil, _, S => .ok [] S
  | .cons e es, E, S => (ev C e E S).bind fun x S => (evs C es E S).bind fun xs S => .ok (x :: xs) S
def evAs (C : Calls) : IEs → En → Sh → Res (List D)
  | .nil, _, S => .ok [] S
  | .cons e es, E, S => (brw e E S (ev C e E S)).bind fun x S => (evAs C es E S).bind fun xs S => .ok (x :: xs) S
def evL (C : Calls) : LE → En → Sh → Res (List D)
  | .disp es, E, S => (evs C es E S).bind fun ds S => if ds.length ≤ LIM then .ok ds S else .bad
  | .comp elt tg it cond vs, E, S => (evI C it E S).bind fun xs S => noEx (compL (fun x S => match asgT tg x (wipeE E vs) with
    | none => .bad
    | some E1 => (evC C cond E1 S).bind fun t S => match t with
      | true => (ev C elt E1 S).bind fun y S => .ok (some y) S
      | false => .ok none S) xs [] S)
  | .list a, E, S => (brw a E S (ev C a E S)).bind fun x S => lift (seqD (drf S x)) S
  | .sorted a, E, S => (brw a E S (ev C a E S)).bind fun x S => match drf S x with
    | .lst xs => (lift (intsOf xs) S).bind fun l S => .ok ((sortI l).map .int) S
    | .set xs => if xs.length < 64 then .ok ((sortI xs).map .int) S else .bad
    | _ => .bad
  | .rep a n, E, S => (brw a E S (ev C a E S)).bind fun x S => (ev C n E S).bind fun y S => match binD .mul (drf S x) y with
    | some (.lst xs) => .ok xs S
    | _ => .bad
def evC (C : Calls) : IO → En → Sh → Res Bool
  | .no, _, S => .ok true S
  | .ye e, E, S => tst e E S (ev C e E S)
def evI (C : Calls) : II → En → Sh → Res (List D)
  | .seq a, E, S => (ev C a E S).bind fun x S => lift (seqI x) S
  | .rng1 a, E, S => (ev C a E S).bind fun x S => match x with
    | .int n => if -(LIM : Int) ≤ n ∧ n ≤ LIM then .ok (rngD 0 n) S else .bad
    | _ => .bad
  | .rng2 a b, E, S => (ev C a E S).bind fun x S => (ev C b E S).bind fun y S => match x, y with
    | .int i, .int j => if -(LIM : Int) ≤ i ∧ i ≤ LIM ∧ -(LIM : Int) ≤ j ∧ j ≤ LIM then .ok (rngD i j) S else .bad
    | _, _ => .bad
  | .enum a, E, S => (ev C a E S).bind fun x S => match seqD x with
    | some xs => .ok (enumD 0 xs) S
    | none => .bad
  | .zip a b, E, S => (ev C a E S).bind fun x S => (ev C b E S).bind fun y S => match seqD x, seqD y with
    | some xs, some ys => .ok (zipD xs ys) S
    | _, _ => .bad
end

/-! ### statements -/
inductive Fl where
  | nx | brk | cnt | ret (d : D) | exc (x : D)
/-- an expression's end, in a statement: what it raises leaves at these slots -/
def Res.bindS {α : Type} (r : Res α) (E : En) (k : α → Sh → Res (Fl × En)) : Res (Fl × En) := match r with
  | .ok a S => k a S
  | .ex x S => .ok (.exc x, E) S
  | .bad => .bad
def forL (f : D → En → Sh → Res (Fl × En)) : List D → En → Sh → Res (Fl × En)
  | [], E, S => .ok (.nx, E) S
  | x :: xs, E, S => (f x E S).bind fun r S1 => match r with
    | (.nx, E1) => forL f xs E1 S1
    | (.cnt, E1) => forL f xs E1 S1
    | (.brk, E1) => .ok (.nx, E1) S1
    | r => .ok r S1
def whlL (t : En → Sh → Res Bool) (f : En → Sh → Res (Fl × En)) : Nat → En → Sh → Res (Fl × En)
  | 0, _, _ => .bad
  | n + 1, E, S => (t E S).bindS E fun b S1 => match b with
    | false => .ok (.nx, E) S1
    | true => (f E S1).bind fun r S2 => match r with
      | (.nx, E1) => whlL t f n E1 S2
      | (.cnt, E1) => whlL t f n E1 S2
      | (.brk, E1) => .ok (.nx, E1) S2
      | r => .ok r S2
def WFU : Nat := 1000000
def setSl (E : En) (i : Nat) (s : Sl) : Option En := if i < E.length then some (E.set i (some s)) else none
def nxt (E : Option En) (S : Sh) : Res (Fl × En) := match E with
  | some E => .ok (.nx, E) S
  | none => .bad
def putF (f : Nat) (d : D) : List (Nat × D) → List (Nat × D)
  | [] => [(f, d)]
  | (g, x) :: r => if g = f then (g, d) :: r else (g, x) :: putF f d r
def setPar : List Nat → List D → En → Option En
  | [], [], E => some E
  | i :: is, d :: ds, E => (setSl E i (.v d)).bind (setPar is ds)
  | _, _, _ => none
def evSE (C : Calls) : SE → En → Sh → Res (List Int)
  | .emp, _, S => .ok [] S
  | .set a, E, S => (brw a E S (ev C a E S)).bind fun x S => lift (setOf (drf S x)) S
/-- the name of a caught exception goes -/
def noX (E : En) : En := E.map fun s => match s with
  | some (.xv _ _) => none
  | s => s
/-- a suite's end -/
def suEnd (f : En → En) : Fl × En → Sh → Res (Fl × En)
  | (.exc _, _), _ => .bad
  | (fl, E), S => .ok (fl, f (noX E)) S
def augD (o : BinO) : D → D → Option D
  | .int i, .int j => (match o with
    | .pow => none
    | _ => binD o (.int i) (.int j))
  | _, _ => none
mutual
def exS (C : Calls) : IS → En → Sh → Res (Fl × En)
  | .asg tg e, E, S => (ev C e E S).bindS E fun d S => nxt (asgT tg d E) S
  | .par is es, E, S => (evs C es E S).bindS E fun ds S => if ds.length ≤ LIM then nxt (setPar is ds E) S else .bad
  | .own i le, E, S => (evL C le E S).bindS E fun ds S => nxt (setSl E i (.ol ds)) S
  | .owns i se, E, S => (evSE C se E S).bindS E fun l S => nxt (setSl E i (.os l)) S
  | .aug i o e, E, S => (match E[i]? with
    | some (some (.v x)) => (ev C e E S).bindS E fun y S => (lift (augD o x y) S).bindS E fun z S => nxt (setSl E i (.v z)) S
    | _ => .bad)
  | .app i e, E, S => (match E[i]? with
    | some (some (.ol xs)) => (ev C e E S).bindS E fun d S => if xs.length < LIM then nxt (setSl E i (.ol (xs ++ [d]))) S else .bad
    | _ => .bad)
  | .ext i e, E, S => (match E[i]? with
    | some (some (.ol xs)) => (brw e E S (ev C e E S)).bindS E fun d S => (match drf S d with
      | .lst ys => if xs.length + ys.length ≤ LIM then nxt (setSl E i (.ol (xs ++ ys))) S else .bad
      | _ => .bad)
    | _ => .bad)
  | .add i e, E, S => (match E[i]? with
    | some (some (.os xs)) => (ev C e E S).bindS E fun d S => (match d with
      | .int x => if xs.length < 4000 then nxt (setSl E i (.os (addS xs x))) S else .bad
      | _ => .bad)
    | _ => .bad)
  | .sti i ix e, E, S => (match E[i]? with
    | some (some (.ol xs)) => (ev C e E S).bindS E fun d S => (ev C ix E S).bindS E fun k S => (match k with
      | .int j => (match ixAt xs.length j with
        | some n => nxt (setSl E i (.ol (xs.set n d))) S
        | none => .bad)
      | _ => .bad)
    | _ => .bad)
  | .sts o ix e, E, S => (ev C e E S).bindS E fun d S => (ev C o E S).bindS E fun x S => (ev C ix E S).bindS E fun k S => match x, k with
    | .ref l, .int j => (match S[l]? with
      | some (.lst xs) => (match ixAt xs.length j with
        | some n => .ok (.nx, E) (S.set l (.lst (xs.set n d)))
        | none => .bad)
      | _ => .bad)
    | _, _ => .bad
  | .sat o f e, E, S => (ev C e E S).bindS E fun d S => (ev C o E S).bindS E fun x S => match x with
    | .ref l => (match S[l]? with
      | some (.ins c fs) => if fs.length < 900 then .ok (.nx, E) (S.set l (.ins c (putF f d fs))) else .bad
      | _ => .bad)
    | _ => .bad
  | .expr e, E, S => (ev C e E S).bindS E fun _ S => .ok (.nx, E) S
  | .ret e, E, S => (ev C e E S).bindS E fun d S => .ok (.ret d, E) S
  | .retn, E, S => .ok (.ret .non, E) S
  | .pas, E, S => .ok (.nx, E) S
  | .brk, E, S => .ok (.brk, E) S
  | .cnt, E, S => .ok (.cnt, E) S
  | .ite t a b, E, S => (tst t E S (ev C t E S)).bindS E fun t S => match t with
    | true => exB C a E S
    | false => exB C b E S
  | .for tg it b, E, S => (evI C it E S).bindS E fun xs S => forL (fun x E S => match asgT tg x E with
    | none => .bad
    | some E1 => exB C b E1 S) xs E S
  | .whl t b, E, S => whlL (fun E S => tst t E S (ev C t E S)) (exB C b) WFU E S
  | .nvr, _, _ => .bad
  | .raise c es, E, S => (evs C es E S).bindS E fun ds S => match raiseD (C.exn c) c ds with
    | some x => .ok (.exc x, E) S
    | none => .bad
  | .tryA b n i su, E, S => (exB C b E S).bind fun r S1 => match r with
    | (.exc (.exc c fs), E1) => (match C.sub c n with
      | some true => (exB C.hot su ((noX E1).set i (some (.xv c fs))) S1).bind (suEnd fun E => E.set i none)
      | some false => .ok (.exc (.exc c fs), E1) S1
      | none => .bad)
    | (.exc _, _) => .bad
    | r => .ok r S1
  | .tryM b hs, E, S => (exB C b E S).bind fun r S1 => match r with
    | (.exc (.exc c fs), E1) => exH C c fs hs E1 S1
    | (.exc _, _) => .bad
    | r => .ok r S1
def exH (C : Calls) (c : Nat) (fs : List (Nat × D)) : Hs → En → Sh → Res (Fl × En)
  | .nil, E, S => .ok (.exc (.exc c fs), E) S
  | .cons n su r, E, S => (match C.sub c n with
    | some true => (exB C.hot su (noX E) S).bind (suEnd id)
    | some false => exH C c fs r E S
    | none => .bad)
def exB (C : Calls) : ISs → En → Sh → Res (Fl × En)
  | .nil, E, S => .ok (.nx, E) S
  | .cons s b, E, S => (exS C s E S).bind fun r S => match r with
    | (.nx, E1) => exB C b E1 S
    | r => .ok r S
  | .frz i b, E, S => (match E[i]? with
    | some (some (.ol xs)) => exB C b (E.set i (some (.v (.lst xs)))) S
    | some (some (.os xs)) => exB C b (E.set i (some (.v (.set xs)))) S
    | _ => exB C b E S)
end

/-! ### defs -/
structure Fn where
  ps : Nat
  n : Nat
  body : ISs
mutual
/-- no shared object from number n on stands in it -/
def D.low (n : Nat) : D → Bool
  | .tup xs => D.lows n xs
  | .lst xs => D.lows n xs
  | .ins _ fs => D.lowF n fs
  | .ref l => decide (l < n)
  | .non => true
  | .bl _ => true
  | .int _ => true
  | .str _ => true
  | .dic [] => true
  | .set _ => true
  | .ty _ => true
  | .glo _ => true
  | .scr _ => true
  | _ => false
def D.lows (n : Nat) : List D → Bool
  | [] => true
  | x :: xs => D.low n x && D.lows n xs
def D.lowF (n : Nat) : List (Nat × D) → Bool
  | [] => true
  | (_, x) :: xs => D.low n x && D.lowF n xs
end
def Ob.low (n : Nat) : Ob → Bool
  | .lst xs => D.lows n xs
  | .ins _ fs => D.lowF n fs
  | .dead => true
structure Pg where
  fns : List Fn
  /-- a class: its __init__ -/
  ini : Nat → Option Nat
  gl : Nat → Option D
  sub : Nat → Nat → Option Bool
  exn : Nat → Option (List Nat)
def runF (C : Calls) (f : Fn) (ds : List D) (S : Sh) : Res D :=
  if ds.length = f.ps then (match exB C f.body (ds.map (fun d => some (.v d)) ++ List.replicate (f.n - f.ps) none) S with
    | .ok (.nx, _) S => .ok .non S
    | .ok (.ret d, _) S => .ok d S
    | .ok (.exc x, _) S => .ex x S
    | _ => .bad)
  else .bad
def mkK (c n : Nat) (r : D) (S1 : Sh) : Res D := match r, S1[n]? with
  | .non, some (.ins c' fs) => if c' = c ∧ S1.length = n + 1 ∧ D.lowF n fs = true ∧ (S1.take n).all (Ob.low n) = true then .ok (.ins c fs) (S1.take n) else .bad
  | _, _ => .bad
def mkI (fn : Nat → List D → Sh → Res D) (ini : Nat → Option Nat) (c : Nat) (ds : List D) (S : Sh) : Res D :=
  match ini c with
  | none => .bad
  | some f => (fn f (.ref S.length :: ds) (S ++ [.ins c []])).bind (mkK c S.length)
def callAt (P : Pg) : Nat → Nat → List D → Sh → Res D
  | 0, _, _, _ => .bad
  | k + 1, f, ds, S => match P.fns[f]? with
    | none => .bad
    | some fn => runF ⟨callAt P k, mkI (callAt P k) P.ini, P.gl, P.sub, P.exn⟩ fn ds S
def Pg.calls (P : Pg) (k : Nat) : Calls := ⟨callAt P k, mkI (callAt P k) P.ini, P.gl, P.sub, P.exn⟩
end Qv
set_option Elab.async false
set_option linter.all false
set_option maxRecDepth 100000
set_option maxHeartbeats 4000000
/-! What the evaluator says of the real machine: the frame, values, operators. -/
namespace Qv
open PySem PySem.Spec PyProof.Rows L2

theorem sl64 : sizeLine = 16777216 := sizeLine_eq
abbrev WXh := Value → Option Addr → Hp → Prop
def Resp {α β : Type} (T : Tb) (R : Wd → Hp → α → β → Prop) (Wx : WXh) (W : Wd) (H : Hp) (Q : β → Hp → Prop) : Res α → Prop
  | .ok a S => ∀ W' H' b, Stp W H W' H' → SRel T W' S H' → R W' H' a b → Q b H'
  | .ex x S => ∀ W' H' c d, Stp W H W' H' → SRel T W' S H' → XRep T W' x c d → Wx c d H'
  | .bad => False
section
variable {α β γ δ : Type} {T : Tb} {R : Wd → Hp → α → β → Prop} {R2 : Wd → Hp → γ → δ → Prop} {Wx : WXh} {W W' : Wd} {H H' : Hp} {Q : δ → Hp → Prop} {S : Sh}
theorem Resp.shift {r : Res γ} (st : Stp W H W' H') (h : Resp T R2 Wx W H Q r) : Resp T R2 Wx W' H' Q r := by
  cases r with
  | ok a S => exact fun W2 H2 b s2 => h W2 H2 b (st.trans s2)
  | ex x S => exact fun W2 H2 c d s2 => h W2 H2 c d (st.trans s2)
  | bad => exact h
theorem Resp.seq {r : Res α} {k : α → Sh → Res γ} (h : Resp T R2 Wx W H Q (r.bind k)) :
    Resp T R Wx W H (fun b H1 => ∃ a S1 W1, r = .ok a S1 ∧ Stp W H W1 H1 ∧ SRel T W1 S1 H1 ∧ R W1 H1 a b ∧ Resp T R2 Wx W1 H1 Q (k a S1)) r := by
  cases r with
  | ok a S => exact fun W1 H1 b st sr rr => ⟨a, S, W1, rfl, st, sr, rr, Resp.shift st h⟩
  | ex x S => exact h
  | bad => exact h
theorem Resp.lift {α' : Type} {o : Option α'} {k : α' → Sh → Res γ} (h : Resp T R2 Wx W H Q ((lift o S).bind k)) : ∃ a, o = some a ∧ Resp T R2 Wx W H Q (k a S) := by
  cases o with
  | none => exact h.elim
  | some a => exact ⟨a, rfl, h⟩
theorem Resp.lift1 {o : Option γ} (h : Resp T R2 Wx W H Q (Qv.lift o S)) : ∃ a, o = some a ∧ Resp T R2 Wx W H Q (.ok a S) := by
  cases o with
  | none => exact h.elim
  | some a => exact ⟨a, rfl, h⟩
end
abbrev RD (T : Tb) : Wd → Hp → D → V → Prop := fun W _ d v => Rep T W d v
abbrev RDs (T : Tb) : Wd → Hp → List D → List V → Prop := fun W _ d v => Reps T W d v
/-- a list (a set) as it stands -/
def View (T : Tb) (W : Wd) (H : Hp) : D → V → Prop
  | .lst xs, v => ∃ a vs, v = .ref a ∧ H a = some (.lst vs) ∧ Reps T W xs vs
  | .set xs, v => ∃ a S, v = .ref a ∧ H a = some (SetO T.w a S xs.length) ∧ (∀ i, S i = decide (i ∈ xs)) ∧ xs.Nodup
  | d, v => Rep T W d v
/-- an argument that is only looked at -/
def RA (T : Tb) : Wd → Hp → D → V → Prop := fun W H d v => Rep T W d v ∨ (View T W H d v ∧ ∃ a, v = .ref a ∧ a ∉ W.m)
def RAs (T : Tb) (W : Wd) (H : Hp) : List D → List V → Prop := Paired (RA T W H)
/-- a new list of one's own; Hs: the heap ahead -/
def RL (T : Tb) (Hs : Hp) : Wd → Hp → List D → V → Prop := fun W H xs v => ∃ a vs, v = .ref a ∧ H a = some (.lst vs) ∧ Reps T W xs vs ∧ W.G a = none ∧ a ∉ W.m ∧ Hs a = none

theorem Rep.view {T : Tb} {W : Wd} {S : Sh} {H : Hp} {d : D} {v : V} (sr : SRel T W S H) (h : Rep T W d v) : View T W H (drf S d) v := by
  cases h with
  | non => exact .non
  | bl b => exact .bl b
  | int i => exact .int i
  | str x => exact .str x
  | tup e r => exact .tup e r
  | lst e r => exact ⟨_, _, rfl, sr.sub _ _ e, r⟩
  | dic0 e => exact .dic0 e
  | exc0 e => exact .exc0 e
  | exc1 e e2 r => exact .exc1 e e2 r
  | set e a b => exact ⟨_, _, rfl, sr.sub _ _ e, a, b⟩
  | ins c e e2 r => exact .ins c e e2 r
  | @ref l a e =>
    have hl : l < S.length := by rw [← sr.len]; exact (List.getElem?_eq_some_iff.mp e).1
    have o := sr.obs l a _ e (List.getElem?_eq_getElem hl)
    show View T W H (match S[l]? with
      | some (.lst xs) => .lst xs
      | _ => .ref l) _
    rw [List.getElem?_eq_getElem hl]
    cases q : S[l] with
    | lst xs => rw [q] at o; obtain ⟨vs, e1, r⟩ := o; exact ⟨a, vs, rfl, e1, r⟩
    | ins c fs => exact Rep.ref e
    | dead => exact Rep.ref e
  | ty n => exact .ty n
  | glo g => exact .glo g
  | scr e => exact .scr e
theorem drf_view {S : Sh} {T : Tb} {W : Wd} {H : Hp} {d : D} {v : V} (sr : SRel T W S H) (h : View T W H d v) : View T W H (drf S d) v := by
  cases d with
  | ref l =>
    have h' : Rep T W (.ref l) v := h
    exact h'.view sr
  | _ => exact h
theorem RA.view {T : Tb} {W : Wd} {S : Sh} {H : Hp} {d : D} {v : V} (sr : SRel T W S H) (h : RA T W H d v) : View T W H (drf S d) v := by
  rcases h with h | ⟨h, _⟩
  · exact h.view sr
  · exact drf_view sr h
theorem View.stp {T : Tb} {W W' : Wd} {H H' : Hp} {d : D} {a : Addr} (st : Stp W H W' H') (h : View T W H d (.ref a)) (nm : a ∉ W.m) : View T W' H' d (.ref a) := by
  cases d with
  | lst xs =>
    obtain ⟨b, vs, e, q, r⟩ := h
    cases e
    exact ⟨a, vs, rfl, st.keep _ _ q nm, r.mono st.le⟩
  | set xs =>
    obtain ⟨b, S, e, q, r1, r2⟩ := h
    cases e
    exact ⟨a, S, rfl, st.keep _ _ q nm, r1, r2⟩
  | _ => exact Rep.mono st.le (show Rep T W _ _ from h)
theorem View.there {T : Tb} {W : Wd} {S : Sh} {H : Hp} {d : D} {a : Addr} (sr : SRel T W S H) (h : View T W H d (.ref a)) (nm : a ∉ W.m) : H a ≠ none ∨ (∃ g, d = .glo g) ∨ ∃ ns, d = .scr ns := by
  cases d with
  | lst xs => obtain ⟨b, vs, e, q, r⟩ := h; cases e; exact .inl (by rw [q]; simp)
  | set xs => obtain ⟨b, vs, e, q, r⟩ := h; cases e; exact .inl (by rw [q]; simp)
  | glo g => exact .inr (.inl ⟨g, rfl⟩)
  | scr ns => exact .inr (.inr ⟨ns, rfl⟩)
  | tup xs => cases (show Rep T W _ _ from h) with | tup e r => exact .inl (by rw [sr.sub _ _ e]; simp)
  | dic kvs => cases (show Rep T W _ _ from h) with | dic0 e => exact .inl (by rw [sr.sub _ _ e]; simp)
  | ins c fs => cases (show Rep T W _ _ from h) with | ins _ e _ r => exact .inl (by rw [sr.sub _ _ e]; simp)
  | exc c fs => cases (show Rep T W _ _ from h) with
    | exc0 e => exact .inl (by rw [sr.sub _ _ e]; simp)
    | exc1 e _ _ => exact .inl (by rw [sr.sub _ _ e]; simp)
  | ref l => cases (show Rep T W _ _ from h) with | ref e => exact absurd (List.mem_of_getElem? e) nm
  | _ => cases (show Rep T W _ _ from h)
theorem RA.stp {T : Tb} {W W' : Wd} {S : Sh} {H H' : Hp} {d : D} {v : V} (sr : SRel T W S H) (st : Stp W H W' H') (h : RA T W H d v) : RA T W' H' d v := by
  rcases h with h | ⟨h, a, rfl, nm⟩
  · exact .inl (h.mono st.le)
  · rcases h.there sr nm with q | ⟨g, rfl⟩ | ⟨g, rfl⟩
    · refine .inr ⟨h.stp st nm, a, rfl, fun z => ?_⟩
      rcases st.newM a z with c | c
      · exact nm c
      · exact q c
    · exact .inl (Rep.mono st.le (show Rep T W _ _ from h))
    · exact .inl (Rep.mono st.le (show Rep T W _ _ from h))
theorem RAs.stp {T : Tb} {W W' : Wd} {S : Sh} {H H' : Hp} (sr : SRel T W S H) (st : Stp W H W' H') : ∀ {ds : List D} {vs : List V}, RAs T W H ds vs → RAs T W' H' ds vs
  | _, _, .nil => .nil
  | _, _, .cons a b => .cons (RA.stp sr st a) (RAs.stp sr st b)
theorem RAs.views {T : Tb} {W : Wd} {S : Sh} {H : Hp} (sr : SRel T W S H) : ∀ {ds : List D} {vs : List V}, RAs T W H ds vs → Paired (View T W H) (ds.map (drf S)) vs
  | _, _, .nil => .nil
  | _, _, .cons a b => .cons (RA.view sr a) (RAs.views sr b)

/-! ### sequences -/
theorem View.seq {T : Tb} {W : Wd} {S : Sh} {H : Hp} {K : PySem.W.Frag} {d : D} {v : V} {xs : List D} (sr : SRel T W S H) (h : View T W H d v) (e : seqD d = some xs) :
    ∃ a vs, v = .ref a ∧ Reps T W xs vs ∧ (SqL K H a vs ∨ SqT K H a vs) := by
  cases d with
  | tup ys => cases e; cases (show Rep T W _ _ from h) with | tup e r => exact ⟨_, _, rfl, r, .inr (SqT.of (sr.sub _ _ e))⟩
  | lst ys => cases e; obtain ⟨a, vs, e, q, r⟩ := h; exact ⟨a, vs, e, r, .inl (SqL.of q)⟩
  | _ => cases e
theorem intsOf_reps {T : Tb} {W : Wd} : ∀ {ds : List D} {vs : List V} {ns : List Int}, Reps T W ds vs → intsOf ds = some ns → vs = ns.map V.int ∧ ds = ns.map D.int
  | _, _, ns, .nil, e => by cases e; exact ⟨rfl, rfl⟩
  | .int i :: r, _, ns, .cons a b, e => by
    cases a
    simp only [intsOf, Option.map_eq_some_iff] at e
    obtain ⟨m, e1, rfl⟩ := e
    obtain ⟨h1, h2⟩ := intsOf_reps b e1
    exact ⟨by rw [h1]; rfl, by rw [h2]; rfl⟩
  | .non :: _, _, _, _, e => nomatch e
  | .bl _ :: _, _, _, _, e => nomatch e
  | .str _ :: _, _, _, _, e => nomatch e
  | .tup _ :: _, _, _, _, e => nomatch e
  | .lst _ :: _, _, _, _, e => nomatch e
  | .dic _ :: _, _, _, _, e => nomatch e
  | .set _ :: _, _, _, _, e => nomatch e
  | .ins _ _ :: _, _, _, _, e => nomatch e
  | .exc _ _ :: _, _, _, _, e => nomatch e
  | .ref _ :: _, _, _, _, e => nomatch e
  | .ty _ :: _, _, _, _, e => nomatch e
  | .glo _ :: _, _, _, _, e => nomatch e
  | .clo _ _ :: _, _, _, _, e => nomatch e
  | .scr _ :: _, _, _, _, e => nomatch e
theorem blsOf_reps {T : Tb} {W : Wd} : ∀ {ds : List D} {vs : List V} {ns : List Bool}, Reps T W ds vs → blsOf ds = some ns → vs = ns.map V.bl
  | _, _, ns, .nil, e => by cases e; rfl
  | .bl i :: r, _, ns, .cons a b, e => by
    cases a
    simp only [blsOf, Option.map_eq_some_iff] at e
    obtain ⟨m, e1, rfl⟩ := e
    rw [blsOf_reps b e1]; rfl
  | .non :: _, _, _, _, e => nomatch e
  | .int _ :: _, _, _, _, e => nomatch e
  | .str _ :: _, _, _, _, e => nomatch e
  | .tup _ :: _, _, _, _, e => nomatch e
  | .lst _ :: _, _, _, _, e => nomatch e
  | .dic _ :: _, _, _, _, e => nomatch e
  | .set _ :: _, _, _, _, e => nomatch e
  | .ins _ _ :: _, _, _, _, e => nomatch e
  | .exc _ _ :: _, _, _, _, e => nomatch e
  | .ref _ :: _, _, _, _, e => nomatch e
  | .ty _ :: _, _, _, _, e => nomatch e
  | .glo _ :: _, _, _, _, e => nomatch e
  | .clo _ _ :: _, _, _, _, e => nomatch e
  | .scr _ :: _, _, _, _, e => nomatch e
theorem reps_ints {T : Tb} {W : Wd} : ∀ ns : List Int, Reps T W (ns.map D.int) (ns.map V.int)
  | [] => .nil
  | n :: r => .cons (.int n) (reps_ints r)

/-! ### data of any depth, for == -/
mutual
def toPy : D → PyData
  | .non => .none
  | .bl b => .bool b
  | .int i => .int i
  | .str x => .str x
  | .lst xs => .list (toPys xs)
  | .tup xs => .tuple (toPys xs)
  | _ => .none
def toPys : List D → List PyData
  | [] => []
  | x :: xs => toPy x :: toPys xs
end
mutual
theorem toPy_lay : ∀ d : D, d.okq = true → (toPy d).canLay0 = true
  | .lst xs, h => by simp only [toPy, PyData.canLay0]; exact toPys_lay xs h
  | .tup xs, h => by simp only [toPy, PyData.canLay0]; exact toPys_lay xs h
  | .non, _ => rfl
  | .bl _, _ => rfl
  | .int _, _ => rfl
  | .str _, h => h
theorem toPys_lay : ∀ d : List D, D.okqs d = true → PyData.canLayAll0 (toPys d) = true
  | [], _ => rfl
  | x :: xs, h => by
    simp only [D.okqs, Bool.and_eq_true] at h
    simp only [toPys, PyData.canLayAll0, toPy_lay x h.1, toPys_lay xs h.2]; rfl
end
mutual
theorem toPy_dep : ∀ d : D, (toPy d).depth = d.dep
  | .lst xs => by simp only [toPy, PyData.depth, D.dep, toPys_dep xs]
  | .tup xs => by simp only [toPy, PyData.depth, D.dep, toPys_dep xs]
  | .non => rfl
  | .bl _ => rfl
  | .int _ => rfl
  | .str _ => rfl
  | .dic _ => rfl
  | .set _ => rfl
  | .ins _ _ => rfl
  | .exc _ _ => rfl
  | .ref _ => rfl
  | .ty _ => rfl
  | .glo _ => rfl
  | .clo _ _ => rfl
  | .scr _ => rfl
theorem toPys_dep : ∀ d : List D, PyData.depthAll (toPys d) = D.deps d
  | [] => rfl
  | x :: xs => by simp only [toPys, PyData.depthAll, D.deps, toPy_dep x, toPys_dep xs]
end
theorem toPy_shaped {d : D} (h : d.dep ≤ 64) (ok : d.okq = true) : SeqAt.shaped (toPy d) = true := by
  unfold SeqAt.shaped
  rw [toPy_lay d ok, toPy_dep]
  simp [h]
mutual
theorem toPy_eqv : ∀ x y : D, x.okq = true → y.okq = true → PyData.eqv (toPy x) (toPy y) = D.beq x y
  | .non, y, _, h => by cases y <;> first | rfl | cases h
  | .bl a, y, _, h => by cases y <;> first | rfl | cases h
  | .int i, y, _, h => by cases y <;> first | rfl | cases h
  | .str i, y, _, h => by cases y <;> first | rfl | cases h
  | .lst xs, .lst ys, a, b => by simp only [toPy, PyData.eqv, D.beq]; exact toPys_eqv xs ys a b
  | .tup xs, .tup ys, a, b => by simp only [toPy, PyData.eqv, D.beq]; exact toPys_eqv xs ys a b
  | .lst xs, .non, _, _ => rfl
  | .lst xs, .bl _, _, _ => rfl
  | .lst xs, .int _, _, _ => rfl
  | .lst xs, .str _, _, _ => rfl
  | .lst xs, .tup _, _, _ => rfl
  | .tup xs, .non, _, _ => rfl
  | .tup xs, .bl _, _, _ => rfl
  | .tup xs, .int _, _, _ => rfl
  | .tup xs, .str _, _, _ => rfl
  | .tup xs, .lst _, _, _ => rfl
theorem toPys_eqv : ∀ x y : List D, D.okqs x = true → D.okqs y = true → PyData.eqvAll (toPys x) (toPys y) = D.beqs x y
  | [], [], _, _ => rfl
  | [], _ :: _, _, _ => rfl
  | _ :: _, [], _, _ => rfl
  | x :: xs, y :: ys, a, b => by
    simp only [D.okqs, Bool.and_eq_true] at a b
    simp only [toPys, PyData.eqvAll, D.beqs, toPy_eqv x y a.1 b.1, toPys_eqv xs ys a.2 b.2]
end
mutual
theorem Rep.dp {T : Tb} {W : Wd} {S : Sh} {H : Hp} {K : PySem.W.Frag} (sr : SRel T W S H) : ∀ (d : D) {v : V}, d.okq = true → Rep T W d v → Dp K H v (toPy d)
  | .non, _, _, h => by cases h; exact .non
  | .bl b, _, _, h => by cases h; exact .bl b
  | .int i, _, _, h => by cases h; exact .int i
  | .str x, _, _, h => by cases h; exact .str x
  | .lst xs, _, a, h => by cases h with | lst e r => exact .lst (SqL.of (sr.sub _ _ e)) (Reps.dp sr xs a r)
  | .tup xs, _, a, h => by cases h with | tup e r => exact .tup (SqT.of (sr.sub _ _ e)) (Reps.dp sr xs a r)
theorem Reps.dp {T : Tb} {W : Wd} {S : Sh} {H : Hp} {K : PySem.W.Frag} (sr : SRel T W S H) : ∀ (d : List D) {v : List V}, D.okqs d = true → Reps T W d v → DpAll K H v (toPys d)
  | [], _, _, h => by cases h; exact .nil
  | x :: xs, _, a, h => by
    simp only [D.okqs, Bool.and_eq_true] at a
    cases h with | cons r1 r2 => exact .cons (Rep.dp sr x a.1 r1) (Reps.dp sr xs a.2 r2)
end
theorem View.dp {T : Tb} {W : Wd} {S : Sh} {H : Hp} {K : PySem.W.Frag} (sr : SRel T W S H) {d : D} {v : V} (a : d.okq = true) (h : View T W H d v) : Dp K H v (toPy d) := by
  cases d with
  | lst xs => obtain ⟨b, vs, rfl, e, r⟩ := h; exact .lst (SqL.of e) (Reps.dp sr xs a r)
  | set xs => cases a
  | _ => exact Rep.dp sr _ a (show Rep T W _ _ from h)
/-- flat things -/
theorem Rep.flatV {T : Tb} {W : Wd} {d : D} {v : V} (h : d.flat = true) (r : Rep T W d v) : flatV v = true := by
  cases r <;> first | rfl | cases h
theorem View.rep {T : Tb} {W : Wd} {H : Hp} {d : D} {v : V} (h : d.flat = true) (r : View T W H d v) : Rep T W d v := by
  cases d <;> first | exact r | cases h
theorem flats {T : Tb} {W : Wd} : ∀ {ds : List D} {vs : List V}, Reps T W ds vs → ds.all D.flat = true → vs.all flatV = true
  | _, _, .nil, _ => rfl
  | d :: ds, v :: vs, .cons a b, h => by
    simp only [List.all_cons, Bool.and_eq_true] at h ⊢
    exact ⟨Rep.flatV h.1 a, flats b h.2⟩
theorem beq_eqV {T : Tb} {W : Wd} {x y : D} {v u : V} (hx : x.flat = true) (hy : y.flat = true) (rx : Rep T W x v) (ry : Rep T W y u) : eqV v u = D.beq x y := by
  cases rx <;> first | cases hx | skip
  all_goals (cases ry <;> first | cases hy | skip)
  all_goals first | rfl | simp [eqV, D.beq]
theorem inV_any {T : Tb} {W : Wd} {x : D} {v : V} (hx : x.flat = true) (rx : Rep T W x v) : ∀ {ds : List D} {vs : List V}, Reps T W ds vs → ds.all D.flat = true → inV v vs = ds.any fun z => D.beq z x
  | _, _, .nil, _ => rfl
  | d :: ds, u :: vs, .cons a b, h => by
    simp only [List.all_cons, Bool.and_eq_true] at h
    have ih := inV_any hx rx b h.2
    unfold inV at ih ⊢
    simp only [List.any_cons, ih, beq_eqV h.1 hx a rx]
end Qv
set_option Elab.async false
set_option linter.all false
set_option maxRecDepth 100000
set_option maxHeartbeats 4000000
/-! Operators. -/
namespace Qv
open PySem PySem.Spec PyProof.Rows L2

def opOf : BinO → Operator
  | .add => .Add | .sub => .Sub | .mul => .Mult | .fdiv => .FloorDiv | .mod => .Mod | .pow => .Pow
def cmOf : CmpO → CmpOp
  | .eq => .Eq | .ne => .NotEq | .lt => .Lt | .le => .LtE | .gt => .Gt | .ge => .GtE | .inn => .In | .nin => .NotIn
theorem tuple_mul1 (l : Addr) (items : Array Value) (n : Nat) (dd : Option Addr) (sl : Array (Option Value)) (u : Tok) :
    Meets (Builtin.«tuple.__mul__» ⟨[.ref l, .int 1 u], []⟩) (fun _ R s => s.heap.get? l = some { cls := .type "tuple", dict := dd, data := .seq items n, slots := sl } ∧
      R (.ok (.ret (Value.ref l))) s) :=
  .of_wp fun prog w A R s h => by
    obtain ⟨hp, g, d, tk, os⟩ := s
    obtain ⟨hl, h⟩ := h
    have f1 := AutoSeq1.idx_int
    wp_walk using wpAny_loadPart' hl
    exact ⟨_, rfl, h⟩
theorem op_one {X : Cx} : OpR X (binaryOp .Mult) (fun x y H Q => ∃ l xs, x = .ref l ∧ y = .int 1 ∧ SqT X.K H l xs ∧ Q (.ref l) H) := by
  intro pins s σ H x y v u Q I rx ry h
  obtain ⟨l, xs, rfl, rfl, hT, q⟩ := h
  cases rx
  obtain ⟨t, rfl⟩ := ry
  obtain ⟨its, r, ⟨⟨cls, dd, data, sl⟩, ho, hc, n, hd⟩, hs⟩ := I.tuple hT
  simp only at hc hd
  subst hc hd
  refine wpAny_binaryOp_repeat_ref (T := "tuple") (U := "int") (by decide) ⟨_, ho, rfl⟩ (fun s' => typeIs_int s' 1 t) noFill_tuple_mul F.fills_int_mul F.slot_int_rmul repeat_tuple F.slot_int_index.lookup
    (call_meets F.slot_int_rmul (typeIs_int s 1 t) F.entry_int_rmul (F.args_int_rmul_2 _ _) (int_rmul_tuple 1 t l its.toArray n dd sl)
      ⟨ho, rfl, ⟨_, ho, rfl⟩, call_meets F.slot_tuple_mul ⟨_, ho, rfl⟩ F.entry_tuple_mul (F.args_tuple_mul_2 _ _) (tuple_mul1 l its.toArray n dd sl t) ⟨ho, ?_⟩⟩)
  exact ⟨.ref l, H, I, rfl, q⟩
section
variable {X : Cx} {T : Tb} {W : Wd} {S : Sh} {H : Hp} {pins : List (Addr × Obj)} {σ : L2.St} {s : Shared}
theorem newTup (sr : SRel T W S H) {xs : List D} {vs : List V} (r : Reps T W xs vs) {p : Addr} (hp : H p = none) :
    Stp W H (W.add p (.tup vs)) (upd H p (.tup vs)) ∧ SRel T (W.add p (.tup vs)) S (upd H p (.tup vs)) ∧ Rep T (W.add p (.tup vs)) (.tup xs) (.ref p) := by
  obtain ⟨h1, h2⟩ := sr.laid (o := .tup vs) hp
  exact ⟨h2, h1, .tup (show upd W.G p _ p = _ from upd_same) (r.mono h2.le)⟩
theorem newLst (sr : SRel T W S H) {xs : List D} {vs : List V} (r : Reps T W xs vs) {p : Addr} (hp : H p = none) :
    Stp W H (W.add p (.lst vs)) (upd H p (.lst vs)) ∧ SRel T (W.add p (.lst vs)) S (upd H p (.lst vs)) ∧ Rep T (W.add p (.lst vs)) (.lst xs) (.ref p) := by
  obtain ⟨h1, h2⟩ := sr.laid (o := .lst vs) hp
  exact ⟨h2, h1, .lst (show upd W.G p _ p = _ from upd_same) (r.mono h2.le)⟩
theorem View.int {i : Int} {v : V} (h : View T W H (.int i) v) : v = .int i := by cases (show Rep T W _ _ from h); rfl
theorem View.tup {xs : List D} {v : V} (h : View T W H (.tup xs) v) : ∃ a vs, v = .ref a ∧ W.G a = some (.tup vs) ∧ Reps T W xs vs := by
  cases (show Rep T W _ _ from h) with | tup e r => exact ⟨_, _, rfl, e, r⟩
theorem Reps.nil_iff {xs : List D} {vs : List V} (r : Reps T W xs vs) : vs = [] ↔ xs = [] := by cases r <;> simp
theorem flat_len {α : Type} (k : Nat) (xs : List α) : (List.replicate k xs).flatten.length = k * xs.length := by simp
theorem flat_one {α : Type} (xs : List α) : (List.replicate 1 xs).flatten = xs := by simp

theorem bin_ok (I : Inv X pins σ H s) (sr : SRel T W S H) {o : BinO} {x y z : D} (e : binD o x y = some z) {vx vy : V} {ux uy : Value} (rx : View T W H x vx) (ry : View T W H y vy) (hx : RelV vx ux) (hy : RelV vy uy) {Q : VK}
    (hq : ∀ W' H' v, Stp W H W' H' → SRel T W' S H' → Rep T W' z v → Q v H') : wpAny (model X.prog X.w) X.A (binaryOp (opOf o) ux uy) (EP X pins σ Q) X.xe s := by
  have hL := sl64
  have hint : ∀ j : Int, z = .int j → Q (.int j) H := fun j q => hq W H _ sr.stp sr (q ▸ .int j)
  unfold binD at e
  split at e
  · obtain rfl := rx.int; obtain rfl := ry.int; cases e
    exact op_add pins s σ H _ _ _ _ Q I hx hy ⟨_, _, rfl, rfl, hint _ rfl⟩
  · obtain rfl := rx.int; obtain rfl := ry.int; cases e
    exact op_sub pins s σ H _ _ _ _ Q I hx hy ⟨_, _, rfl, rfl, hint _ rfl⟩
  · split at e <;> cases e
    rename_i c
    obtain rfl := rx.int; obtain rfl := ry.int
    exact op_mul pins s σ H _ _ _ _ Q I hx hy ⟨_, _, rfl, rfl, c, hint _ rfl⟩
  · split at e <;> cases e
    rename_i c
    obtain rfl := rx.int; obtain rfl := ry.int
    exact op_fdiv pins s σ H _ _ _ _ Q I hx hy ⟨_, _, rfl, rfl, c, hint _ rfl⟩
  · split at e <;> cases e
    rename_i c
    obtain rfl := rx.int; obtain rfl := ry.int
    exact op_mod pins s σ H _ _ _ _ Q I hx hy ⟨_, _, rfl, rfl, c, hint _ rfl⟩
  · split at e <;> cases e
    rename_i c
    obtain rfl := rx.int; obtain rfl := ry.int
    exact op_pow pins s σ H _ _ _ _ Q I hx hy ⟨_, _, rfl, rfl, c, hint _ rfl⟩
  · split at e <;> cases e
    rename_i c
    obtain ⟨a, vs, rfl, ga, ra⟩ := rx.tup
    obtain ⟨b, us, rfl, gb, rb⟩ := ry.tup
    unfold LIM at c
    refine op_catA pins s σ H _ _ _ _ Q I hx hy ⟨a, b, vs, us, rfl, rfl, SqT.of (sr.sub _ _ ga), SqT.of (sr.sub _ _ gb), by rw [← ra.length, ← rb.length]; omega, fun h => ?_, fun h1 h2 => ?_, fun _ _ p hp => ?_⟩
    · have := ra.nil_iff.mp h
      subst this
      exact hq W H _ sr.stp sr (.tup gb rb)
    · have := rb.nil_iff.mp h2
      subst this
      rw [List.append_nil] at hq
      exact hq W H _ sr.stp sr (.tup ga ra)
    · obtain ⟨h1, h2, h3⟩ := newTup sr (ra.append rb) hp
      exact hq _ _ _ h1 h2 h3
  · split at e <;> cases e
    rename_i c
    obtain ⟨a, vs, rfl, ga, ra⟩ := rx
    obtain ⟨b, us, rfl, gb, rb⟩ := ry
    unfold LIM at c
    refine op_cat pins s σ H _ _ _ _ Q I hx hy ⟨a, b, vs, us, rfl, rfl, ga, gb, by rw [← ra.length, ← rb.length]; omega, fun p hp => ?_⟩
    obtain ⟨h1, h2, h3⟩ := newLst sr (ra.append rb) hp
    exact hq _ _ _ h1 h2 h3
  · split at e <;> cases e
    rename_i k c
    obtain ⟨c1, c2, c3, c4⟩ := c
    obtain ⟨a, vs, rfl, ga, ra⟩ := rx.tup
    obtain rfl := ry.int
    have hne : vs ≠ [] := fun q => c3 (ra.nil_iff.mp q)
    by_cases h1 : k = 1
    · subst h1
      refine op_one pins s σ H _ _ _ _ Q I hx hy ⟨a, vs, rfl, rfl, SqT.of (sr.sub _ _ ga), hq W H _ sr.stp sr ?_⟩
      rw [show (1 : Int).toNat = 1 from rfl, flat_one]
      exact .tup ga ra
    · refine op_repT pins s σ H _ _ _ _ Q I hx hy ⟨a, k, vs, rfl, rfl, SqT.of (sr.sub _ _ ga), hne, by omega, c2, by rw [← ra.length]; exact c4, fun p hp => ?_⟩
      obtain ⟨h1, h2, h3⟩ := newTup sr (ra.rep k.toNat) hp
      exact hq _ _ _ h1 h2 h3
  · split at e <;> cases e
    rename_i k c
    obtain ⟨c1, c2, c3⟩ := c
    obtain ⟨a, vs, rfl, ga, ra⟩ := rx
    obtain rfl := ry.int
    have hl := ra.length
    refine op_rep pins s σ H _ _ _ _ Q I hx hy ⟨a, k, vs, rfl, rfl, ga, by omega, by omega, ?_, fun p hp => ?_⟩
    · have a1 : vs.length * k.toNat ≤ 1000 * 1000 := Nat.mul_le_mul (by omega) (by omega)
      omega
    · obtain ⟨h1, h2, h3⟩ := newLst sr (ra.rep k.toNat) hp
      exact hq _ _ _ h1 h2 h3
  · cases e

theorem lexAt_shift (e r : Nat → Bool) (z : Bool) : ∀ (k i : Nat), Ob.lexAt e r z (i + 1) k = Ob.lexAt (fun j => e (j + 1)) (fun j => r (j + 1)) z i k
  | 0, _ => rfl
  | k + 1, i => by
    rw [Ob.lexAt_succ, Ob.lexAt_succ, lexAt_shift e r z k (i + 1)]
theorem lexI_at : ∀ (ns ms : List Int), Ob.lexAt (fun j => decide (ns.getD j 0 = ms.getD j 0)) (fun j => decide (ns.getD j 0 ≤ ms.getD j 0)) (decide (ns.length ≤ ms.length)) 0 (min ns.length ms.length) = lexI ns ms
  | [], ms => by simp [Ob.lexAt_zero, lexI]
  | x :: xs, [] => by simp [Ob.lexAt_zero, lexI]
  | x :: xs, y :: ys => by
    have ih := lexI_at xs ys
    have hm : min (x :: xs).length (y :: ys).length = min xs.length ys.length + 1 := by simp only [List.length_cons]; omega
    rw [hm, Ob.lexAt_succ, lexAt_shift]
    have hz : decide ((x :: xs).length ≤ (y :: ys).length) = decide (xs.length ≤ ys.length) := by simp
    rw [hz]
    simp only [List.getD_cons_succ, List.getD_cons_zero]
    rw [ih]
    simp only [lexI, decide_eq_true_eq]
    by_cases h : x = y
    · rw [if_pos h, if_pos h]
    · rw [if_neg h, if_neg h]
      rw [decide_eq_decide]
      omega
theorem cmp_ok (I : Inv X pins σ H s) (hw : T.w = X.w) (hc : X.A.units + 64 < cLine) (sr : SRel T W S H) {o : CmpO} {x y : D} {b : Bool} (e : cmpD o x y = some b) {vx vy : V} {ux uy : Value} (rx : View T W H x vx) (ry : View T W H y vy) (hx : RelV vx ux) (hy : RelV vy uy) {Q : VK}
    (hq : Q (.bl b) H) : wpAny (model X.prog X.w) X.A (compareOp (cmOf o) ux uy) (EP X pins σ Q) X.xe s := by
  unfold cmpD at e
  split at e
  · split at e
    rotate_left
    · split at e <;> cases e
      rename_i c
      simp only [Bool.and_eq_true] at c
      obtain ⟨c1, c2⟩ := c
      unfold D.emp at c1 c2
      split at c1
      · split at c2
        · cases (show Rep T W _ _ from rx) with
          | dic0 e1 => cases (show Rep T W _ _ from ry) with
            | dic0 e2 => exact op_eqV hc pins s σ H _ _ _ _ Q I hx hy ⟨0, by omega, .inr ⟨_, _, [], [], rfl, rfl, sr.sub _ _ e1, sr.sub _ _ e2, rfl, by simp⟩, hq⟩
        · cases c2
      · cases c1
    cases e
    rename_i c
    simp only [Bool.and_eq_true, decide_eq_true_eq] at c
    obtain ⟨⟨⟨c1, c2⟩, c3⟩, c4⟩ := c
    refine op_eqD hc pins s σ H _ _ _ _ Q I hx hy ⟨_, _, View.dp sr c1 rx, View.dp sr c2 ry, toPy_shaped c3 c1, toPy_shaped c4 c2, ?_⟩
    rw [toPy_eqv _ _ c1 c2]; exact hq
  · split at e <;> cases e
    rename_i c
    simp only [Bool.and_eq_true, decide_eq_true_eq] at c
    obtain ⟨⟨⟨c1, c2⟩, c3⟩, c4⟩ := c
    refine op_neD hc pins s σ H _ _ _ _ Q I hx hy ⟨_, _, View.dp sr c1 rx, View.dp sr c2 ry, toPy_shaped c3 c1, toPy_shaped c4 c2, ?_⟩
    rw [toPy_eqv _ _ c1 c2]; exact hq
  · obtain rfl := rx.int; obtain rfl := ry.int; cases e
    exact op_lt pins s σ H _ _ _ _ Q I hx hy ⟨_, _, rfl, rfl, hq⟩
  · obtain rfl := rx.int; obtain rfl := ry.int; cases e
    exact op_le pins s σ H _ _ _ _ Q I hx hy ⟨_, _, rfl, rfl, hq⟩
  · obtain rfl := rx.int; obtain rfl := ry.int; cases e
    exact op_gt pins s σ H _ _ _ _ Q I hx hy ⟨_, _, rfl, rfl, hq⟩
  · obtain rfl := rx.int; obtain rfl := ry.int; cases e
    exact op_ge pins s σ H _ _ _ _ Q I hx hy ⟨_, _, rfl, rfl, hq⟩
  · split at e
    · rename_i a1 a2 e1 e2
      cases e
      obtain ⟨a, vs, rfl, ga, ra⟩ := rx.tup
      obtain ⟨b, us, rfl, gb, rb⟩ := ry.tup
      obtain ⟨rfl, _⟩ := intsOf_reps ra e1
      obtain ⟨rfl, _⟩ := intsOf_reps rb e2
      refine op_leT (by omega) pins s σ H _ _ _ _ Q I hx hy ⟨a, b, a1, a2, rfl, rfl, SqT.of (sr.sub _ _ ga), SqT.of (sr.sub _ _ gb), ?_⟩
      rw [lexI_at]; exact hq
    · cases e
  · obtain rfl := rx.int
    obtain ⟨a, SS, rfl, ha, hS, _⟩ := ry
    rw [hw] at ha
    rw [← hS] at e
    cases e
    exact or_sin pins s σ H _ _ _ _ Q I hx hy ⟨_, a, SS, _, rfl, rfl, ha, hq⟩
  · obtain rfl := rx.int
    obtain ⟨a, SS, rfl, ha, hS, _⟩ := ry
    rw [hw] at ha
    rw [← hS] at e
    cases e
    exact or_snotin pins s σ H _ _ _ _ Q I hx hy ⟨_, a, SS, _, rfl, rfl, ha, hq⟩
  · split at e
    · rename_i ys ey
      split at e <;> cases e
      rename_i c
      simp only [Bool.and_eq_true] at c
      have rx' := rx.rep c.1
      obtain ⟨a, vs, rfl, rs, sq⟩ := ry.seq (K := X.K) sr ey
      refine op_in_seq pins s σ H _ _ _ _ Q I hx hy ⟨a, vs, rfl, sq, rx'.flatV c.1, flats rs c.2, ?_⟩
      rw [inV_any c.1 rx' rs c.2]; exact hq
    · cases e
  · split at e
    · rename_i ys ey
      split at e <;> cases e
      rename_i c
      simp only [Bool.and_eq_true] at c
      have rx' := rx.rep c.1
      obtain ⟨a, vs, rfl, rs, sq⟩ := ry.seq (K := X.K) sr ey
      refine op_notIn_seq pins s σ H _ _ _ _ Q I hx hy ⟨a, vs, rfl, sq, rx'.flatV c.1, flats rs c.2, ?_⟩
      rw [inV_any c.1 rx' rs c.2]; exact hq
    · cases e
  · cases e
theorem ixAt_ixN (n : Nat) (i : Int) : ixAt n i = ixN n i := rfl
theorem ix_ok (I : Inv X pins σ H s) (sr : SRel T W S H) {x y z : D} (e : ixD x y = some z) {vx vy : V} {ux uy : Value} (rx : View T W H x vx) (ry : Rep T W y vy) (hx : RelV vx ux) (hy : RelV vy uy) {value slice : Expr} {Q : VK}
    (hs : subscripted slice false ux uy = operate [ux, uy] (getItem ux uy)) (hq : ∀ v, Rep T W z v → Q v H) : wpAny (model X.prog X.w) X.A (subscriptTail value slice ux uy) (EP X pins σ Q) X.xe s := by
  have atok : ∀ {xs : List D} {vs : List V} {i : Int}, Reps T W xs vs → ((ixAt xs.length i).bind fun j => xs[j]?) = some z → ∃ v, atI vs i = some v ∧ Rep T W z v := fun {xs vs i} r q => by
    rw [Option.bind_eq_some_iff] at q
    obtain ⟨j, q1, q2⟩ := q
    obtain ⟨v, e1, e2⟩ := r.get q2
    refine ⟨v, ?_, e2⟩
    unfold atI
    rw [← r.length, ← ixAt_ixN, q1]; exact e1
  unfold ixD at e
  split at e
  · obtain ⟨a, vs, rfl, ga, ra⟩ := rx.tup
    cases ry
    obtain ⟨v, h1, h2⟩ := atok ra e
    exact ix_tup value slice pins s σ H _ _ _ _ Q I hx hy ⟨a, vs, _, v, rfl, rfl, SqT.of (sr.sub _ _ ga), h1, hq v h2⟩ hs
  · obtain ⟨a, vs, rfl, ga, ra⟩ := rx
    cases ry
    obtain ⟨v, h1, h2⟩ := atok ra e
    exact ix_list value slice pins s σ H _ _ _ _ Q I hx hy ⟨a, vs, _, v, rfl, rfl, SqL.of ga, h1, hq v h2⟩ hs
  · cases e
theorem sIxO_eq (n d : Nat) (o : Option Int) : sIxO n d o = HT.sIx n d o := by
  cases o <;> rfl
theorem cut_eq {xs : List D} {vs : List V} {lo hi : Option Int} (r : Reps T W xs vs) : Reps T W (cutD xs lo hi) (cutV vs lo hi) := by
  unfold cutD cutV
  rw [sIxO_eq, sIxO_eq, r.length]
  exact (r.drop _).take _
/-- the script, as the kit's rules have it -/
theorem scr_sq {K : PySem.W.Frag} (hk : ∀ a vs, T.kl a vs → ∀ H, SqL K H a vs) (sr : SRel T W S H) {ns : List Int} {v : V} (h : Rep T W (.scr ns) v) : ∃ a, v = .ref a ∧ SqL K H a (ns.map V.int) := by
  cases h with
  | scr e =>
    rcases e with e | ⟨o, e⟩
    · exact ⟨_, rfl, hk _ _ e H⟩
    · exact ⟨_, rfl, .inl (.inr ⟨o, sr.sub _ _ e⟩)⟩
theorem sl_ok (hk : ∀ a vs, T.kl a vs → ∀ H, SqL X.K H a vs) : SlR X (fun x lo hi H Q => ∃ W S d z, SRel T W S H ∧ View T W H d x ∧ slD d lo hi = some z ∧ ∀ W' H' v, Stp W H W' H' → SRel T W' S H' → Rep T W' z v → Q v H') := by
  intro pins s σ H x v vl vu lo hi sl Q I rx hs pl pu h
  obtain ⟨W, S, d, z, sr, vw, e, hq⟩ := h
  unfold slD at e
  split at e
  · obtain ⟨a, vs, rfl, ga, ra⟩ := vw.tup
    cases e
    refine sl_tupA pins s σ H _ v vl vu lo hi sl Q I rx hs pl pu ⟨a, vs, rfl, SqT.of (sr.sub _ _ ga), fun hw => ?_, fun _ p hp => ?_⟩
    · refine hq W H _ sr.stp sr ?_
      have e2 : cutV vs lo hi = vs := by
        unfold cutV
        rw [hw.1, hw.2]; simp
      have := cut_eq (lo := lo) (hi := hi) ra
      rw [e2] at this
      exact .tup ga this
    · obtain ⟨h1, h2, h3⟩ := newTup sr (cut_eq (lo := lo) (hi := hi) ra) hp
      exact hq _ _ _ h1 h2 h3
  · obtain ⟨a, vs, rfl, ga, ra⟩ := vw
    cases e
    refine sl_list pins s σ H _ v vl vu lo hi sl Q I rx hs pl pu ⟨a, vs, rfl, SqL.of ga, fun p hp => ?_⟩
    obtain ⟨h1, h2, h3⟩ := newLst sr (cut_eq (lo := lo) (hi := hi) ra) hp
    exact hq _ _ _ h1 h2 h3
  · obtain ⟨a, rfl, q⟩ := scr_sq (K := X.K) hk sr (show Rep T W _ _ from vw)
    cases e
    refine sl_list pins s σ H _ v vl vu lo hi sl Q I rx hs pl pu ⟨a, _, rfl, q, fun p hp => ?_⟩
    obtain ⟨h1, h2, h3⟩ := newLst sr (cut_eq (lo := lo) (hi := hi) (reps_ints (T := T) (W := W) _)) hp
    exact hq _ _ _ h1 h2 h3
  · cases e
theorem tru_V {K : PySem.W.Frag} (sr : SRel T W S H) {x : D} {b : Bool} (e : truD x = some b) {vx : V} (rx : View T W H x vx) : TruV K vx H b := by
  have emp : ∀ {xs : List D} {vs : List V}, Reps T W xs vs → (!xs.isEmpty) = !vs.isEmpty := fun r => by cases r <;> rfl
  cases x with
  | non => cases e; cases (show Rep T W _ _ from rx); rfl
  | bl b => cases e; cases (show Rep T W _ _ from rx); rfl
  | int i => cases e; cases (show Rep T W _ _ from rx); rfl
  | tup xs => cases e; obtain ⟨a, vs, rfl, ga, ra⟩ := rx.tup; exact .inr (.inl ⟨vs, SqT.of (sr.sub _ _ ga), emp ra⟩)
  | lst xs => cases e; obtain ⟨a, vs, rfl, ga, ra⟩ := rx; exact .inl ⟨vs, SqL.of ga, emp ra⟩
  | _ => cases e
end
end Qv
set_option Elab.async false
set_option linter.all false
set_option maxRecDepth 100000
set_option maxHeartbeats 4000000
/-! Built-ins by value. -/
namespace Qv
open PySem PySem.Spec PyProof.Rows L2

def biV : BI → Value
  | .len => .builtin "len" | .abs => .builtin "abs" | .int => .type "int" | .sum => .builtin "sum" | .all => .builtin "all" | .any => .builtin "any"
  | .max1 => .builtin "max" | .min1 => .builtin "min" | .max2 => .builtin "max" | .min2 => .builtin "min" | .isi => .builtin "isinstance" | .tuple => .type "tuple"
def rBI (T : Tb) (b : BI) : List V → Hp → VK → Prop := fun vs H Q => ∃ W S ds z, SRel T W S H ∧ Paired (View T W H) ds vs ∧ biD b ds = some z ∧ ∀ W' H' v, Stp W H W' H' → SRel T W' S H' → Rep T W' z v → Q v H'
section
variable {X : Cx} {T : Tb} {W : Wd} {S : Sh} {H : Hp} {pins : List (Addr × Obj)} {σ : L2.St} {s : Shared}
theorem kit_builtin {K : PySem.W.Frag} {k n : String} {b : Bool} (hk : k = "NoneType" ∨ k = "bool" ∨ k = "int" ∨ k = "str" ∨ k = "tuple" ∨ k = "list" ∨ k = "dict") (e : isiK k n = some b) : PySem.W.kitOne K (.type k) (.type n) = some b := by
  unfold isiK at e
  repeat' (split at e)
  all_goals (first | (rename_i hn; subst hn) | skip)
  all_goals (first | cases e | skip)
  all_goals rcases hk with rfl | rfl | rfl | rfl | rfl | rfl | rfl
  all_goals first | rfl | kernel_rfl
theorem View.ty {d : D} {v : V} {k : String} (sr : SRel T W S H) (h : View T W H d v) (e : kindD d = some k) {K : PySem.W.Frag} :
    TyOf K H v (.type k) ∧ (k = "NoneType" ∨ k = "bool" ∨ k = "int" ∨ k = "str" ∨ k = "tuple" ∨ k = "list" ∨ k = "dict") := by
  cases d with
  | non => cases e; cases (show Rep T W _ _ from h); exact ⟨.non, by simp⟩
  | bl b => cases e; cases (show Rep T W _ _ from h); exact ⟨.bl b, by simp⟩
  | int i => cases e; cases (show Rep T W _ _ from h); exact ⟨.int i, by simp⟩
  | str x => cases e; cases (show Rep T W _ _ from h); exact ⟨.str x, by simp⟩
  | tup xs => cases e; obtain ⟨a, vs, rfl, ga, ra⟩ := h.tup; exact ⟨.tup (sr.sub _ _ ga), by simp⟩
  | lst xs => cases e; obtain ⟨a, vs, rfl, ga, ra⟩ := h; exact ⟨.lst ga, by simp⟩
  | dic kvs => cases e; cases (show Rep T W _ _ from h) with | dic0 g => exact ⟨.dK (sr.sub _ _ g), by simp⟩
  | _ => cases e
theorem Paired.one {α β : Type} {F : α → β → Prop} {a : α} {l : List β} (h : Paired F [a] l) : ∃ b, l = [b] ∧ F a b := by
  cases h with | cons r t => cases t; exact ⟨_, rfl, r⟩
theorem Paired.two {α β : Type} {F : α → β → Prop} {a c : α} {l : List β} (h : Paired F [a, c] l) : ∃ b d, l = [b, d] ∧ F a b ∧ F c d := by
  cases h with | cons r t => cases t with | cons r2 t2 => cases t2; exact ⟨_, _, rfl, r, r2⟩
theorem isiT_ok {K : PySem.W.Frag} {k : String} (hk : k = "NoneType" ∨ k = "bool" ∨ k = "int" ∨ k = "str" ∨ k = "tuple" ∨ k = "list" ∨ k = "dict") : ∀ {ts : List D} {cs : List V} {b : Bool}, Reps T W ts cs → isiT k ts = some b →
    ∃ us, Paired ClsV cs us ∧ PySem.W.kitAny K (.type k) us = some b
  | [], _, b, .nil, e => by cases e; exact ⟨[], .nil, rfl⟩
  | .ty n :: r, _, b, .cons ra rb, e => by
    cases ra
    unfold isiT at e
    rw [Option.bind_eq_some_iff] at e
    obtain ⟨b1, e1, e⟩ := e
    rw [Option.map_eq_some_iff] at e
    obtain ⟨b2, e2, rfl⟩ := e
    obtain ⟨us, h1, h2⟩ := isiT_ok (K := K) hk rb e2
    refine ⟨.type n :: us, .cons (.ty n) h1, ?_⟩
    unfold PySem.W.kitAny
    rw [kit_builtin hk e1]
    cases b1 with
    | true => rfl
    | false => exact h2
  | .non :: _, _, _, _, e => nomatch e
  | .bl _ :: _, _, _, _, e => nomatch e
  | .int _ :: _, _, _, _, e => nomatch e
  | .str _ :: _, _, _, _, e => nomatch e
  | .tup _ :: _, _, _, _, e => nomatch e
  | .lst _ :: _, _, _, _, e => nomatch e
  | .dic _ :: _, _, _, _, e => nomatch e
  | .set _ :: _, _, _, _, e => nomatch e
  | .ins _ _ :: _, _, _, _, e => nomatch e
  | .exc _ _ :: _, _, _, _, e => nomatch e
  | .ref _ :: _, _, _, _, e => nomatch e
  | .glo _ :: _, _, _, _, e => nomatch e
  | .clo _ _ :: _, _, _, _, e => nomatch e
  | .scr _ :: _, _, _, _, e => nomatch e
/-- built-ins that want that nothing is handled -/
def biCalm : BI → Bool
  | .len => false
  | .int => false
  | .isi => false
  | _ => true
theorem bi_ok (hk : ∀ a vs, T.kl a vs → ∀ H, SqL X.K H a vs) (b : BI) (hc : biCalm b = true → X.calm = true) : CallR X (biV b) (rBI T b) := by
  have hL := sl64
  intro pins s σ H vs us Q I r h
  obtain ⟨W, S, ds, z, sr, pv, e, hq⟩ := h
  have hint : ∀ j : Int, z = .int j → Q (.int j) H := fun j q => hq W H _ sr.stp sr (q ▸ .int j)
  have hbl : ∀ j : Bool, z = .bl j → Q (.bl j) H := fun j q => hq W H _ sr.stp sr (q ▸ .bl j)
  unfold biD at e
  split at e
  · obtain ⟨v, rfl, hv⟩ := Paired.one pv
    obtain ⟨a, xs, rfl, ga, ra⟩ := hv.tup
    cases e
    exact call_len_seq pins s σ H _ us Q I r ⟨a, xs, rfl, .inr (SqT.of (sr.sub _ _ ga)), by rw [← ra.length]; exact hint _ rfl⟩
  · obtain ⟨v, rfl, hv⟩ := Paired.one pv
    obtain ⟨a, xs, rfl, ga, ra⟩ := hv
    cases e
    exact call_len_seq pins s σ H _ us Q I r ⟨a, xs, rfl, .inl (SqL.of ga), by rw [← ra.length]; exact hint _ rfl⟩
  · obtain ⟨v, rfl, hv⟩ := Paired.one pv
    obtain ⟨a, rfl, q⟩ := scr_sq (K := X.K) hk sr (show Rep T W _ _ from hv)
    cases e
    exact call_len_seq pins s σ H _ us Q I r ⟨a, _, rfl, .inl q, by rw [List.length_map]; exact hint _ rfl⟩
  · obtain ⟨v, rfl, hv⟩ := Paired.one pv
    split at e <;> cases e
    rename_i c
    unfold LIM at c
    cases (show Rep T W _ _ from hv)
    exact call_len_str pins s σ H _ us Q I r ⟨_, rfl, by omega, hint _ rfl⟩
  · obtain ⟨v, rfl, hv⟩ := Paired.one pv
    obtain rfl := hv.int
    cases e
    exact call_abs pins s σ H _ us Q I r ⟨_, rfl, hint _ rfl⟩
  · obtain ⟨v, rfl, hv⟩ := Paired.one pv
    obtain rfl := hv.int
    cases e
    exact call_int1 pins s σ H _ us Q I r (.inl ⟨_, rfl, hint _ rfl⟩)
  · obtain ⟨v, rfl, hv⟩ := Paired.one pv
    cases (show Rep T W _ _ from hv)
    cases e
    exact call_int1 pins s σ H _ us Q I r (.inr ⟨_, rfl, hint _ rfl⟩)
  · obtain ⟨v, rfl, hv⟩ := Paired.one pv
    obtain ⟨a, xs, rfl, ga, ra⟩ := hv
    rw [Option.map_eq_some_iff] at e
    obtain ⟨ns, e1, rfl⟩ := e
    obtain ⟨rfl, _⟩ := intsOf_reps ra e1
    exact cr_sum (hc rfl) pins s σ H _ us Q I r ⟨a, ns, rfl, SqL.of ga, hint _ rfl⟩
  · obtain ⟨v, rfl, hv⟩ := Paired.one pv
    obtain ⟨a, xs, rfl, ga, ra⟩ := hv
    rw [Option.map_eq_some_iff] at e
    obtain ⟨ns, e1, rfl⟩ := e
    obtain rfl := blsOf_reps ra e1
    exact cr_all (hc rfl) pins s σ H _ us Q I r ⟨a, ns, rfl, SqL.of ga, hbl _ rfl⟩
  · obtain ⟨v, rfl, hv⟩ := Paired.one pv
    obtain ⟨a, xs, rfl, ga, ra⟩ := hv
    rw [Option.map_eq_some_iff] at e
    obtain ⟨ns, e1, rfl⟩ := e
    obtain rfl := blsOf_reps ra e1
    exact cr_any (hc rfl) pins s σ H _ us Q I r ⟨a, ns, rfl, SqL.of ga, hbl _ rfl⟩
  · obtain ⟨v, u, rfl, hv, hu⟩ := Paired.two pv
    obtain rfl := hv.int; obtain rfl := hu.int
    cases e
    exact call_max2 (hc rfl) pins s σ H _ us Q I r ⟨_, _, rfl, hint _ rfl⟩
  · obtain ⟨v, u, rfl, hv, hu⟩ := Paired.two pv
    obtain rfl := hv.int; obtain rfl := hu.int
    cases e
    exact call_min2 (hc rfl) pins s σ H _ us Q I r ⟨_, _, rfl, hint _ rfl⟩
  · obtain ⟨v, u, rfl, hv, hu⟩ := Paired.two pv
    cases (show Rep T W _ _ from hu)
    split at e
    · rename_i k ek
      rw [Option.map_eq_some_iff] at e
      obtain ⟨b, e1, rfl⟩ := e
      obtain ⟨ty, hk⟩ := hv.ty sr ek (K := X.K)
      cases r with
      | cons r1 r2 =>
        cases r2 with
        | cons r3 r4 =>
          cases r4
          cases r3
          exact isinst_ok I r1 ty (kit_builtin hk e1) fun tk => ⟨.bl b, H, I.tok _, rfl, hbl _ rfl⟩
    · cases e
  · obtain ⟨v, u, rfl, hv, hu⟩ := Paired.two pv
    obtain ⟨tp, cs, rfl, gt, rt⟩ := hu.tup
    split at e
    · rename_i k ek
      rw [Option.map_eq_some_iff] at e
      obtain ⟨b, e1, rfl⟩ := e
      obtain ⟨ty, hk⟩ := hv.ty sr ek (K := X.K)
      obtain ⟨ws, h1, h2⟩ := isiT_ok (K := X.K) hk rt e1
      exact call_isiT pins s σ H _ us Q I r ⟨v, tp, cs, _, ws, b, rfl, sr.sub _ _ gt, h1, .base ty, h2, hbl _ rfl⟩
    · cases e
  · obtain ⟨v, rfl, hv⟩ := Paired.one pv
    obtain ⟨a, xs, rfl, ga, ra⟩ := hv
    cases e
    refine call_tuple_of pins s σ H _ us Q I r ⟨a, xs, rfl, .inl ⟨SqL.of ga, fun p hp => ?_⟩⟩
    obtain ⟨h1, h2, h3⟩ := newTup sr ra hp
    exact hq _ _ _ h1 h2 h3
  · obtain ⟨v, rfl, hv⟩ := Paired.one pv
    obtain ⟨a, xs, rfl, ga, ra⟩ := hv.tup
    cases e
    exact call_tuple_of pins s σ H _ us Q I r ⟨a, xs, rfl, .inr ⟨SqT.of (sr.sub _ _ ga), hq W H _ sr.stp sr (.tup ga ra)⟩⟩
  · cases e
end
end Qv
set_option Elab.async false
set_option linter.all false
set_option maxRecDepth 100000
set_option maxHeartbeats 4000000
/-! The checker: this tree of the model is this tree of the small language. -/
namespace Qv
open PySem PySem.Spec PyProof.Rows L2

/-- what is no call of super() -/
def abB : PySem.Expr → Bool
  | .Name _ _ => true
  | .Subscript _ _ _ => true
  | .Attribute _ _ _ => true
  | _ => false
theorem abB_ok {o : PySem.Expr} {n : Str} {env : Env} {whole : Sem Value} (h : abB o = true) : attributeBase o n env whole = whole := by
  cases o <;> first | rfl | cases h
/-- the law's tables, for the checker -/
structure Ck where
  nm : Nat → Str
  fn : Nat → Option Str
  cls : Nat → Bool
  fld : Nat → Bool
  /-- classes of exceptions without fields -/
  exc : Nat → Bool
  /-- .. with one field -/
  exf : Nat → Bool
  /-- names of classes in except clauses -/
  hnd : Nat → Bool
  /-- within an except suite -/
  su : Bool
/-- within a suite -/
def Ck.hot (Q : Ck) : Ck := ⟨Q.nm, fun _ => none, fun _ => false, Q.fld, fun _ => false, fun _ => false, fun _ => false, true⟩
def tgFlat : Tg → Bool
  | .n _ => true
  | _ => false

def visB (sc : Scope) (x : Str) : Bool := match sc.names.lookup x with
  | some .local => true
  | some .cell => true
  | some .free => true
  | _ => false
def glB (sc : Scope) (x : Str) : Bool := match sc.names.lookup x with
  | some .globalImplicit => true
  | _ => false
/-- a name that may be stored: a local one, or a cell that the block itself made -/
def locB (sc : Scope) (fnb : Str → Bool) (x : Str) : Bool := match sc.names.lookup x with
  | some .local => true
  | some .cell => fnb x
  | _ => false
def okName (x : Str) : Bool := !(x == ("__debug__" : Str)) && !(x == ("__classdict__" : Str))
def constB : D → Const → Bool
  | .non, .none => true
  | .bl a, .bool b => a == b
  | .int i, .int j => decide (i = j)
  | .str x, .str y => decide (x = y)
  | _, _ => false
/-- an expression of the forms that are served -/
def plainX : PySem.Expr → Bool
  | .BoolOp .. | .BinOp .. | .UnaryOp .. | .IfExp .. | .ListComp .. | .Compare .. | .Call .. | .Constant .. | .Attribute .. | .Subscript .. | .Name .. | .List .. | .Tuple .. | .Dict .. => true
  | _ => false
def biN : BI → Str
  | .len => "len" | .abs => "abs" | .int => "int" | .sum => "sum" | .all => "all" | .any => "any"
  | .max1 => "max" | .min1 => "min" | .max2 => "max" | .min2 => "min" | .isi => "isinstance" | .tuple => "tuple"
def bnames : List Str := ["len", "abs", "int", "sum", "all", "any", "max", "min", "isinstance", "tuple", "list", "sorted", "range", "enumerate", "set", "zip", "str", "repr", "bool", "dict", "super"]
def tgSlots : Tg → List Nat
  | .n i => [i]
  | .t a b => tgSlots a ++ tgSlots b
  | .t3 a b c => tgSlots a ++ tgSlots b ++ tgSlots c
def okTg (N : List Str) (sc : Scope) (fnb : Str → Bool) : Tg → PySem.Expr → Bool
  | .n i, .Name x _ => decide (N[i]? = some x) && locB sc fnb x && okName x
  | .t a b, .Tuple [x, y] _ _ => okTg N sc fnb a x && okTg N sc fnb b y
  | .t3 a b c, .Tuple [x, y, z] _ _ => okTg N sc fnb a x && okTg N sc fnb b y && okTg N sc fnb c z
  | _, _ => false
def nst : PySem.Expr → Bool
  | .Starred .. => false
  | _ => true
def nca : PySem.Expr → Bool
  | .Call .. => false
  | _ => true
theorem nca_base {o : PySem.Expr} {attr : Str} {env : Env} {whole : Sem Value} (h : nca o = true) : attributeBase o attr env whole = whole := by
  cases o <;> first | rfl | cases h
def isTup : PySem.Expr → Bool
  | .Tuple .. => true
  | _ => false
def ownOf (N : List Str) (vs : List Nat) : List (Str × Nat) := vs.map fun i => ((N[i]?).getD Str.empty, i)
/-- the scope that a comprehension's block runs in -/
abbrev inner (scope sc : Scope) : Scope := relS scope sc
abbrev innerF (scope : Scope) : Str → Bool := fun x => scope.names.lookup x == some .cell

section
variable (Q : Ck) (N : List Str)
mutual
def okE (sc : Scope) : IE → PySem.Expr → Bool
  | .c d, e => (match e with
    | .Constant k _ _ => constB d k
    | _ => false)
  | .g n, e => (match e with
    | .Name x _ => decide (x = Q.nm n) && glB sc x && okName x
    | _ => false)
  | .v i, e => (match e with
    | .Name x _ => decide (N[i]? = some x) && visB sc x && okName x
    | _ => false)
  | .tup es, e => (match e with
    | .Tuple xs _ _ => okEs sc es xs
    | _ => false)
  | .l le, e => okL sc le e
  | .sh le, e => okL sc le e
  | .bin o a b, e => (match e with
    | .BinOp l op r _ => decide (op = opOf o) && okE sc a l && okE sc b r
    | _ => false)
  | .neg a, e => (match e with
    | .UnaryOp op x _ => decide (op = .USub) && okE sc a x
    | _ => false)
  | .cmp o a b, e => (match e with
    | .Compare l [op] [r] _ => decide (op = cmOf o) && okE sc a l && okE sc b r
    | _ => false)
  | .cmpc o1 o2 a b c, e => (match e with
    | .Compare l [p1, p2] [r, s] _ => decide (p1 = cmOf o1) && decide (p2 = cmOf o2) && okE sc a l && okE sc b r && okE sc c s
    | _ => false)
  | .isn a, e => (match e with
    | .Compare l [.Is] [.Constant .none _ _] _ => okE sc a l
    | _ => false)
  | .nnn a, e => (match e with
    | .Compare l [.IsNot] [.Constant .none _ _] _ => okE sc a l
    | _ => false)
  | .not a, e => (match e with
    | .UnaryOp op x _ => decide (op = .Not) && okE sc a x
    | _ => false)
  | .and a b, e => (match e with
    | .BoolOp .And [x, y] _ => okE sc a x && okE sc b y
    | .BoolOp .And (x :: y :: z :: r) p => okE sc a x && okE sc b (.BoolOp .And (y :: z :: r) p)
    | _ => false)
  | .or a b, e => (match e with
    | .BoolOp .Or [x, y] _ => okE sc a x && okE sc b y
    | .BoolOp .Or (x :: y :: z :: r) p => okE sc a x && okE sc b (.BoolOp .Or (y :: z :: r) p)
    | _ => false)
  | .ife t a b, e => (match e with
    | .IfExp x y z _ => okE sc t x && okE sc a y && okE sc b z
    | _ => false)
  | .call f es, e => (match e with
    | .Call (.Name x _) xs [] _ => !Q.su && decide (Q.fn f = some x) && glB sc x && okName x && okEs sc es xs
    | _ => false)
  | .mk c es, e => (match e with
    | .Call (.Name x _) xs [] _ => !Q.su && Q.cls c && decide (x = Q.nm c) && glB sc x && okName x && okEs sc es xs
    | _ => false)
  | .bi b es, e => (match e with
    | .Call (.Name x _) (y :: xs) [] _ => (!Q.su || !biCalm b) && decide (x = biN b) && glB sc x && okEs sc es (y :: xs)
    | _ => false)
  | .ix a b, e => (match e with
    | .Subscript x y _ => okE sc a x && okE sc b y
    | _ => false)
  | .sl a lo hi, e => (match e with
    | .Subscript x (.Slice l h none _) _ => okE sc a x && okO sc lo l && okO sc hi h
    | _ => false)
  | .at a f, e => (match e with
    | .Attribute x n _ => nca x && decide (n = Q.nm f) && Q.fld f && okE sc a x
    | _ => false)
  | .st a, e => (match e with
    | .Call (.Name x _) [y] [] _ => !Q.su && decide (x = Str.ofString "set") && glB sc x && okE sc a y
    | _ => false)
  | .is b n a, e => (match e with
    | .Compare l [op] [.Constant (.bool c) _ _] _ => decide (op = if n then CmpOp.IsNot else CmpOp.Is) && (b == c) && okE sc a l
    | _ => false)
  | .rev a, e => (match e with
    | .Subscript x (.Slice none none (some (.UnaryOp .USub (.Constant (.int 1) _ _) _)) _) _ => okE sc a x
    | _ => false)
  | .dic0, e => (match e with
    | .Dict [] [] _ => true
    | _ => false)
  | .xis i n, e => (match e with
    | .Call (.Name x _) [.Name y _, .Name z _] [] _ => Q.su && decide (x = Str.ofString "isinstance") && glB sc x && decide (N[i]? = some y) && visB sc y && okName y && decide (z = Q.nm n) && glB sc z && okName z
    | _ => false)
  | .xat i f, e => (match e with
    | .Attribute (.Name y _) n _ => Q.su && decide (N[i]? = some y) && visB sc y && okName y && decide (n = Q.nm f)
    | _ => false)
  | .exv c es, e => (match e with
    | .Call (.Name x _) [] [] _ => !Q.su && Q.exc c && decide (x = Q.nm c) && glB sc x && okName x && (match es with
      | .nil => true
      | _ => false)
    | .Call (.Name x _) [v] [] _ => !Q.su && Q.exf c && decide (x = Q.nm c) && glB sc x && okName x && nst v && (match es with
      | .cons a .nil => okE sc a v
      | _ => false)
    | _ => false)
  | .exf c f a, e => (match e with
    | .Attribute (.Call (.Name x _) [v] [] _) n _ => !Q.su && Q.exf c && decide (x = Q.nm c) && glB sc x && okName x && nst v && decide (n = Q.nm f) && okE sc a v
    | _ => false)
  | .xiv a n, e => (match e with
    | .Call (.Name x _) [v, .Name z _] [] _ => decide (x = Str.ofString "isinstance") && glB sc x && nst v && decide (z = Q.nm n) && glB sc z && okName z && Q.hnd n && okE sc a v
    | _ => false)
  | .cnt a b, e => (match e with
    | .Call (.Attribute o m p1) [.Constant (.bool c) _ _] [] p2 => decide (m = Str.ofString "count") && abB o && (p1.endLine == p2.line) && (b == c) && okE sc a o
    | _ => false)
def okO (sc : Scope) : IO → Option PySem.Expr → Bool
  | .no, e => (match e with
    | none => true
    | _ => false)
  | .ye a, e => (match e with
    | some x => okE sc a x
    | _ => false)
def okEs (sc : Scope) : IEs → List PySem.Expr → Bool
  | .nil, e => (match e with
    | [] => true
    | _ => false)
  | .cons a es, e => (match e with
    | x :: xs => okE sc a x && okEs sc es xs
    | _ => false)
def okL (sc : Scope) : LE → PySem.Expr → Bool
  | .disp es, e => (match e with
    | .List xs _ => okEs sc es xs
    | _ => false)
  | .comp elt tg it cond vs, e => (match e with
    | .ListComp x [⟨t, i, ifs, a⟩] scope _ => !Q.su && decide (a = 0) && blkC N sc scope (ownOf N vs) && decide ((ownOf N vs).map (·.2) = vs) && (tgSlots tg).all (fun i => vs.contains i)
        && okTg N (inner scope sc) (innerF scope) tg t && okI sc it t i && okC (inner scope sc) cond ifs && okE (inner scope sc) elt x
    | _ => false)
  | .list a, e => (match e with
    | .Call (.Name x _) [y] [] _ => decide (x = Str.ofString "list") && glB sc x && okE sc a y
    | _ => false)
  | .sorted a, e => (match e with
    | .Call (.Name x _) [y] [] _ => !Q.su && decide (x = Str.ofString "sorted") && glB sc x && okE sc a y
    | _ => false)
  | .rep a n, e => (match e with
    | .BinOp l op r _ => decide (op = .Mult) && okE sc a l && okE sc n r
    | _ => false)
def okC (sc : Scope) : IO → List PySem.Expr → Bool
  | .no, e => (match e with
    | [] => true
    | _ => false)
  | .ye a, e => (match e with
    | [x] => okE sc a x
    | _ => false)
def okI (sc : Scope) : II → PySem.Expr → PySem.Expr → Bool
  | .seq a, _, e => okE sc a e
  | .rng1 a, _, e => (match e with
    | .Call (.Name x _) [y] [] _ => decide (x = Str.ofString "range") && glB sc x && okE sc a y
    | _ => false)
  | .rng2 a b, _, e => (match e with
    | .Call (.Name x _) [y, z] [] _ => decide (x = Str.ofString "range") && glB sc x && okE sc a y && okE sc b z
    | _ => false)
  | .enum a, t, e => (match e with
    | .Call (.Name x _) [y] [] _ => isTup t && decide (x = Str.ofString "enumerate") && glB sc x && okE sc a y
    | _ => false)
  | .zip a b, t, e => (match e with
    | .Call (.Name x _) [y, z] [] _ => isTup t && decide (x = Str.ofString "zip") && glB sc x && okE sc a y && okE sc b z
    | _ => false)
end
end

/-! ### forms -/
theorem plain_ns {e : PySem.Expr} (h : plainX e = true) : nst e = true := by cases e <;> first | rfl | cases h
theorem star_of {e : PySem.Expr} {es : List PySem.Expr} {env : Env} (h : nst e = true) : starEach (e :: es) env = (false, eval e env) :: starEach es env := by
  cases e <;> first | rfl | cases h
section
variable {Q : Ck} {N : List Str} {sc : Scope}
mutual
theorem okE_plain : ∀ (i : IE) (e : PySem.Expr), okE Q N sc i e = true → plainX e = true
  | .c d, e, h => by unfold okE at h; split at h <;> first | rfl | cases h
  | .g n, e, h => by unfold okE at h; split at h <;> first | rfl | cases h
  | .v i, e, h => by unfold okE at h; split at h <;> first | rfl | cases h
  | .tup es, e, h => by unfold okE at h; split at h <;> first | rfl | cases h
  | .l le, e, h => by unfold okE at h; exact okL_plain le e h
  | .sh le, e, h => by unfold okE at h; exact okL_plain le e h
  | .bin o a b, e, h => by unfold okE at h; split at h <;> first | rfl | cases h
  | .neg a, e, h => by unfold okE at h; split at h <;> first | rfl | cases h
  | .cmp o a b, e, h => by unfold okE at h; split at h <;> first | rfl | cases h
  | .cmpc o1 o2 a b c, e, h => by unfold okE at h; split at h <;> first | rfl | cases h
  | .isn a, e, h => by unfold okE at h; split at h <;> first | rfl | cases h
  | .nnn a, e, h => by unfold okE at h; split at h <;> first | rfl | cases h
  | .not a, e, h => by unfold okE at h; split at h <;> first | rfl | cases h
  | .and a b, e, h => by unfold okE at h; split at h <;> first | rfl | cases h
  | .or a b, e, h => by unfold okE at h; split at h <;> first | rfl | cases h
  | .ife t a b, e, h => by unfold okE at h; split at h <;> first | rfl | cases h
  | .call f es, e, h => by unfold okE at h; split at h <;> first | rfl | cases h
  | .mk c es, e, h => by unfold okE at h; split at h <;> first | rfl | cases h
  | .bi b es, e, h => by unfold okE at h; split at h <;> first | rfl | cases h
  | .ix a b, e, h => by unfold okE at h; split at h <;> first | rfl | cases h
  | .sl a lo hi, e, h => by unfold okE at h; split at h <;> first | rfl | cases h
  | .at a f, e, h => by unfold okE at h; split at h <;> first | rfl | cases h
  | .st a, e, h => by unfold okE at h; split at h <;> first | rfl | cases h
  | .is b n a, e, h => by unfold okE at h; split at h <;> first | rfl | cases h
  | .rev a, e, h => by unfold okE at h; split at h <;> first | rfl | cases h
  | .dic0, e, h => by unfold okE at h; split at h <;> first | rfl | cases h
  | .xis i n, e, h => by unfold okE at h; split at h <;> first | rfl | cases h
  | .xat i n, e, h => by unfold okE at h; split at h <;> first | rfl | cases h
  | .exv i n, e, h => by unfold okE at h; split at h <;> first | rfl | cases h
  | .exf i n a, e, h => by unfold okE at h; split at h <;> first | rfl | cases h
  | .xiv a n, e, h => by unfold okE at h; split at h <;> first | rfl | cases h
  | .cnt a b, e, h => by unfold okE at h; split at h <;> first | rfl | cases h
theorem okL_plain : ∀ (i : LE) (e : PySem.Expr), okL Q N sc i e = true → plainX e = true
  | .disp es, e, h => by unfold okL at h; split at h <;> first | rfl | cases h
  | .comp _ _ _ _ _, e, h => by unfold okL at h; split at h <;> first | rfl | cases h
  | .list a, e, h => by unfold okL at h; split at h <;> first | rfl | cases h
  | .sorted a, e, h => by unfold okL at h; split at h <;> first | rfl | cases h
  | .rep a n, e, h => by unfold okL at h; split at h <;> first | rfl | cases h
end
end
theorem plain_folded {e : PySem.Expr} {env : Env} (h : plainX e = true) (x : Value) : foldedSetIterable e env x = pure x := by
  cases e <;> first | rfl | cases h
theorem plain_mark {e : PySem.Expr} (op : CmpOp) (h : plainX e = true) : behindInMarks op e = false := by
  cases e <;> first | rfl | cases h
theorem plain_ix {e : PySem.Expr} (h : plainX e = true) : PlainIx e := by
  cases e <;> first | exact fun _ _ => rfl | cases h
/-- no and, or, not, .. if .., comparison at its top -/
def valX : PySem.Expr → Bool
  | .BoolOp .. | .IfExp .. | .Compare .. => false
  | .UnaryOp .Not _ _ => false
  | _ => true
theorem val_true {e : PySem.Expr} {env : Env} (h : valX e = true) : ∀ whole, isTrue e env whole = (do let v ← whole; standAt e.pos; holding [v] (truthy v)) := by
  intro whole
  cases e with
  | UnaryOp op a p => cases op <;> first | rfl | cases h
  | BoolOp _ _ _ => cases h
  | IfExp _ _ _ _ => cases h
  | Compare _ _ _ _ => cases h
  | _ => rfl
theorem star_plain : ∀ {es : List PySem.Expr} {env : Env} {pos : Pos}, (∀ e ∈ es, nst e = true) → (backTo pos (starEach es env)).any (·.1) = false
  | [], _, _, _ => rfl
  | e :: es, env, pos, h => by
    have ih := star_plain (es := es) (env := env) (pos := pos) fun x hx => h x (List.mem_cons_of_mem _ hx)
    rw [star_of (h e List.mem_cons_self)]
    unfold backTo at ih ⊢
    simpa using ih
theorem okEs_ns {Q : Ck} {N : List Str} {sc : Scope} : ∀ {is : IEs} {es : List PySem.Expr}, okEs Q N sc is es = true → ∀ e ∈ es, nst e = true
  | .nil, [], _, _, h => nomatch h
  | .nil, _ :: _, h, _, _ => by unfold okEs at h; cases h
  | .cons a is, [], h, _, _ => by unfold okEs at h; cases h
  | .cons a is, x :: xs, h, e, he => by
    unfold okEs at h
    simp only [Bool.and_eq_true] at h
    rcases List.mem_cons.mp he with rfl | he
    · exact plain_ns (okE_plain a _ h.1)
    · exact okEs_ns h.2 e he
end Qv
set_option Elab.async false
set_option linter.all false
set_option maxRecDepth 100000
set_option maxHeartbeats 4000000
/-! Rules over the kit's machine that the hand layer lacks. -/
namespace Qx
open PySem PySem.Spec PyProof.Rows L2
section
variable {prog : Program} {w : World} {A : Around} {E : Value → Shared → Prop} {s : Shared}
/-! ### t[::-1] -/
theorem back_places (n : Nat) : Builtin.Slice.sliceAdjust none none (-1) (n : Int) = ((n : Int) - 1, -1) ∧ Builtin.Slice.slicePlaces ((n : Int) - 1) (-1) (-1) = n := by
  constructor
  · rfl
  · unfold Builtin.Slice.slicePlaces
    have h1 : ¬ ((-1 : Int) > 0) := by omega
    simp only [h1, if_false]
    by_cases h : ((n : Int) - 1) > -1
    · rw [if_pos h]
      have : ((n : Int) - 1 - -1 - 1) / - -1 + 1 = n := by
        rw [show (- -1 : Int) = 1 from rfl, Int.ediv_one]; omega
      rw [this]; simp
    · rw [if_neg h]
      have : n = 0 := by omega
      simp [this]
theorem applied_back {sl : Addr} {n : Nat} {t : Tok} {Q : Int × Int × Nat → Shared → Prop} (hs : s.heap.IsSliceOf sl .none .none (.int (-1) t))
    (h : Q ((n : Int) - 1, -1, n) s) : wpAny (model prog w) A (Builtin.Slice.sliceApplied (.ref sl) (pure (n : Int))) Q E s := by
  obtain ⟨os, hos, hcs, hds⟩ := id hs
  unfold Builtin.Slice.sliceApplied Builtin.Slice.sliceFields
  refine wpAny_bind (wpAny_bind (wpAny_field hos hds (x := .none) rfl (wpAny_bind (wpAny_field hos hds (x := .none) rfl
    (wpAny_bind (wpAny_field hos hds (x := .int (-1) t) rfl (wpAny_pure ?_)))))))
  refine wpAny_bind (HT.slicePart_ (.int (-1) t) ?_)
  show wpAny _ _ (if ((-1 : Int) == 0) = true then _ else _) _ _ s
  rw [if_neg (by decide)]
  refine wpAny_bind (HT.slicePart_ .none (wpAny_bind (HT.slicePart_ .none (wpAny_bind (wpAny_pure ?_)))))
  show wpAny _ _ (match Builtin.Slice.sliceAdjust none none (-1) (n : Int) with | (lo, hi) => pure (lo, (-1 : Int), Builtin.Slice.slicePlaces lo hi (-1))) _ _ s
  rw [(back_places n).1]
  show wpAny _ _ (pure ((n : Int) - 1, (-1 : Int), Builtin.Slice.slicePlaces ((n : Int) - 1) (-1) (-1))) _ _ s
  rw [(back_places n).2]
  exact wpAny_pure h
theorem pick_back (xs : List Value) : ((List.range xs.length).filterMap fun (m : Nat) => xs.toArray[((xs.length : Int) - 1 + (m : Int) * -1).toNat]?) = xs.reverse := by
  apply List.ext_getElem?
  intro i
  have key : ∀ m, m < xs.length → xs.toArray[((xs.length : Int) - 1 + (m : Int) * -1).toNat]? = some (xs[xs.length - 1 - m]?.getD .none) := fun m hm => by
    have : ((xs.length : Int) - 1 + (m : Int) * -1).toNat = xs.length - 1 - m := by omega
    rw [this]
    simp only [List.getElem?_toArray]
    rw [List.getElem?_eq_getElem (by omega)]
    rfl
  have e : ((List.range xs.length).filterMap fun (m : Nat) => xs.toArray[((xs.length : Int) - 1 + (m : Int) * -1).toNat]?) = (List.range xs.length).map fun m => xs[xs.length - 1 - m]?.getD .none := by
    have gen : ∀ (l : List Nat), (∀ m ∈ l, m < xs.length) → (l.filterMap fun (m : Nat) => xs.toArray[((xs.length : Int) - 1 + (m : Int) * -1).toNat]?) = l.map fun m => xs[xs.length - 1 - m]?.getD .none := by
      intro l
      induction l with
      | nil => intro _; rfl
      | cons m l ih =>
        intro h
        rw [List.filterMap_cons, key m (h m List.mem_cons_self), List.map_cons, ih fun k hk => h k (List.mem_cons_of_mem _ hk)]
    exact gen _ fun m hm => List.mem_range.mp hm
  rw [e, List.getElem?_map]
  by_cases hi : i < xs.length
  · rw [List.getElem?_range hi, List.getElem?_reverse hi]
    show some (xs[xs.length - 1 - i]?.getD Value.none) = _
    rw [List.getElem?_eq_getElem (show xs.length - 1 - i < xs.length by omega)]
    rfl
  · rw [List.getElem?_eq_none (by simpa using hi), List.getElem?_eq_none (by simpa using hi)]
    rfl
theorem getItem_tuple_back {t sl : Addr} {items : Array Value} {u : Tok} {Q : Value → Shared → Prop} (ht : IsTup s.heap t items) (hs : s.heap.IsSliceOf sl .none .none (.int (-1) u))
    (h : Q (.ref s.heap.objs.size) { s with heap := s.heap.push { cls := .type "tuple", data := .seq items.toList.reverse.toArray } }) (hsz : items.size ≤ sizeLine) : wpAny (model prog w) A (getItem (.ref t) (.ref sl)) Q E s := by
  have htake : sizeOk (.seq items.toList.reverse.toArray) := by
    show items.toList.reverse.toArray.size ≤ sizeLine
    rw [List.size_toArray, List.length_reverse, Array.length_toList]
    exact hsz
  obtain ⟨os, hos, hcs, hds⟩ := id hs
  have hTs : s.TypeIs (.ref sl) "slice" := ⟨os, hos, hcs⟩
  unfold getItem
  try with_reducible refine wpAny_holding ?_
  first | refine wpAny_bind (wpAny_pure ?_) | skip
  refine wpAny_bind (wpAny_sequenceKey ht.typeIs (by decide) (wpAny_bind (wpAny_callSpecial?_slot (name := Str.ofString "__getitem__") ht.typeIs PyProof.Rows.slot_tuple_getitem
    (wpAny_call_entry PyProof.Rows.slot_tuple_getitem ht.typeIs PyProof.Rows.entry_tuple_getitem ?_ (PyProof.Rows.args_tuple_getitem _ _)))))
  show wpAny _ _ (Builtin.Tuple.tupleItemsOf (.ref t) >>= _) _ _ s
  refine wpAny_bind (PyProof.Rows.tupleItemsOf_ ht (wpAny_bind (wpAny_typeOf hTs ?_)))
  rw [if_pos (by decide)]
  refine wpAny_bind (applied_back hs ?_)
  have hno : ¬ (((items.size : Int) - 1 == 0 && (-1 : Int) == 1 && items.size == items.size) = true) := by simp
  show wpAny _ _ (if ((items.size : Int) - 1 == 0 && (-1 : Int) == 1 && items.size == items.size) = true then _ else _) _ _ s
  rw [if_neg hno]
  have e : (((List.range items.size).filterMap fun (m : Nat) => items[((items.size : Int) - 1 + (m : Int) * -1).toNat]?).toArray) = items.toList.reverse.toArray := by
    have := pick_back items.toList
    rw [Array.length_toList] at this
    rw [← this]
  rw [e]
  first
    | exact wpAny_bind (m := Builtin.Tuple.tupleExact _) (wpAny_newObj_type (wpAny_pure ⟨_, rfl, wpAny_pure h⟩) htake)
    | exact wpAny_bind (m := Builtin.Tuple.tupleExact _) (wpAny_newObj_type (wpAny_bind (wpAny_pure (wpAny_pure ⟨_, rfl, wpAny_pure h⟩))) htake)
    | exact wpAny_bind (wpAny_bind (m := Builtin.Tuple.tupleExact _) (wpAny_newObj_type (wpAny_pure (wpAny_pure ⟨_, rfl, wpAny_pure h⟩)) htake))
end
section
variable {X : Cx}
/-- x[::-1] of a tuple or a list -/
def tRev (K : PySem.W.Frag) (te : TE) : TE := fun σ H Q => te σ H fun x H1 => ∃ a xs, x = .ref a ∧
  ((SqT K H1 a xs ∧ ∀ p, H1 p = none → Q (.ref p) (upd H1 p (.tup xs.reverse))) ∨ (SqL K H1 a xs ∧ ∀ p, H1 p = none → Q (.ref p) (upd H1 p (.lst xs.reverse))))
theorem pe_rev {e : Expr} {te : TE} {k : Nat} {p1 p2 p3 pos : Pos} (he : PE X e te) : PE X (.Subscript e (.Slice none none (some (.UnaryOp .USub (.Constant (.int 1) k p1) p2)) p3) pos) (tRev X.K te) := by
  refine ⟨fun pins s σ H Q I h => ?_⟩
  refine Subscript_ (thn (he.run pins s σ H _ I h) fun v s1 ⟨x, H1, I1, r1, q1⟩ => ?_)
  obtain ⟨a, xs, ex, hx⟩ := q1
  subst ex
  cases r1
  have hst : PO X (some (.UnaryOp .USub (.Constant (.int 1) k p1) p2)) (tPart (tUn (rU fun i => .int (-i)) (tC (.int 1)))) := po_some (pe_un un_neg pe_int)
  refine wpAny_Slice (thn (po_none.run pins s1 σ H1 (fun o H2 => o = none ∧ H2 = H1) I1 ⟨rfl, rfl⟩) fun vl s2 ⟨l, H2, I2, pl, el, e2⟩ => ?_)
  subst el e2
  refine thn (po_none.run pins s2 σ H2 (fun o H3 => o = none ∧ H3 = H2) I2 ⟨rfl, rfl⟩) fun vu s3 ⟨u, H3, I3, pu, eu, e3⟩ => ?_
  subst eu e3
  refine thn (hst.run pins s3 σ H3 (fun o H4 => o = some (-1) ∧ H4 = H3) I3 ⟨1, rfl, -1, rfl, rfl, rfl⟩) fun vs s4 ⟨o, H4, I4, ps, eo, e4⟩ => ?_
  subst eo e4
  have I5 : Inv X pins σ H4 { s4 with heap := s4.heap.push { cls := .type "slice", data := .fields #[vl, vu, vs] } } := I4.kept (t' := s4.toks) fun b ob q => Heap.get?_push_of_some _ q
  show wpAny (model X.prog X.w) X.A (subscriptTail e (.Slice none none (some (.UnaryOp .USub (.Constant (.int 1) k p1) p2)) p3) (.ref a) (.ref s4.heap.objs.size)) (EP X pins σ Q) X.xe { s4 with heap := s4.heap.push { cls := .type "slice", data := .fields #[vl, vu, vs] } }
  rcases hx with ⟨hx, q⟩ | ⟨hx, q⟩
  · obtain ⟨its, r, ht, hz⟩ := I5.tuple hx
    have hlen := r.length
    cases pl
    cases pu
    cases ps with
    | int i t =>
      refine tail_any (ops := [.ref a, .ref s4.heap.objs.size]) ht.typeIs (PyProof.Rows.slot_tuple_getitem.lookup) ?_ (by with_unfolding_all rfl)
      refine getItem_tuple_back ht (Heap.IsSliceOf.new _ _ _ _) ?_ (by rw [List.size_toArray]; omega)
      refine ⟨.ref _, _, I5.laid (t' := s4.toks) (o := .tup xs.reverse) (fun b ob q => Heap.get?_push_of_some _ q) (Nat.le_refl _) ?_, rfl, q _ (I5.hok.fresh (Nat.le_refl _))⟩
      exact ⟨by rw [List.length_reverse]; exact hz, _, r.reverse, IsTup.new _ _⟩
  · obtain ⟨its, r, ht, hz⟩ := I5.list hx
    have hlen := r.length
    refine tail_any (ops := [.ref a, .ref s4.heap.objs.size]) ht.isList.typeIs (PySem.slot_list_getitem.lookup) ?_ (by with_unfolding_all rfl)
    refine wpAny_getItem_list_slice ht.isList (Heap.IsSliceOf.new _ vl vu vs) pl pu ps (by decide) ?_ (by rw [List.size_toArray]; omega)
    rw [PySem.W.krv_pick]
    refine ⟨.ref _, _, I5.laid (t' := s4.toks) (o := .lst xs.reverse) (fun b ob q => Heap.get?_push_of_some _ q) (Nat.le_refl _) ?_, rfl, q _ (I5.hok.fresh (Nat.le_refl _))⟩
    exact ⟨by rw [List.length_reverse]; exact hz, _, 0, r.reverse, Heap.get?_push_size _ rfl⟩

/-! ### raise C() -/
theorem pmk_own0 {x : Str} {C : Addr} {bmB : List Value} {B newId initId : String} {p pos : Pos} (F : ExcBaseFacts B newId initId bmB) (q : PySem.W.excIn X.K C bmB newId = true) (gC : X.mg x = some (.ref C)) (kC : PySem.W.keepIn X.K (.ref C) = true) (r : Raises X (.ref C)) (hg : Gl X x)
    (hdb : (x == ("__debug__" : Str)) = false) : PMk X (.Call (.Name x p) [] [] pos) (fun _ H Q => Q (.ref C) none H) := by
  intro pins s σ H Q I h
  refine wpAny_Call_Name_kw (ld_glob I hg gC ?_ hdb)
  refine PySem.W.callWith_K0 I.kIn kC ?_
  obtain ⟨bm, N, nm, qn, bs, hdct, sn, sub, ab, col, dd, k0, k1, k2, k3, k5, mN, hC, hN, hni, T⟩ := exc_obj I.kIn q
  refine wpAny_call_exc_subT F T hC hN hni (fun h' e hm => ?_) (by show 0 ≤ sizeLine; rw [sizeLine_eq]; omega)
  exact mk_of I hm r h (I.hok.gone hm.new)
end
end Qx
set_option Elab.async false
set_option linter.all false
set_option maxRecDepth 100000
set_option maxHeartbeats 4000000
/-! The __init__ of an own exception over ValueError: super().__init__(f); self.f = f. -/
namespace Qx
open PySem PySem.Spec PyProof.Rows L2 NdefX
/-- what it promises -/
def spSup (C : Addr) (f : Str) : Sp := fun vs H Q _ => ∃ (a : Addr) (y : V), vs = [.ref a, y] ∧ H a = some (exo a C none) ∧ ∀ dx, H dx = none → dx ≠ a → Q .non (upd (upd H dx (exd dx [(f, y)])) a (exo a C (some dx)))
/-- what the text and the written part say of it -/
structure SupC (P : Program) (K : PySem.W.Frag) (mg : Str → Option Value) (C fI cc : Addr) (F : NF) (fd : FuncData) (f : Str) : Prop where
  lk : ∃ oc od osl doc pm ctv, fd = F.fd doc pm ctv ∧ K.lookup fI = some ⟨oc, od, .func fd, osl⟩
  cd : PySem.W.codeIn K (.ref F.c) F.qual = true
  cl : F.cl = [(("__class__" : Str), cc)]
  sc : NScope [("self" : Str), f, ("__class__" : Str)] [("self" : Str), f] [("__class__" : Str)] F.scope
  body : ∃ p0 p1 p2 p3 p4 p5 p6 p7 p8 p9, F.body = [.Expr (.Call (.Attribute (.Call (.Name "super" p0) [] [] p1) "__init__" p2) [.Name f p3] [] p4) p5, .Assign [.Attribute (.Name "self" p6) f p7] (.Name f p8) p9] ∧
    ∀ L, ∃ pl : Sem Bool, eval (.Call (.Attribute (.Call (.Name "super" p0) [] [] p1) "__init__" p2) [.Name f p3] [] p4) (envF F fI L) = (do
      let ov ← attributeBase (.Call (.Name "super" p0) [] [] p1) "__init__" (envF F fI L) (eval (.Call (.Name "super" p0) [] [] p1) (envF F fI L))
      standAt p2.atName
      let (f', first) ← holding [ov] (getMethod ov "__init__" pl)
      callWith p4 f' first (backTo p4 (starEach [.Name f p3] (envF F fI L))) [])
  par : ∃ ar, (F.params.posonlyargs ++ F.params.args).head? = some ar ∧ ar.arg = ("self" : Str)
  file : ∃ ccl cdd vs ccs file tf, K.lookup F.c = some ⟨ccl, cdd, .fields vs, ccs⟩ ∧ vs[2]? = some (.str file tf) ∧ ((P.main.file : Str) == file) = true
  cell : ∃ cl cld csl, K.lookup cc = some ⟨cl, cld, .cell (some (.ref C)), csl⟩
  gl : F.scope.names.lookup ("super" : Str) = some .globalImplicit
  top : (P.main.scope.names.lookup ("super" : Str)).isSome = false
  mgs : mg "super" = none
  exc : OexC K C
  mro : PySem.W.mroIn K C (.ref C) = some true
  along : PySem.W.ks_superIn K C C "__init__" = some (some (.builtin "ValueError.__init__"))
  base : PySem.W.subIn K (.ref C) (.type "ValueError") = some true
  opq : PySem.W.nsIn K cStatics "thirdparty.any" = some none
  nof : PySem.W.findIn K (.ref C) f = some none
  dbg : (f == ("__debug__" : Str)) = false
  cdi : (f == ("__classdict__" : Str)) = false
section
variable {CX : CXT} {P : Program} {w : World} {K : PySem.W.Frag} {mg : Str → Option Value} {base : Heap} {C fI cc : Addr} {F : NF} {fd : FuncData} {f : Str} {k : Nat}
theorem fn_sup (T : SupC P K mg C fI cc F fd f) : FnOk P w K mg base CX (k + 1) fI fd [("self" : Str), f] (spSup C f) := by
  refine ⟨fun vs H Q E ⟨a, y, e, _⟩ => by rw [e]; rfl, fun A outer s H args us vs Q E hr e0 hb r hsp => ?_⟩
  obtain ⟨a, y, rfl, ea, q⟩ := hsp
  obtain ⟨oc, od, osl, doc, pm, ctv, rfl, lk⟩ := T.lk
  have S := T.sc
  have KX : K.In s.heap := e0.mod.kin.keeps fun b o e => (e0.bs b o e).1
  have lim : s.heap.NoLimit := e0.mod.nolimit.keeps fun b o e => (e0.bs b o e).1
  obtain ⟨cl, cld, csl, hcell⟩ := T.cell
  refine codeAny_call_function hr.depth (KX _ _ lk) rfl S.co S.gen rfl (PySem.W.codeRec_of KX T.cd) (hb _ _ _ _ ?_)
  refine wpAny_newFunctionEnv S.nocell (fun ⟨n, _⟩ hy => S.par n (List.of_mem_zip hy).1) (fun h₁ hns hsb => ⟨lim.fresh _ hsb, ?_⟩) S.kind
  show codeAny _ _ (.func F.body (envF F fI s.heap.objs.size)) _ _
  have kp : ∀ b o, s.heap.get? b = some o → h₁.get? b = some o := fun b o e => hsb.extBut b o (Nat.ne_of_lt (Heap.lt_size e)) (Heap.get?_push_of_some _ e)
  have CA : CellsAt F.cl [("__class__" : Str)] [some (V.ref C)] s.heap H := by
    rw [T.cl]
    have one : ∀ {z : Str} {c : Addr}, [(("__class__" : Str), cc)].lookup z = some c → z = "__class__" ∧ c = cc := fun {z c} e => by
      have := PySem.mem_of_lookup e
      simp at this
      exact this
    refine ⟨rfl, fun z c e => ?_, fun x z c e1 e2 => ?_, fun i z hz => ?_⟩
    · obtain ⟨rfl, rfl⟩ := one e
      exact ⟨(e0.bs _ _ (e0.mod.kin _ _ hcell)).2, some (.ref C), _, KX _ _ hcell, rfl⟩
    · obtain ⟨rfl, _⟩ := one e1
      obtain ⟨rfl, _⟩ := one e2
      rfl
    · cases i with
      | zero =>
        simp at hz
        subst hz
        refine ⟨cc, rfl, fun v e => ?_⟩
        simp at e
        subst e
        exact ⟨.ref C, rfl, _, KX _ _ hcell, rfl⟩
      | succ i => simp at hz
  have I : Inv (ncx CX P w K mg base [("self" : Str), f, ("__class__" : Str)] F fI A outer s H E) [] (startF [("self" : Str), f, ("__class__" : Str)] [V.ref a, y] [some (V.ref C)]) H { s with heap := h₁, toks := s.toks + ([("self" : Str), f].zip us).length } := inv_startN S hr.hd e0 rfl r CA hns kp
  refine PySem.ks_codeAny_funcAt ?_
  obtain ⟨p0, p1, p2, p3, p4, p5, p6, p7, p8, p9, hbd, hev⟩ := T.body
  obtain ⟨pl, hev⟩ := hev s.heap.objs.size
  rw [hbd]
  refine PySem.ks_wpAt_execs_cons (PySem.ks_wpAt_Expr_any (PySem.ks_wpAt_MethodCall ?_ hev) (by unfold interactive; rw [show (envF F fI s.heap.objs.size).scope.kind = ScopeKind.function from S.kind]; rfl))
  obtain ⟨ar, hp, har⟩ := T.par
  obtain ⟨ccl, cdd, vs', ccs, file, tf, hcode, hvs, hfile⟩ := T.file
  refine PySem.ks_wpAt_super_base (f := fI) (cc := F.c) T.gl (S.frk _ List.mem_cons_self) (by decide) rfl (kp _ _ (KX _ _ lk)) rfl hp rfl (kp _ _ (KX _ _ hcode)) rfl hvs hfile T.top ?_
  have hkind : (envF F fI s.heap.objs.size).scope.kind = ScopeKind.function := S.kind
  obtain ⟨mb, hb1, hb2⟩ := e0.mod.blt
  have bk : ∀ b o, base.get? b = some o → h₁.get? b = some o := fun b o e => kp b o (e0.bs b o e).1
  refine PySem.W.ks_loadName_global hkind T.gl (Calls.loadGlobal_builtin (e0.mod.glob.keeps bk) T.mgs (hb1.keeps bk) ((hb2 _ (by decide)).trans PyProof.Rows.Boot.super) ⟨rfl, ?_⟩)
  have hcl : (envF F fI s.heap.objs.size).cells.lookup ("__class__" : Str) = some cc := by
    show F.cl.lookup _ = _
    rw [T.cl]
    rfl
  refine wpAny_loadName_free hkind (S.frk _ List.mem_cons_self) hcl ⟨_, kp _ _ (KX _ _ hcell), rfl⟩ ?_
  cases r with
  | @cons _ u0 _ ur ra rw' =>
  obtain rfl : u0 = Value.ref a := ra
  cases rw' with
  | @cons _ u1 _ ur ru rn =>
  cases rn
  have ndP : [("self" : Str), f].Nodup := by
    have q := S.nd.sublist (List.take_sublist 2 _)
    exact q
  rw [har]
  refine wpAny_loadName_local hkind (S.par _ List.mem_cons_self) hns (zip_look (i := 0) ndP rfl rfl) ?_
  obtain ⟨nm, qn, N, bs, bm, sn, sub, ab, col, dd, k0, k1, k2, k3, k5, hC, hbm⟩ := T.exc.cls
  have KX1 : K.In h₁ := e0.mod.kin.keeps bk
  refine PySem.ks_wpAny_isType_cls (KX1 _ _ hC) rfl ⟨rfl, ?_⟩
  obtain ⟨t1, hx⟩ := exo_at I.hok ea
  have hsub := PySem.W.looks_mroIn (M := model P w) KX1 T.mro
  refine PySem.ks_wpAny_call_super (KX1 _ _ hC) rfl hx rfl (fun c e => by cases e) hsub (fun h2 hso k2 => ?_)
  have KX2 : K.In h2 := KX1.keeps k2
  have IA : PySem.W.InstAt h2 a { cls := .ref C, dict := none, data := .fields #[.ref t1, .none, .none, .none, .bool false, .none] } C none := ⟨k2 _ _ hx, rfl, rfl, trivial⟩
  have hI : PySem.W.Looks (model P w) h2 (isInstance (.ref a) (.type "ValueError")) true := IA.type.andThen (PySem.W.looks_subIn KX2 T.base)
  obtain ⟨cd, hc⟩ : ∃ cd, PySem.W.clsIn K C = some cd := by
    cases hc : PySem.W.clsIn K C with
    | none =>
      have := T.along
      unfold PySem.W.ks_superIn at this
      rw [hc] at this
      cases this
    | some cd => exact ⟨cd, rfl⟩
  have hal : PySem.W.alongIn K "__init__" ((cd.mro.dropWhile (· != .ref C)).drop 1) = some (some (.builtin "ValueError.__init__")) := by
    have := T.along
    unfold PySem.W.ks_superIn at this
    rw [hc] at this
    exact this
  refine PySem.W.kxs_getMethod PySem.W.kxs_ValueError hso (PySem.W.looks_opaque KX2 T.opq) (l₀ := cd.mro) (fun A Q E s k q => wpAny_bind ((PySem.W.looks_clsIn KX2 hc) A _ E s k (wpAny_pure q))) rfl KX2 hal hI (PySem.W.ks_ne KX2 IA hc) (by decide) ?_
  have k3 : ∀ b o, h₁.get? b = some o → (h2.push (PySem.W.kxs_mw "ValueError.__init__" a)).get? b = some o := fun b o e => Heap.get?_push_of_some _ (k2 b o e)
  have hmw : (h2.push (PySem.W.kxs_mw "ValueError.__init__" a)).get? h2.objs.size = some (PySem.W.kxs_mw "ValueError.__init__" a) := Heap.get?_push_at rfl rfl
  have hst : starEach [Expr.Name f p3] (envF F fI s.heap.objs.size) = (false, eval (.Name f p3) (envF F fI s.heap.objs.size)) :: starEach [] (envF F fI s.heap.objs.size) := rfl
  rw [hst]
  refine PySem.W.kxs_callWith (i := "ValueError.__init__") (x := a) rfl ?_
  refine Calls.evalArgs_plain ?_
  refine Calls.spliced_cons (wpAny_Name (wpAny_loadName_local hkind (S.par _ (List.mem_cons_of_mem _ List.mem_cons_self)) (hns.keeps k3) (zip_look (i := 1) ndP rfl rfl) ?_) T.dbg)
  refine Calls.spliced_nil ⟨hmw, ?_⟩
  have FB := PySem.F.excBase_ValueError
  refine wpAny_call (codeAny_of_tree ?_)
  show wpAny _ (A.deeper (envF F fI s.heap.objs.size)).in1 (callAny (.ref h2.objs.size) ⟨[u1], []⟩) _ _ _
  simp only [callAny]
  refine wpAny_bind (wpAny_load hmw ?_)
  simp only [PySem.W.kxs_mw, show (Value.type "method-wrapper" == Value.type "method" || Value.type "method-wrapper" == Value.type "builtin_function_or_method" || Value.type "method-wrapper" == Value.type "method-wrapper") = true by decide, if_true]
  refine PySem.W.KFB.if_so (by decide) ?_
  refine wpAny_bind (PySem.W.check_bound_init FB.toExcCallFacts (Heap.get?_push_of_some _ (KX2 _ _ hC)) (k3 _ _ hx) rfl ?_)
  refine wpAny_bind (wpAny_pure (wpAny_pure ?_))
  refine ⟨plainId_quiet FB.init.plain _, codeAny_builtin FB.initEntry ?_⟩
  refine PySem.W.exc_init_tree (cls := .ref C) (t0 := t1) (dv := none) (c2 := .none) (c3 := .none) (b4 := .bool false) (k3 _ _ hx) (by show 1 ≤ sizeLine; rw [sizeLine_eq]; omega) fun h4 k4 hx4 _ => ?_
  have J : Inv (ncx CX P w K mg base [("self" : Str), f, ("__class__" : Str)] F fI A outer s H E) [] (startF [("self" : Str), f, ("__class__" : Str)] [V.ref a, y] [some (V.ref C)]) H
      { heap := h4, gens := s.gens, drawn := s.drawn, toks := s.toks + ([("self" : Str), f].zip [Value.ref a, u1]).length + 1, os := s.os } := by
    have J0 := (I.kept (t' := s.toks + ([("self" : Str), f].zip [Value.ref a, u1]).length + 1) k3).write (t' := s.toks + ([("self" : Str), f].zip [Value.ref a, u1]).length + 1) (x := a) (e := a) (o := exo a C none) (by rw [ea]; exact True.intro) (.inl rfl) k4 ⟨_, hx4⟩ (exo_ok hx4)
    have eu : upd H a (exo a C none) = H := by
      funext b
      by_cases hb : b = a
      · rw [hb, upd_same, ea]
      · rw [upd_ne hb]
    rw [eu] at J0
    exact J0
  show PySem.wpAt _ _ _ (execs [.Assign [.Attribute (.Name "self" p6) f p7] (.Name f p8) p9] _) _ _ _
  refine wpAt_of_wpAny ?_
  have v0 : Vis F.scope ("self" : Str) := .inl (S.par _ List.mem_cons_self)
  have v1 : Vis F.scope f := .inl (S.par _ (List.mem_cons_of_mem _ List.mem_cons_self))
  have PA : PSs (ncx CX P w K mg base [("self" : Str), f, ("__class__" : Str)] F fI A outer s H E) [.Assign [.Attribute (.Name "self" p6) f p7] (.Name f p8) p9] _ := pss_one (ps_ost (pe_var (i := 0) (x := "self") rfl v0) (pe_var (i := 1) (x := f) rfl v1 T.dbg T.cdi))
  refine wpAny_mono (PA.run [] _ _ H { nx := fun _ H' => Q .non H', rt := Q } J ⟨y, rfl, .ref a, rfl, a, C, rfl, T.exc, T.nof, .inl ⟨ea, q⟩⟩) (fun fl s' hs => ?_) fun e s' hs => hs
  have fin : ∀ {σ' : L2.St} {H' : Hp} {v : V} {u : Value}, Inv (ncx CX P w K mg base [("self" : Str), f, ("__class__" : Str)] F fI A outer s H E) [] σ' H' s' → L2.RelV v u → Q v H' → CE outer P w H s Q u s' :=
    fun {σ' H' v u} J rv q => ⟨v, H', J.os, J.bare, J.base, J.hok, rv, q⟩
  cases fl with
  | ret u =>
    obtain ⟨v, σ', H', J, rv, q⟩ := hs
    exact fin J rv q
  | next =>
    obtain ⟨σ', H', J, q⟩ := hs
    exact fin (v := V.non) (u := Value.none) J rfl q
  | brk =>
    obtain ⟨_, _, _, q⟩ := hs
    exact False.elim q
  | cont =>
    obtain ⟨_, _, _, q⟩ := hs
    exact False.elim q
end
/-! ### the checks, as one Bool -/
def supBody (f : Str) : List Stmt → Bool
  | [.Expr (.Call (.Attribute (.Call (.Name s _) [] [] _) i p2) [.Name g _] [] p4) _, .Assign [.Attribute (.Name h _) g2 _] (.Name g3 _) _] => decide (s = ("super" : Str)) && (decide (i = ("__init__" : Str)) && (decide (g = f) && (decide (h = ("self" : Str)) && (decide (g2 = f) && (decide (g3 = f) && (p2.endLine == p4.line))))))
  | _ => false
def supPar (f : Str) : Arguments → Bool
  | ⟨[], [⟨a, _, _⟩, ⟨b, _, _⟩], none, [], [], none, []⟩ => decide (a = ("self" : Str)) && decide (b = f)
  | _ => false
def supFd (K : PySem.W.Frag) (file : Str) (C : Addr) (f : Str) : FuncData → Bool
  | ⟨_, qual, params, .stmts body, scope, globals, [(x, cc)], .none, .none, _, _, none, .ref c, _, builtins⟩ => (globals == mainGlobals) && ((builtins == builtinsNs) && (decide (x = ("__class__" : Str)) && (PySem.W.codeIn K (.ref c) qual && (nscB [("self" : Str), f, ("__class__" : Str)] [("self" : Str), f] [("__class__" : Str)] scope && (supBody f body && (supPar f params &&
    ((match K.lookup cc with
      | some ⟨_, _, .cell (some (.ref D)), _⟩ => D == C
      | _ => false) && ((match K.lookup c with
      | some ⟨_, _, .fields vs, _⟩ => (match (vs[2]? : Option Value) with
        | some (.str fl _) => decide (file = fl)
        | _ => false)
      | _ => false) && (match scope.names.lookup ("super" : Str) with
      | some .globalImplicit => true
      | _ => false)))))))))
  | _ => false
def oexB (K : PySem.W.Frag) (C : Addr) : Bool := (match K.lookup C with
  | some ⟨.type "type", _, .cls cd, sl⟩ => (match cd.mro, sl.toList with
    | .ref C' :: bm, [_, _, _, _, some (.builtin n), _] => (C' == C) && ((n == "ValueError.__new__") && (!cd.hasDel && (cd.hasDict && PySem.HandSPX.refsVE bm)))
    | _, _ => false)
  | _ => false) && (decide (PySem.W.findIn K (.ref C) "__setattr__" = some (some (.builtin "object.__setattr__"))) && (decide (PySem.W.subIn K (.ref C) (.type "BaseException") = some true) && (decide (PySem.W.typeIn K (.ref C) = some (.type "type")) && PySem.W.keepIn K (.ref C))))
theorem oexB_ok {K : PySem.W.Frag} {C : Addr} (h : oexB K C = true) : OexC K C := by
  unfold oexB at h
  simp only [Bool.and_eq_true, decide_eq_true_eq] at h
  obtain ⟨h1, h2, h3, h4, h5⟩ := h
  refine ⟨?_, h2, h3, h4, h5⟩
  split at h1
  · rename_i dd cd sl ho
    split at h1
    · rename_i C' bm k0 k1 k2 k3 n k5 hm hs
      simp only [Bool.and_eq_true, beq_iff_eq, Bool.not_eq_true'] at h1
      obtain ⟨rfl, rfl, hdel, hdct, hbm⟩ := h1
      obtain ⟨nm, bs, mro, ns, qn, hd, sn, sub, ab, col, del⟩ := cd
      dsimp only at hm hdel hdct
      subst hm hdel hdct
      have hsl : sl = #[k0, k1, k2, k3, some (.builtin "ValueError.__new__"), k5] := by
        obtain ⟨l⟩ := sl
        simp only at hs
        rw [hs]
      subst hsl
      exact ⟨nm, qn, ns, bs, bm, sn, sub, ab, col, dd, k0, k1, k2, k3, k5, ho, hbm⟩
    · cases h1
  · cases h1
def supB (K : PySem.W.Frag) (file : Str) (C : Addr) (f : Str) : Bool := (match PySem.W.findIn K (.ref C) "__init__" with
  | some (some (.ref fI)) => decide (PySem.W.typeIn K (.ref fI) = some (.type "function")) && (match K.lookup fI with
    | some ⟨_, _, .func fd, _⟩ => supFd K file C f fd
    | _ => false)
  | _ => false) && (oexB K C && (decide (PySem.W.mroIn K C (.ref C) = some true) && (decide (PySem.W.ks_superIn K C C "__init__" = some (some (.builtin "ValueError.__init__"))) && (decide (PySem.W.subIn K (.ref C) (.type "ValueError") = some true) &&
  (decide (PySem.W.nsIn K cStatics "thirdparty.any" = some none) && (decide (PySem.W.findIn K (.ref C) f = some none) && (!(f == ("__debug__" : Str)) && !(f == ("__classdict__" : Str)))))))))
theorem supBody_ok {f : Str} {b : List Stmt} (h : supBody f b = true) : ∃ p0 p1 p2 p3 p4 p5 p6 p7 p8 p9, b = [.Expr (.Call (.Attribute (.Call (.Name "super" p0) [] [] p1) "__init__" p2) [.Name f p3] [] p4) p5, .Assign [.Attribute (.Name "self" p6) f p7] (.Name f p8) p9] ∧ (p2.endLine == p4.line) = true := by
  unfold supBody at h
  split at h
  · simp only [Bool.and_eq_true, decide_eq_true_eq] at h
    obtain ⟨rfl, rfl, rfl, rfl, e1, e2, e3⟩ := h
    subst e1
    subst e2
    exact ⟨_, _, _, _, _, _, _, _, _, _, rfl, e3⟩
  · cases h
theorem supPar_ok {f : Str} {p : Arguments} (h : supPar f p = true) : ∃ a1 a2 b1 b2, p = ⟨[], [⟨"self", a1, a2⟩, ⟨f, b1, b2⟩], none, [], [], none, []⟩ := by
  unfold supPar at h
  split at h
  · simp only [Bool.and_eq_true, decide_eq_true_eq] at h
    obtain ⟨rfl, rfl⟩ := h
    exact ⟨_, _, _, _, rfl⟩
  · cases h
theorem sup_eval {f : Str} {p0 p1 p2 p3 p4 : Pos} (hl : (p2.endLine == p4.line) = true) (env : Env) : ∃ pl : Sem Bool, eval (.Call (.Attribute (.Call (.Name "super" p0) [] [] p1) "__init__" p2) [.Name f p3] [] p4) env = (do
      let ov ← attributeBase (.Call (.Name "super" p0) [] [] p1) "__init__" env (eval (.Call (.Name "super" p0) [] [] p1) env)
      standAt p2.atName
      let (f', first) ← holding [ov] (getMethod ov "__init__" pl)
      callWith p4 f' first (backTo p4 (starEach [.Name f p3] env)) []) := by
  refine ⟨(do return (← importBound (.Call (.Name "super" p0) [] [] p1) env).getD true), ?_⟩
  rw [arm_eval_Call]
  unfold methodCall
  have hform : methodCallForm (([.Name f p3] : List Expr).length + ([] : List Keyword).length) (backTo p4 (starEach [.Name f p3] env)) (backToKw p4 (keywordEach [] env)) = true := rfl
  have hpos : methodCallPos true (.Call (.Name "super" p0) [] [] p1) env p2 p4 = pure p4 := by unfold methodCallPos; simp [hl]
  rw [hform, hpos]
  rfl
theorem sup_bind {F : NF} {doc pm ctv : Value} {f : Str} {a1 b1 : Option Expr} {a2 b2 : Pos} {u v : Value} (hp : F.params = ⟨[], [⟨"self", a1, a2⟩, ⟨f, b1, b2⟩], none, [], [], none, []⟩) (hne : f ≠ ("self" : Str)) :
    bindArgs (F.fd doc pm ctv) ⟨[u, v], []⟩ = pure ([("self" : Str), f].zip [u, v]) := by
  have h1 : (f == ("self" : Str)) = false := by simpa using hne
  have h2 : (("self" : Str) == f) = false := by simpa using fun e => hne (Eq.symm e)
  have hd : seqItems? (F.fd doc pm ctv).defaults = pure none := rfl
  have hp2 : (F.fd doc pm ctv).params = ⟨[], [⟨"self", a1, a2⟩, ⟨f, b1, b2⟩], none, [], [], none, []⟩ := hp
  unfold bindArgs
  rw [hd, hp2]
  simp [List.lookup, h1, h2, hne, Ne.symm hne]
/-- all that is known of such a class -/
def SupOk (P : Program) (K : PySem.W.Frag) (mg : Str → Option Value) (C : Addr) (f : Str) : Prop :=
  ∃ fI cc F fd, PySem.W.findIn K (.ref C) "__init__" = some (some (.ref fI)) ∧ PySem.W.typeIn K (.ref fI) = some (.type "function") ∧ SupC P K mg C fI cc F fd f ∧ Binds K fd [("self" : Str), f] []
theorem supB_ok {P : Program} {K : PySem.W.Frag} {mg : Str → Option Value} {file : Str} {C : Addr} {f : Str} (h : supB K file C f = true) (hfl : P.main.file = file) (htop : (P.main.scope.names.lookup ("super" : Str)).isSome = false) (hmg : mg "super" = none) :
    SupOk P K mg C f := by
  unfold supB at h
  simp only [Bool.and_eq_true, decide_eq_true_eq, Bool.not_eq_true'] at h
  obtain ⟨h1, h2, h3, h4, h5, h6, h7, h8, h9⟩ := h
  split at h1
  · rename_i fI hfI
    simp only [Bool.and_eq_true, decide_eq_true_eq] at h1
    obtain ⟨ht, h1⟩ := h1
    split at h1
    · rename_i oc od fd osl hlk
      unfold supFd at h1
      split at h1
      · rename_i name qual params body scope globals x cc doc pm c ctv builtins
        simp only [Bool.and_eq_true, decide_eq_true_eq, beq_iff_eq] at h1
        obtain ⟨rfl, rfl, rfl, g4, g5, g6, g7, g8, g9, g10⟩ := h1
        obtain ⟨p0, p1, p2, p3, p4, p5, p6, p7, p8, p9, rfl, hline⟩ := supBody_ok g6
        obtain ⟨a1, a2, b1, b2, rfl⟩ := supPar_ok g7
        refine ⟨fI, cc, ⟨name, qual, _, _, scope, [(("__class__" : Str), cc)], c⟩, _, hfI, ht, ⟨⟨oc, od, osl, doc, pm, ctv, rfl, hlk⟩, g4, rfl, nscope_by g5, ⟨p0, p1, p2, p3, p4, p5, p6, p7, p8, p9, rfl, ?_⟩, ⟨_, rfl, rfl⟩, ?_, ?_, ?_, htop, hmg, oexB_ok h2, h3, h4, h5, h6, h7, h8, h9⟩, ?_⟩
        · exact fun L => sup_eval hline _
        · split at g9
          · rename_i ccl cdd vs ccs hl
            split at g9
            · rename_i fl tf hv
              exact ⟨ccl, cdd, vs, ccs, fl, tf, hl, hv, by rw [hfl]; simpa using g9⟩
            · cases g9
          · cases g9
        · split at g8
          · rename_i cl cld D csl hl
            have : D = C := by simpa using g8
            subst this
            exact ⟨cl, cld, csl, hl⟩
          · cases g8
        · split at g10
          · rename_i hl
            exact hl
          · cases g10
        · have hne : f ≠ ("self" : Str) := by
            have nd := (nscope_by g5).nd
            rintro rfl
            simp at nd
          exact Binds.all fun us hl => by
            match us, hl with
            | [u, v], _ => exact sup_bind (F := ⟨name, qual, _, _, scope, [(("__class__" : Str), cc)], c⟩) rfl hne
      · cases h1
    · cases h1
  · cases h1
end Qx
set_option Elab.async false
set_option linter.all false
set_option maxRecDepth 100000
set_option maxHeartbeats 4000000
/-! Own exceptions with one field: raised, held, asked. -/
namespace Qx
open PySem PySem.Spec PyProof.Rows L2 NdefX
section
variable {X : Cx}
theorem passE0 : Passes (L2.CX X.prog X.w) X (fun _ _ _ => False) := fun _ _ _ _ _ _ _ h => by
  obtain ⟨_, _, _, _, _, _, _, _, _, _, _, _, z⟩ := h
  exact z.elim
theorem heap_eq {H1 : Hp} {a dx : Addr} {o1 o2 o3 o4 : HO} (ha : H1 a = none) (hd : dx ≠ a) : upd (L2.del (upd (upd (upd H1 a o1) dx o2) a o3) a) dx o4 = upd H1 dx o4 := by
  funext b
  by_cases h : b = dx
  · rw [h, upd_same, upd_same]
  · rw [upd_ne h, upd_ne h]
    by_cases h2 : b = a
    · rw [h2, L2.del_same, ha]
    · rw [L2.del_ne h2, upd_ne h2, upd_ne h, upd_ne h2]
/-- what the made exception is wished to be -/
def SupW (C : Addr) (f : Str) (y : V) (H1 : Hp) (Q : XK) : Prop := [y].length ≤ 1000 ∧ ∀ a, H1 a = none → spSup C f (.ref a :: ([y] ++ [])) (upd H1 a (exo a C none))
  (fun v H2 => v = .non ∧ ∃ (d : Addr) (fs : List (Str × V)), H2 a = some (exo a C (some d)) ∧ H2 d = some (exd d fs) ∧ H1 d = none ∧ Q (.ref C) (some d) (upd (L2.del H2 a) d (.xd fs))) (fun _ _ _ => False)
theorem supW {C : Addr} {f : Str} {y : V} {H1 : Hp} {Q : XK} (h : ∀ dx, H1 dx = none → Q (.ref C) (some dx) (upd H1 dx (.xd [(f, y)]))) : SupW C f y H1 Q := by
  refine ⟨by simp, fun a ha => ⟨a, y, rfl, upd_same, fun dx hd hne => ?_⟩⟩
  rw [upd_ne hne] at hd
  refine ⟨rfl, dx, [(f, y)], upd_same, ?_, hd, ?_⟩
  · rw [upd_ne hne, upd_same]
  · rw [heap_eq ha hne]
    exact h dx hd
/-- C(e), to be raised -/
theorem pmk_sup {x f : Str} {C : Addr} {e : Expr} {te : TE} {p pos : Pos} (T : SupOk X.prog X.K X.mg C f) (hr : Room 2 X.A) (hg : Gl X x) (hm : X.mg x = some (.ref C)) (he : PE X e te) (hdb : (x == ("__debug__" : Str)) = false)
    (hst : starEach [e] X.env = (false, eval e X.env) :: starEach [] X.env) :
    PMk X (.Call (.Name x p) [e] [] pos) (fun σ H Q => te σ H fun y H1 => SupW C f y H1 Q) := by
  obtain ⟨fI, cc, F, fd, iC, tI, S, hb⟩ := T
  exact pmk_oex (X := X) (x := x) (p := p) (pos := pos) (k := 1) S.exc iC tI (fn_sup (CX := L2.CX X.prog X.w) (w := X.w) (base := X.base) (k := 0) S) hr hb (dvs := []) (ds := []) .nil passE0 hg hm (pa_cons he pa_nil hst) hdb hst (by rfl)
end
end Qx
/-! ### isinstance of an exception, with or without a dict -/
namespace Qx
open PySem PySem.Spec PyProof.Rows PySem.W
section
variable {prog : Program} {w : World} {A : Around} {E : Value → Shared → Prop} {s : Shared} {K : Frag} {x D : Addr} {ox : Obj} {od : Option Obj}
theorem findObj_dat {C : Addr} {name : Str} {a g : Value} (hc : (clsIn K C).isSome = true) (ha : findIn K (.ref C) name = some (some a)) (hg : specialIn K a "__get__" = some (some g)) (ht : takesIn K a = some true) : findObj K C od name = some (.bind g a) := by
  obtain ⟨cd, hc⟩ := Option.isSome_iff_exists.mp hc
  unfold findObj
  rw [hc, Option.bind_some, ha, Option.bind_some]
  simp [hg, ht]
theorem exc_class (T : L2.ExcC K D) (X : K.In s.heap) (I : InstAt s.heap x ox D od) {Q : Option Value → Shared → Prop} (h : Q (some (.ref D)) { s with toks := s.toks + 1 }) : wpAny (model prog w) A (getAttr? (.ref x) "__class__") Q E s := by
  have hf : findObj K D od "__class__" = some (.bind (.builtin "getset_descriptor.__get__") (.builtin "object.__class__")) := findObj_dat (by obtain ⟨cd, hc, _⟩ := any_some T.hd; rw [hc]; rfl) T.ha T.hn T.ht
  obtain ⟨hp, g, d, t, os⟩ := s
  have L0 := I.type (M := model prog w)
  have L1 := looks_findIn (M := model prog w) X T.hg
  have L2 := looks_findIn (M := model prog w) X T.hk
  have L3 := looks_find (M := model prog w) X I hf
  have sub : Looks (model prog w) hp (isInstance (.ref x) (.type "BaseException")) true := L0.andThen (looks_subIn X T.hs)
  have hx0 : (false && onTheHeap (Value.builtin "BaseException.__getattribute__")) = false := rfl
  have hx2 : (Value.builtin "BaseException.__getattribute__" == Value.builtin "object.__getattribute__") = false := by decide +kernel
  have hx1 : (onTheHeap (Value.ref D) && Value.builtin "BaseException.__getattribute__" == Value.builtin "object.__getattribute__") = false := by rw [hx2]; rfl
  unfold getAttr? getAttrBy? getAttrBy
  refine wpAny_bind (wpAny_mkText (wpAny_bind (wpAny_attempt (wpAny_holding (wpAny_bind (L0.at (wpAny_bind (L1.at ?_))))))))
  show wpAny _ _ (if (onTheHeap (Value.ref D) && Value.builtin "BaseException.__getattribute__" == Value.builtin "object.__getattribute__") = true then _ else _) _ _ _
  rw [hx1, if_neg Bool.false_ne_true]
  unfold getAttrByItsOwn hookBefore
  refine wpAny_bind ?_
  rw [if_pos (show onTheHeap (Value.ref D) = true from rfl)]
  refine L2.at ?_
  refine wpAny_bind (wpAny_attempt (wpAny_holding ?_))
  unfold callGetattribute
  rw [hx0, if_neg Bool.false_ne_true]
  unfold boundAndCalled
  rw [PySem.F.excAttr_ValueError.ga.bind (.ref x)]
  refine wpAny_bind (wpAny_pure ?_)
  show wpAny _ _ (call (.builtin "BaseException.__getattribute__") [.ref x, .str "__class__" t]) _ _ _
  refine wpAny_call (codeAny_call_builtin PySem.F.excAttr_ValueError.ga.plain PySem.F.entry_bexc_ga ?_)
  refine @check_slot (model prog w) _ _ ⟨hp, g, d, t + 1, os⟩ "BaseException.__getattribute__" "BaseException" "__getattribute__" (.ref x) [.str "__class__" t] [] _ (by decide +kernel) (by decide +kernel) sub (PySem.F.args_bexc_ga (.ref x) (.str "__class__" t)) ?_
  unfold Builtin.«object.__getattribute__»
  refine wpAny_bind (wpAny_of_eq (a := ((Value.ref x : Value), [Value.str "__class__" t])) (by first | rfl | (simp only [slotArgs]; rfl)) ?_)
  refine wpAny_bind (wpAny_pure (wpAny_bind (L0.at (wpAny_bind (L3.at ?_)))))
  show wpAny _ _ (holding [Value.builtin "object.__class__"] (call (.builtin "getset_descriptor.__get__") [.builtin "object.__class__", .ref x, .ref D]) >>= ret) _ _ _
  refine wpAny_bind (wpAny_holding (wpAny_call (class_get (s := ⟨hp, g, d, t + 1, os⟩) (ox := ox) (od := od) X I T.hm ?_)))
  refine wpAny_pure ?_
  show wpAny _ _ (handedOut (.ref D)) _ _ _
  rw [handedOut_of (v := .ref D) rfl]
  first
    | exact wpAny_pure (wpAny_pure h)
    | exact wpAny_pure h
    | exact wpAny_pure (wpAny_bind (wpAny_pure (wpAny_pure h)))
theorem exc_kit (T : L2.ExcC K D) : KitX K (.ref x) (.ref D) (fun h => ∃ ox od, InstAt h x ox D od) where
  ty := fun _ _ _ ⟨ox, od, I⟩ => I.type
  it := fun _ _ X _ => by
    obtain ⟨cdD, hcD, _⟩ := any_some T.hd
    unfold clsIn at hcD
    split at hcD
    · rename_i c' d' cd' sl' ho
      intro A' Q' E' s' k q
      unfold isType loadHead
      exact wpAny_bind (wpAny_loadPart (k _ _ (X _ _ ho)) (wpAny_pure q))
    · cases hcD
  ne := fun h tp dd its n sl X htp => by
    obtain ⟨cdD, hcD, _⟩ := any_some T.hd
    refine Bool.eq_false_iff.mpr fun q => ?_
    have e : D = tp := Value.ref.inj (beq_iff_eq.mp q)
    subst e
    unfold clsIn at hcD
    split at hcD
    · rename_i c' d' cd' sl' ho
      have z := (X _ _ ho).symm.trans htp
      cases z
    · cases hcD
  ca := fun X ⟨ox, od, I⟩ k => exc_class T X I k
end
end Qx
namespace Qx
open PySem PySem.Spec PyProof.Rows L2
/-- isinstance(e, c), e the exception that the suite holds, whatever its fields -/
theorem call_isX {X : Cx} {a D : Addr} {oe : Obj} {d : Option Addr} {pn : List (Addr × Obj)} (C : ExcC X.K D) (hz : Zc (.ref D) d oe) (hf : ∃ vs, oe.data = .fields vs) :
    CallR (X.suite a ((a, oe) :: pn)) (.builtin "isinstance") (fun xs H Q => (∀ dx, d = some dx → ∃ fs, H dx = some (.xd fs)) ∧ rIsE X.K D a xs H Q) := by
  intro pins s σ H xs us Q I r h
  obtain ⟨hd, c, cv, b, rfl, hcv, e, q⟩ := h
  cases r with
  | cons rx rr =>
    cases rr with
    | cons rt rr =>
      cases rr
      cases rx
      have ec := hcv _ rt
      subst ec
      obtain ⟨hget, _⟩ := I.pin (a, oe) (List.mem_append.mpr (.inl List.mem_cons_self))
      obtain ⟨vs, hv⟩ := hf
      have J : ∃ ox od, PySem.W.InstAt s.heap a ox D od := by
        cases d with
        | none => exact ⟨oe, none, hget, hz.1, by unfold PySem.W.notCls; rw [hv], by rw [hz.2]; trivial⟩
        | some dx =>
          obtain ⟨fs, hx⟩ := hd dx rfl
          obtain ⟨mA, ⟨o, es, ep, e1, e2⟩, _⟩ := I.hok dx _ hx
          exact ⟨oe, some o, hget, hz.1, by unfold PySem.W.notCls; rw [hv], by rw [hz.2]; exact e1⟩
      exact PySem.W.kia_one (exc_kit C) I.kIn J e (fun z => nomatch z) fun tk => ⟨.bl b, H, I.kept (t' := tk) fun _ _ z => z, rfl, q⟩
end Qx
set_option Elab.async false
set_option linter.all false
set_option maxRecDepth 100000
set_option maxHeartbeats 4000000
/-! Own exceptions as values: made, a field read, asked with isinstance; list.count of flags. -/
namespace Qx
open PySem PySem.Spec PyProof.Rows L2 NdefX
section
variable {X : Cx}
/-- C() -/
theorem pe_exc0 {x : Str} {C : Addr} {bmB : List Value} {B newId initId : String} {p pos : Pos} (F : ExcBaseFacts B newId initId bmB) (q : PySem.W.excIn X.K C bmB newId = true) (gC : X.mg x = some (.ref C)) (kC : PySem.W.keepIn X.K (.ref C) = true) (hg : Gl X x)
    (hdb : (x == ("__debug__" : Str)) = false) : PE X (.Call (.Name x p) [] [] pos) (fun _ H Q => ∀ a, H a = none → Q (.ref a) (upd H a (exo a C none))) := by
  refine ⟨fun pins s σ H Q I h => ?_⟩
  refine wpAny_Call_Name_kw (ld_glob I hg gC ?_ hdb)
  refine PySem.W.callWith_K0 I.kIn kC ?_
  obtain ⟨bm, N, nm, qn, bs, hdct, sn, sub, ab, col, dd, k0, k1, k2, k3, k5, mN, hC, hN, hni, T⟩ := exc_obj I.kIn q
  refine wpAny_call_exc_subT F T hC hN hni (fun h' e hm => ?_) (by show 0 ≤ sizeLine; rw [sizeLine_eq]; omega)
  obtain ⟨t, he, _, _⟩ := hm.there
  have hn := I.hok.gone hm.new
  exact ⟨.ref e, _, Inv.laidN (t' := s.toks) I hm.keeps hm.new hn (exo_ok he), rfl, h e hn⟩
/-- C(e) -/
def ValW (C : Addr) (f : Str) (y : V) (H1 : Hp) (Q : VK) : Prop := ∀ a dx, H1 a = none → H1 dx = none → dx ≠ a → Q (.ref a) (upd (upd (upd H1 a (exo a C none)) dx (exd dx [(f, y)])) a (exo a C (some dx)))
theorem pe_exc1v {x f : Str} {C : Addr} {e : Expr} {te : TE} {p pos : Pos} (T : SupOk X.prog X.K X.mg C f) (hr : Room 2 X.A) (hg : Gl X x) (hm : X.mg x = some (.ref C)) (he : PE X e te) (hdb : (x == ("__debug__" : Str)) = false)
    (hst : starEach [e] X.env = (false, eval e X.env) :: starEach [] X.env) :
    PE X (.Call (.Name x p) [e] [] pos) (fun σ H Q => te σ H fun y H1 => ValW C f y H1 Q) := by
  obtain ⟨fI, cc, F, fd, iC, tI, S, hb⟩ := T
  have F1 := fn_sup (CX := L2.CX X.prog X.w) (w := X.w) (base := X.base) (k := 0) S
  have T := S.exc
  refine ⟨fun pins s σ H Q I h => ?_⟩
  obtain ⟨nm, q, N, bs, bm, sn, sub, ab, col, dd, k0, k1, k2, k3, k5, hC, hbm⟩ := T.cls
  have ha := pa_cons he pa_nil hst
  refine wpAny_Call_Name_kw (ld_glob I hg hm ?_ hdb)
  refine PySem.W.callWith_K (h₀ := X.base) I.ok.mod.kin T.kC (thn (ha.run pos pins s σ H (fun vs H1 => match vs with
    | [y] => ValW C f y H1 Q
    | _ => False) I h) fun us s1 ⟨vs, H1, I1, r1, q1⟩ => ⟨I1.kIn, ?_⟩) hst (by rfl)
  obtain ⟨y, rfl⟩ : ∃ y, vs = [y] := by
    match vs, q1 with
    | [y], _ => exact ⟨y, rfl⟩
  replace q1 : ValW C f y H1 Q := q1
  show wpAny _ _ (call (.ref C) us) _ _ _
  obtain ⟨hp, g, dr, tk, os⟩ := s1
  have hsz : hp.objs.size ≤ hp.objs.size + 1 := Nat.le_succ _
  have hn : H1 (hp.objs.size + 1) = none := I1.hok.fresh hsz
  have kk : ∀ b o, hp.get? b = some o → ((hp.push (PySem.W.kdv_tup us)).push (PySem.HandSPX.excO C hp.objs.size)).get? b = some o := fun b o e => Heap.get?_push_of_some _ (Heap.get?_push_of_some _ e)
  have hget : ((hp.push (PySem.W.kdv_tup us)).push (PySem.HandSPX.excO C hp.objs.size)).get? (hp.objs.size + 1) = some (PySem.HandSPX.excO C hp.objs.size) := by heap_get
  have I2 : Inv X pins σ (upd H1 (hp.objs.size + 1) (exo (hp.objs.size + 1) C none)) ⟨(hp.push (PySem.W.kdv_tup us)).push (PySem.HandSPX.excO C hp.objs.size), g, dr, tk, os⟩ :=
    I1.laid (t' := tk) (a := hp.objs.size + 1) (o := exo (hp.objs.size + 1) C none) (h' := (hp.push (PySem.W.kdv_tup us)).push (PySem.HandSPX.excO C hp.objs.size)) kk hsz (exo_ok hget)
  have r2 : Vals (V.ref (hp.objs.size + 1) :: [y]) (Value.ref (hp.objs.size + 1) :: us) := .cons rfl r1
  have hl : (Value.ref (hp.objs.size + 1) :: us ++ []).length = [("self" : Str), f].length := by
    have e := r2.length
    rw [List.append_nil]
    exact e.symm
  have hus : us.length ≤ sizeLine := by
    rw [← Paired.length r1, sizeLine_eq]
    simp
  have b := hb _ (Value.ref (hp.objs.size + 1) :: us) I2.kIn hl
  rw [List.append_nil] at b
  have hq : spSup C f [V.ref (hp.objs.size + 1), y] (upd H1 (hp.objs.size + 1) (exo (hp.objs.size + 1) C none)) (fun v H2 => v = .non ∧ Q (.ref (hp.objs.size + 1)) H2) (fun _ _ _ => False) :=
    ⟨_, y, rfl, upd_same, fun dx hd hne => ⟨rfl, q1 _ dx hn (by rw [upd_ne hne] at hd; exact hd) hne⟩⟩
  refine wpAny_call (PySem.HandSPX.call_own PySem.F.excBase_ValueError (fun Y => PySem.HandSPX.refsVE_contains Y bm hbm) (I1.kIn _ _ hC) (PySem.W.looks_findIn I1.kIn iC) (fun self => PySem.W.bind_fn I1.kIn self tI) hus
    (codeAny_mono (F1.run _ X.stack _ _ ⟨Value.ref (hp.objs.size + 1) :: us, []⟩ (Value.ref (hp.objs.size + 1) :: us) _ _ (fun _ _ _ => False) (hr.make C us []) (I2.env0.make C us []) b r2 hq) fun r s' hq' => ?_))
  cases r with
  | error er => exact passE0 pins σ _ _ er s' I2 hq'
  | ok fl =>
    cases fl with
    | ret u =>
      obtain ⟨v, H2, I3, rv, ev, q3⟩ := I2.after hq'
      subst ev
      exact ⟨rv, ⟨V.ref (hp.objs.size + 1), H2, I3, rfl, q3⟩⟩
    | next => exact False.elim hq'
    | brk => exact False.elim hq'
    | cont => exact False.elim hq'
/-- C(e).f -/
def FldW (C : Addr) (f : Str) (y : V) (H1 : Hp) (Q : VK) : Prop := ValW C f y H1 fun v H2 => ∃ a dx y', v = .ref a ∧ H2 a = some (exo a C (some dx)) ∧ H2 dx = some (exd dx [(f, y')]) ∧ Q y' H2
theorem fldW {C : Addr} {f : Str} {y : V} {H1 : Hp} {Q : VK} (h : ∀ a dx, H1 a = none → H1 dx = none → dx ≠ a → Q y (upd (upd (upd H1 a (exo a C none)) dx (exd dx [(f, y)])) a (exo a C (some dx)))) : FldW C f y H1 Q :=
  fun a dx ha hd ne => ⟨a, dx, y, rfl, upd_same, by rw [upd_ne ne, upd_same], h a dx ha hd ne⟩
theorem pe_excf {x f : Str} {C : Addr} {e : Expr} {te : TE} {p pos apos : Pos} (T : SupOk X.prog X.K X.mg C f) (xf : XfC X.K C) (hr : Room 2 X.A) (hg : Gl X x) (hm : X.mg x = some (.ref C)) (he : PE X e te) (hdb : (x == ("__debug__" : Str)) = false)
    (hst : starEach [e] X.env = (false, eval e X.env) :: starEach [] X.env) :
    PE X (.Attribute (.Call (.Name x p) [e] [] pos) f apos) (fun σ H Q => te σ H fun y H1 => FldW C f y H1 Q) := by
  have no : PySem.W.findIn X.K (.ref C) f = some none := by
    obtain ⟨_, _, _, _, _, _, S, _⟩ := T
    exact S.nof
  refine ⟨fun pins s σ H Q I h => ?_⟩
  refine attr_of (by rfl) (thn ((pe_exc1v T hr hg hm he hdb hst).run pins s σ H (fun v H2 => ∃ a dx y, v = .ref a ∧ H2 a = some (exo a C (some dx)) ∧ H2 dx = some (exd dx [(f, y)]) ∧ Q y H2) I h) fun u s1 ⟨v, H2, I2, rv, a, dx, y, ev, ea, ed, q⟩ => ?_)
  · subst ev
    obtain rfl : u = Value.ref a := rv
    obtain ⟨t1, hx⟩ := exo_at I2.hok ea
    obtain ⟨mA, hns, hr⟩ := exd_at I2.hok ed
    obtain ⟨od, ho, hl⟩ := lookIn_ns hns
    obtain ⟨u, hu, ru⟩ := RelO.some_of (v := y) (o := mA f) (by have := hr f; simpa [List.lookup] using this)
    have J : PySem.W.InstAt s1.heap a _ C (some od) := ⟨hx, rfl, rfl, ho⟩
    exact PySem.HandSPX.exc_get I2.kIn J xf.ga xf.gg xf.exC (PySem.W.findObj_own xf.hdC no rfl (by rw [hl, hu])) (handed_of ru) ⟨y, H2, I2.tok _, ru, q⟩
/-- isinstance(v, c), v an exception -/
def rIsV (K : PySem.W.Frag) : List V → Hp → VK → Prop := fun xs H Q => ∃ (a D : Addr) (d : Option Addr) (c : V) (cv : Value) (b : Bool), xs = [.ref a, c] ∧ H a = some (exo a D d) ∧ (∀ dx, d = some dx → ∃ fs, H dx = some (exd dx fs)) ∧ ExcC K D ∧ (∀ u, RelV c u → u = cv) ∧ PySem.W.kitOne K (.ref D) cv = some b ∧ Q (.bl b) H
theorem call_isV : CallR X (.builtin "isinstance") (rIsV X.K) := by
  intro pins s σ H xs us Q I r h
  obtain ⟨a, D, d, c, cv, b, rfl, ea, hd, C, hcv, e, q⟩ := h
  cases r with
  | cons rx rr =>
    cases rr with
    | cons rt rr =>
      cases rr
      cases rx
      have ec := hcv _ rt
      subst ec
      obtain ⟨t1, hx⟩ := exo_at I.hok ea
      have J : ∃ ox od, PySem.W.InstAt s.heap a ox D od := by
        cases d with
        | none => exact ⟨_, none, hx, rfl, rfl, trivial⟩
        | some dx =>
          obtain ⟨fs, hf⟩ := hd dx rfl
          obtain ⟨mA, ⟨o, es, ep, e1, e2⟩, _⟩ := exd_at I.hok hf
          exact ⟨_, some o, hx, rfl, rfl, e1⟩
      exact PySem.W.kia_one (exc_kit C) I.kIn J e (fun z => nomatch z) fun tk => ⟨.bl b, H, I.kept (t' := tk) fun _ _ z => z, rfl, q⟩
theorem vals_bl : ∀ {bs : List Bool} {its : List Value}, Vals (bs.map V.bl) its → its = bs.map Value.bool
  | [], _, .nil => rfl
  | c :: bs, _, .cons r t => by
    rw [vals_bl t, (show _ = Value.bool c from r)]
    rfl
def isB (b : Bool) : Value → Bool
  | .bool c => c == b
  | _ => false
/-- o.count(e), of flags -/
theorem pe_cntB {o e : Expr} {to te : TE} {apos cpos : Pos} (ho : PE X o to) (he : PE X e te) (hab : attributeBase o "count" X.env (eval o X.env) = eval o X.env) (hline : (apos.endLine == cpos.line) = true) (hst : starEach [e] X.env = (false, eval e X.env) :: starEach [] X.env) :
    PE X (.Call (.Attribute o "count" apos) [e] [] cpos) (fun σ H Q => to σ H fun x H1 => tyV X.K "list" x H1 ∧ te σ H1 fun y H2 => ∃ (l : Addr) (bs : List Bool) (b : Bool), x = .ref l ∧ y = .bl b ∧ H2 l = some (.lst (bs.map V.bl)) ∧ Q (.int (bs.count b : Nat)) H2) := by
  refine ⟨fun pins s σ H Q I h => ?_⟩
  refine wpAny_Call_method_late hab (by rw [hst]; rfl) hline rfl (thn (ho.run pins s σ H _ I h) fun v s1 ⟨x, H1, I1, r1, ty, q1⟩ => ?_)
  obtain ⟨h1, h2⟩ := tyV_is I1 r1 ty
  refine ⟨"list", _, PySem.F.plainAttrs_list, PySem.F.slot_list_count, PySem.F.type_list_count, h1, h2, ?_⟩
  rw [hst]
  refine Calls.callWith_builtin (by rfl) (Calls.evalArgs_plain ?_)
  show wpAny _ _ (spliced ((false, eval e X.env) :: backTo cpos (starEach [] X.env))) _ _ s1
  refine Calls.spliced_cons (thn (he.run pins s1 σ H1 _ I1 q1) fun u s2 ⟨y, H2, I2, ry, q2⟩ => ?_)
  refine Calls.spliced_nil ?_
  obtain ⟨l, bs, b, ex, ey, hH, q⟩ := q2
  subst ex
  subst ey
  cases (show v = Value.ref l from r1)
  obtain rfl : u = Value.bool b := ry
  obtain ⟨z, its, n, r, hl, e0⟩ := I2.lstM hH
  have ei := vals_bl r
  subst ei
  refine call_meets PySem.F.slot_list_count ⟨_, e0, rfl⟩ PySem.F.entry_list_count (PySem.F.args_list_count_2 _ _) (SeqAt.list_countAt l (bs.map Value.bool).toArray n none #[] (.bool b) (isB b)) ⟨e0, fun y hy => ?_, ?_⟩
  · obtain ⟨c, _, rfl⟩ := List.mem_map.mp (show y ∈ bs.map Value.bool by simpa using hy)
    exact SeqAt.EqAt.bool_bool c b
  · have e : (bs.map Value.bool).toArray.toList.countP (isB b) = bs.count b := by
      show (bs.map Value.bool).countP (isB b) = _
      rw [List.countP_map, List.count]
      rfl
    rw [e]
    exact ⟨.int (bs.count b : Nat), H2, I2.tok _, ⟨_, rfl⟩, q⟩
end
end Qx
set_option Elab.async false
set_option linter.all false
set_option maxRecDepth 100000
set_option maxHeartbeats 4000000
/-! The judgements, over the hand layer's. -/
namespace Qv
open PySem PySem.Spec PyProof.Rows L2

abbrev wxs (Wx : WX) (σ : L2.St) : WXh := fun c d H' => Wx c d σ H'
def tR {α β : Type} (T : Tb) (H0 : Hp) (Wx : WX) (R : Wd → Hp → α → β → Prop) (f : En → Sh → Res α) : L2.St → Hp → (β → Hp → Prop) → Prop := fun σ H Q =>
  ∃ W E S, SRel T W S H ∧ FRel T H0 W E σ H ∧ Resp T R (wxs Wx σ) W H Q (f E S)
abbrev tD (T : Tb) (H0 : Hp) (Wx : WX) (f : En → Sh → Res D) : TE := tR T H0 Wx (RD T) f
abbrev tA (T : Tb) (H0 : Hp) (Wx : WX) (f : En → Sh → Res D) : TE := tR T H0 Wx (RA T) f
abbrev tT (T : Tb) (H0 : Hp) (Wx : WX) (f : En → Sh → Res Bool) : TT := tR T H0 Wx (fun _ _ a b => a = b) f
abbrev tDs (T : Tb) (H0 : Hp) (Wx : WX) (f : En → Sh → Res (List D)) : TA := tR T H0 Wx (RDs T) f
abbrev tAs (T : Tb) (H0 : Hp) (Wx : WX) (f : En → Sh → Res (List D)) : TA := tR T H0 Wx (RAs T) f
section
variable {α β γ δ : Type} {T : Tb} {R R' : Wd → Hp → α → β → Prop} {R2 : Wd → Hp → γ → δ → Prop} {Wx Wx' : WXh} {W : Wd} {H : Hp} {Q Q' : β → Hp → Prop} {S : Sh}
theorem Resp.imp {r : Res α} (h : Resp T R Wx W H Q r) (k : ∀ b H', Q b H' → Q' b H') : Resp T R Wx W H Q' r := by
  cases r with
  | ok a S => exact fun W' H' b s1 s2 s3 => k _ _ (h W' H' b s1 s2 s3)
  | ex x S => exact h
  | bad => exact h
/-- the end of a chain: the value is there -/
theorem Resp.at {a : α} (h : Resp T R Wx W H Q (.ok a S)) (sr : SRel T W S H) {b : β} (r : R W H a b) : Q b H := h W H b sr.stp sr r
theorem Resp.nobad (h : Resp T R Wx W H Q (.bad : Res α)) {P : Prop} : P := False.elim h
end
section
variable {X : Cx} {e : PySem.Expr}
theorem PE.imp {t t' : TE} (h : PE X e t) (k : ∀ σ H Q, t' σ H Q → t σ H Q) : PE X e t' := ⟨fun pins s σ H Q I hw => h.run pins s σ H Q I (k _ _ _ hw)⟩
theorem PT.imp {t t' : TT} (h : PT X e t) (k : ∀ σ H Q, t' σ H Q → t σ H Q) : PT X e t' := ⟨fun pins s σ H Q I hw => h.run pins s σ H Q I (k _ _ _ hw)⟩
theorem PW.imp {t t' : TT} (h : PW X e t) (k : ∀ σ H Q, t' σ H Q → t σ H Q) : PW X e t' := ⟨fun wh pins s σ H Q I hw => h.run wh pins s σ H Q I (k _ _ _ hw)⟩
theorem PA.imp {es : List PySem.Expr} {t t' : TA} (h : PA X es t) (k : ∀ σ H Q, t' σ H Q → t σ H Q) : PA X es t' := ⟨fun ps pins s σ H Q I hw => h.run ps pins s σ H Q I (k _ _ _ hw)⟩
end

/-- a def's promise: it gives what m gives -/
def spD (T : Tb) (m : List D → Sh → Res D) : Sp := fun vs H Q E => ∃ W S ds, SRel T W S H ∧ Reps T W ds vs ∧ Resp T (RD T) E W H Q (m ds S)
/-- what of a class of exceptions is known -/
structure XOk (K : PySem.W.Frag) (C : Addr) : Prop where
  ex : PySem.W.excIn K C PySem.HandSPX.veTail "ValueError.__new__" = true
  kp : PySem.W.keepIn K (.ref C) = true
  sb : PySem.W.subIn K (.ref C) (.type "BaseException") = some true
  ty : PySem.W.typeIn K (.ref C) = some (.type "type")
/-- what a name stands for -/
def Stands (mg : Str → Option Value) (x : Str) (u : Value) : Prop := mg x = some u ∨ (mg x = none ∧ x ≠ "__name__" ∧ bootBuiltins x = some u)
/-- what of the real program the evaluator's tables say -/
structure SOk (P : Program) (w : World) (K : PySem.W.Frag) (mg : Str → Option Value) (base : Heap) (T : Tb) (Q : Ck) (C : Calls) (k : Nat) : Prop where
  tw : T.w = w
  kl : ∀ a vs, T.kl a vs → ∀ H, SqL K H a vs
  nm : T.nm = Q.nm
  inj : ∀ i j, T.nm i = T.nm j → i = j
  bn : ∀ x, x ∈ bnames → mg x = none
  gl : ∀ n d, C.gl n = some d → ∃ u v, (mg (T.nm n) = some u ∨ (mg (T.nm n) = none ∧ T.nm n ≠ "__name__" ∧ bootBuiltins (T.nm n) = some u)) ∧ RelV v u ∧ ∀ W, Rep T W d v
  fn : ∀ f x, Q.fn f = some x → ∃ fa fd ps, mg x = some (.ref fa) ∧ PySem.W.keepIn K (.ref fa) = true ∧ Binds K fd ps [] ∧ FnOk P w K mg base (L2.CX P w) (2 * k + 1) fa fd ps (spD T (C.fn f))
  new : ∀ c, Q.cls c = true → T.cl c ∧ ∃ ini f fa fd ps, C.new = mkI C.fn ini ∧ ini c = some f ∧ mg (T.nm c) = some (.ref (T.ad c)) ∧ Mk K (T.ad c) fa ∧ Binds K fd ps [] ∧ FnOk P w K mg base (L2.CX P w) (2 * k + 1) fa fd ps (spD T (C.fn f))
  at_ : ∀ c f, T.cl c → Q.fld f = true → Cls K (T.ad c) ∧ NoAttr K (T.ad c) (T.nm f)
  exc : ∀ c, Q.exc c = true → mg (T.nm c) = some (.ref (T.ad c)) ∧ XOk K (T.ad c)
  exf : ∀ c, Q.exf c = true → ∃ f, C.exn c = some [f] ∧ mg (T.nm c) = some (.ref (T.ad c)) ∧ Qx.SupOk P K mg (T.ad c) (T.nm f)
  sub : ∀ c n b, C.sub c n = some b → ExcC K (T.ad c) ∧ ∃ u v, Stands mg (T.nm n) u ∧ RelV v u ∧ (∀ u', RelV v u' → u' = u) ∧ PySem.W.exmOne K (.ref (T.ad c)) u = some b ∧ PySem.W.kitOne K (.ref (T.ad c)) u = some b
  hnd : ∀ n, Q.hnd n = true → ∃ u, Stands mg (T.nm n) u
  xat : ∀ c fl f, C.exn c = some fl → f ∈ fl → XfC K (T.ad c) ∧ PySem.W.findIn K (.ref (T.ad c)) (T.nm f) = some none
theorem Stands.uni {mg : Str → Option Value} {x : Str} {u u' : Value} (h : Stands mg x u) (h' : Stands mg x u') : u = u' := by
  rcases h with h | ⟨h0, _, h⟩ <;> rcases h' with k | ⟨k0, _, k⟩
  · rw [h] at k; exact Option.some.inj k
  · rw [h] at k0; cases k0
  · rw [k] at h0; cases h0
  · rw [h] at k; exact Option.some.inj k
/-- within a suite -/
theorem SOk.hot {P : Program} {w : World} {K : PySem.W.Frag} {mg : Str → Option Value} {base : Heap} {T : Tb} {Q : Ck} {C : Calls} {k : Nat} (h : SOk P w K mg base T Q C k) {a : Addr} {c : Value} {d : Option Addr} : SOk P w K mg base (T.sx a c d) Q.hot C.hot k where
  tw := h.tw
  kl := h.kl
  nm := h.nm
  inj := h.inj
  bn := h.bn
  gl := fun n d e => by
    obtain ⟨u, v, h1, h2, h3⟩ := h.gl n d e
    exact ⟨u, v, h1, h2, fun W => (h3 W).sx⟩
  fn := fun f x e => by cases e
  new := fun c e => by cases e
  at_ := h.at_
  exc := fun c e => by cases e
  exf := fun c e => by cases e
  sub := h.sub
  hnd := fun c e => by cases e
  xat := h.xat
/-- where one stands -/
structure Gd (T : Tb) (Q : Ck) (N : List Str) (C : Calls) (k : Nat) (X : Cx) (sc : Scope) (fnb : Str → Bool) (Wx : WX) : Prop where
  st : SOk X.prog X.w X.K X.mg X.base T Q C k
  N : X.N = N
  nd : X.N.Nodup
  sc : X.env.scope = sc
  fnb : ∀ x, fnb x = true → X.fn x = true
  calm : Q.su = false → X.calm = true
  room : Q.su = false → Room (2 * k + 2) X.A
  un : X.A.units + 64 < cLine
  tk : Takes X Wx
  su : Q.su = true → ∃ (X0 : Cx) (oe : Obj) (pn : List (Addr × Obj)), X = X0.suite T.xa ((T.xa, oe) :: pn) ∧ Zc T.xc T.xd oe ∧ ∃ vs, oe.data = .fields vs
section
variable {T : Tb} {Q : Ck} {N : List Str} {C : Calls} {k : Nat} {X : Cx} {sc : Scope} {fnb : Str → Bool} {Wx : WX} {H0 : Hp}
theorem Gd.units (g : Gd T Q N C k X sc fnb Wx) : X.A.units + 64 < cLine := g.un
theorem visB_ok {x : Str} (g : Gd T Q N C k X sc fnb Wx) (h : visB sc x = true) : Vis X.env.scope x := by
  unfold visB at h
  rw [← g.sc] at h
  split at h <;> first | exact .inl ‹_› | exact .inr (.inl ‹_›) | exact .inr (.inr ‹_›) | cases h
theorem glB_ok {x : Str} (g : Gd T Q N C k X sc fnb Wx) (h : glB sc x = true) : Gl X x := by
  unfold glB at h
  rw [← g.sc] at h
  split at h <;> first | assumption | cases h
theorem locB_ok {x : Str} (g : Gd T Q N C k X sc fnb Wx) (h : locB sc fnb x = true) : Loc X.env.scope x ∧ (X.fn x = true ∨ X.env.scope.names.lookup x = some .local) := by
  unfold locB at h
  rw [← g.sc] at h
  split at h
  · exact ⟨.inl ‹_›, .inr ‹_›⟩
  · exact ⟨.inr ‹_›, .inl (g.fnb x h)⟩
  · cases h
theorem okName_ok {x : Str} (h : okName x = true) : (x == ("__debug__" : Str)) = false ∧ (x == ("__classdict__" : Str)) = false := by
  unfold okName at h
  simp only [Bool.and_eq_true, Bool.not_eq_true'] at h
  exact h
theorem biN_mem (b : BI) : biN b ∈ bnames := by cases b <;> decide +kernel
theorem bn_name : ∀ x, x ∈ bnames → x ≠ "__name__" := by decide +kernel
theorem bn_dbg : ∀ x, x ∈ bnames → (x == ("__debug__" : Str)) = false := by decide +kernel
theorem biN_boot (b : BI) : bootBuiltins (biN b) = some (biV b) := by cases b <;> decide +kernel

/-! ### names, constants -/
theorem s_c {d : D} {x : PySem.Expr} (h : okE Q N sc (.c d) x = true) : PE X x (tD T H0 Wx (ev C (.c d))) := by
  unfold okE at h
  split at h
  · rename_i kk j p
    unfold constB at h
    split at h
    · exact PE.imp pe_non fun σ H Q ⟨W, E, S, sr, fr, h⟩ => h.at sr .non
    · rename_i a b
      obtain rfl : a = b := by simpa using h
      exact PE.imp pe_bl fun σ H Q ⟨W, E, S, sr, fr, h⟩ => h.at sr (.bl a)
    · rename_i a b
      obtain rfl : a = b := by simpa using h
      exact PE.imp pe_int fun σ H Q ⟨W, E, S, sr, fr, h⟩ => h.at sr (.int a)
    · rename_i a b
      obtain rfl : a = b := by simpa using h
      exact PE.imp pe_str fun σ H Q ⟨W, E, S, sr, fr, h⟩ => h.at sr (.str a)
    · cases h
  · cases h
theorem s_g (g : Gd T Q N C k X sc fnb Wx) {n : Nat} {x : PySem.Expr} (h : okE Q N sc (.g n) x = true) : PE X x (tD T H0 Wx (ev C (.g n))) := by
  unfold okE at h
  split at h
  · rename_i y p
    simp only [Bool.and_eq_true, decide_eq_true_eq] at h
    obtain ⟨⟨h1, h2⟩, h3⟩ := h
    refine ⟨fun pins s σ H Qr I ⟨W, E, S, sr, fr, h⟩ => ?_⟩
    unfold ev at h
    obtain ⟨d, e, h⟩ := h.lift1
    obtain ⟨u, v, m1, m2, m3⟩ := g.st.gl n d e
    rw [g.st.nm, ← h1] at m1
    rcases m1 with m1 | ⟨m0, mn, m1⟩
    · exact ld_glob I (glB_ok g h2) m1 ⟨v, H, I, m2, h.at sr (m3 W)⟩ (okName_ok h3).1
    · exact ld_blt I (glB_ok g h2) m0 m1 ⟨v, H, I, m2, h.at sr (m3 W)⟩ mn (okName_ok h3).1
  · cases h
theorem s_v (g : Gd T Q N C k X sc fnb Wx) {i : Nat} {x : PySem.Expr} (h : okE Q N sc (.v i) x = true) : PE X x (tVar i) := by
  unfold okE at h
  split at h
  · rename_i y p
    simp only [Bool.and_eq_true, decide_eq_true_eq] at h
    obtain ⟨⟨h1, h2⟩, h3⟩ := h
    exact pe_var (by rw [g.N]; exact h1) (visB_ok g h2) (okName_ok h3).1 (okName_ok h3).2
  · cases h
theorem tVar_D {i : Nat} {σ : L2.St} {H : Hp} {Qr : VK} (h : tD T H0 Wx (ev C (.v i)) σ H Qr) : tVar i σ H Qr := by
  obtain ⟨W, E, S, sr, fr, h⟩ := h
  unfold ev at h
  obtain ⟨d, e, h⟩ := h.lift1
  unfold slotV at e
  split at e
  · rename_i q
    cases e
    obtain ⟨v, e1, e2⟩ := fr.at_ i _ q
    exact ⟨v, e1, h.at sr e2⟩
  · cases e
theorem tVar_A {i : Nat} {σ : L2.St} {H : Hp} {Qr : VK} (h : tA T H0 Wx (fun E S => brw (.v i) E S (ev C (.v i) E S)) σ H Qr) : tVar i σ H Qr := by
  obtain ⟨W, E, S, sr, fr, h⟩ := h
  unfold brw at h
  obtain ⟨d, e, h⟩ := h.lift1
  unfold slotA at e
  split at e
  · rename_i q
    cases e
    obtain ⟨v, e1, e2⟩ := fr.at_ i _ q
    exact ⟨v, e1, h.at sr (.inl e2)⟩
  · rename_i q
    cases e
    obtain ⟨a, vs, e1, e2, e3, e4, e5, e6⟩ := fr.at_ i _ q
    exact ⟨_, e1, h.at sr (.inr ⟨⟨a, vs, rfl, e2, e3⟩, a, rfl, e5⟩)⟩
  · rename_i q
    cases e
    obtain ⟨a, SS, e1, e2, e3, e4, e5, e6, e7⟩ := fr.at_ i _ q
    exact ⟨_, e1, h.at sr (.inr ⟨⟨a, SS, rfl, e2, e3, e4⟩, a, rfl, e6⟩)⟩
  · cases e
/-- an argument that is only looked at -/
theorem PE.borrow (g : Gd T Q N C k X sc fnb Wx) {i : IE} {x : PySem.Expr} (ok : okE Q N sc i x = true) (h : PE X x (tD T H0 Wx (ev C i))) : PE X x (tA T H0 Wx fun E S => brw i E S (ev C i E S)) := by
  have other : (∀ E S r, brw i E S r = r) → PE X x (tA T H0 Wx fun E S => brw i E S (ev C i E S)) := fun q =>
    PE.imp h fun σ H Qr ⟨W, E, S, sr, fr, z⟩ => by
      have z : Resp T (RA T) (wxs Wx σ) W H Qr (brw i E S (ev C i E S)) := z
      rw [q] at z
      refine ⟨W, E, S, sr, fr, ?_⟩
      cases r : ev C i E S with
      | ok d S1 => rw [r] at z; exact fun W' H' v s1 s2 s3 => z W' H' v s1 s2 (.inl s3)
      | ex a b => rw [r] at z; exact z
      | bad => rw [r] at z; exact z
  cases i with
  | v j => exact PE.imp (s_v g ok) fun σ H Qr z => tVar_A z
  | _ => exact other fun _ _ _ => rfl
/-- a list of arguments, each read -/
theorem pa_cons' {e : PySem.Expr} {es : List PySem.Expr} {te : TE} {t : TA} (hs : nst e = true) (ha : PE X e te) (hr : PA X es t) : PA X (e :: es) (tCons te t) := pa_cons ha hr (star_of hs)
end
end Qv
set_option Elab.async false
set_option linter.all false
set_option maxRecDepth 100000
set_option maxHeartbeats 4000000
/-! The constructs of expressions, one by one. -/
namespace Qv
open PySem PySem.Spec PyProof.Rows L2
section
variable {T : Tb} {Q : Ck} {N : List Str} {C : Calls} {k : Nat} {X : Cx} {sc : Scope} {fnb : Str → Bool} {Wx : WX} {H0 : Hp}

/-- the value of a part, then more -/
theorem tR.then {α β γ δ : Type} {R : Wd → Hp → α → β → Prop} {R2 : Wd → Hp → γ → δ → Prop} {f : En → Sh → Res α} {r : Res α} {kk : α → Sh → Res γ} {W : Wd} {E : En} {S : Sh} {σ : L2.St} {H : Hp} {Qr : δ → Hp → Prop} {P : β → Hp → Prop}
    (sr : SRel T W S H) (fr : FRel T H0 W E σ H) (hr : f E S = r) (h : Resp T R2 (wxs Wx σ) W H Qr (r.bind kk))
    (hk : ∀ b H1 a S1 W1, r = .ok a S1 → Stp W H W1 H1 → SRel T W1 S1 H1 → FRel T H0 W1 E σ H1 → R W1 H1 a b → Resp T R2 (wxs Wx σ) W1 H1 Qr (kk a S1) → P b H1) : tR T H0 Wx R f σ H P := by
  subst hr
  exact ⟨W, E, S, sr, fr, (h.seq).imp fun b H1 ⟨a, S1, W1, e, st, sr1, ra, h1⟩ => hk b H1 a S1 W1 e st sr1 (fr.stp st) ra h1⟩
theorem tD.then {γ δ : Type} {R2 : Wd → Hp → γ → δ → Prop} {i : IE} {kk : D → Sh → Res γ} {W : Wd} {E : En} {S : Sh} {σ : L2.St} {H : Hp} {Qr : δ → Hp → Prop} {P : V → Hp → Prop}
    (sr : SRel T W S H) (fr : FRel T H0 W E σ H) (h : Resp T R2 (wxs Wx σ) W H Qr ((ev C i E S).bind kk))
    (hk : ∀ v H1 d S1 W1, Stp W H W1 H1 → SRel T W1 S1 H1 → FRel T H0 W1 E σ H1 → Rep T W1 d v → Resp T R2 (wxs Wx σ) W1 H1 Qr (kk d S1) → P v H1) : tD T H0 Wx (ev C i) σ H P :=
  tR.then sr fr rfl h fun b H1 a S1 W1 _ => hk b H1 a S1 W1
theorem tA.then {γ δ : Type} {R2 : Wd → Hp → γ → δ → Prop} {i : IE} {kk : D → Sh → Res γ} {W : Wd} {E : En} {S : Sh} {σ : L2.St} {H : Hp} {Qr : δ → Hp → Prop} {P : V → Hp → Prop}
    (sr : SRel T W S H) (fr : FRel T H0 W E σ H) (h : Resp T R2 (wxs Wx σ) W H Qr ((brw i E S (ev C i E S)).bind kk))
    (hk : ∀ v H1 d S1 W1, Stp W H W1 H1 → SRel T W1 S1 H1 → FRel T H0 W1 E σ H1 → RA T W1 H1 d v → Resp T R2 (wxs Wx σ) W1 H1 Qr (kk d S1) → P v H1) : tA T H0 Wx (fun E S => brw i E S (ev C i E S)) σ H P :=
  tR.then sr fr rfl h fun b H1 a S1 W1 _ => hk b H1 a S1 W1

theorem Res.bind_assoc {α β γ : Type} (r : Res α) (f : α → Sh → Res β) (g : β → Sh → Res γ) : (r.bind f).bind g = r.bind fun a S => (f a S).bind g := by cases r <;> rfl
/-! ### argument lists -/
theorem pa_nilD : PA X [] (tDs T H0 Wx (evs C .nil)) := PA.imp pa_nil fun σ H Qr ⟨W, E, S, sr, fr, h⟩ => h.at sr .nil
theorem pa_consD {a : IE} {es : IEs} {x : PySem.Expr} {xs : List PySem.Expr} (hs : nst x = true) (ha : PE X x (tD T H0 Wx (ev C a))) (hr : PA X xs (tDs T H0 Wx (evs C es))) : PA X (x :: xs) (tDs T H0 Wx (evs C (.cons a es))) :=
  PA.imp (pa_cons' hs ha hr) fun σ H Qr ⟨W, E, S, sr, fr, h⟩ => by
    have h : Resp T (RDs T) (wxs Wx σ) W H Qr ((ev C a E S).bind fun x S => (evs C es E S).bind fun xs S => .ok (x :: xs) S) := h
    refine tD.then sr fr h fun v H1 d S1 W1 st1 sr1 fr1 r1 h1 => ?_
    refine tR.then sr1 fr1 rfl h1 fun vs H2 ds S2 W2 _ st2 sr2 fr2 r2 h2 => ?_
    exact h2.at sr2 (.cons (r1.mono st2.le) r2)
theorem pa_nilA : PA X [] (tAs T H0 Wx (evAs C .nil)) := PA.imp pa_nil fun σ H Qr ⟨W, E, S, sr, fr, h⟩ => h.at sr .nil
theorem pa_consA {a : IE} {es : IEs} {x : PySem.Expr} {xs : List PySem.Expr} (hs : nst x = true) (ha : PE X x (tA T H0 Wx fun E S => brw a E S (ev C a E S))) (hr : PA X xs (tAs T H0 Wx (evAs C es))) : PA X (x :: xs) (tAs T H0 Wx (evAs C (.cons a es))) :=
  PA.imp (pa_cons' hs ha hr) fun σ H Qr ⟨W, E, S, sr, fr, h⟩ => by
    have h : Resp T (RAs T) (wxs Wx σ) W H Qr ((brw a E S (ev C a E S)).bind fun x S => (evAs C es E S).bind fun xs S => .ok (x :: xs) S) := h
    refine tA.then sr fr h fun v H1 d S1 W1 st1 sr1 fr1 r1 h1 => ?_
    refine tR.then sr1 fr1 rfl h1 fun vs H2 ds S2 W2 _ st2 sr2 fr2 r2 h2 => ?_
    exact h2.at sr2 (.cons (RA.stp sr1 st2 r1) r2)

/-! ### displays -/
theorem s_tup {es : IEs} {xs : List PySem.Expr} {x1 : Nat} {p : Pos} (ha : PA X xs (tDs T H0 Wx (evs C es))) : PE X (.Tuple xs x1 p) (tD T H0 Wx (ev C (.tup es))) :=
  PE.imp (pe_tup ha) fun σ H Qr ⟨W, E, S, sr, fr, h⟩ => by
    have h : Resp T (RD T) (wxs Wx σ) W H Qr ((evs C es E S).bind fun ds S => if ds.length ≤ LIM then .ok (.tup ds) S else .bad) := h
    refine tR.then sr fr rfl h fun vs H1 ds S1 W1 _ st1 sr1 fr1 r1 h1 => ?_
    split at h1
    · rename_i c
      refine ⟨by rw [← r1.length]; have := sl64; unfold LIM at c; omega, fun q hq => ?_⟩
      obtain ⟨a1, a2, a3⟩ := newTup sr1 r1 hq
      exact h1 _ _ _ a1 a2 a3
    · exact h1.nobad
/-- a new list, that belongs to whoever made it -/
def PL (X : Cx) (T : Tb) (H0 : Hp) (Wx : WX) (x : PySem.Expr) (f : En → Sh → Res (List D)) : Prop :=
  PE X x fun σ H Qr => ∃ W E S, SRel T W S H ∧ FRel T H0 W E σ H ∧ Resp T (RL T H) (wxs Wx σ) W H Qr (f E S)
theorem RL.own {T : Tb} {Hs : Hp} {W : Wd} {S : Sh} {H : Hp} {xs : List D} {vs : List V} {p : Addr} (sr : SRel T W S H) (r : Reps T W xs vs) (hp : H p = none) (hs : Hs p = none) :
    Stp W H W (upd H p (.lst vs)) ∧ SRel T W S (upd H p (.lst vs)) ∧ RL T Hs W (upd H p (.lst vs)) xs (.ref p) := by
  obtain ⟨h1, h2⟩ := sr.fresh (o := .lst vs) hp
  exact ⟨h2, h1, p, vs, rfl, upd_same, r, sr.nonG hp, sr.nonM hp, hs⟩
/-- what was new ahead is new -/
theorem Stp.back {W W' : Wd} {S : Sh} {H H' : Hp} {T : Tb} (sr : SRel T W S H) (st : Stp W H W' H') {p : Addr} (h : H' p = none) : H p = none := by
  cases q : H p with
  | none => rfl
  | some o =>
    by_cases hm : p ∈ W.m
    · exact absurd h (st.there p hm)
    · rw [st.keep p o q hm] at h; cases h
theorem l_disp {es : IEs} {xs : List PySem.Expr} {p : Pos} (ha : PA X xs (tDs T H0 Wx (evs C es))) : PL X T H0 Wx (.List xs p) (evL C (.disp es)) :=
  PE.imp (pe_lst ha) fun σ H Qr ⟨W, E, S, sr, fr, h⟩ => by
    have h : Resp T (RL T H) (wxs Wx σ) W H Qr ((evs C es E S).bind fun ds S => if ds.length ≤ LIM then .ok ds S else .bad) := h
    refine tR.then sr fr rfl h fun vs H1 ds S1 W1 _ st1 sr1 fr1 r1 h1 => ?_
    split at h1
    · rename_i c
      refine ⟨by rw [← r1.length]; have := sl64; unfold LIM at c; omega, fun q hq => ?_⟩
      obtain ⟨a1, a2, a3⟩ := RL.own sr1 r1 hq (st1.back sr hq)
      exact h1 _ _ _ a1 a2 a3
    · exact h1.nobad
/-- a list of one's own becomes known, over the heap ahead in which it was not -/
theorem Stp.know {W W1 : Wd} {S1 : Sh} {H H1 : Hp} {T : Tb} {a : Addr} {o : HO} (st : Stp W H W1 H1) (sr1 : SRel T W1 S1 H1) (e1 : H1 a = some o) (e3 : W1.G a = none) (e4 : a ∉ W1.m) (e5 : H a = none) : Stp W H (W1.add a o) H1 := by
  have le := Wd.le_add (o := o) e3
  refine ⟨st.le.trans le, st.keep, fun b u q => ?_, st.newM, st.there⟩
  by_cases hb : b = a
  · subst hb; exact .inr (.inl e5)
  · have q' : upd W1.G a o b = some u := q
    rw [upd_ne hb] at q'
    exact st.newG b u q'
/-- a new list, never changed -/
theorem s_l {le : LE} {x : PySem.Expr} (h : PL X T H0 Wx x (evL C le)) : PE X x (tD T H0 Wx (ev C (.l le))) :=
  PE.imp h fun σ H Qr ⟨W, E, S, sr, fr, z⟩ => by
    have z : Resp T (RD T) (wxs Wx σ) W H Qr ((evL C le E S).bind fun ds S => .ok (.lst ds) S) := z
    refine ⟨W, E, S, sr, fr, ?_⟩
    cases q : evL C le E S with
    | ok ds S1 =>
      rw [q] at z
      intro W1 H1 v st1 sr1 r1
      obtain ⟨a, vs, rfl, e1, e2, e3, e4, e5⟩ := r1
      exact z (W1.add a (.lst vs)) H1 (.ref a) (st1.know sr1 e1 e3 e4 e5) (sr1.freeze e1 e3 e4) (.lst (show upd W1.G a _ a = _ from upd_same) (e2.mono (Wd.le_add e3)))
    | ex a b => rw [q] at z; exact z
    | bad => rw [q] at z; exact z
/-- a new shared list -/
theorem s_sh {le : LE} {x : PySem.Expr} (h : PL X T H0 Wx x (evL C le)) : PE X x (tD T H0 Wx (ev C (.sh le))) :=
  PE.imp h fun σ H Qr ⟨W, E, S, sr, fr, z⟩ => by
    have z : Resp T (RD T) (wxs Wx σ) W H Qr ((evL C le E S).bind fun ds S => .ok (.ref S.length) (S ++ [.lst ds])) := z
    refine ⟨W, E, S, sr, fr, ?_⟩
    cases q : evL C le E S with
    | ok ds S1 =>
      rw [q] at z
      intro W1 H1 v st1 sr1 r1
      obtain ⟨a, vs, rfl, e1, e2, e3, e4, e5⟩ := r1
      obtain ⟨f1, f2⟩ := sr1.share (ob := .lst ds) ⟨vs, e1, e2⟩ e3 e4
      refine z _ H1 (.ref a) ⟨st1.le.trans f2, st1.keep, st1.newG, fun b hb => ?_, st1.there⟩ f1 (.ref ?_)
      · have hb' : b ∈ W1.m ++ [a] := hb
        rcases List.mem_append.mp hb' with c | c
        · exact st1.newM b c
        · simp at c; subst c; exact .inr e5
      · show (W1.m ++ [a])[S1.length]? = some a
        rw [← sr1.len]; simp
    | ex a b => rw [q] at z; exact z
    | bad => rw [q] at z; exact z

/-! ### operators -/
theorem op_bin (g : Gd T Q N C k X sc fnb Wx) (o : BinO) : OpR X (binaryOp (opOf o)) (fun x y H Qr => ∃ W S dx dy z, SRel T W S H ∧ View T W H dx x ∧ View T W H dy y ∧ binD o dx dy = some z ∧ ∀ W' H' v, Stp W H W' H' → SRel T W' S H' → Rep T W' z v → Qr v H') := by
  intro pins s σ H x y v u Qr I rx ry ⟨W, S, dx, dy, z, sr, h1, h2, e, hq⟩
  exact bin_ok I sr e h1 h2 rx ry hq
theorem s_bin (g : Gd T Q N C k X sc fnb Wx) {o : BinO} {a b : IE} {l r : PySem.Expr} {p : Pos} (ha : PE X l (tA T H0 Wx fun E S => brw a E S (ev C a E S))) (hb : PE X r (tA T H0 Wx fun E S => brw b E S (ev C b E S))) :
    PE X (.BinOp l (opOf o) r p) (tD T H0 Wx (ev C (.bin o a b))) :=
  PE.imp (pe_op (op_bin g o) ha hb) fun σ H Qr ⟨W, E, S, sr, fr, h⟩ => by
    have h : Resp T (RD T) (wxs Wx σ) W H Qr ((brw a E S (ev C a E S)).bind fun x S => (brw b E S (ev C b E S)).bind fun y S => lift (binD o (drf S x) (drf S y)) S) := h
    refine tA.then sr fr h fun v H1 d S1 W1 st1 sr1 fr1 r1 h1 => ?_
    refine tA.then sr1 fr1 h1 fun u H2 d2 S2 W2 st2 sr2 fr2 r2 h2 => ?_
    obtain ⟨z, e, h2⟩ := h2.lift1
    exact ⟨W2, S2, _, _, z, sr2, (RA.stp sr1 st2 r1).view sr2, r2.view sr2, e, fun W' H' v' s1 s2 s3 => h2 W' H' v' s1 s2 s3⟩
theorem op_cmp (g : Gd T Q N C k X sc fnb Wx) (o : CmpO) : OpR X (compareOp (cmOf o)) (fun x y H Qr => ∃ W S dx dy b, SRel T W S H ∧ View T W H dx x ∧ View T W H dy y ∧ cmpD o dx dy = some b ∧ Qr (.bl b) H) := by
  intro pins s σ H x y v u Qr I rx ry ⟨W, S, dx, dy, b, sr, h1, h2, e, hq⟩
  exact cmp_ok I g.st.tw g.units sr e h1 h2 rx ry hq
theorem s_cmp (g : Gd T Q N C k X sc fnb Wx) {o : CmpO} {a b : IE} {l r : PySem.Expr} {p : Pos} (hm : plainX r = true) (ha : PE X l (tA T H0 Wx fun E S => brw a E S (ev C a E S))) (hb : PE X r (tA T H0 Wx fun E S => brw b E S (ev C b E S))) :
    PE X (.Compare l [cmOf o] [r] p) (tD T H0 Wx (ev C (.cmp o a b))) :=
  PE.imp (pe_cmpR (op_cmp g o) ha hb (plain_mark _ hm)) fun σ H Qr ⟨W, E, S, sr, fr, h⟩ => by
    have h : Resp T (RD T) (wxs Wx σ) W H Qr ((brw a E S (ev C a E S)).bind fun x S => (brw b E S (ev C b E S)).bind fun y S => (lift (cmpD o (drf S x) (drf S y)) S).bind fun b S => .ok (.bl b) S) := h
    refine tA.then sr fr h fun v H1 d S1 W1 st1 sr1 fr1 r1 h1 => ?_
    refine tA.then sr1 fr1 h1 fun u H2 d2 S2 W2 st2 sr2 fr2 r2 h2 => ?_
    obtain ⟨z, e, h2⟩ := h2.lift
    exact ⟨W2, S2, _, _, z, sr2, (RA.stp sr1 st2 r1).view sr2, r2.view sr2, e, h2.at sr2 (.bl z)⟩
/-- the same as a test -/
theorem t_cmp (g : Gd T Q N C k X sc fnb Wx) {o : CmpO} {a b : IE} {l r : PySem.Expr} {p : Pos} (hm : plainX r = true) (ha : PE X l (tA T H0 Wx fun E S => brw a E S (ev C a E S))) (hb : PE X r (tA T H0 Wx fun E S => brw b E S (ev C b E S))) :
    PT X (.Compare l [cmOf o] [r] p) (tT T H0 Wx fun E S => tst (.cmp o a b) E S (ev C (.cmp o a b) E S)) :=
  PT.imp (pt_cmpR (op_cmp g o) ha hb (plain_mark _ hm)) fun σ H Qr ⟨W, E, S, sr, fr, h⟩ => by
    have h : Resp T (fun _ _ a b => a = b) (wxs Wx σ) W H Qr (((brw a E S (ev C a E S)).bind fun x S => (brw b E S (ev C b E S)).bind fun y S => (lift (cmpD o (drf S x) (drf S y)) S).bind fun b S => .ok (.bl b) S).bind fun x S => lift (truD (drf S x)) S) := h
    rw [Res.bind_assoc] at h
    refine tA.then sr fr h fun v H1 d S1 W1 st1 sr1 fr1 r1 h1 => ?_
    rw [Res.bind_assoc] at h1
    refine tA.then sr1 fr1 h1 fun u H2 d2 S2 W2 st2 sr2 fr2 r2 h2 => ?_
    rw [Res.bind_assoc] at h2
    obtain ⟨z, e, h2⟩ := h2.lift
    exact ⟨W2, S2, _, _, z, sr2, (RA.stp sr1 st2 r1).view sr2, r2.view sr2, e, z, rfl, (show Resp T (fun _ _ a b => a = b) (wxs Wx σ) W2 H2 Qr (.ok z S2) from h2).at sr2 rfl⟩

/-! ### truth -/
theorem tst_bind {i : IE} {E : En} {S : Sh} {r : Res D} (h : ∀ j, i ≠ .v j) : tst i E S r = r.bind fun x S => lift (truD (drf S x)) S := by
  unfold tst
  cases i <;> first | rfl | exact absurd rfl (h _)
/-- a value's truth -/
theorem t_val {i : IE} {e : PySem.Expr} (hv : valX e = true) (ha : PE X e (tA T H0 Wx fun E S => brw i E S (ev C i E S))) : PT X e (tT T H0 Wx fun E S => tst i E S (ev C i E S)) :=
  PT.imp (pt_truth ha (val_true hv)) fun σ H Qr ⟨W, E, S, sr, fr, h⟩ => by
    have h : Resp T (fun _ _ a b => a = b) (wxs Wx σ) W H Qr ((brw i E S (ev C i E S)).bind fun x S => lift (truD (drf S x)) S) := h
    refine tA.then sr fr h fun v H1 d S1 W1 st1 sr1 fr1 r1 h1 => ?_
    obtain ⟨b, e, h1⟩ := h1.lift1
    exact ⟨b, tru_V sr1 e (r1.view sr1), h1.at sr1 rfl⟩
abbrev TTe (T : Tb) (H0 : Hp) (Wx : WX) (C : Calls) (i : IE) : TT := tT T H0 Wx fun E S => tst i E S (ev C i E S)
abbrev TAe (T : Tb) (H0 : Hp) (Wx : WX) (C : Calls) (i : IE) : TE := tA T H0 Wx fun E S => brw i E S (ev C i E S)
abbrev TDe (T : Tb) (H0 : Hp) (Wx : WX) (C : Calls) (i : IE) : TE := tD T H0 Wx (ev C i)
abbrev EqB : Wd → Hp → Bool → Bool → Prop := fun _ _ a b => a = b
theorem s_not {a : IE} {x : PySem.Expr} {p : Pos} (ha : PE X x (TAe T H0 Wx C a)) : PE X (.UnaryOp .Not x p) (TDe T H0 Wx C (.not a)) :=
  PE.imp (pe_notT ha) fun σ H Qr ⟨W, E, S, sr, fr, h⟩ => by
    have h : Resp T (RD T) (wxs Wx σ) W H Qr (((brw a E S (ev C a E S)).bind fun x S => lift (truD (drf S x)) S).bind fun t S => .ok (.bl (!t)) S) := h
    rw [Res.bind_assoc] at h
    refine tA.then sr fr h fun v H1 d S1 W1 st1 sr1 fr1 r1 h1 => ?_
    obtain ⟨b, e, h1⟩ := h1.lift
    exact ⟨b, tru_V sr1 e (r1.view sr1), h1.at sr1 (.bl _)⟩
theorem t_not {a : IE} {x : PySem.Expr} {p : Pos} (ha : PT X x (TTe T H0 Wx C a)) : PT X (.UnaryOp .Not x p) (TTe T H0 Wx C (.not a)) :=
  PT.imp (pt_not ha) fun σ H Qr ⟨W, E, S, sr, fr, h⟩ => by
    have h : Resp T EqB (wxs Wx σ) W H Qr (((tst a E S (ev C a E S)).bind fun t S => .ok (.bl (!t)) S).bind fun x S => lift (truD (drf S x)) S) := h
    rw [Res.bind_assoc] at h
    refine tR.then sr fr rfl h fun b H1 t S1 W1 _ st1 sr1 fr1 r1 h1 => ?_
    subst r1
    exact (show Resp T EqB (wxs Wx σ) W1 H1 Qr (.ok (!t) S1) from h1).at sr1 rfl
theorem slotA_of {E : En} {j : Nat} {d : D} (h : slotV E j = some d) : slotA E j = some d := by
  unfold slotV at h
  unfold slotA
  split at h
  · rename_i z; cases h; rw [z]
  · cases h
theorem brw_of {i : IE} {E : En} {S : Sh} {r : Res D} (e : ev C i E S = r) (nb : r ≠ .bad) : brw i E S (ev C i E S) = r := by
  cases i with
  | v j =>
    unfold ev at e
    show lift (slotA E j) S = r
    cases q : slotV E j with
    | none => rw [q] at e; exact absurd e.symm nb
    | some x => rw [q] at e; rw [slotA_of q]; exact e
  | _ => exact e
theorem Resp.of_bad {α γ δ : Type} {R2 : Wd → Hp → γ → δ → Prop} {W : Wd} {H : Hp} {Wh : WXh} {Qr : δ → Hp → Prop} {kk : α → Sh → Res γ} {r : Res α} (h : Resp T R2 Wh W H Qr (r.bind kk)) : r ≠ .bad := fun e => by
  subst e; exact h
/-- the truth of what is left of a chain of and -/
theorem bind_tst {i : IE} {E : En} {S : Sh} {W : Wd} {H : Hp} {Wh : WXh} {Qr : Bool → Hp → Prop} (h : Resp T EqB Wh W H Qr ((ev C i E S).bind fun x S => lift (truD (drf S x)) S)) : Resp T EqB Wh W H Qr (tst i E S (ev C i E S)) := by
  unfold tst
  rw [brw_of rfl h.of_bad]
  exact h
theorem bind_and {a b : IE} {E : En} {S : Sh} {W : Wd} {σ : L2.St} {H : Hp} {Qr : Bool → Hp → Prop} (h : Resp T EqB (wxs Wx σ) W H Qr (tst (.and a b) E S (ev C (.and a b) E S))) :
    Resp T EqB (wxs Wx σ) W H Qr ((tst a E S (ev C a E S)).bind fun t S => if t = true then tst b E S (ev C b E S) else .ok false S) := by
  have h1 : Resp T EqB (wxs Wx σ) W H Qr (((ev C a E S).bind fun x S => match truD (drf S x) with
    | some true => ev C b E S
    | some false => .ok x S
    | none => .bad).bind fun x S => lift (truD (drf S x)) S) := h
  clear h
  rw [Res.bind_assoc] at h1
  have nb := h1.of_bad
  unfold tst
  rw [Res.bind_assoc, brw_of rfl nb]
  revert h1
  cases ev C a E S with
  | ok d S1 =>
    intro h1
    have h2 : Resp T EqB (wxs Wx σ) W H Qr ((match truD (drf S1 d) with
      | some true => ev C b E S1
      | some false => .ok d S1
      | none => .bad).bind fun x S => lift (truD (drf S x)) S) := h1
    clear h1
    show Resp T EqB (wxs Wx σ) W H Qr ((lift (truD (drf S1 d)) S1).bind _)
    cases z : truD (drf S1 d) with
    | none => rw [z] at h2; exact h2
    | some t =>
      rw [z] at h2
      cases t with
      | true => exact bind_tst h2
      | false =>
        have h3 : Resp T EqB (wxs Wx σ) W H Qr (lift (truD (drf S1 d)) S1) := h2
        rw [z] at h3
        exact h3
  | ex x S1 => intro h1; exact h1
  | bad => intro h1; exact h1
theorem bind_or {a b : IE} {E : En} {S : Sh} {W : Wd} {σ : L2.St} {H : Hp} {Qr : Bool → Hp → Prop} (h : Resp T EqB (wxs Wx σ) W H Qr (tst (.or a b) E S (ev C (.or a b) E S))) :
    Resp T EqB (wxs Wx σ) W H Qr ((tst a E S (ev C a E S)).bind fun t S => if t = true then .ok true S else tst b E S (ev C b E S)) := by
  have h1 : Resp T EqB (wxs Wx σ) W H Qr (((ev C a E S).bind fun x S => match truD (drf S x) with
    | some true => .ok x S
    | some false => ev C b E S
    | none => .bad).bind fun x S => lift (truD (drf S x)) S) := h
  clear h
  rw [Res.bind_assoc] at h1
  have nb := h1.of_bad
  unfold tst
  rw [Res.bind_assoc, brw_of rfl nb]
  revert h1
  cases ev C a E S with
  | ok d S1 =>
    intro h1
    have h2 : Resp T EqB (wxs Wx σ) W H Qr ((match truD (drf S1 d) with
      | some true => (Res.ok d S1 : Res D)
      | some false => ev C b E S1
      | none => .bad).bind fun x S => lift (truD (drf S x)) S) := h1
    clear h1
    show Resp T EqB (wxs Wx σ) W H Qr ((lift (truD (drf S1 d)) S1).bind _)
    cases z : truD (drf S1 d) with
    | none => rw [z] at h2; exact h2
    | some t =>
      rw [z] at h2
      cases t with
      | false => exact bind_tst h2
      | true =>
        have h3 : Resp T EqB (wxs Wx σ) W H Qr (lift (truD (drf S1 d)) S1) := h2
        rw [z] at h3
        exact h3
  | ex x S1 => intro h1; exact h1
  | bad => intro h1; exact h1
theorem w_and {a b : IE} {x y : PySem.Expr} {r : List PySem.Expr} {p : Pos} (ha : PT X x (TTe T H0 Wx C a)) (hb : PW X (.BoolOp .And (y :: r) p) (TTe T H0 Wx C b)) : PW X (.BoolOp .And (x :: y :: r) p) (TTe T H0 Wx C (.and a b)) :=
  PW.imp (pw_and ha hb) fun σ H Qr ⟨W, E, S, sr, fr, h⟩ => by
    refine tR.then sr fr rfl (bind_and h) fun t H1 t' S1 W1 _ st1 sr1 fr1 r1 h1 => ?_
    subst r1
    cases t' with
    | true => exact ⟨W1, E, S1, sr1, fr1, h1⟩
    | false => exact (show Resp T EqB (wxs Wx σ) W1 H1 Qr (.ok false S1) from h1).at sr1 rfl
theorem w_or {a b : IE} {x y : PySem.Expr} {r : List PySem.Expr} {p : Pos} (ha : PT X x (TTe T H0 Wx C a)) (hb : PW X (.BoolOp .Or (y :: r) p) (TTe T H0 Wx C b)) : PW X (.BoolOp .Or (x :: y :: r) p) (TTe T H0 Wx C (.or a b)) :=
  PW.imp (pw_or ha hb) fun σ H Qr ⟨W, E, S, sr, fr, h⟩ => by
    refine tR.then sr fr rfl (bind_or h) fun t H1 t' S1 W1 _ st1 sr1 fr1 r1 h1 => ?_
    subst r1
    cases t' with
    | false => exact ⟨W1, E, S1, sr1, fr1, h1⟩
    | true => exact (show Resp T EqB (wxs Wx σ) W1 H1 Qr (.ok true S1) from h1).at sr1 rfl
theorem s_and {a b : IE} {x : PySem.Expr} {y : PySem.Expr} {r : List PySem.Expr} {p : Pos} (ha : PE X x (TDe T H0 Wx C a)) (hb : PE X (.BoolOp .And (y :: r) p) (TDe T H0 Wx C b)) : PE X (.BoolOp .And (x :: y :: r) p) (TDe T H0 Wx C (.and a b)) :=
  PE.imp (pe_andT ha hb) fun σ H Qr ⟨W, E, S, sr, fr, h⟩ => by
    refine tD.then sr fr (show Resp T (RD T) (wxs Wx σ) W H Qr ((ev C a E S).bind fun x S => match truD (drf S x) with
      | some true => ev C b E S
      | some false => .ok x S
      | none => .bad) from h) fun v H1 d S1 W1 st1 sr1 fr1 r1 h1 => ?_
    cases z : truD (drf S1 d) with
    | none => rw [z] at h1; exact h1.nobad
    | some t =>
      rw [z] at h1
      refine ⟨t, tru_V sr1 z (r1.view sr1), ?_⟩
      cases t with
      | true => exact ⟨W1, E, S1, sr1, fr1, h1⟩
      | false => exact (show Resp T (RD T) (wxs Wx σ) W1 H1 Qr (.ok d S1) from h1).at sr1 r1
theorem s_or {a b : IE} {x : PySem.Expr} {y : PySem.Expr} {r : List PySem.Expr} {p : Pos} (ha : PE X x (TDe T H0 Wx C a)) (hb : PE X (.BoolOp .Or (y :: r) p) (TDe T H0 Wx C b)) : PE X (.BoolOp .Or (x :: y :: r) p) (TDe T H0 Wx C (.or a b)) :=
  PE.imp (pe_orT ha hb) fun σ H Qr ⟨W, E, S, sr, fr, h⟩ => by
    refine tD.then sr fr (show Resp T (RD T) (wxs Wx σ) W H Qr ((ev C a E S).bind fun x S => match truD (drf S x) with
      | some true => .ok x S
      | some false => ev C b E S
      | none => .bad) from h) fun v H1 d S1 W1 st1 sr1 fr1 r1 h1 => ?_
    cases z : truD (drf S1 d) with
    | none => rw [z] at h1; exact h1.nobad
    | some t =>
      rw [z] at h1
      refine ⟨t, tru_V sr1 z (r1.view sr1), ?_⟩
      cases t with
      | false => exact ⟨W1, E, S1, sr1, fr1, h1⟩
      | true => exact (show Resp T (RD T) (wxs Wx σ) W1 H1 Qr (.ok d S1) from h1).at sr1 r1
theorem s_ife {t a b : IE} {x y z : PySem.Expr} {p : Pos} (ht : PT X x (TTe T H0 Wx C t)) (ha : PE X y (TDe T H0 Wx C a)) (hb : PE X z (TDe T H0 Wx C b)) : PE X (.IfExp x y z p) (TDe T H0 Wx C (.ife t a b)) :=
  PE.imp (pe_ifExp ht ha hb) fun σ H Qr ⟨W, E, S, sr, fr, h⟩ => by
    refine tR.then sr fr rfl (show Resp T (RD T) (wxs Wx σ) W H Qr ((tst t E S (ev C t E S)).bind fun t S => match t with
      | true => ev C a E S
      | false => ev C b E S) from h) fun v H1 d S1 W1 _ st1 sr1 fr1 r1 h1 => ?_
    subst r1
    cases d with
    | true => exact ⟨W1, E, S1, sr1, fr1, h1⟩
    | false => exact ⟨W1, E, S1, sr1, fr1, h1⟩
end
end Qv
set_option Elab.async false
set_option linter.all false
set_option maxRecDepth 100000
set_option maxHeartbeats 4000000
/-! The constructs of expressions: the rest. -/
namespace Qv
open PySem PySem.Spec PyProof.Rows L2
section
variable {T : Tb} {Q : Ck} {N : List Str} {C : Calls} {k : Nat} {X : Cx} {sc : Scope} {fnb : Str → Bool} {Wx : WX} {H0 : Hp}

theorem s_neg {a : IE} {x : PySem.Expr} {p : Pos} (ha : PE X x (TDe T H0 Wx C a)) : PE X (.UnaryOp .USub x p) (TDe T H0 Wx C (.neg a)) :=
  PE.imp (pe_un un_neg ha) fun σ H Qr ⟨W, E, S, sr, fr, h⟩ => by
    refine tD.then sr fr (show Resp T (RD T) (wxs Wx σ) W H Qr ((ev C a E S).bind fun x S => match x with
      | .int i => .ok (.int (-i)) S
      | _ => .bad) from h) fun v H1 d S1 W1 st1 sr1 fr1 r1 h1 => ?_
    cases d with
    | int i =>
      cases r1
      exact ⟨i, rfl, (show Resp T (RD T) (wxs Wx σ) W1 H1 Qr (.ok (.int (-i)) S1) from h1).at sr1 (.int _)⟩
    | _ => exact h1.nobad
theorem s_isn {a : IE} {x : PySem.Expr} {j : Nat} {p p' : Pos} (ha : PE X x (TDe T H0 Wx C a)) : PE X (.Compare x [.Is] [.Constant .none j p'] p) (TDe T H0 Wx C (.isn a)) :=
  PE.imp (pe_cmp (pc_isN ha)) fun σ H Qr ⟨W, E, S, sr, fr, h⟩ => by
    refine tD.then sr fr (show Resp T (RD T) (wxs Wx σ) W H Qr ((ev C a E S).bind fun x S => match x with
      | .non => .ok (.bl true) S
      | _ => .ok (.bl false) S) from h) fun v H1 d S1 W1 st1 sr1 fr1 r1 h1 => ?_
    cases r1 with
    | non => exact (show Resp T (RD T) (wxs Wx σ) W1 H1 Qr (.ok (.bl true) S1) from h1).at sr1 (.bl _)
    | _ => exact (show Resp T (RD T) (wxs Wx σ) W1 H1 Qr (.ok (.bl false) S1) from h1).at sr1 (.bl _)
theorem s_nnn {a : IE} {x : PySem.Expr} {j : Nat} {p p' : Pos} (ha : PE X x (TDe T H0 Wx C a)) : PE X (.Compare x [.IsNot] [.Constant .none j p'] p) (TDe T H0 Wx C (.nnn a)) :=
  PE.imp (pe_cmp (pc_notN ha)) fun σ H Qr ⟨W, E, S, sr, fr, h⟩ => by
    refine tD.then sr fr (show Resp T (RD T) (wxs Wx σ) W H Qr ((ev C a E S).bind fun x S => match x with
      | .non => .ok (.bl false) S
      | _ => .ok (.bl true) S) from h) fun v H1 d S1 W1 st1 sr1 fr1 r1 h1 => ?_
    cases r1 with
    | non => exact (show Resp T (RD T) (wxs Wx σ) W1 H1 Qr (.ok (.bl false) S1) from h1).at sr1 (.bl _)
    | _ => exact (show Resp T (RD T) (wxs Wx σ) W1 H1 Qr (.ok (.bl true) S1) from h1).at sr1 (.bl _)
/-- these two, as tests -/
theorem t_isn {a : IE} {x : PySem.Expr} {j : Nat} {p p' : Pos} (ha : PE X x (TDe T H0 Wx C a)) : PT X (.Compare x [.Is] [.Constant .none j p'] p) (TTe T H0 Wx C (.isn a)) :=
  PT.imp (pt_cmp (pc_isN ha)) fun σ H Qr ⟨W, E, S, sr, fr, h⟩ => by
    have h : Resp T EqB (wxs Wx σ) W H Qr (((ev C a E S).bind fun x S => match x with
      | .non => .ok (.bl true) S
      | _ => .ok (.bl false) S).bind fun x S => lift (truD (drf S x)) S) := h
    rw [Res.bind_assoc] at h
    refine tD.then sr fr h fun v H1 d S1 W1 st1 sr1 fr1 r1 h1 => ?_
    cases r1 with
    | non => exact ⟨true, rfl, (show Resp T EqB (wxs Wx σ) W1 H1 Qr (.ok true S1) from h1).at sr1 rfl⟩
    | _ => exact ⟨false, rfl, (show Resp T EqB (wxs Wx σ) W1 H1 Qr (.ok false S1) from h1).at sr1 rfl⟩
theorem t_nnn {a : IE} {x : PySem.Expr} {j : Nat} {p p' : Pos} (ha : PE X x (TDe T H0 Wx C a)) : PT X (.Compare x [.IsNot] [.Constant .none j p'] p) (TTe T H0 Wx C (.nnn a)) :=
  PT.imp (pt_cmp (pc_notN ha)) fun σ H Qr ⟨W, E, S, sr, fr, h⟩ => by
    have h : Resp T EqB (wxs Wx σ) W H Qr (((ev C a E S).bind fun x S => match x with
      | .non => .ok (.bl false) S
      | _ => .ok (.bl true) S).bind fun x S => lift (truD (drf S x)) S) := h
    rw [Res.bind_assoc] at h
    refine tD.then sr fr h fun v H1 d S1 W1 st1 sr1 fr1 r1 h1 => ?_
    cases r1 with
    | non => exact ⟨false, rfl, (show Resp T EqB (wxs Wx σ) W1 H1 Qr (.ok false S1) from h1).at sr1 rfl⟩
    | _ => exact ⟨true, rfl, (show Resp T EqB (wxs Wx σ) W1 H1 Qr (.ok true S1) from h1).at sr1 rfl⟩
/-- x <= y < z -/
abbrev rCmp (T : Tb) (o : CmpO) : R2 := fun x y H Qr => ∃ W S dx dy b, SRel T W S H ∧ View T W H dx x ∧ View T W H dy y ∧ cmpD o dx dy = some b ∧ Qr (.bl b) H
theorem chain_ok {o1 o2 : CmpO} {a b c : IE} {W : Wd} {E : En} {S : Sh} {σ : L2.St} {H : Hp} (sr : SRel T W S H) (fr : FRel T H0 W E σ H)
    {γ δ : Type} {R2 : Wd → Hp → γ → δ → Prop} {Qr : δ → Hp → Prop} {P : V → Hp → Prop} {fin : Bool → Sh → Res γ}
    (h : Resp T R2 (wxs Wx σ) W H Qr ((ev C (.cmpc o1 o2 a b c) E S).bind fun d S => match d with
      | D.bl t => fin t S
      | _ => .bad)) (hP : ∀ W' H' S' bb, SRel T W' S' H' → Resp T R2 (wxs Wx σ) W' H' Qr (fin bb S') → P (.bl bb) H') :
    tChain (rCmp T o1) (rCmp T o2) (TDe T H0 Wx C a) (TDe T H0 Wx C b) (TDe T H0 Wx C c) σ H P := by
  have h : Resp T R2 (wxs Wx σ) W H Qr (((ev C a E S).bind fun x S => (ev C b E S).bind fun y S => (lift (cmpD o1 (drf S x) (drf S y)) S).bind fun t S => match t with
    | true => (ev C c E S).bind fun z S => (lift (cmpD o2 (drf S y) (drf S z)) S).bind fun b S => Res.ok (D.bl b) S
    | false => Res.ok (D.bl false) S).bind fun d S => match d with
      | D.bl t => fin t S
      | _ => .bad) := h
  rw [Res.bind_assoc] at h
  refine tD.then sr fr h fun v H1 d S1 W1 st1 sr1 fr1 r1 h1 => ?_
  rw [Res.bind_assoc] at h1
  refine tD.then sr1 fr1 h1 fun u H2 d2 S2 W2 st2 sr2 fr2 r2 h2 => ?_
  rw [Res.bind_assoc] at h2
  obtain ⟨bb, e, h2⟩ := h2.lift
  refine ⟨W2, S2, _, _, bb, sr2, (r1.mono st2.le).view sr2, r2.view sr2, e, bb, rfl, ?_⟩
  cases bb with
  | false => exact hP W2 H2 S2 false sr2 h2
  | true =>
    have h2 : Resp T R2 (wxs Wx σ) W2 H2 Qr (((ev C c E S2).bind fun z S => (lift (cmpD o2 (drf S d2) (drf S z)) S).bind fun b S => Res.ok (D.bl b) S).bind fun d S => match d with
      | D.bl t => fin t S
      | _ => .bad) := h2
    rw [Res.bind_assoc] at h2
    refine tD.then sr2 fr2 h2 fun z H3 d3 S3 W3 st3 sr3 fr3 r3 h3 => ?_
    rw [Res.bind_assoc] at h3
    obtain ⟨b3, e3, h3⟩ := h3.lift
    exact ⟨W3, S3, _, _, b3, sr3, (r2.mono st3.le).view sr3, r3.view sr3, e3, hP W3 H3 S3 b3 sr3 h3⟩
theorem cmpc_bl {o1 o2 : CmpO} {a b c : IE} {E : En} {S S' : Sh} {d : D} (h : ev C (.cmpc o1 o2 a b c) E S = .ok d S') : ∃ t, d = .bl t := by
  have h : ((ev C a E S).bind fun x S => (ev C b E S).bind fun y S => (lift (cmpD o1 (drf S x) (drf S y)) S).bind fun t S => match t with
    | true => (ev C c E S).bind fun z S => (lift (cmpD o2 (drf S y) (drf S z)) S).bind fun b S => .ok (.bl b) S
    | false => .ok (.bl false) S) = .ok d S' := h
  cases q1 : ev C a E S with
  | ok x S1 =>
    rw [q1] at h
    replace h : ((ev C b E S1).bind fun y S => (lift (cmpD o1 (drf S x) (drf S y)) S).bind fun t S => match t with
      | true => (ev C c E S).bind fun z S => (lift (cmpD o2 (drf S y) (drf S z)) S).bind fun b S => .ok (.bl b) S
      | false => .ok (.bl false) S) = .ok d S' := h
    cases q2 : ev C b E S1 with
    | ok y S2 =>
      rw [q2] at h
      replace h : ((lift (cmpD o1 (drf S2 x) (drf S2 y)) S2).bind fun t S => match t with
        | true => (ev C c E S).bind fun z S => (lift (cmpD o2 (drf S y) (drf S z)) S).bind fun b S => .ok (.bl b) S
        | false => .ok (.bl false) S) = .ok d S' := h
      cases q3 : cmpD o1 (drf S2 x) (drf S2 y) with
      | none => rw [q3] at h; cases h
      | some t =>
        rw [q3] at h
        cases t with
        | false => cases (show Res.ok (.bl false) S2 = Res.ok d S' from h); exact ⟨_, rfl⟩
        | true =>
          replace h : ((ev C c E S2).bind fun z S => (lift (cmpD o2 (drf S y) (drf S z)) S).bind fun b S => .ok (.bl b) S) = .ok d S' := h
          cases q4 : ev C c E S2 with
          | ok z S3 =>
            rw [q4] at h
            replace h : ((lift (cmpD o2 (drf S3 y) (drf S3 z)) S3).bind fun b S => .ok (.bl b) S) = .ok d S' := h
            cases q5 : cmpD o2 (drf S3 y) (drf S3 z) with
            | none => rw [q5] at h; cases h
            | some t => rw [q5] at h; cases (show Res.ok (.bl t) S3 = Res.ok d S' from h); exact ⟨_, rfl⟩
          | ex _ _ => rw [q4] at h; cases h
          | bad => rw [q4] at h; cases h
    | ex _ _ => rw [q2] at h; cases h
    | bad => rw [q2] at h; cases h
  | ex _ _ => rw [q1] at h; cases h
  | bad => rw [q1] at h; cases h
theorem s_cmpc (g : Gd T Q N C k X sc fnb Wx) {o1 o2 : CmpO} {a b c : IE} {x y z : PySem.Expr} {p : Pos} (hm : plainX z = true) (ha : PE X x (TDe T H0 Wx C a)) (hb : PE X y (TDe T H0 Wx C b)) (hc : PE X z (TDe T H0 Wx C c)) :
    PE X (.Compare x [cmOf o1, cmOf o2] [y, z] p) (TDe T H0 Wx C (.cmpc o1 o2 a b c)) :=
  PE.imp (pe_chain (op_cmp g o1) (op_cmp g o2) ha hb hc (plain_mark _ hm)) fun σ H Qr ⟨W, E, S, sr, fr, h⟩ => by
    refine chain_ok (R2 := RD T) (Qr := Qr) (fin := fun b S => .ok (.bl b) S) sr fr ?_ fun W' H' S' bb sr' h' => (show Resp T (RD T) (wxs Wx σ) W' H' Qr (.ok (.bl bb) S') from h').at sr' (.bl bb)
    cases q : ev C (.cmpc o1 o2 a b c) E S with
    | ok d S1 => rw [q] at h; obtain ⟨t, rfl⟩ := cmpc_bl q; exact h
    | ex _ _ => rw [q] at h; exact h
    | bad => rw [q] at h; exact h
theorem t_cmpc (g : Gd T Q N C k X sc fnb Wx) {o1 o2 : CmpO} {a b c : IE} {x y z : PySem.Expr} {p : Pos} (hm : plainX z = true) (ha : PE X x (TDe T H0 Wx C a)) (hb : PE X y (TDe T H0 Wx C b)) (hc : PE X z (TDe T H0 Wx C c)) :
    PT X (.Compare x [cmOf o1, cmOf o2] [y, z] p) (TTe T H0 Wx C (.cmpc o1 o2 a b c)) :=
  PT.imp (pt_chain (op_cmp g o1) (op_cmp g o2) ha hb hc (plain_mark _ hm)) fun σ H Qr ⟨W, E, S, sr, fr, h⟩ => by
    refine chain_ok (R2 := EqB) (Qr := Qr) (fin := fun b S => .ok b S) sr fr ?_ fun W' H' S' bb sr' h' => ⟨bb, rfl, (show Resp T EqB (wxs Wx σ) W' H' Qr (.ok bb S') from h').at sr' rfl⟩
    have h : Resp T EqB (wxs Wx σ) W H Qr ((ev C (.cmpc o1 o2 a b c) E S).bind fun x S => lift (truD (drf S x)) S) := h
    cases q : ev C (.cmpc o1 o2 a b c) E S with
    | ok d S1 => rw [q] at h; obtain ⟨t, rfl⟩ := cmpc_bl q; exact h
    | ex _ _ => rw [q] at h; exact h
    | bad => rw [q] at h; exact h

/-! ### subscripts, slices, fields -/
theorem ix_all : IxR X (fun x y H Qr => ∃ W S dx dy z, SRel T W S H ∧ View T W H dx x ∧ Rep T W dy y ∧ ixD dx dy = some z ∧ ∀ v, Rep T W z v → Qr v H) := by
  intro value slice pins s σ H x y v u Qr I rx ry ⟨W, S, dx, dy, z, sr, h1, h2, e, hq⟩ hs
  exact ix_ok I sr e h1 h2 rx ry hs hq
theorem s_ix {a b : IE} {x y : PySem.Expr} {p : Pos} (hp : plainX y = true) (ha : PE X x (TAe T H0 Wx C a)) (hb : PE X y (TDe T H0 Wx C b)) : PE X (.Subscript x y p) (TDe T H0 Wx C (.ix a b)) :=
  PE.imp (pe_ix ix_all ha hb (plain_ix hp)) fun σ H Qr ⟨W, E, S, sr, fr, h⟩ => by
    refine tA.then sr fr (show Resp T (RD T) (wxs Wx σ) W H Qr ((brw a E S (ev C a E S)).bind fun x S => (ev C b E S).bind fun y S => lift (ixD (drf S x) y) S) from h) fun v H1 d S1 W1 st1 sr1 fr1 r1 h1 => ?_
    refine tD.then sr1 fr1 h1 fun u H2 d2 S2 W2 st2 sr2 fr2 r2 h2 => ?_
    obtain ⟨z, e, h2⟩ := h2.lift1
    exact ⟨W2, S2, _, _, z, sr2, (RA.stp sr1 st2 r1).view sr2, r2, e, fun v' r => h2.at sr2 r⟩
/-- a part of a slice -/
def tO (T : Tb) (H0 : Hp) (Wx : WX) (C : Calls) (o : IO) : TO := tR T H0 Wx (fun _ _ (a : Option Int) b => a = b) (evO C o)
theorem o_no : PO X none (tO T H0 Wx C .no) := by
  refine ⟨fun pins s σ H Qr I ⟨W, E, S, sr, fr, h⟩ => ?_⟩
  exact po_none.run pins s σ H Qr I (h.at sr rfl)
theorem o_ye {a : IE} {x : PySem.Expr} (ha : PE X x (TDe T H0 Wx C a)) : PO X (some x) (tO T H0 Wx C (.ye a)) := by
  refine ⟨fun pins s σ H Qr I ⟨W, E, S, sr, fr, h⟩ => ?_⟩
  refine (po_some ha).run pins s σ H Qr I ?_
  refine tD.then sr fr (show Resp T (fun _ _ (a : Option Int) b => a = b) (wxs Wx σ) W H Qr ((ev C a E S).bind fun x S => match x with
    | .int i => .ok (some i) S
    | _ => .bad) from h) fun v H1 d S1 W1 st1 sr1 fr1 r1 h1 => ?_
  cases d with
  | int i =>
    cases r1
    exact ⟨i, rfl, (show Resp T (fun _ _ (a : Option Int) b => a = b) (wxs Wx σ) W1 H1 Qr (.ok (some i) S1) from h1).at sr1 rfl⟩
  | _ => exact h1.nobad
theorem s_sl (g : Gd T Q N C k X sc fnb Wx) {a : IE} {lo hi : IO} {x : PySem.Expr} {l h : Option PySem.Expr} {p p2 : Pos} (ha : PE X x (TAe T H0 Wx C a)) (hl : PO X l (tO T H0 Wx C lo)) (hh : PO X h (tO T H0 Wx C hi)) : PE X (.Subscript x (.Slice l h none p2) p) (TDe T H0 Wx C (.sl a lo hi)) :=
  PE.imp (pe_slice (sl_ok (T := T) g.st.kl) ha hl hh) fun σ H Qr ⟨W, E, S, sr, fr, h⟩ => by
    refine tA.then sr fr (show Resp T (RD T) (wxs Wx σ) W H Qr ((brw a E S (ev C a E S)).bind fun x S => (evO C lo E S).bind fun l S => (evO C hi E S).bind fun h S => lift (slD (drf S x) l h) S) from h) fun v H1 d S1 W1 st1 sr1 fr1 r1 h1 => ?_
    refine tR.then sr1 fr1 rfl h1 fun u H2 d2 S2 W2 _ st2 sr2 fr2 r2 h2 => ?_
    refine tR.then sr2 fr2 rfl h2 fun u3 H3 d3 S3 W3 _ st3 sr3 fr3 r3 h3 => ?_
    subst r2 r3
    obtain ⟨z, e, h3⟩ := h3.lift1
    exact ⟨W3, S3, _, z, sr3, (RA.stp sr1 (st2.trans st3) r1).view sr3, e, fun W' H' v' s1 s2 s3 => h3 W' H' v' s1 s2 s3⟩
theorem s_at (g : Gd T Q N C k X sc fnb Wx) {a : IE} {f : Nat} {x : PySem.Expr} {p : Pos} (hn : nca x = true) (hf : Q.fld f = true) (ha : PE X x (TDe T H0 Wx C a)) : PE X (.Attribute x (Q.nm f) p) (TDe T H0 Wx C (.at a f)) :=
  PE.imp (pe_fld ha (nca_base hn)) fun σ H Qr ⟨W, E, S, sr, fr, h⟩ => by
    refine tD.then sr fr (show Resp T (RD T) (wxs Wx σ) W H Qr ((ev C a E S).bind fun x S => lift (atD S f x) S) from h) fun v H1 d S1 W1 st1 sr1 fr1 r1 h1 => ?_
    obtain ⟨z, e, h2⟩ := h1.lift1
    rw [← g.st.nm]
    unfold atD at e
    split at e
    · cases r1 with
      | ins hc e1 e2 rf =>
        obtain ⟨c1, c2⟩ := g.st.at_ _ f hc hf
        obtain ⟨u, q1, q2⟩ := rf.look g.st.inj e
        exact ⟨_, _, _, _, u, rfl, sr1.sub _ _ e1, c1, c2, q1, Resp.at (R := RD T) h2 sr1 q2⟩
    · split at e
      · rename_i q
        cases r1 with
        | ref e1 =>
          obtain ⟨dx, fv, hc, o1, o2, rf⟩ := sr1.obs _ _ _ e1 q
          obtain ⟨c1, c2⟩ := g.st.at_ _ f hc hf
          obtain ⟨u, q1, q2⟩ := rf.look g.st.inj e
          exact ⟨_, _, _, _, u, rfl, o1, c1, c2, q1, Resp.at (R := RD T) h2 sr1 q2⟩
      · cases e
    · cases e
/-! ### built-ins -/
theorem s_bi (g : Gd T Q N C k X sc fnb Wx) {b : BI} {es : IEs} {y : PySem.Expr} {xs : List PySem.Expr} {p p' : Pos} (hsu : (!Q.su || !biCalm b) = true) (hg : glB sc (biN b) = true) (hs : ∀ e ∈ y :: xs, nst e = true) (ha : PA X (y :: xs) (tAs T H0 Wx (evAs C es))) :
    PE X (.Call (.Name (biN b) p') (y :: xs) [] p) (TDe T H0 Wx C (.bi b es)) := by
  have hm := g.st.bn _ (biN_mem b)
  have call : PE X (.Call (.Name (biN b) p') (y :: xs) [] p) (tCB (rBI T b) (tAs T H0 Wx (evAs C es))) := by
    have st := star_of (env := X.env) (es := xs) (hs y List.mem_cons_self)
    have sp := star_plain (env := X.env) (pos := p) fun e he => hs e (List.mem_cons_of_mem _ he)
    have c := bi_ok (T := T) g.st.kl b fun z => g.calm (by rw [z] at hsu; simpa using hsu)
    have bo := biN_boot b
    have nn := bn_name _ (biN_mem b)
    have nd := bn_dbg _ (biN_mem b)
    cases b <;> first
      | exact pe_callB c (glB_ok g hg) hm bo ha nn nd st sp
      | exact pe_callTy c (glB_ok g hg) hm bo ha nn nd st sp
  refine PE.imp call fun σ H Qr ⟨W, E, S, sr, fr, h⟩ => ?_
  refine tR.then sr fr rfl (show Resp T (RD T) (wxs Wx σ) W H Qr ((evAs C es E S).bind fun ds S => lift (biD b (ds.map (drf S))) S) from h) fun vs H1 ds S1 W1 _ st1 sr1 fr1 r1 h1 => ?_
  obtain ⟨z, e, h1⟩ := h1.lift1
  exact ⟨W1, S1, _, z, sr1, RAs.views sr1 r1, e, fun W' H' v' s1 s2 s3 => h1 W' H' v' s1 s2 s3⟩
/-! ### is True, [::-1], {}, what a suite holds -/
theorem op_isD {b n : Bool} : OpR X (compareOp (if n then CmpOp.IsNot else CmpOp.Is)) (fun x y H Qr => ∃ c : Bool, x = .bl c ∧ y = .bl b ∧ Qr (.bl (if n then !decide (c = b) else decide (c = b))) H) := by
  intro pins s σ H x y v u Qr I rx ry ⟨c, e1, e2, q⟩
  cases n with
  | true => exact op_notBl pins s σ H x y v u Qr I rx ry ⟨c, b, e1, e2, q⟩
  | false => exact op_isBl pins s σ H x y v u Qr I rx ry ⟨c, b, e1, e2, q⟩
theorem s_is {b n : Bool} {a : IE} {x : PySem.Expr} {j : Nat} {p p' : Pos} (ha : PE X x (TDe T H0 Wx C a)) : PE X (.Compare x [if n then CmpOp.IsNot else CmpOp.Is] [.Constant (.bool b) j p'] p) (TDe T H0 Wx C (.is b n a)) :=
  PE.imp (pe_cmpR (op_isD (b := b) (n := n)) ha pe_bl (by cases n <;> rfl)) fun σ H Qr ⟨W, E, S, sr, fr, h⟩ => by
    have h : Resp T (RD T) (wxs Wx σ) W H Qr ((ev C a E S).bind fun x S => match x with
      | .bl c => .ok (.bl (if n then !decide (c = b) else decide (c = b))) S
      | _ => .bad) := h
    refine tD.then sr fr h fun v H1 d S1 W1 st1 sr1 fr1 r1 h1 => ?_
    cases d with
    | bl c =>
      cases r1
      exact ⟨c, rfl, rfl, h1.at sr1 (.bl _)⟩
    | _ => exact h1.nobad
theorem t_is {b n : Bool} {a : IE} {x : PySem.Expr} {j : Nat} {p p' : Pos} (ha : PE X x (TDe T H0 Wx C a)) : PT X (.Compare x [if n then CmpOp.IsNot else CmpOp.Is] [.Constant (.bool b) j p'] p) (TTe T H0 Wx C (.is b n a)) :=
  PT.imp (pt_cmpR (op_isD (b := b) (n := n)) ha pe_bl (by cases n <;> rfl)) fun σ H Qr ⟨W, E, S, sr, fr, h⟩ => by
    have h : Resp T EqB (wxs Wx σ) W H Qr (((ev C a E S).bind fun x S => match x with
      | .bl c => .ok (.bl (if n then !decide (c = b) else decide (c = b))) S
      | _ => .bad).bind fun x S => lift (truD (drf S x)) S) := h
    rw [Res.bind_assoc] at h
    refine tD.then sr fr h fun v H1 d S1 W1 st1 sr1 fr1 r1 h1 => ?_
    cases d with
    | bl c =>
      cases r1
      exact ⟨c, rfl, rfl, _, rfl, (show Resp T EqB (wxs Wx σ) W1 H1 Qr (.ok (if n then !decide (c = b) else decide (c = b)) S1) from h1).at sr1 rfl⟩
    | _ => exact h1.nobad
theorem s_rev {a : IE} {x : PySem.Expr} {k1 : Nat} {p1 p2 p3 p : Pos} (ha : PE X x (TAe T H0 Wx C a)) : PE X (.Subscript x (.Slice none none (some (.UnaryOp .USub (.Constant (.int 1) k1 p1) p2)) p3) p) (TDe T H0 Wx C (.rev a)) :=
  PE.imp (Qx.pe_rev ha) fun σ H Qr ⟨W, E, S, sr, fr, h⟩ => by
    have h : Resp T (RD T) (wxs Wx σ) W H Qr ((brw a E S (ev C a E S)).bind fun x S => lift (revD (drf S x)) S) := h
    refine tA.then sr fr h fun v H1 d S1 W1 st1 sr1 fr1 r1 h1 => ?_
    obtain ⟨z, e, h2⟩ := h1.lift1
    have vw := r1.view sr1
    unfold revD at e
    split at e
    · rename_i xs q
      cases e
      rw [q] at vw
      obtain ⟨b, vs, rfl, gb, rb⟩ := vw.tup
      refine ⟨b, vs, rfl, .inl ⟨SqT.of (sr1.sub _ _ gb), fun p hp => ?_⟩⟩
      obtain ⟨n1, n2, n3⟩ := newTup sr1 rb.reverse hp
      exact h2 _ _ _ n1 n2 n3
    · rename_i xs q
      cases e
      rw [q] at vw
      obtain ⟨b, vs, rfl, gb, rb⟩ := vw
      refine ⟨b, vs, rfl, .inr ⟨SqL.of gb, fun p hp => ?_⟩⟩
      obtain ⟨n1, n2, n3⟩ := newLst sr1 rb.reverse hp
      exact h2 _ _ _ n1 n2 n3
    · cases e
theorem s_dic0 {p : Pos} : PE X (.Dict [] [] p) (TDe T H0 Wx C .dic0) :=
  PE.imp pe_dnewK fun σ H Qr ⟨W, E, S, sr, fr, h⟩ => fun p hp => by
    have h : Resp T (RD T) (wxs Wx σ) W H Qr (.ok (.dic []) S) := h
    obtain ⟨h1, h2⟩ := sr.laid (o := .dK []) hp
    exact h _ _ _ h2 h1 (.dic0 (show upd W.G p _ p = _ from upd_same))
theorem s_xis (g : Gd T Q N C k X sc fnb Wx) {i n : Nat} {x : PySem.Expr} (ok : okE Q N sc (.xis i n) x = true) : PE X x (TDe T H0 Wx C (.xis i n)) := by
  unfold okE at ok
  split at ok
  · rename_i x px y py z pz p
    simp only [Bool.and_eq_true, decide_eq_true_eq] at ok
    obtain ⟨⟨⟨⟨⟨⟨⟨⟨o1, rfl⟩, o3⟩, o4⟩, o5⟩, o6⟩, rfl⟩, o8⟩, o9⟩ := ok
    obtain ⟨X0, oe, pn, eX, hz, hf⟩ := g.su o1
    have hgl := glB_ok g o3
    have hgz := glB_ok g o8
    have hbn := g.st.bn "isinstance" (by decide +kernel)
    have hv := visB_ok g o5
    have vN : X.N[i]? = some y := by rw [g.N]; exact o4
    refine ⟨fun pins s σ H Qr I ⟨W, E, S, sr, fr, h⟩ => ?_⟩
    have h : Resp T (RD T) (wxs Wx σ) W H Qr (match E[i]? with
      | some (some (.xv c _)) => (lift (C.sub c n) S).bind fun b S => .ok (.bl b) S
      | _ => .bad) := h
    split at h
    · rename_i c fs0 eE
      obtain ⟨b, eb, h⟩ := h.lift
      obtain ⟨xc, u, v, hu, rv, uni, _, hk⟩ := g.st.sub c n b eb
      obtain ⟨es, hx⟩ := fr.at_ i _ eE
      obtain ⟨xc1, hx⟩ := hx
      have xd : ∀ dx, T.xd = some dx → ∃ fs, H dx = some (.xd fs) := fun dx e => by
        rcases hx with ⟨_, e0⟩ | ⟨dx', fv, _, e1, e2, _⟩
        · rw [e0] at e; cases e
        · rw [e1] at e
          cases e
          exact ⟨fv, sr.sub _ _ e2⟩
      have pez : PE X (.Name (Q.nm n) pz) (fun _ H Q => Q v H) := by
        refine ⟨fun pins s σ H Qr I h => ?_⟩
        rw [g.st.nm] at hu
        rcases hu with m1 | ⟨m0, mn, m1⟩
        · exact ld_glob I hgz m1 ⟨v, H, I, rv, h⟩ (okName_ok o9).1
        · exact ld_blt I hgz m0 m1 ⟨v, H, I, rv, h⟩ mn (okName_ok o9).1
      have peN : PE X (.Name y py) (tVar i) := pe_var vN hv (okName_ok o6).1 (okName_ok o6).2
      have call : CallR X (.builtin "isinstance") (fun xs H Q => (∀ dx, T.xd = some dx → ∃ fs, H dx = some (.xd fs)) ∧ rIsE X.K (T.ad c) T.xa xs H Q) := by
        subst eX
        exact Qx.call_isX xc (by rw [← xc1]; exact hz) hf
      have pe := pe_callB (X := X) (p := px) (pos := p) call hgl hbn (by rfl) (pa_cons peN (pa_cons pez pa_nil)) (by decide) (by decide)
      refine pe.run pins s σ H Qr I ?_
      exact ⟨_, es, xd, v, u, b, rfl, uni, hk, h.at sr (.bl b)⟩
    · exact h.nobad
  · cases ok
theorem s_xat (g : Gd T Q N C k X sc fnb Wx) {i f : Nat} {x : PySem.Expr} (ok : okE Q N sc (.xat i f) x = true) : PE X x (TDe T H0 Wx C (.xat i f)) := by
  unfold okE at ok
  split at ok
  · rename_i y py m p
    simp only [Bool.and_eq_true, decide_eq_true_eq] at ok
    obtain ⟨⟨⟨⟨o1, o4⟩, o5⟩, o6⟩, rfl⟩ := ok
    obtain ⟨X0, oe, pn, eX, hz, hf⟩ := g.su o1
    have hv := visB_ok g o5
    have vN : X.N[i]? = some y := by rw [g.N]; exact o4
    have peN : PE X (.Name y py) (tVar i) := pe_var vN hv (okName_ok o6).1 (okName_ok o6).2
    refine ⟨fun pins s σ H Qr I ⟨W, E, S, sr, fr, h⟩ => ?_⟩
    have h : Resp T (RD T) (wxs Wx σ) W H Qr (match E[i]? with
      | some (some (.xv c fs)) => (match C.exn c with
        | some fl => if fl.contains f then lift (fs.lookup f) S else .bad
        | none => .bad)
      | _ => .bad) := h
    split at h
    · rename_i c fs eE
      split at h
      · rename_i fl ec
        split at h
        · rename_i hm
          obtain ⟨d, ed, h⟩ := h.lift1
          obtain ⟨xf, na⟩ := g.st.xat c fl f ec (by simpa using hm)
          obtain ⟨es, xc, hx⟩ := fr.at_ i _ eE
          rcases hx with ⟨rfl, _⟩ | ⟨dx, fv, _, exd, gd, rf⟩
          · cases ed
          · obtain ⟨v, lv, rv⟩ := rf.look g.st.inj ed
            rw [g.st.nm] at na lv
            have run := fun (pe : PE X (.Attribute (.Name y py) (Q.nm f) p) (tXf T.xa T.xc T.xd (T.ad c) (Q.nm f) (tVar i))) => pe.run pins s σ H Qr I ⟨_, es, rfl, xc, dx, fv, v, exd, sr.sub _ _ gd, lv, h.at sr rv⟩
            refine run ?_
            subst eX
            exact pe_xf (X := X0) xf na hz hf peN
        · exact h.nobad
      · exact h.nobad
    · exact h.nobad
  · cases ok
theorem raiseD_nil : ∀ {o : Option (List Nat)} {c : Nat} {x : D}, raiseD o c [] = some x → x = .exc c []
  | some [], _, _, h => by cases h; rfl
  | some [_], _, _, h => by cases h
  | some (_ :: _ :: _), _, _, h => by cases h
  | none, _, _, h => by cases h
theorem s_exv0 (g : Gd T Q N C k X sc fnb Wx) {c : Nat} {p1 p2 : Pos} (hc : Q.exc c = true) (hg : glB sc (Q.nm c) = true) (hn : okName (Q.nm c) = true) : PE X (.Call (.Name (Q.nm c) p1) [] [] p2) (TDe T H0 Wx C (.exv c .nil)) := by
  obtain ⟨hm, xo⟩ := g.st.exc c hc
  rw [g.st.nm] at hm
  refine PE.imp (Qx.pe_exc0 PySem.F.excBase_ValueError xo.ex hm xo.kp (glB_ok g hg) (okName_ok hn).1) fun σ H Qr ⟨W, E, S, sr, fr, h⟩ a ha => ?_
  have h : Resp T (RD T) (wxs Wx σ) W H Qr (lift (raiseD (C.exn c) c []) S) := h
  obtain ⟨z, e, h2⟩ := h.lift1
  obtain rfl := raiseD_nil e
  obtain ⟨n1, n2⟩ := sr.laid (o := exo a (T.ad c) none) ha
  exact h2 _ _ _ n2 n1 (.exc0 (show upd W.G a _ a = _ from upd_same))
theorem heap2 {H1 : Hp} {a dx : Addr} {o1 o2 o3 : HO} (ne : dx ≠ a) : upd (upd (upd H1 a o1) dx o2) a o3 = upd (upd H1 dx o2) a o3 := by
  funext b
  by_cases h : b = a
  · rw [h, upd_same, upd_same]
  · rw [upd_ne h, upd_ne h]
    by_cases h2 : b = dx
    · rw [h2, upd_same, upd_same]
    · rw [upd_ne h2, upd_ne h2, upd_ne h]
theorem new2 {W : Wd} {S : Sh} {H : Hp} {c f : Nat} {d : D} {v : V} {a dx : Addr} (sr : SRel T W S H) (r : Rep T W d v) (ha : H a = none) (hd : H dx = none) (ne : dx ≠ a) :
    ∃ W', Stp W H W' (upd (upd (upd H a (exo a (T.ad c) none)) dx (exd dx [(T.nm f, v)])) a (exo a (T.ad c) (some dx))) ∧ SRel T W' S (upd (upd (upd H a (exo a (T.ad c) none)) dx (exd dx [(T.nm f, v)])) a (exo a (T.ad c) (some dx))) ∧ Rep T W' (.exc c [(f, d)]) (.ref a) ∧ Rep T W' d v := by
  rw [heap2 ne]
  obtain ⟨n1, n2⟩ := sr.laid (o := exd dx [(T.nm f, v)]) hd
  obtain ⟨m1, m2⟩ := n1.laid (a := a) (o := exo a (T.ad c) (some dx)) (by rw [upd_ne (Ne.symm ne)]; exact ha)
  refine ⟨_, n2.trans m2, m1, .exc1 (show upd _ a _ a = _ from upd_same) (by show upd (upd W.G dx _) a _ dx = _; rw [upd_ne ne, upd_same]) (r.mono (n2.le.trans m2.le)), r.mono (n2.le.trans m2.le)⟩
theorem s_exv1 (g : Gd T Q N C k X sc fnb Wx) {c : Nat} {a : IE} {v : PySem.Expr} {p1 p2 : Pos} (hsu : Q.su = false) (hc : Q.exf c = true) (hg : glB sc (Q.nm c) = true) (hn : okName (Q.nm c) = true) (hs : nst v = true) (ha : PE X v (TDe T H0 Wx C a)) :
    PE X (.Call (.Name (Q.nm c) p1) [v] [] p2) (TDe T H0 Wx C (.exv c (.cons a .nil))) := by
  obtain ⟨f, hex, hm, so⟩ := g.st.exf c hc
  rw [g.st.nm] at hm
  refine PE.imp (Qx.pe_exc1v so ((g.room hsu).mono (by omega)) (glB_ok g hg) hm ha (okName_ok hn).1 (star_of hs)) fun σ H Qr ⟨W, E, S, sr, fr, h⟩ => ?_
  have h : Resp T (RD T) (wxs Wx σ) W H Qr (((ev C a E S).bind fun x S => Res.ok [x] S).bind fun ds S => lift (raiseD (C.exn c) c ds) S) := h
  rw [Res.bind_assoc] at h
  refine tD.then sr fr h fun y H1 d S1 W1 st1 sr1 fr1 r1 h1 => ?_
  intro b dx hb hd ne
  have h1 : Resp T (RD T) (wxs Wx σ) W1 H1 Qr (lift (raiseD (C.exn c) c [d]) S1) := h1
  rw [hex] at h1
  obtain ⟨W', q1, q2, q3, q4⟩ := new2 (c := c) (f := f) sr1 r1 hb hd ne
  exact (show Resp T (RD T) (wxs Wx σ) W1 H1 Qr (.ok (.exc c [(f, d)]) S1) from h1) W' _ _ q1 q2 q3
theorem s_exf (g : Gd T Q N C k X sc fnb Wx) {c f : Nat} {a : IE} {v : PySem.Expr} {p1 p2 p3 : Pos} (hsu : Q.su = false) (hc : Q.exf c = true) (hg : glB sc (Q.nm c) = true) (hn : okName (Q.nm c) = true) (hs : nst v = true) (ha : PE X v (TDe T H0 Wx C a)) :
    PE X (.Attribute (.Call (.Name (Q.nm c) p1) [v] [] p2) (Q.nm f) p3) (TDe T H0 Wx C (.exf c f a)) := by
  obtain ⟨f', hex, hm, so⟩ := g.st.exf c hc
  rw [g.st.nm] at hm
  by_cases hf : f' = f
  · subst hf
    obtain ⟨xf, _⟩ := g.st.xat c [f'] f' hex List.mem_cons_self
    rw [← g.st.nm] at hm hg hn ⊢
    have hg2 : glB sc (T.nm c) = true := hg
    refine PE.imp (Qx.pe_excf so xf ((g.room hsu).mono (by omega)) (glB_ok g hg2) hm ha (okName_ok hn).1 (star_of hs)) fun σ H Qr ⟨W, E, S, sr, fr, h⟩ => ?_
    have h : Resp T (RD T) (wxs Wx σ) W H Qr ((ev C a E S).bind fun d S => if C.exn c = some [f'] then .ok d S else .bad) := h
    refine tD.then sr fr h fun y H1 d S1 W1 st1 sr1 fr1 r1 h1 => ?_
    rw [if_pos hex] at h1
    refine Qx.fldW fun b dx hb hd ne => ?_
    obtain ⟨W', q1, q2, q3, q4⟩ := new2 (c := c) (f := f') sr1 r1 hb hd ne
    exact h1 W' _ _ q1 q2 q4
  · refine ⟨fun pins s σ H Qr I ⟨W, E, S, sr, fr, h⟩ => ?_⟩
    have h : Resp T (RD T) (wxs Wx σ) W H Qr ((ev C a E S).bind fun d S => if C.exn c = some [f] then .ok d S else .bad) := h
    have no : ¬ (C.exn c = some [f]) := fun e => hf (by rw [hex] at e; cases e; rfl)
    simp only [if_neg no] at h
    refine attr_of (by rfl) (thn ((Qx.pe_exc1v so ((g.room hsu).mono (by omega)) (glB_ok g hg) hm ha (okName_ok hn).1 (star_of hs)).run pins s σ H (fun _ _ => False) I ?_) fun u s1 ⟨v, H2, I2, rv, q⟩ => q.elim)
    exact tD.then sr fr h fun y H1 d S1 W1 st1 sr1 fr1 r1 h1 => h1.nobad
theorem s_xiv (g : Gd T Q N C k X sc fnb Wx) {a : IE} {n : Nat} {v : PySem.Expr} {p1 p2 p3 : Pos} (hg : glB sc (Str.ofString "isinstance") = true) (hs : nst v = true) (hh : Q.hnd n = true) (hgz : glB sc (Q.nm n) = true) (hn : okName (Q.nm n) = true) (ha : PE X v (TDe T H0 Wx C a)) :
    PE X (.Call (.Name "isinstance" p1) [v, .Name (Q.nm n) p2] [] p3) (TDe T H0 Wx C (.xiv a n)) := by
  have hgl := glB_ok g hg
  have hgz := glB_ok g hgz
  have hbn := g.st.bn "isinstance" (by decide +kernel)
  obtain ⟨u, hu⟩ := g.st.hnd n hh
  have pez : PE X (.Name (Q.nm n) p2) (fun _ H Q => ∃ v, RelV v u ∧ Q v H) := by
    refine ⟨fun pins s σ H Qr I ⟨v, rv, h⟩ => ?_⟩
    rw [g.st.nm] at hu
    rcases hu with m1 | ⟨m0, mn, m1⟩
    · exact ld_glob I hgz m1 ⟨v, H, I, rv, h⟩ (okName_ok hn).1
    · exact ld_blt I hgz m0 m1 ⟨v, H, I, rv, h⟩ mn (okName_ok hn).1
  refine PE.imp (pe_callB (X := X) (p := p1) (pos := p3) Qx.call_isV hgl hbn (by rfl) (pa_cons' hs ha (pa_cons pez pa_nil)) (by decide) (by decide) (star_of hs) (by rfl)) fun σ H Qr ⟨W, E, S, sr, fr, h⟩ => ?_
  have h : Resp T (RD T) (wxs Wx σ) W H Qr ((ev C a E S).bind fun x S => match x with
    | .exc c _ => (lift (C.sub c n) S).bind fun b S => .ok (.bl b) S
    | _ => .bad) := h
  refine tD.then sr fr h fun x H1 d S1 W1 st1 sr1 fr1 r1 h1 => ?_
  cases d with
  | exc c fs =>
    obtain ⟨b, eb, h2⟩ := Resp.lift (show Resp T (RD T) (wxs Wx σ) W1 H1 Qr ((lift (C.sub c n) S1).bind fun b S => .ok (.bl b) S) from h1)
    obtain ⟨xc, u', v, hu', rv, uni, _, hk⟩ := g.st.sub c n b eb
    obtain rfl := Stands.uni hu hu'
    refine ⟨v, rv, ?_⟩
    cases r1 with
    | exc0 e => exact ⟨_, T.ad c, none, v, u, b, rfl, sr1.sub _ _ e, fun dx z => (by cases z), xc, uni, hk, h2.at sr1 (.bl b)⟩
    | exc1 e e2 r => exact ⟨_, T.ad c, some _, v, u, b, rfl, sr1.sub _ _ e, fun dx z => (by cases z; exact ⟨_, sr1.sub _ _ e2⟩), xc, uni, hk, h2.at sr1 (.bl b)⟩
  | _ => exact h1.nobad
theorem s_cnt {a : IE} {o : PySem.Expr} {b : Bool} {p1 p2 p3 : Pos} {j : Nat} (hab : abB o = true) (hl : (p1.endLine == p2.line) = true) (ha : PE X o (TAe T H0 Wx C a)) : PE X (.Call (.Attribute o "count" p1) [.Constant (.bool b) j p3] [] p2) (TDe T H0 Wx C (.cnt a b)) :=
  PE.imp (Qx.pe_cntB ha pe_bl (abB_ok hab) hl (by rfl)) fun σ H Qr ⟨W, E, S, sr, fr, h⟩ => by
    have h : Resp T (RD T) (wxs Wx σ) W H Qr ((brw a E S (ev C a E S)).bind fun x S => lift (cntD (drf S x) b) S) := h
    refine tA.then sr fr h fun v H1 d S1 W1 st1 sr1 fr1 r1 h1 => ?_
    obtain ⟨z, e, h2⟩ := h1.lift1
    have vw := r1.view sr1
    cases hq : drf S1 d with
    | lst xs =>
      rw [hq] at e vw
      obtain ⟨bs, e1, e2⟩ := Option.map_eq_some_iff.mp e
      subst e2
      obtain ⟨b', vs, rfl, gb, rb⟩ := vw
      obtain rfl := blsOf_reps rb e1
      exact ⟨.inl ⟨rfl, _, SqL.of gb⟩, b', bs, b, rfl, rfl, gb, h2.at sr1 (.int _)⟩
    | _ => rw [hq] at e; cases e
end
end Qv
set_option Elab.async false
set_option linter.all false
set_option maxRecDepth 100000
set_option maxHeartbeats 4000000
/-! Calls, instances. -/
namespace Qv
open PySem PySem.Spec PyProof.Rows L2

/-! ### the last shared object is given up -/
section
variable {T : Tb} {W W' : Wd} {n : Nat}
mutual
theorem Rep.lower (hg : ∀ a o, W.G a = some o → W'.G a = some o) (hm : ∀ (l : Nat) (a : Addr), l < n → W.m[l]? = some a → W'.m[l]? = some a) : ∀ {d : D} {v : V}, D.low n d = true → Rep T W d v → Rep T W' d v
  | _, _, _, .non => .non
  | _, _, _, .bl b => .bl b
  | _, _, _, .int i => .int i
  | _, _, _, .str x => .str x
  | _, _, h, .tup e r => .tup (hg _ _ e) (Reps.lower hg hm (by unfold D.low at h; exact h) r)
  | _, _, h, .lst e r => .lst (hg _ _ e) (Reps.lower hg hm (by unfold D.low at h; exact h) r)
  | _, _, _, .dic0 e => .dic0 (hg _ _ e)
  | _, _, h, .exc0 e => by unfold D.low at h; cases h
  | _, _, h, .exc1 e e2 r => by unfold D.low at h; cases h
  | _, _, _, .set e a b => .set (hg _ _ e) a b
  | _, _, h, .ins c e e2 r => .ins c (hg _ _ e) (hg _ _ e2) (RepF.lower hg hm (by unfold D.low at h; exact h) r)
  | _, _, h, .ref e => .ref (hm _ _ (by unfold D.low at h; exact of_decide_eq_true h) e)
  | _, _, _, .ty n => .ty n
  | _, _, _, .glo g => .glo g
  | _, _, _, .scr e => .scr (e.imp id fun ⟨o, q⟩ => ⟨o, hg _ _ q⟩)
theorem Reps.lower (hg : ∀ a o, W.G a = some o → W'.G a = some o) (hm : ∀ (l : Nat) (a : Addr), l < n → W.m[l]? = some a → W'.m[l]? = some a) : ∀ {d : List D} {v : List V}, D.lows n d = true → Reps T W d v → Reps T W' d v
  | _, _, _, .nil => .nil
  | _, _, h, .cons a b => by
    unfold D.lows at h
    simp only [Bool.and_eq_true] at h
    exact .cons (Rep.lower hg hm h.1 a) (Reps.lower hg hm h.2 b)
theorem RepF.lower (hg : ∀ a o, W.G a = some o → W'.G a = some o) (hm : ∀ (l : Nat) (a : Addr), l < n → W.m[l]? = some a → W'.m[l]? = some a) : ∀ {d : List (Nat × D)} {v : List (Str × V)}, D.lowF n d = true → RepF T W d v → RepF T W' d v
  | _, _, _, .nil => .nil
  | _, _, h, .cons a b => by
    unfold D.lowF at h
    simp only [Bool.and_eq_true] at h
    exact .cons (Rep.lower hg hm h.1 a) (RepF.lower hg hm h.2 b)
end
theorem ORep.lower {H : Hp} {a : Addr} {o : Ob} (hg : ∀ a o, W.G a = some o → W'.G a = some o) (hm : ∀ (l : Nat) (a : Addr), l < n → W.m[l]? = some a → W'.m[l]? = some a) (h : Ob.low n o = true) (r : ORep T W H a o) : ORep T W' H a o := by
  cases o with
  | lst xs => obtain ⟨vs, e, r⟩ := r; exact ⟨vs, e, Reps.lower hg hm h r⟩
  | ins c fs => obtain ⟨dx, fv, hc, e, d, r⟩ := r; exact ⟨dx, fv, hc, e, hg _ _ d, RepF.lower hg hm h r⟩
  | dead => exact r
end
section
variable {T : Tb} {W : Wd} {S : Sh} {H : Hp} {a : Addr} {o : HO}
/-- a new object is laid that all share -/
theorem SRel.newShare {ob : Ob} (r : SRel T W S H) (h : H a = none) (ho : ORep T W (upd H a o) a ob) : SRel T ⟨W.G, W.m ++ [a]⟩ (S ++ [ob]) (upd H a o) ∧ Stp W H ⟨W.G, W.m ++ [a]⟩ (upd H a o) := by
  obtain ⟨r1, s1⟩ := r.fresh (o := o) h
  obtain ⟨r2, le⟩ := r1.share (ob := ob) ho (r.nonG h) (r.nonM h)
  refine ⟨r2, ⟨le, s1.keep, s1.newG, fun b hb => ?_, s1.there⟩⟩
  have hb' : b ∈ W.m ++ [a] := hb
  rcases List.mem_append.mp hb' with c | c
  · exact .inl c
  · simp at c; subst c; exact .inr h
/-- the last shared object, an instance, is given up: it will never change again -/
theorem SRel.pop {W0 : Wd} {H0 : Hp} {c : Nat} {fs : List (Nat × D)} {n : Nat} (hW : W0.m.length = n) (h0 : H0 a = none) (st : Stp W0 H0 W H) (sr : SRel T W S H) (hl : S.length = n + 1) (ha : W.m[n]? = some a) (hs : S[n]? = some (.ins c fs))
    (lf : D.lowF n fs = true) (ls : (S.take n).all (Ob.low n) = true) : ∃ W', Stp W0 H0 W' H ∧ SRel T W' (S.take n) H ∧ Rep T W' (.ins c fs) (.ref a) := by
  obtain ⟨dx, fv, hc, e, d, rf⟩ := sr.obs n a _ ha hs
  have hm : a ∈ W.m := List.mem_of_getElem? ha
  have g := sr.apart a hm
  have hlen : W.m.length = n + 1 := by rw [sr.len, hl]
  have hg : ∀ b u, W.G b = some u → upd W.G a (HO.ins (T.ad c) dx fv) b = some u := fun b u q => by
    rw [upd_ne (ne_of_none q g)]; exact q
  have hm2 : ∀ (l : Nat) (b : Addr), l < n → W.m[l]? = some b → (W.m.take n)[l]? = some b := fun l b hl e => by
    rw [List.getElem?_take_of_lt hl]; exact e
  have nin : a ∉ W.m.take n := fun z => by
    obtain ⟨l, e1⟩ := List.getElem?_of_mem z
    have hl1 : l < n := by
      have := (List.getElem?_eq_some_iff.mp e1).1
      rw [List.length_take] at this; omega
    rw [List.getElem?_take_of_lt hl1] at e1
    have h1 := List.getElem?_eq_some_iff.mp e1
    have h2 := List.getElem?_eq_some_iff.mp ha
    have := (List.getElem_inj sr.nd).mp (h1.2.trans h2.2.symm)
    omega
  refine ⟨⟨upd W.G a (.ins (T.ad c) dx fv), W.m.take n⟩, ⟨⟨fun b u q => hg b u (st.le.g b u q), fun l b q => ?_⟩, st.keep, fun b u q => ?_, fun b q => ?_, st.there⟩, ⟨fun b u q => ?_, ?_, ?_, fun b q => ?_, fun l b o e1 e2 => ?_⟩, ?_⟩
  · exact hm2 l b (by rw [← hW]; exact (List.getElem?_eq_some_iff.mp q).1) (st.le.m l b q)
  · by_cases hb : b = a
    · subst hb; exact .inr (.inl h0)
    · have q' : upd W.G a (HO.ins (T.ad c) dx fv) b = some u := q
      rw [upd_ne hb] at q'
      exact st.newG b u q'
  · exact st.newM b (List.mem_of_mem_take q)
  · by_cases hb : b = a
    · subst hb
      have q' : upd W.G b (HO.ins (T.ad c) dx fv) b = some u := q
      rw [upd_same] at q'; rw [← q']; exact e
    · have q' : upd W.G a (HO.ins (T.ad c) dx fv) b = some u := q
      rw [upd_ne hb] at q'
      exact sr.sub b u q'
  · show (W.m.take n).length = (S.take n).length
    rw [List.length_take, List.length_take, sr.len]
  · exact sr.nd.sublist (List.take_sublist _ _)
  · show upd W.G a _ b = none
    rw [upd_ne (ne_mem nin q)]
    exact sr.apart b (List.mem_of_mem_take q)
  · have e1' : (W.m.take n)[l]? = some b := e1
    have hl1 : l < n := by
      have := (List.getElem?_eq_some_iff.mp e1').1
      rw [List.length_take] at this; omega
    have lo : Ob.low n o = true := List.all_eq_true.mp ls o (List.mem_of_getElem? e2)
    rw [List.getElem?_take_of_lt hl1] at e1' e2
    exact (sr.obs l b o e1' e2).lower hg hm2 lo
  · exact .ins hc (show upd W.G a _ a = _ from upd_same) (hg _ _ d) (RepF.lower hg hm2 lf rf)
end
section
variable {T : Tb} {Q : Ck} {N : List Str} {C : Calls} {k : Nat} {X : Cx} {sc : Scope} {fnb : Str → Bool} {Wx : WX} {H0 : Hp}
theorem t_ife {t a b : IE} {x y z : PySem.Expr} {p : Pos} (ht : PT X x (TTe T H0 Wx C t)) (ha : PT X y (TTe T H0 Wx C a)) (hb : PT X z (TTe T H0 Wx C b)) : PT X (.IfExp x y z p) (TTe T H0 Wx C (.ife t a b)) := by
  refine ⟨fun pins s σ H Qr I ⟨W, E, S, sr, fr, h⟩ => ?_⟩
  have h : Resp T EqB (wxs Wx σ) W H Qr (((tst t E S (ev C t E S)).bind fun t S => match t with
      | true => ev C a E S
      | false => ev C b E S).bind fun x S => lift (truD (drf S x)) S) := h
  rw [Res.bind_assoc] at h
  refine isTrue_IfExp (thn (ht.run pins s σ H (fun d H1 => if d = true then TTe T H0 Wx C a σ H1 Qr else TTe T H0 Wx C b σ H1 Qr) I ?_) fun d s1 ⟨H1, I1, q1⟩ => ?_)
  · refine tR.then sr fr rfl h fun v H1 d S1 W1 _ st1 sr1 fr1 r1 h1 => ?_
    subst r1
    cases d with
    | true => exact ⟨W1, E, S1, sr1, fr1, bind_tst h1⟩
    | false => exact ⟨W1, E, S1, sr1, fr1, bind_tst h1⟩
  · cases d with
    | true => exact ha.run pins s1 σ H1 Qr I1 q1
    | false => exact hb.run pins s1 σ H1 Qr I1 q1
theorem s_call (g : Gd T Q N C k X sc fnb Wx) {f : Nat} {es : IEs} {x : Str} {xs : List PySem.Expr} {p p' : Pos} (hsu : Q.su = false) (hf : Q.fn f = some x) (hgl : glB sc x = true) (hn : okName x = true) (hs : ∀ e ∈ xs, nst e = true) (hz : xs = [] → es = .nil)
    (ha : PA X xs (tDs T H0 Wx (evs C es))) : PE X (.Call (.Name x p') xs [] p) (TDe T H0 Wx C (.call f es)) := by
  obtain ⟨fa, fd, ps, hm, hk, hb, F⟩ := g.st.fn f x hf
  refine ⟨fun pins s σ H Qr I ⟨W, E, S, sr, fr, h⟩ => ?_⟩
  have h : Resp T (RD T) (wxs Wx σ) W H Qr ((evs C es E S).bind fun ds S => C.fn f ds S) := h
  refine wpAny_Call_Name_kw (ld_glob I (glB_ok g hgl) hm ?_ (okName_ok hn).1)
  have rm : Room (2 * k + 1) X.A := (g.room hsu).mono (Nat.le_succ _)
  cases xs with
  | nil =>
    obtain rfl := hz rfl
    exact PySem.W.callWith_K0 I.kIn hk (run_fnS (E := WE Wx) (us := []) F rm hb (passAt g.tk σ) I .nil ⟨W, S, [], sr, .nil, h⟩)
  | cons y ys =>
    refine PySem.W.callWith_K (h₀ := X.base) I.ok.mod.kin hk (thn (ha.run p pins s σ H (fun vs H1 => spD T (C.fn f) vs H1 Qr (WE Wx σ)) I ?_) fun us s1 ⟨vs, H1, I1, r, q⟩ => ⟨I1.kIn, ?_⟩) (star_of (hs y List.mem_cons_self)) (star_plain fun e he => hs e (List.mem_cons_of_mem _ he))
    · exact tR.then sr fr rfl h fun vs H1 ds S1 W1 _ st1 sr1 fr1 r1 h1 => ⟨W1, S1, ds, sr1, r1, h1⟩
    · exact run_fnS (E := WE Wx) F rm hb (passAt g.tk σ) I1 r q
theorem run_makeS {CX : CXT} {f Cc : Addr} {fd : FuncData} {ps : List Str} {sp : Sp} {E : L2.St → XK} {pins : List (Addr × Obj)} {σ : L2.St} {H : Hp} {s : Shared} {Qr : VK} {us : List Value} {vs : List V} (M : Mk X.K Cc f) (F : FnOk X.prog X.w X.K X.mg X.base CX k f fd ps sp) (hr : Room (k + 1) X.A) (hb : Binds X.K fd ps [])
    (hx : PassesAt CX X σ (E σ)) (I : Inv X pins σ H s) (r : Vals vs us)
    (h : ∀ x dx, H x = none → H dx = none → dx ≠ x → sp (.ref x :: vs) (upd (upd H dx (.own x)) x (.ins Cc dx [])) (fun v H2 => v = .non ∧ Qr (.ref x) H2) (E σ)) :
    wpAny (model X.prog X.w) X.A (call (.ref Cc) us) (EP X pins σ Qr) X.xe s := by
  have hq := h (s.heap.objs.size + 1) s.heap.objs.size (I.hok.fresh (Nat.le_succ _)) (I.hok.fresh (Nat.le_refl _)) (Nat.ne_of_lt (Nat.lt_succ_self _))
  have I2 := Inv.made (C := Cc) I
  have r2 : Vals (V.ref (s.heap.objs.size + 1) :: vs) (Value.ref (s.heap.objs.size + 1) :: us) := .cons rfl r
  have hl : (Value.ref (s.heap.objs.size + 1) :: us ++ []).length = ps.length := by
    have e := r2.length
    rw [F.len _ _ _ _ hq] at e
    rw [List.append_nil]; exact e.symm
  have b := hb _ (Value.ref (s.heap.objs.size + 1) :: us) I2.kIn hl
  rw [List.append_nil] at b
  refine wpAny_call (make_map (f := f) I.kIn M.makes M.init (beq_iff_eq.mp M.fn) (codeAny_mono (F.run _ X.stack _ _ ⟨Value.ref (s.heap.objs.size + 1) :: us, []⟩ (Value.ref (s.heap.objs.size + 1) :: us) _ _ (E σ) (hr.make Cc us [])
    (I2.env0.make Cc us []) b r2 hq) fun r s' hq' => ?_))
  cases r with
  | error e => exact hx pins _ _ e s' I2 hq'
  | ok fl =>
    cases fl with
    | ret u =>
      obtain ⟨v, H', I3, rv, ev, q3⟩ := I2.after hq'
      subst ev
      exact ⟨rv, ⟨V.ref (s.heap.objs.size + 1), H', I3, rfl, q3⟩⟩
    | next => exact False.elim hq'
    | brk => exact False.elim hq'
    | cont => exact False.elim hq'
/-- the wish of a making, from the wish of the small language's -/
theorem mk_wish {W : Wd} {S : Sh} {H : Hp} {σ : L2.St} {ini : Nat → Option Nat} {c f : Nat} {ds : List D} {vs : List V} {Qr : VK} (fnm : Nat → List D → Sh → Res D) (e : ini c = some f) (hc : T.cl c) (sr : SRel T W S H) (r : Reps T W ds vs)
    (h : Resp T (RD T) (wxs Wx σ) W H Qr (mkI fnm ini c ds S)) : ∀ x dx, H x = none → H dx = none → dx ≠ x → spD T (fnm f) (.ref x :: vs) (upd (upd H dx (.own x)) x (.ins (T.ad c) dx [])) (fun v H2 => v = .non ∧ Qr (.ref x) H2) (WE Wx σ) := by
  intro x dx hx hdx ne
  unfold mkI at h
  rw [e] at h
  obtain ⟨r1, s1⟩ := sr.laid (o := HO.own x) hdx
  have hx1 : upd H dx (HO.own x) x = none := by rw [upd_ne (Ne.symm ne)]; exact hx
  obtain ⟨r2, s2⟩ := r1.newShare (a := x) (o := .ins (T.ad c) dx []) (ob := .ins c []) hx1 ⟨dx, [], hc, upd_same, show upd W.G dx _ dx = _ from upd_same, .nil⟩
  have st := s1.trans s2
  refine ⟨_, S ++ [.ins c []], .ref S.length :: ds, r2, .cons (.ref (l := S.length) ?_) (r.mono st.le), ?_⟩
  · show (W.m ++ [x])[S.length]? = some x
    rw [← sr.len]; simp
  · revert h
    show Resp T (RD T) (wxs Wx σ) W H Qr ((fnm f (.ref S.length :: ds) (S ++ [.ins c []])).bind _) → _
    cases q : fnm f (.ref S.length :: ds) (S ++ [.ins c []]) with
    | bad => exact fun h => h
    | ex a b => exact fun h => Resp.shift (r := Res.ex a b) st h
    | ok d S1 =>
      intro h W' H' v s3 sr3 rd
      replace h : Resp T (RD T) (wxs Wx σ) W H Qr (mkK c S.length d S1) := h
      unfold mkK at h
      split at h
      · rename_i c' fs eS
        split at h
        · rename_i hh
          obtain ⟨rfl, h1, h2, h3⟩ := hh
          cases rd
          refine ⟨rfl, ?_⟩
          have hm : W'.m[S.length]? = some x := s3.le.m _ _ (by show (W.m ++ [x])[S.length]? = some x; rw [← sr.len]; simp)
          obtain ⟨W3, st3, sr4, r4⟩ := SRel.pop (n := S.length) sr.len hx (st.trans s3) sr3 h1 hm eS h2 h3
          exact h W3 H' (.ref x) st3 sr4 r4
        · exact h.elim
      · exact h.elim
theorem s_mk (g : Gd T Q N C k X sc fnb Wx) {c : Nat} {es : IEs} {xs : List PySem.Expr} {p p' : Pos} (hsu : Q.su = false) (hc : Q.cls c = true) (hgl : glB sc (Q.nm c) = true) (hn : okName (Q.nm c) = true) (hs : ∀ e ∈ xs, nst e = true) (hz : xs = [] → es = .nil)
    (ha : PA X xs (tDs T H0 Wx (evs C es))) : PE X (.Call (.Name (Q.nm c) p') xs [] p) (TDe T H0 Wx C (.mk c es)) := by
  obtain ⟨hcl, ini, f, fa, fd, ps, hnew, hini, hm, M, hb, F⟩ := g.st.new c hc
  refine ⟨fun pins s σ H Qr I ⟨W, E, S, sr, fr, h⟩ => ?_⟩
  have h : Resp T (RD T) (wxs Wx σ) W H Qr ((evs C es E S).bind fun ds S => C.new c ds S) := h
  rw [hnew] at h
  rw [g.st.nm] at hm
  refine wpAny_Call_Name_kw (ld_glob I (glB_ok g hgl) hm ?_ (okName_ok hn).1)
  cases xs with
  | nil =>
    obtain rfl := hz rfl
    exact PySem.W.callWith_K0 I.kIn M.kp (run_makeS (E := WE Wx) (us := []) M F (g.room hsu) hb (passAt g.tk σ) I .nil (mk_wish C.fn hini hcl sr .nil h))
  | cons y ys =>
    refine PySem.W.callWith_K (h₀ := X.base) I.ok.mod.kin M.kp (thn (ha.run p pins s σ H (fun vs H1 => ∃ W S ds, SRel T W S H1 ∧ Reps T W ds vs ∧ Resp T (RD T) (wxs Wx σ) W H1 Qr (mkI C.fn ini c ds S)) I ?_) fun us s1 ⟨vs, H1, I1, r, W1, S1, ds, sr1, r1, q⟩ => ⟨I1.kIn, ?_⟩) (star_of (hs y List.mem_cons_self)) (star_plain fun e he => hs e (List.mem_cons_of_mem _ he))
    · exact tR.then sr fr rfl h fun vs H1 ds S1 W1 _ st1 sr1 fr1 r1 h1 => ⟨W1, S1, ds, sr1, r1, h1⟩
    · exact run_makeS (E := WE Wx) M F (g.room hsu) hb (passAt g.tk σ) I1 r (mk_wish C.fn hini hcl sr1 r1 q)
end
end Qv
set_option Elab.async false
set_option linter.all false
set_option maxRecDepth 100000
set_option maxHeartbeats 4000000
/-! enumerate and zip over lists and tuples. -/
namespace Qv
open PySem PySem.Spec PyProof.Rows L2

def SqB (b : Bool) (K : PySem.W.Frag) (H : Hp) (a : Addr) (xs : List V) : Prop := match b with
  | true => SqL K H a xs
  | false => SqT K H a xs
def IterB (b : Bool) (h : Heap) (it a : Addr) (i : Nat) : Prop := match b with
  | true => h.IsListIter it a i
  | false => h.IsTupleIter it a i
def SeqB (b : Bool) (h : Heap) (a : Addr) (items : Array Value) : Prop := match b with
  | true => h.IsList a items
  | false => h.IsTuple a items
def itB (b : Bool) (a : Addr) : Obj := match b with
  | true => { cls := .type "list_iterator", data := .fields #[.ref a, .int 0 0] }
  | false => { cls := .type "tuple_iterator", data := .fields #[.ref a, .int 0 0] }
theorem draws_b {prog : Program} {w : World} {A : Around} (b : Bool) (hh : A.handled = none) (it a : Addr) (hne : a ≠ it) (items : Array Value) :
    Draws prog w A it [it, a] items.size (fun i v => items[i]? = some v) (fun i h => IterB b h it a i ∧ SeqB b h a items) := by
  cases b
  · exact Draws.tuple hh it a hne items
  · exact Draws.list hh it a hne items
theorem begins_b (b : Bool) (a : Addr) (items : Array Value) : Begins (.ref a) (itB b a) fun h => SeqB b h a items := by
  cases b
  · exact begins_tuple a items
  · exact begins_list a items
theorem iterB_new {b : Bool} {h : Heap} {it a : Addr} (e : h.get? it = some (itB b a)) : IterB b h it a 0 := by
  cases b
  · exact ⟨_, e, rfl, rfl⟩
  · exact ⟨_, e, rfl, rfl⟩
theorem IterB.obj {b : Bool} {h : Heap} {it a : Addr} {i : Nat} (x : IterB b h it a i) : ∃ o, h.get? it = some o ∧ ∀ v, o.data ≠ .cell v := by
  cases b <;> (obtain ⟨o, e, _, d⟩ := x; exact ⟨o, e, fun v q => by rw [d] at q; cases q⟩)
theorem IterB.at {b : Bool} {h h' : Heap} {it a : Addr} {i : Nat} (x : IterB b h it a i) (k : ∀ o, h.get? it = some o → h'.get? it = some o) : IterB b h' it a i := by
  cases b <;> (obtain ⟨o, e, r⟩ := x; exact ⟨o, k o e, r⟩)
theorem SeqB.obj {b : Bool} {h : Heap} {a : Addr} {items : Array Value} (x : SeqB b h a items) : ∃ o n, h.get? a = some o ∧ o.data = .seq items n := by
  cases b <;> (obtain ⟨o, e, _, n, d⟩ := x; exact ⟨o, n, e, d⟩)
theorem IterB.ne {b : Bool} {h : Heap} {it a : Addr} {i : Nat} {items : Array Value} (x : IterB b h it a i) (y : SeqB b h a items) : a ≠ it := by
  rintro rfl
  obtain ⟨o2, n, e2, d2⟩ := y.obj
  cases b <;> (obtain ⟨o, e, _, d⟩ := x; rw [e] at e2; cases e2; rw [d] at d2; cases d2)
section
variable {X : Cx} {pins : List (Addr × Obj)} {σ : L2.St} {H : Hp} {s : Shared} {b : Bool} {a : Addr} {xs ys : List V}
theorem inv_seqB (I : Inv X pins σ H s) (h : SqB b X.K H a xs) : ∃ its : List Value, Vals xs its ∧ SeqB b s.heap a its.toArray ∧ xs.length ≤ sizeLine := by
  cases b
  · obtain ⟨its, r, p, z⟩ := I.tuple h
    exact ⟨its, r, p, z⟩
  · obtain ⟨its, r, p, z⟩ := I.list h
    exact ⟨its, r, p.isList, z⟩
theorem inv_injB (I : Inv X pins σ H s) (h : SqB b X.K H a xs) (h' : SqB b X.K H a ys) : xs = ys := by
  cases b
  · exact I.tuple_inj h h'
  · exact I.list_inj h h'
end
set_option maxHeartbeats 4000000 in
theorem meets_enumerate_new1 {v : Value} {o : Obj} {H : Heap → Prop} (B : Begins v o H) :
    Meets (Builtin.«enumerate.__new__» ⟨[.type "enumerate", v], []⟩) (fun _ R s => H s.heap ∧
      R (.ok (.ret (.ref (s.heap.push o).objs.size))) { s with heap := (s.heap.push o).push { cls := .type "enumerate", data := .fields #[.none, .bool false, .ref s.heap.objs.size, rawInt 0, .none, .none] } }) :=
  .of_wp fun prog w A R s h => by
    obtain ⟨hp, g, d, tk, os⟩ := s; obtain ⟨h1, h⟩ := h
    have hsub := sub_enumerate
    have q1 : ∀ {A' : Around} {E : Value → Shared → Prop} {Q : Value → Shared → Prop}, Q (.ref hp.objs.size) ⟨hp.push o, g, d, tk, os⟩ → wpAny (model prog w) A' (pyIter v) Q E ⟨hp, g, d, tk, os⟩ :=
      fun q => B.iter prog w _ _ ⟨hp, g, d, tk, os⟩ _ h1 q
    wp_walk using q1
    refine wpAny_stack_any fun st => wpAny_pure ?_
    split
    · rename_i c _ _ _ _ _
      cases (c == Value.type "enumerate")
      · wp_walk using q1
        exact ⟨_, rfl, h⟩
      · wp_walk using q1
        exact ⟨_, rfl, h⟩
    · wp_walk using q1
      exact ⟨_, rfl, h⟩
section
variable {prog : Program} {w : World} {A : Around} {E : Value → Shared → Prop} {s : Shared}
theorem enum_begins1 {v : Value} {o : Obj} {H : Heap → Prop} {Q : Value → Shared → Prop} (B : Begins v o H) (h1 : H s.heap)
    (h : ∀ h', IsEnum h' (s.heap.objs.size + 1) s.heap.objs.size 0 .none → h'.get? s.heap.objs.size = some o → h'.objs.size = s.heap.objs.size + 2 →
      (∀ b o, s.heap.get? b = some o → h'.get? b = some o) → Q (.ref (s.heap.objs.size + 1)) { s with heap := h' }) :
    wpAny (model prog w) A (call (.type "enumerate") [v]) Q E s := by
  refine callType_new F.called_enumerate (by decide) (F.typeCall_enumerate_1 _) (F.newCall_enumerate_1 _) (fun obj => F.args_object_init_2 obj _) F.entry_enumerate_new
    (meets_enumerate_new1 B) ⟨h1, ?_⟩
  have hz : (s.heap.push o).objs.size = s.heap.objs.size + 1 := Heap.size_push ..
  show _ ∧ _
  rw [hz]
  have he : IsEnum ((s.heap.push o).push { cls := .type "enumerate", data := .fields #[.none, .bool false, .ref s.heap.objs.size, rawInt 0, .none, .none] }) (s.heap.objs.size + 1) s.heap.objs.size 0 .none := by
    have := Heap.get?_push_size (s.heap.push o) (o := { cls := .type "enumerate", data := .fields #[.none, .bool false, .ref s.heap.objs.size, rawInt 0, .none, .none] }) rfl
    rw [hz] at this; exact this
  refine ⟨⟨_, he, rfl⟩, h _ he (Heap.get?_push_of_some _ (Heap.get?_push_size _ B.free)) (by rw [Heap.size_push, hz]) fun b o x => Heap.get?_push_of_some _ (Heap.get?_push_of_some _ x)⟩
end
/-- enumerate of the list (the tuple) at a, each item in a new pair -/
def IteB (b : Bool) (K : PySem.W.Frag) (a : Addr) : It :=
  ⟨fun i H => ∃ (xs : List V) (x : V), SqB b K H a xs ∧ xs[i]? = some x, fun i H v H' => ∃ T x, v = .ref T ∧ H T = none ∧ H' = upd H T (.tup [.int (i : Nat), x]) ∧ ∀ xs, SqB b K H a xs → xs[i]? = some x, fun i H => ∃ xs : List V, SqB b K H a xs ∧ xs.length = i⟩
theorem turn_enumB {P : Program} {w : World} {K : PySem.W.Frag} {elts : List PySem.Expr} {kk : Nat} {tpos : Pos} (b : Bool) (a e it : Addr) :
    Turn P w K (.Tuple elts kk tpos) (IteB b K a) [e, it] e (fun i h => (∃ old, IsEnum h e it ((i : Nat) : Int) old) ∧ IterB b h it a i ∧ e ≠ it) where
  mem := by simp
  obj := fun i h st c hb => by
    obtain ⟨⟨old, he⟩, hi, _⟩ := st
    have e' : c = e ∨ c = it := by simpa using hb
    rcases e' with z | z
    · rw [z]; exact ⟨_, he, fun v q => nomatch q⟩
    · rw [z]; exact hi.obj
  keep := fun i h h' st k => let ⟨⟨old, he⟩, hi, hne⟩ := st; ⟨⟨old, k e (by simp) _ he⟩, hi.at fun o q => k it (by simp) o q, hne⟩
  item := by
    intro X hP hw hK hc i pins s σ H E I hf st hg
    subst hP hw hK
    obtain ⟨⟨old, he⟩, hit, hne⟩ := st
    obtain ⟨xs, x, hq, hx⟩ := hg
    obtain ⟨its, rv, p, hz⟩ := inv_seqB I hq
    obtain ⟨u, hu, ru⟩ := rv.get hx
    have hel : e < s.heap.objs.size := Heap.lt_size he
    have hil : it < s.heap.objs.size := by obtain ⟨_, q, _⟩ := hit.obj; exact Heap.lt_size q
    have hea : e ≠ a := by
      rintro rfl
      obtain ⟨o2, n2, e2, d2⟩ := p.obj
      rw [he] at e2; cases e2; cases d2
    have hlt : i < its.toArray.size := by
      have := (List.getElem?_eq_some_iff.mp hu).1
      simpa using this
    refine wpAny_pyNext_enum_itemD (draws_b (A := X.A.in1) b (I.ok.hd hc) it a (hit.ne p) its.toArray) he ⟨hit, p⟩ hlt hne (by simp [hne, hea]) fun y h' tk hy ho hst' hT hsz hk => ?_
    obtain rfl : u = y := by
      have hy : its.toArray[i]? = some y := hy
      rw [show its.toArray[i]? = its[i]? by simp, hu] at hy
      exact Option.some.inj hy
    have hit' := hst'.1
    refine ⟨_, rfl, wpAny_letOwnedTupleGo_enum (s := { s with heap := h', toks := tk + 1 }) ho fun h'' he' sb => ?_⟩
    have hT2 : h''.get? s.heap.objs.size = some { cls := .type "tuple", data := .seq #[.int i tk, u] } := (sb.2 _ (Nat.ne_of_gt hel)).trans hT
    have new : ObjOk X.prog X.w (upd H s.heap.objs.size (.tup [.int (i : Nat), x])) h'' s.heap.objs.size (.tup [.int (i : Nat), x]) :=
      ⟨by show 2 ≤ sizeLine; decide, [.int i tk, u], .cons ⟨_, rfl⟩ (.cons ru .nil), ⟨_, hT2, rfl, _, rfl⟩⟩
    have I1 : Inv X pins σ (upd H s.heap.objs.size (.tup [.int (i : Nat), x])) { s with heap := h'', toks := tk + 1 } :=
      I.turnedNew (ch := [e, it]) (fun b ob hb q => (sb.2 b (fun z => hb (by simp [z]))).trans (hk b ob (fun z => hb (by simp [z])) (fun z => hb (by simp [z])) q)) hf (Nat.le_refl _) new
    refine ⟨.ref s.heap.objs.size, _, I1, rfl, ⟨_, x, rfl, I.hok.fresh (Nat.le_refl _), rfl, fun ys hy => by rw [inv_injB I hy hq]; exact hx⟩, ⟨⟨u, ?_⟩, hit'.at fun o q => (sb.2 it (Ne.symm hne)).trans q, hne⟩, fun b hb => ?_⟩
    · have e1 : ((i + 1 : Nat) : Int) = (i : Int) + 1 := by omega
      rw [e1]; exact he'
    · have hb' : b < s.heap.objs.size := by
        have e' : b = e ∨ b = it := by simpa using hb
        rcases e' with z | z
        · rw [z]; exact hel
        · rw [z]; exact hil
      rw [upd_ne (Nat.ne_of_lt hb')]
      exact (hf b hb).1
  done := by
    intro X hP hw hK hc i pins s σ H E I hf st hg
    subst hP hw hK
    obtain ⟨⟨old, he⟩, hit, hne⟩ := st
    obtain ⟨xs, hq, hx⟩ := hg
    obtain ⟨its, rv, p, hz⟩ := inv_seqB I hq
    have hl := rv.length
    have hi : i = its.toArray.size := by simp; omega
    refine wpAny_pyNext_enum_endD (draws_b (A := X.A.in1) b (I.ok.hd hc) it a (hit.ne p) its.toArray) he ⟨hi ▸ hit, p⟩ fun h' eb => ⟨rfl, ?_⟩
    obtain ⟨f0, f1, f2, f3, f4, f5⟩ := hf it (by simp)
    exact I.turned (t' := s.toks) (fun b o hb q => eb b o hb q) f0 f1 f3 f4 f5
  self := fun A i s Q E st h => let ⟨⟨_, he⟩, _⟩ := st; wpAny_pyIter_enum he h
def iEnumB (K : PySem.W.Frag) (ta : TA) : TI := fun σ H R => ta σ H fun vs H1 => ∃ b a xs, vs = [.ref a] ∧ SqB b K H1 a xs ∧ R (IteB b K a) H1
theorem pi_enumB {X : Cx} {e : PySem.Expr} {ta : TA} {p pos tpos : Pos} {elts : List PySem.Expr} {kk : Nat} (hg : Gl X "enumerate") (hm : X.mg "enumerate" = none) (ha : PA X [e] ta) (hs : starEach [e] X.env = [(false, eval e X.env)]) :
    PI X (.Tuple elts kk tpos) (.Call (.Name "enumerate" p) [e] [] pos) (iEnumB X.K ta) := by
  refine ⟨fun pins s σ H R I h => ?_⟩
  refine Call_ (ld_blt I hg hm boot_enumerate (PyProof.Rows.callWith_type1 (thn (ha.run pos pins s σ H _ I h) fun us s1 ⟨vs, H1, I1, r1, q1⟩ => ?_) hs rfl))
  obtain ⟨b, a, xs, ex, hq, q⟩ := q1
  subst ex
  cases r1 with
  | cons r rr =>
    cases rr
    cases r
    obtain ⟨its, rv, p', hz⟩ := inv_seqB I1 hq
    refine enum_begins1 (begins_b b a its.toArray) p' fun h' he hit hsz hk => wpAny_pyIter_enum he ?_
    have I2 : Inv X pins σ H1 { s1 with heap := h' } := I1.kept (t' := s1.toks) hk
    refine ⟨s1.heap.objs.size + 1, [s1.heap.objs.size + 1, s1.heap.objs.size], _, _, H1, rfl, I2, turn_enumB b a (s1.heap.objs.size + 1) s1.heap.objs.size, ⟨⟨.none, he⟩, iterB_new hit, Nat.succ_ne_self _⟩, fun b hb => ?_, q⟩
    have e' : b = s1.heap.objs.size + 1 ∨ b = s1.heap.objs.size := by simpa using hb
    have hle : s1.heap.objs.size ≤ b := by
      rcases e' with z | z
      · rw [z]; exact Nat.le_add_right _ _
      · rw [z]; exact Nat.le_refl _
    exact I1.fpOk hle (I1.hok.fresh hle)
/-- the two sequences, the items in new pairs -/
def ItzB (b1 b2 : Bool) (K : PySem.W.Frag) (a b : Addr) : It :=
  ⟨fun i H => ∃ (xs ys : List V) (x y : V), SqB b1 K H a xs ∧ SqB b2 K H b ys ∧ xs[i]? = some x ∧ ys[i]? = some y,
    fun i H v H' => ∃ T x y, v = .ref T ∧ H T = none ∧ H' = upd H T (.tup [x, y]) ∧ (∀ xs, SqB b1 K H a xs → xs[i]? = some x) ∧ ∀ ys, SqB b2 K H b ys → ys[i]? = some y,
    fun i H => ∃ xs ys : List V, SqB b1 K H a xs ∧ SqB b2 K H b ys ∧ i ≤ xs.length ∧ i ≤ ys.length ∧ (i = xs.length ∨ i = ys.length)⟩
structure ZApart (z TI TO i1 i2 : Addr) : Prop where
  a : TI ≠ z
  b : TO ≠ z
  c : TI ≠ TO
  d : TI ≠ i1
  e : TI ≠ i2
  f : z ≠ i1
  g : z ≠ i2
  h : TO ≠ i1
  i : TO ≠ i2
  j : i1 ≠ i2
theorem zsep {h : Heap} {z TI TO i1 i2 a b : Addr} {b1 b2 : Bool} {i : Nat} {xs ys : Array Value} {v1 v2 : Value} {a0 : Value} (D : ZApart z TI TO i1 i2) (hz : IsZip h z TI TO a0) (hTO : IsTupOf2 h TO v1 v2) (hx : SeqB b1 h a xs) (hy : SeqB b2 h b ys) (i1h : IterB b1 h i1 a i) (i2h : IterB b2 h i2 b i) (na : a ≠ TO) (nb : b ≠ TO) :
    ZipSep2 z TI TO i1 i2 [i1, a] [i2, b] := by
  have nz : ∀ {bb : Bool} {c : Addr} {cs : Array Value}, SeqB bb h c cs → z ≠ c := fun {bb c cs} q e => by
    subst e
    obtain ⟨o, n, e1, d⟩ := q.obj
    rw [hz] at e1; cases e1; cases d
  have ni : ∀ {bb bc : Bool} {c it c2 : Addr} {cs : Array Value}, SeqB bb h c cs → IterB bc h it c2 i → it ≠ c := fun {bb bc c it c2 cs} q r e => by
    subst e
    obtain ⟨o, n, e1, d⟩ := q.obj
    cases bc <;> (obtain ⟨o2, e2, _, d2⟩ := r; rw [e1] at e2; cases e2; rw [d] at d2; cases d2)
  exact { TIz := D.a, TOz := D.b, TITO := D.c, TIi1 := D.d, mem1 := by simp, zf1 := by simp [D.f, nz hx], Tf1 := by simp [D.h, Ne.symm na], TIi2 := D.e, mem2 := by simp, zf2 := by simp [D.g, nz hy], Tf2 := by simp [D.i, Ne.symm nb],
          sep1_2 := by simp [D.j, ni hy i1h], sep2_1 := by simp [Ne.symm D.j, ni hx i2h] }
theorem turn_zipB {P : Program} {w : World} {K : PySem.W.Frag} {elts : List PySem.Expr} {kk : Nat} {tpos : Pos} {b1 b2 : Bool} {a b z TI TO i1 i2 : Addr} (D : ZApart z TI TO i1 i2) (na : a ≠ TO) (nb : b ≠ TO) :
    Turn P w K (.Tuple elts kk tpos) (ItzB b1 b2 K a b) [z, TI, TO, i1, i2] z (fun i h => IsZip h z TI TO .none ∧ IsTupOf2 h TI (.ref i1) (.ref i2) ∧ (∃ x y, IsTupOf2 h TO x y) ∧ IterB b1 h i1 a i ∧ IterB b2 h i2 b i) where
  mem := by simp
  obj := fun i h st c hc => by
    obtain ⟨hz, hTI, ⟨x, y, hTO⟩, h1, h2⟩ := st
    have e' : c = z ∨ c = TI ∨ c = TO ∨ c = i1 ∨ c = i2 := by simpa using hc
    rcases e' with q | q | q | q | q
    · rw [q]; exact ⟨_, hz, fun v q => nomatch q⟩
    · rw [q]; exact ⟨_, hTI, fun v q => nomatch q⟩
    · rw [q]; exact ⟨_, hTO, fun v q => nomatch q⟩
    · rw [q]; exact h1.obj
    · rw [q]; exact h2.obj
  keep := fun i h h' st k => by
    obtain ⟨hz, hTI, ⟨x, y, hTO⟩, h1, h2⟩ := st
    exact ⟨k z (by simp) _ hz, k TI (by simp) _ hTI, ⟨x, y, k TO (by simp) _ hTO⟩, h1.at fun o q => k i1 (by simp) o q, h2.at fun o q => k i2 (by simp) o q⟩
  item := by
    intro X hP hw hK hc i pins s σ H E I hf st hg
    subst hP hw hK
    obtain ⟨hz, hTI, ⟨x0, y0, hTO⟩, h1, h2⟩ := st
    obtain ⟨xs, ys, x, y, hqx, hqy, hx, hy⟩ := hg
    obtain ⟨its, rv, p, _⟩ := inv_seqB I hqx
    obtain ⟨its2, rv2, p2, _⟩ := inv_seqB I hqy
    obtain ⟨u, hu, ru⟩ := rv.get hx
    obtain ⟨u2, hu2, ru2⟩ := rv2.get hy
    have hzl : z < s.heap.objs.size := Heap.lt_size hz
    have l1 : i < its.toArray.size := by simpa using (List.getElem?_eq_some_iff.mp hu).1
    have l2 : i < its2.toArray.size := by simpa using (List.getElem?_eq_some_iff.mp hu2).1
    refine wpAny_pyNext_zipD2_item (zsep D hz hTO p p2 h1 h2 na nb) (draws_b (A := X.A.in1) b1 (I.ok.hd hc) i1 a (h1.ne p) its.toArray) (draws_b (A := X.A.in1) b2 (I.ok.hd hc) i2 b (h2.ne p2) its2.toArray) hz hTI hTO ⟨h1, p⟩ ⟨h2, p2⟩ l1 l2 fun y1 y2 h' tk g1 g2 z' TO' st1 st2 hT hsz hk => ?_
    obtain rfl : u = y1 := by
      have hy : its.toArray[i]? = some y1 := g1
      rw [show its.toArray[i]? = its[i]? by simp, hu] at hy
      exact Option.some.inj hy
    obtain rfl : u2 = y2 := by
      have hy : its2.toArray[i]? = some y2 := g2
      rw [show its2.toArray[i]? = its2[i]? by simp, hu2] at hy
      exact Option.some.inj hy
    have h1' := st1.1
    have h2' := st2.1
    refine ⟨_, rfl, wpAny_letOwnedTupleGo_zip (s := { s with heap := h', toks := tk }) z' fun h'' z'' sb => ?_⟩
    have hT2 : h''.get? s.heap.objs.size = some { cls := .type "tuple", data := .seq #[u, u2] } := (sb.2 _ (Nat.ne_of_gt hzl)).trans hT
    have new : ObjOk X.prog X.w (upd H s.heap.objs.size (.tup [x, y])) h'' s.heap.objs.size (.tup [x, y]) :=
      ⟨by show 2 ≤ sizeLine; decide, [u, u2], .cons ru (.cons ru2 .nil), ⟨_, hT2, rfl, _, rfl⟩⟩
    have I1 : Inv X pins σ (upd H s.heap.objs.size (.tup [x, y])) { s with heap := h'', toks := tk } :=
      I.turnedNew (ch := [z, TI, TO, i1, i2]) (fun c o hb q => (sb.2 c (fun q' => hb (by simp [q']))).trans (hk c o (fun q' => hb (by simp [q'])) (fun q' => hb (by simp [q'])) (fun q' => hb (by simp [q'])) (fun q' => hb (by simp [q'])) q)) hf (Nat.le_refl _) new
    refine ⟨.ref s.heap.objs.size, _, I1, rfl, ⟨_, x, y, rfl, I.hok.fresh (Nat.le_refl _), rfl, fun l hl => by rw [inv_injB I hl hqx]; exact hx, fun l hl => by rw [inv_injB I hl hqy]; exact hy⟩, ⟨z'', ?_, ⟨u, u2, ?_⟩, ?_, ?_⟩, fun c hcm => ?_⟩
    · exact (sb.2 _ D.a).trans (hk _ _ D.a D.c D.d D.e hTI)
    · exact (sb.2 _ D.b).trans TO'
    · exact h1'.at fun o q => (sb.2 _ (Ne.symm D.f)).trans q
    · exact h2'.at fun o q => (sb.2 _ (Ne.symm D.g)).trans q
    · have hlt : c < s.heap.objs.size := by
        have e' : c = z ∨ c = TI ∨ c = TO ∨ c = i1 ∨ c = i2 := by simpa using hcm
        rcases e' with q | q | q | q | q
        · rw [q]; exact hzl
        · rw [q]; exact Heap.lt_size hTI
        · rw [q]; exact Heap.lt_size hTO
        · rw [q]; obtain ⟨_, e1, _⟩ := h1.obj; exact Heap.lt_size e1
        · rw [q]; obtain ⟨_, e2, _⟩ := h2.obj; exact Heap.lt_size e2
      rw [upd_ne (Nat.ne_of_lt hlt)]
      exact (hf c hcm).1
  done := by
    intro X hP hw hK hc i pins s σ H E I hf st hg
    subst hP hw hK
    obtain ⟨hz, hTI, ⟨x0, y0, hTO⟩, h1, h2⟩ := st
    obtain ⟨xs, ys, hqx, hqy, le1, le2, hend⟩ := hg
    obtain ⟨its, rv, p, _⟩ := inv_seqB I hqx
    obtain ⟨its2, rv2, p2, _⟩ := inv_seqB I hqy
    have l1 := rv.length
    have l2 := rv2.length
    exact wpAny_pyNext_zipD2_end (zsep D hz hTO p p2 h1 h2 na nb) (draws_b (A := X.A.in1) b1 (I.ok.hd hc) i1 a (h1.ne p) its.toArray) (draws_b (A := X.A.in1) b2 (I.ok.hd hc) i2 b (h2.ne p2) its2.toArray) hz hTI hTO ⟨h1, p⟩ ⟨h2, p2⟩ (by simp; omega) (by simp; omega) (by simp; omega) fun h' tk hk => ⟨rfl, I.turnedL (t' := tk) (ch := [z, TI, TO, i1, i2]) (fun c o hb q =>
      hk c o (fun q' => hb (by simp [q'])) (fun q' => hb (by simp [q'])) (fun q' => hb (by simp [q'])) (fun q' => hb (by simp [q'])) q) hf⟩
  self := fun A i s Q E st h => wpAny_pyIter_zip st.1 h
def iZipB (K : PySem.W.Frag) (ta : TA) : TI := fun σ H R => ta σ H fun vs H1 => ∃ b1 b2 a b xs ys, vs = [.ref a, .ref b] ∧ SqB b1 K H1 a xs ∧ SqB b2 K H1 b ys ∧ R (ItzB b1 b2 K a b) H1
theorem pi_zipB {X : Cx} {e e2 : PySem.Expr} {ta : TA} {p pos tpos : Pos} {elts : List PySem.Expr} {kk : Nat} (hg : Gl X "zip") (hm : X.mg "zip" = none) (ha : PA X [e, e2] ta)
    (hs : starEach [e, e2] X.env = (false, eval e X.env) :: starEach [e2] X.env) (hpl : (backTo pos (starEach [e2] X.env)).any (·.1) = false) :
    PI X (.Tuple elts kk tpos) (.Call (.Name "zip" p) [e, e2] [] pos) (iZipB X.K ta) := by
  refine ⟨fun pins s σ H R I h => ?_⟩
  refine Call_ (ld_blt I hg hm PyProof.Rows.boot_zip (PyProof.Rows.callWith_type1 (thn (ha.run pos pins s σ H _ I h) fun us s1 ⟨vs, H1, I1, r1, q1⟩ => ?_) hs hpl))
  obtain ⟨b1, b2, a, b, xs, ys, ex, hqx, hqy, q⟩ := q1
  subst ex
  cases r1 with
  | cons r rr =>
    cases rr with
    | cons r' rr =>
      cases rr
      cases r
      cases r'
      obtain ⟨its, rv, p1, _⟩ := inv_seqB I1 hqx
      obtain ⟨its2, rv2, p2, _⟩ := inv_seqB I1 hqy
      have la : a < s1.heap.objs.size := by obtain ⟨_, _, e, _⟩ := p1.obj; exact Heap.lt_size e
      have lb : b < s1.heap.objs.size := by obtain ⟨_, _, e, _⟩ := p2.obj; exact Heap.lt_size e
      refine zip_begins2 (begins_b b1 a its.toArray) (begins_b b2 b its2.toArray) p1 p2 fun h' hz hTI hTO h1 h2 hsz hk => wpAny_pyIter_zip hz ?_
      have I2 : Inv X pins σ H1 { s1 with heap := h' } := I1.kept (t' := s1.toks) hk
      have zap : ∀ N : Nat, ZApart (N + 4) (N + 2) (N + 3) N (N + 1) := fun N => ⟨(by omega : N + 2 ≠ N + 4), (by omega : N + 3 ≠ N + 4), (by omega : N + 2 ≠ N + 3), (by omega : N + 2 ≠ N), (by omega : N + 2 ≠ N + 1), (by omega : N + 4 ≠ N), (by omega : N + 4 ≠ N + 1), (by omega : N + 3 ≠ N), (by omega : N + 3 ≠ N + 1), (by omega : N ≠ N + 1)⟩
      have far : ∀ {c : Addr}, c < s1.heap.objs.size → c ≠ s1.heap.objs.size + 3 := fun {c} h => Nat.ne_of_lt (Nat.lt_of_lt_of_le h (Nat.le_add_right _ _))
      refine ⟨s1.heap.objs.size + 4, [s1.heap.objs.size + 4, s1.heap.objs.size + 2, s1.heap.objs.size + 3, s1.heap.objs.size, s1.heap.objs.size + 1], _, _, H1, rfl, I2, turn_zipB (zap s1.heap.objs.size) (far la) (far lb), ⟨hz, hTI, ⟨_, _, hTO⟩, iterB_new h1, iterB_new h2⟩, fun c hcm => ?_, q⟩
      have e' : c = s1.heap.objs.size + 4 ∨ c = s1.heap.objs.size + 2 ∨ c = s1.heap.objs.size + 3 ∨ c = s1.heap.objs.size ∨ c = s1.heap.objs.size + 1 := by simpa using hcm
      have hle : s1.heap.objs.size ≤ c := by
        rcases e' with z | z | z | z | z
        · rw [z]; exact Nat.le_add_right _ _
        · rw [z]; exact Nat.le_add_right _ _
        · rw [z]; exact Nat.le_add_right _ _
        · rw [z]; exact Nat.le_refl _
        · rw [z]; exact Nat.le_add_right _ _
      exact I1.fpOk hle (I1.hok.fresh hle)
end Qv
set_option Elab.async false
set_option linter.all false
set_option maxRecDepth 100000
set_option maxHeartbeats 4000000
/-! Targets, what a loop walks. -/
namespace Qv
open PySem PySem.Spec PyProof.Rows L2

/-! ### slots forgotten -/
theorem FRel.clear {T : Tb} {H0 : Hp} {W : Wd} {E : En} {σ : L2.St} {H : Hp} (h : FRel T H0 W E σ H) (i : Nat) : FRel T H0 W (E.set i none) (σ.set i none) H := by
  have ne : ∀ {j : Nat} {s : Sl}, (E.set i none)[j]? = some (some s) → i ≠ j := fun {j s} e z => by
    subst z
    have hi : i < E.length := by have := (List.getElem?_eq_some_iff.mp e).1; simpa using this
    rw [List.getElem?_set_self hi] at e
    cases e
  refine ⟨by simp [h.len], fun j s e => ?_, fun j k s t a e1 e2 o1 o2 q1 q2 => ?_⟩
  · have n := ne e
    rw [List.getElem?_set_ne n] at e ⊢
    exact h.at_ j s e
  · have n1 := ne e1
    have n2 := ne e2
    rw [List.getElem?_set_ne n1] at e1 q1
    rw [List.getElem?_set_ne n2] at e2 q2
    exact h.sep j k s t a e1 e2 o1 o2 q1 q2
theorem FRel.wipe {T : Tb} {H0 : Hp} {W : Wd} {E : En} {σ : L2.St} {H : Hp} (h : FRel T H0 W E σ H) : ∀ vs : List Nat, FRel T H0 W (wipeE E vs) (L2.wipe σ vs) H
  | [] => h
  | v :: vs => (FRel.wipe h vs).clear v
theorem wipe_in {σ : L2.St} {i : Nat} {x : Option V} : ∀ {vs : List Nat}, i ∈ vs → L2.wipe (σ.set i x) vs = L2.wipe σ vs
  | v :: vs, h => by
    unfold L2.wipe
    by_cases hv : i = v
    · subst hv
      by_cases hm : i ∈ vs
      · rw [wipe_in hm]
      · have out : ∀ {us : List Nat}, i ∉ us → L2.wipe (σ.set i x) us = (L2.wipe σ us).set i x := fun {us} => by
          induction us with
          | nil => intro _; rfl
          | cons u us ih =>
            intro hu
            simp only [List.mem_cons, not_or] at hu
            unfold L2.wipe
            rw [ih hu.2, List.set_comm _ _ hu.1]
        rw [out hm, List.set_set]
    · rcases List.mem_cons.mp h with z | z
      · exact absurd z hv
      · rw [wipe_in z]
section
variable {T : Tb} {Q : Ck} {N : List Str} {C : Calls} {k : Nat} {X : Cx} {sc : Scope} {fnb : Str → Bool} {Wx : WX} {H0 : Hp}

/-! ### targets -/
def tG (T : Tb) (H0 : Hp) (tg : Tg) : TG := fun v σ H Qr => ∃ W E S d E', SRel T W S H ∧ FRel T H0 W E σ H ∧ Rep T W d v ∧ asgT tg d E = some E' ∧
  ∀ σ', FRel T H0 W E' σ' H → (∀ vs, (∀ i ∈ tgSlots tg, i ∈ vs) → L2.wipe σ' vs = L2.wipe σ vs) → Qr σ' H
theorem PG.imp {x : PySem.Expr} {t t' : TG} (h : PG X x t) (k : ∀ v σ H Q, t' v σ H Q → t v σ H Q) : PG X x t' := ⟨fun pins s σ H v u Q I r hw => h.run pins s σ H v u Q I r (k _ _ _ _ hw)⟩
theorem okTg_n {i : Nat} {x : PySem.Expr} (h : okTg N sc fnb (.n i) x = true) : ∃ y p, x = .Name y p ∧ N[i]? = some y ∧ locB sc fnb y = true ∧ okName y = true := by
  cases x with
  | Name y p =>
    simp only [okTg, Bool.and_eq_true, decide_eq_true_eq] at h
    exact ⟨y, p, rfl, h.1.1, h.1.2, h.2⟩
  | _ => simp [okTg] at h
theorem okTg_t {a b : Tg} {e : PySem.Expr} (h : okTg N sc fnb (.t a b) e = true) : ∃ x y x1 p, e = .Tuple [x, y] x1 p ∧ okTg N sc fnb a x = true ∧ okTg N sc fnb b y = true := by
  cases e with
  | Tuple xs x1 p =>
    rcases xs with _ | ⟨x, _ | ⟨y, _ | ⟨z, r⟩⟩⟩
    · simp [okTg] at h
    · simp [okTg] at h
    · simp only [okTg, Bool.and_eq_true] at h
      exact ⟨x, y, x1, p, rfl, h.1, h.2⟩
    · simp [okTg] at h
  | _ => simp [okTg] at h
theorem okTg_t3 {a b c : Tg} {e : PySem.Expr} (h : okTg N sc fnb (.t3 a b c) e = true) : ∃ x y z x1 p, e = .Tuple [x, y, z] x1 p ∧ okTg N sc fnb a x = true ∧ okTg N sc fnb b y = true ∧ okTg N sc fnb c z = true := by
  cases e with
  | Tuple xs x1 p =>
    rcases xs with _ | ⟨x, _ | ⟨y, _ | ⟨z, _ | ⟨u, r⟩⟩⟩⟩
    · simp [okTg] at h
    · simp [okTg] at h
    · simp [okTg] at h
    · simp only [okTg, Bool.and_eq_true] at h
      exact ⟨x, y, z, x1, p, rfl, h.1.1, h.1.2, h.2⟩
    · simp [okTg] at h
  | _ => simp [okTg] at h
theorem asgT_n {i : Nat} {d : D} {E E' : En} (h : asgT (.n i) d E = some E') : E' = E.set i (some (.v d)) := by
  simp only [asgT] at h
  split at h <;> cases h
  rfl
theorem asgT_t {a b : Tg} {d : D} {E E' : En} (h : asgT (.t a b) d E = some E') : ∃ x y E1, d = .tup [x, y] ∧ asgT a x E = some E1 ∧ asgT b y E1 = some E' := by
  cases d with
  | tup xs =>
    rcases xs with _ | ⟨x, _ | ⟨y, _ | ⟨z, r⟩⟩⟩
    · simp [asgT] at h
    · simp [asgT] at h
    · simp only [asgT, Option.bind_eq_some_iff] at h
      obtain ⟨E1, h1, h2⟩ := h
      exact ⟨x, y, E1, rfl, h1, h2⟩
    · simp [asgT] at h
  | _ => simp [asgT] at h
theorem asgT_t3 {a b c : Tg} {d : D} {E E' : En} (h : asgT (.t3 a b c) d E = some E') : ∃ x y z E1 E2, d = .tup [x, y, z] ∧ asgT a x E = some E1 ∧ asgT b y E1 = some E2 ∧ asgT c z E2 = some E' := by
  cases d with
  | tup xs =>
    rcases xs with _ | ⟨x, _ | ⟨y, _ | ⟨z, _ | ⟨u, r⟩⟩⟩⟩
    · simp [asgT] at h
    · simp [asgT] at h
    · simp [asgT] at h
    · simp only [asgT, Option.bind_eq_some_iff] at h
      obtain ⟨E2, ⟨E1, h1, h2⟩, h3⟩ := h
      exact ⟨x, y, z, E1, E2, rfl, h1, h2, h3⟩
    · simp [asgT] at h
  | _ => simp [asgT] at h
theorem okTg_ns : ∀ (tg : Tg) (x : PySem.Expr), okTg N sc fnb tg x = true → nst x = true
  | .n i, x, h => by obtain ⟨_, _, rfl, _⟩ := okTg_n h; rfl
  | .t a b, x, h => by obtain ⟨_, _, _, _, rfl, _⟩ := okTg_t h; rfl
  | .t3 a b c, x, h => by obtain ⟨_, _, _, _, _, rfl, _⟩ := okTg_t3 h; rfl
theorem asg_each {x : PySem.Expr} {xs : List PySem.Expr} {env : Env} (h : nst x = true) : assignEach (x :: xs) env = (false, assign x env) :: assignEach xs env := by
  cases x <;> first | rfl | cases h
theorem asgT_len : ∀ (tg : Tg) {d : D} {E E' : En}, asgT tg d E = some E' → E'.length = E.length
  | .n i, d, E, E', h => by rw [asgT_n h]; simp
  | .t a b, d, E, E', h => by
    obtain ⟨x, y, E1, _, h1, h2⟩ := asgT_t h
    rw [asgT_len b h2, asgT_len a h1]
  | .t3 a b c, d, E, E', h => by
    obtain ⟨x, y, z, E1, E2, _, h1, h2, h3⟩ := asgT_t3 h
    rw [asgT_len c h3, asgT_len b h2, asgT_len a h1]
theorem s_tg (g : Gd T Q N C k X sc fnb Wx) : ∀ (tg : Tg) (x : PySem.Expr), okTg N sc fnb tg x = true → (tgFlat tg || !Q.su) = true → PG X x (tG T H0 tg)
  | .n i, x, h, _ => by
    obtain ⟨y, p, rfl, h1, h2, h3⟩ := okTg_n h
    obtain ⟨l1, l2⟩ := locB_ok g h2
    refine PG.imp (pg_name g.nd (by rw [g.N]; exact h1) l1 l2) fun v σ H Qr ⟨W, E, S, d, E', sr, fr, r, e, hq⟩ => ?_
    obtain rfl := asgT_n e
    exact hq _ (fr.setV _ r) fun vs hv => wipe_in (hv _ (by simp [tgSlots]))
  | .t a b, x, h, hsu => by
    have hs : Q.su = false := by simpa [tgFlat] using hsu
    have hsu : ∀ t : Tg, (tgFlat t || !Q.su) = true := fun t => by rw [hs]; simp
    obtain ⟨x, y, x1, p, rfl, ha, hb⟩ := okTg_t h
    have na := okTg_ns a x ha
    have nb := okTg_ns b y hb
    refine PG.imp (pg_tup (g.calm hs) (pgs_cons (s_tg g a x ha (hsu _)) (pgs_cons (s_tg g b y hb (hsu _)) pgs_nil (by rw [asg_each nb]; rfl)) (by rw [asg_each na]; rfl)) (n := 2) (by rw [asg_each na, asg_each nb]; rfl) (by rw [asg_each na, asg_each nb]; rfl)) fun v σ H Qr ⟨W, E, S, d, E', sr, fr, r, e, hq⟩ => ?_
    obtain ⟨dx, dy, E1, rfl, h1, h2⟩ := asgT_t e
    cases r with
    | tup ga ra =>
      cases ra with
      | cons r1 rt =>
        cases rt with
        | cons r2 rn =>
          cases rn
          refine ⟨_, _, rfl, SqT.of (sr.sub _ _ ga), rfl, _, _, rfl, W, E, S, dx, E1, sr, fr, r1, h1, fun σ1 fr1 w1 => ⟨_, _, rfl, W, E1, S, dy, E', sr, fr1, r2, h2, fun σ2 fr2 w2 => ⟨rfl, hq _ fr2 fun vs hv => ?_⟩⟩⟩
          rw [w2 vs fun i hi => hv i (by simp [tgSlots, hi]), w1 vs fun i hi => hv i (by simp [tgSlots, hi])]
  | .t3 a b c, x, h, hsu => by
    have hs : Q.su = false := by simpa [tgFlat] using hsu
    have hsu : ∀ t : Tg, (tgFlat t || !Q.su) = true := fun t => by rw [hs]; simp
    obtain ⟨x, y, z, x1, p, rfl, ha, hb, hc⟩ := okTg_t3 h
    have na := okTg_ns a x ha
    have nb := okTg_ns b y hb
    have nc := okTg_ns c z hc
    refine PG.imp (pg_tup (g.calm hs) (pgs_cons (s_tg g a x ha (hsu _)) (pgs_cons (s_tg g b y hb (hsu _)) (pgs_cons (s_tg g c z hc (hsu _)) pgs_nil (by rw [asg_each nc]; rfl)) (by rw [asg_each nb]; rfl)) (by rw [asg_each na]; rfl)) (n := 3) (by rw [asg_each na, asg_each nb, asg_each nc]; rfl) (by rw [asg_each na, asg_each nb, asg_each nc]; rfl)) fun v σ H Qr ⟨W, E, S, d, E', sr, fr, r, e, hq⟩ => ?_
    obtain ⟨dx, dy, dz, E1, E2, rfl, h1, h2, h3⟩ := asgT_t3 e
    cases r with
    | tup ga ra =>
      cases ra with
      | cons r1 rt =>
        cases rt with
        | cons r2 rt =>
          cases rt with
          | cons r3 rn =>
            cases rn
            refine ⟨_, _, rfl, SqT.of (sr.sub _ _ ga), rfl, _, _, rfl, W, E, S, dx, E1, sr, fr, r1, h1, fun σ1 fr1 w1 => ⟨_, _, rfl, W, E1, S, dy, E2, sr, fr1, r2, h2, fun σ2 fr2 w2 => ⟨_, _, rfl, W, E2, S, dz, E', sr, fr2, r3, h3, fun σ3 fr3 w3 => ⟨rfl, hq _ fr3 fun vs hv => ?_⟩⟩⟩⟩
            rw [w3 vs fun i hi => hv i (by simp [tgSlots, hi]), w2 vs fun i hi => hv i (by simp [tgSlots, hi]), w1 vs fun i hi => hv i (by simp [tgSlots, hi])]

/-! ### iterators -/
/-- J gives these, in this order, whatever else happens -/
structure ItOk (T : Tb) (W : Wd) (xs : List D) (J : It) : Prop where
  go : ∀ W1 S1 H1, W.Le W1 → SRel T W1 S1 H1 → ∀ i, i < xs.length → J.go i H1
  yld : ∀ W1 S1 H1, W.Le W1 → SRel T W1 S1 H1 → ∀ i d x H2, xs[i]? = some d → J.yld i H1 x H2 → ∃ W2, Stp W1 H1 W2 H2 ∧ SRel T W2 S1 H2 ∧ Rep T W2 d x
  stop : ∀ W1 S1 H1, W.Le W1 → SRel T W1 S1 H1 → J.stop xs.length H1
abbrev RI (T : Tb) : Wd → Hp → List D → It → Prop := fun W _ xs J => ItOk T W xs J
def tI (T : Tb) (H0 : Hp) (Wx : WX) (C : Calls) (it : II) : TI := tR T H0 Wx (RI T) (evI C it)
theorem PI.imp {tg iter : PySem.Expr} {t t' : TI} (h : PI X tg iter t) (k : ∀ σ H R, t' σ H R → t σ H R) : PI X tg iter t' := ⟨fun pins s σ H R I hw => h.run pins s σ H R I (k _ _ _ hw)⟩
def ItB (b : Bool) (K : PySem.W.Frag) (a : Addr) : It := match b with
  | true => Itl K a
  | false => Itt K a
def iSeqB (K : PySem.W.Frag) (tl : TE) : TI := fun σ H R => tl σ H fun x H1 => ∃ b a, x = .ref a ∧ (∃ xs, SqB b K H1 a xs) ∧ R (ItB b K a) H1
theorem pi_seqB {tg l : PySem.Expr} {tl : TE} (hl : PE X l tl) : PI X tg l (iSeqB X.K tl) := by
  refine ⟨fun pins s σ H R I h => ?_⟩
  refine thn (hl.run pins s σ H _ I h) fun v s1 ⟨x, H1, I1, r1, q1⟩ => ?_
  obtain ⟨b, a, e, ⟨xs, hq⟩, q⟩ := q1
  subst e
  cases r1
  cases b with
  | true =>
    obtain ⟨its, rv, p, hz⟩ := I1.list hq
    refine wpAny_pyIter_list p.isList ?_
    refine ⟨s1.heap.objs.size, [s1.heap.objs.size], _, _, H1, rfl, I1.kept (t' := s1.toks) fun b o e => Heap.get?_push_of_some _ e, turn_list a _, ⟨_, Heap.get?_push_size _ rfl, rfl, rfl⟩, fun b hb => ?_, q⟩
    have e : b = s1.heap.objs.size := by simpa using hb
    subst e
    exact I1.fpOk (Nat.le_refl _) (I1.hok.fresh (Nat.le_refl _))
  | false =>
    obtain ⟨its, rv, p, hz⟩ := I1.tuple hq
    refine wpAny_pyIter_tuple (show s1.heap.IsTuple a its.toArray from p) ?_
    refine ⟨s1.heap.objs.size, [s1.heap.objs.size], _, _, H1, rfl, I1.kept (t' := s1.toks) fun b o e => Heap.get?_push_of_some _ e, turn_tuple a _, ⟨_, Heap.get?_push_size _ rfl, rfl, rfl⟩, fun b hb => ?_, q⟩
    have e : b = s1.heap.objs.size := by simpa using hb
    subst e
    exact I1.fpOk (Nat.le_refl _) (I1.hok.fresh (Nat.le_refl _))
def sqO (b : Bool) (vs : List V) : HO := match b with
  | true => .lst vs
  | false => .tup vs
theorem sqB_of {b : Bool} {K : PySem.W.Frag} {H : Hp} {a : Addr} {vs : List V} (h : H a = some (sqO b vs)) : SqB b K H a vs := by
  cases b
  · exact SqT.of h
  · exact SqL.of h
theorem Rep.seqG {W : Wd} {d : D} {v : V} {xs : List D} (r : Rep T W d v) (e : seqD d = some xs) : ∃ b a vs, v = .ref a ∧ Reps T W xs vs ∧ W.G a = some (sqO b vs) := by
  cases r with
  | tup g r => cases e; exact ⟨false, _, _, rfl, r, g⟩
  | lst g r => cases e; exact ⟨true, _, _, rfl, r, g⟩
  | _ => cases e
theorem reps_at {W : Wd} {ds : List D} {vs : List V} (r : Reps T W ds vs) {i : Nat} {d : D} {x : V} (e : ds[i]? = some d) (e2 : vs[i]? = some x) : Rep T W d x := by
  obtain ⟨v, h1, h2⟩ := r.get e
  rw [e2] at h1; cases h1; exact h2
theorem it_seq {K : PySem.W.Frag} {W : Wd} {b : Bool} {a : Addr} {xs : List D} {vs : List V} (r : Reps T W xs vs) (at_ : ∀ W1 S1 H1, W.Le W1 → SRel T W1 S1 H1 → SqB b K H1 a vs) : ItOk T W xs (ItB b K a) := by
  refine ⟨fun W1 S1 H1 le sr i hi => ?_, fun W1 S1 H1 le sr i d x H2 hd y => ?_, fun W1 S1 H1 le sr => ?_⟩
  · have hs := at_ W1 S1 H1 le sr
    have hv : i < vs.length := by rw [← r.length]; exact hi
    cases b
    · exact ⟨vs, vs[i], hs, by simp [hv]⟩
    · exact ⟨vs, vs[i], hs, by simp [hv]⟩
  · have hs := at_ W1 S1 H1 le sr
    have : H2 = H1 ∧ vs[i]? = some x := by
      cases b
      · exact ⟨y.1, y.2 vs hs⟩
      · exact ⟨y.1, y.2 vs hs⟩
    obtain ⟨rfl, hx⟩ := this
    exact ⟨W1, sr.stp, sr, (reps_at r hd hx).mono le⟩
  · have hs := at_ W1 S1 H1 le sr
    cases b
    · exact ⟨vs, hs, by rw [r.length]; exact Nat.le_refl _⟩
    · exact ⟨vs, hs, by rw [r.length]; exact Nat.le_refl _⟩
theorem seqI_at {K : PySem.W.Frag} (hk : ∀ a vs, T.kl a vs → ∀ H, SqL K H a vs) {W : Wd} {d : D} {v : V} {xs : List D} (r : Rep T W d v) (e : seqI d = some xs) : ∃ b a vs, v = .ref a ∧ Reps T W xs vs ∧ ∀ W1 S1 H1, W.Le W1 → SRel T W1 S1 H1 → SqB b K H1 a vs := by
  have other : seqD d = some xs → ∃ b a vs, v = .ref a ∧ Reps T W xs vs ∧ ∀ W1 S1 H1, W.Le W1 → SRel T W1 S1 H1 → SqB b K H1 a vs := fun e => by
    obtain ⟨b, a, vs, e1, r1, g⟩ := r.seqG e
    exact ⟨b, a, vs, e1, r1, fun W1 S1 H1 le sr => sqB_of (sr.sub _ _ (le.g _ _ g))⟩
  cases d with
  | scr ns =>
    cases e
    have r0 := r
    cases r0 with
    | scr _ =>
      refine ⟨true, _, ns.map V.int, rfl, reps_ints ns, fun W1 S1 H1 le sr => ?_⟩
      obtain ⟨a', e2, q⟩ := scr_sq (K := K) hk sr (r.mono le)
      cases e2
      exact q
  | _ => exact other e
theorem i_seq (g : Gd T Q N C k X sc fnb Wx) {a : IE} {tg x : PySem.Expr} (ha : PE X x (TDe T H0 Wx C a)) : PI X tg x (tI T H0 Wx C (.seq a)) :=
  PI.imp (pi_seqB ha) fun σ H R ⟨W, E, S, sr, fr, h⟩ => by
    refine tD.then sr fr (show Resp T (RI T) (wxs Wx σ) W H R ((ev C a E S).bind fun x S => lift (seqI x) S) from h) fun v H1 d S1 W1 st1 sr1 fr1 r1 h1 => ?_
    obtain ⟨xs, e, h1⟩ := h1.lift1
    obtain ⟨b, a, vs, rfl, rs, at_⟩ := seqI_at (K := X.K) g.st.kl r1 e
    exact ⟨b, a, rfl, ⟨vs, at_ W1 S1 H1 (.refl _) sr1⟩, h1.at sr1 (it_seq rs at_)⟩
theorem rngD_get {a b : Int} {i : Nat} {d : D} (e : (rngD a b)[i]? = some d) : d = .int (a + i) := by
  unfold rngD at e
  rw [List.getElem?_map, List.getElem?_range] at e
  · cases e; rfl
  · by_cases h : i < (b - a).toNat
    · exact h
    · rw [List.getElem?_eq_none (by simpa using h)] at e
      cases e
theorem it_rng {W : Wd} {a b : Int} {n : Nat} (hn : n = (b - a).toNat) : ItOk T W (rngD a b) (Itr a n) := by
  have hl : (rngD a b).length = n := by unfold rngD; simp [hn]
  refine ⟨fun W1 S1 H1 le sr i hi => by rw [hl] at hi; exact hi, fun W1 S1 H1 le sr i d x H2 hd y => ?_, fun W1 S1 H1 le sr => by rw [hl]; exact Nat.le_refl n⟩
  obtain ⟨rfl, rfl⟩ := y
  rw [rngD_get hd]
  exact ⟨W1, sr.stp, sr, .int _⟩
theorem i_rng1 (g : Gd T Q N C k X sc fnb Wx) {a : IE} {tg x : PySem.Expr} {p p' : Pos} (hg : glB sc (Str.ofString "range") = true) (hs : nst x = true) (ha : PE X x (TDe T H0 Wx C a)) : PI X tg (.Call (.Name (Str.ofString "range") p') [x] [] p) (tI T H0 Wx C (.rng1 a)) :=
  PI.imp (pi_range1 (glB_ok g hg) (g.st.bn _ (by decide +kernel)) (pa_cons' hs ha pa_nil) (by rw [star_of hs]; rfl)) fun σ H R ⟨W, E, S, sr, fr, h⟩ => by
    refine tD.then sr fr (show Resp T (RI T) (wxs Wx σ) W H R ((ev C a E S).bind fun x S => match x with
      | .int n => if -(LIM : Int) ≤ n ∧ n ≤ LIM then .ok (rngD 0 n) S else .bad
      | _ => .bad) from h) fun v H1 d S1 W1 st1 sr1 fr1 r1 h1 => ?_
    cases d with
    | int n =>
      cases r1
      replace h1 : Resp T (RI T) (wxs Wx σ) W1 H1 R (if -(LIM : Int) ≤ n ∧ n ≤ LIM then .ok (rngD 0 n) S1 else .bad) := h1
      split at h1
      · rename_i c
        unfold LIM at c
        exact ⟨n, rfl, by omega, by omega, h1.at sr1 (it_rng (by omega))⟩
      · exact h1.nobad
    | _ => exact h1.nobad
theorem i_rng2 (g : Gd T Q N C k X sc fnb Wx) {a b : IE} {tg x y : PySem.Expr} {p p' : Pos} (hg : glB sc (Str.ofString "range") = true) (hs : nst x = true) (hs2 : nst y = true) (ha : PE X x (TDe T H0 Wx C a)) (hb : PE X y (TDe T H0 Wx C b)) : PI X tg (.Call (.Name (Str.ofString "range") p') [x, y] [] p) (tI T H0 Wx C (.rng2 a b)) :=
  PI.imp (pi_range2 (glB_ok g hg) (g.st.bn _ (by decide +kernel)) (pa_cons' hs ha (pa_cons' hs2 hb pa_nil)) (by rw [star_of hs, star_of hs2]; rfl) (by rw [star_of hs2]; rfl)) fun σ H R ⟨W, E, S, sr, fr, h⟩ => by
    refine tD.then sr fr (show Resp T (RI T) (wxs Wx σ) W H R ((ev C a E S).bind fun x S => (ev C b E S).bind fun y S => match x, y with
      | .int i, .int j => if -(LIM : Int) ≤ i ∧ i ≤ LIM ∧ -(LIM : Int) ≤ j ∧ j ≤ LIM then .ok (rngD i j) S else .bad
      | _, _ => .bad) from h) fun v H1 d S1 W1 st1 sr1 fr1 r1 h1 => ?_
    refine tD.then sr1 fr1 h1 fun u H2 d2 S2 W2 st2 sr2 fr2 r2 h2 => ?_
    replace r1 := r1.mono st2.le
    split at h2
    · rename_i i j
      cases r1; cases r2
      split at h2
      · rename_i c
        unfold LIM at c
        exact ⟨i, j, rfl, ⟨by omega, by omega, by omega, by omega⟩, h2.at sr2 (it_rng rfl)⟩
      · exact h2.nobad
    · exact h2.nobad
theorem enumD_len : ∀ (n : Nat) (xs : List D), (enumD n xs).length = xs.length
  | _, [] => rfl
  | n, x :: r => by simp [enumD, enumD_len (n + 1) r]
theorem enumD_get : ∀ {n : Nat} {xs : List D} {i : Nat} {d : D}, (enumD n xs)[i]? = some d → ∃ x, xs[i]? = some x ∧ d = .tup [.int ((n + i : Nat) : Int), x]
  | n, [], i, d, e => by simp [enumD] at e
  | n, x :: r, 0, d, e => by simp [enumD] at e; exact ⟨x, by simp, by simp [e]⟩
  | n, x :: r, i + 1, d, e => by
    obtain ⟨y, h1, h2⟩ := enumD_get (n := n + 1) (xs := r) (i := i) (d := d) (by simpa [enumD] using e)
    exact ⟨y, by simpa using h1, by rw [h2]; congr 3; omega⟩
theorem it_enum {K : PySem.W.Frag} {W : Wd} {b : Bool} {a : Addr} {xs : List D} {vs : List V} (r : Reps T W xs vs) (g : W.G a = some (sqO b vs)) : ItOk T W (enumD 0 xs) (IteB b K a) := by
  have at_ : ∀ W1 S1 H1, W.Le W1 → SRel T W1 S1 H1 → SqB b K H1 a vs := fun W1 S1 H1 le sr => sqB_of (sr.sub _ _ (le.g _ _ g))
  have hl := enumD_len 0 xs
  refine ⟨fun W1 S1 H1 le sr i hi => ?_, fun W1 S1 H1 le sr i d x H2 hd y => ?_, fun W1 S1 H1 le sr => ?_⟩
  · have hv : i < vs.length := by rw [← r.length, ← hl]; exact hi
    exact ⟨vs, vs[i], at_ W1 S1 H1 le sr, by simp [hv]⟩
  · obtain ⟨Tt, x0, rfl, hn, rfl, y⟩ := y
    obtain ⟨d0, h1, rfl⟩ := enumD_get hd
    have hx := y vs (at_ W1 S1 H1 le sr)
    have rx := (reps_at r h1 hx).mono le
    rw [Nat.zero_add]
    obtain ⟨e1, e2, e3⟩ := newTup sr (.cons (.int (i : Int)) (.cons rx .nil)) hn
    exact ⟨_, e1, e2, e3⟩
  · exact ⟨vs, at_ W1 S1 H1 le sr, by rw [hl, r.length]⟩
theorem i_enum (g : Gd T Q N C k X sc fnb Wx) {a : IE} {x : PySem.Expr} {es : List PySem.Expr} {kk : Nat} {tp p p' : Pos} (hg : glB sc (Str.ofString "enumerate") = true) (hs : nst x = true) (ha : PE X x (TDe T H0 Wx C a)) :
    PI X (.Tuple es kk tp) (.Call (.Name (Str.ofString "enumerate") p') [x] [] p) (tI T H0 Wx C (.enum a)) :=
  PI.imp (pi_enumB (glB_ok g hg) (g.st.bn _ (by decide +kernel)) (pa_cons' hs ha pa_nil) (by rw [star_of hs]; rfl)) fun σ H R ⟨W, E, S, sr, fr, h⟩ => by
    refine tD.then sr fr (show Resp T (RI T) (wxs Wx σ) W H R ((ev C a E S).bind fun x S => match seqD x with
      | some xs => .ok (enumD 0 xs) S
      | none => .bad) from h) fun v H1 d S1 W1 st1 sr1 fr1 r1 h1 => ?_
    split at h1
    · rename_i xs e
      obtain ⟨b, a, vs, rfl, rs, g⟩ := r1.seqG e
      exact ⟨b, a, vs, rfl, sqB_of (sr1.sub _ _ g), h1.at sr1 (it_enum rs g)⟩
    · exact h1.nobad
theorem zipD_len : ∀ (xs ys : List D), (zipD xs ys).length = min xs.length ys.length
  | [], _ => by simp [zipD]
  | _ :: _, [] => by simp [zipD]
  | x :: xs, y :: ys => by simp [zipD, zipD_len xs ys]
theorem zipD_get : ∀ {xs ys : List D} {i : Nat} {d : D}, (zipD xs ys)[i]? = some d → ∃ x y, xs[i]? = some x ∧ ys[i]? = some y ∧ d = .tup [x, y]
  | [], _, i, d, e => by simp [zipD] at e
  | _ :: _, [], i, d, e => by simp [zipD] at e
  | x :: xs, y :: ys, 0, d, e => by simp [zipD] at e; exact ⟨x, y, by simp, by simp, e.symm⟩
  | x :: xs, y :: ys, i + 1, d, e => by
    obtain ⟨u, v, h1, h2, h3⟩ := zipD_get (xs := xs) (ys := ys) (i := i) (d := d) (by simpa [zipD] using e)
    exact ⟨u, v, by simpa using h1, by simpa using h2, h3⟩
theorem it_zip {K : PySem.W.Frag} {W : Wd} {b1 b2 : Bool} {a b : Addr} {xs ys : List D} {vs us : List V} (r : Reps T W xs vs) (g : W.G a = some (sqO b1 vs)) (r2 : Reps T W ys us) (g2 : W.G b = some (sqO b2 us)) : ItOk T W (zipD xs ys) (ItzB b1 b2 K a b) := by
  have at1 : ∀ W1 S1 H1, W.Le W1 → SRel T W1 S1 H1 → SqB b1 K H1 a vs := fun W1 S1 H1 le sr => sqB_of (sr.sub _ _ (le.g _ _ g))
  have at2 : ∀ W1 S1 H1, W.Le W1 → SRel T W1 S1 H1 → SqB b2 K H1 b us := fun W1 S1 H1 le sr => sqB_of (sr.sub _ _ (le.g _ _ g2))
  have hl := zipD_len xs ys
  have l1 := r.length
  have l2 := r2.length
  refine ⟨fun W1 S1 H1 le sr i hi => ?_, fun W1 S1 H1 le sr i d x H2 hd y => ?_, fun W1 S1 H1 le sr => ?_⟩
  · have hv : i < vs.length := by omega
    have hu : i < us.length := by omega
    exact ⟨vs, us, vs[i], us[i], at1 W1 S1 H1 le sr, at2 W1 S1 H1 le sr, by simp [hv], by simp [hu]⟩
  · obtain ⟨Tt, x0, y0, rfl, hn, rfl, y, y2⟩ := y
    obtain ⟨d0, d1, h1, h2, rfl⟩ := zipD_get hd
    have rx := (reps_at r h1 (y vs (at1 W1 S1 H1 le sr))).mono le
    have ry := (reps_at r2 h2 (y2 us (at2 W1 S1 H1 le sr))).mono le
    obtain ⟨e1, e2, e3⟩ := newTup sr (.cons rx (.cons ry .nil)) hn
    exact ⟨_, e1, e2, e3⟩
  · exact ⟨vs, us, at1 W1 S1 H1 le sr, at2 W1 S1 H1 le sr, by omega, by omega, by omega⟩
theorem i_zip (g : Gd T Q N C k X sc fnb Wx) {a b : IE} {x y : PySem.Expr} {es : List PySem.Expr} {kk : Nat} {tp p p' : Pos} (hg : glB sc (Str.ofString "zip") = true) (hs : nst x = true) (hs2 : nst y = true) (ha : PE X x (TDe T H0 Wx C a)) (hb : PE X y (TDe T H0 Wx C b)) :
    PI X (.Tuple es kk tp) (.Call (.Name (Str.ofString "zip") p') [x, y] [] p) (tI T H0 Wx C (.zip a b)) :=
  PI.imp (pi_zipB (glB_ok g hg) (g.st.bn _ (by decide +kernel)) (pa_cons' hs ha (pa_cons' hs2 hb pa_nil)) (star_of hs) (by rw [star_of hs2]; rfl)) fun σ H R ⟨W, E, S, sr, fr, h⟩ => by
    refine tD.then sr fr (show Resp T (RI T) (wxs Wx σ) W H R ((ev C a E S).bind fun x S => (ev C b E S).bind fun y S => match seqD x, seqD y with
      | some xs, some ys => .ok (zipD xs ys) S
      | _, _ => .bad) from h) fun v H1 d S1 W1 st1 sr1 fr1 r1 h1 => ?_
    refine tD.then sr1 fr1 h1 fun u H2 d2 S2 W2 st2 sr2 fr2 r2 h2 => ?_
    replace r1 := r1.mono st2.le
    split at h2
    · rename_i xs ys e1 e2
      obtain ⟨b1, a1, vs, rfl, rs, g1⟩ := r1.seqG e1
      obtain ⟨b2, a2, us, rfl, rs2, g2⟩ := r2.seqG e2
      exact ⟨b1, b2, a1, a2, vs, us, rfl, sqB_of (sr2.sub _ _ g1), sqB_of (sr2.sub _ _ g2), h2.at sr2 (it_zip rs g1 rs2 g2)⟩
    · exact h2.nobad
end
end Qv
set_option Elab.async false
set_option linter.all false
set_option maxRecDepth 100000
set_option maxHeartbeats 4000000
/-! Lists and sets that are made: [.. for ..], list(x), sorted(x), set(x). -/
namespace Qv
open PySem PySem.Spec PyProof.Rows L2
section
variable {P : Program} {w : World} {A : Around} {E : Value → Shared → Prop} {s : Shared}
set_option maxHeartbeats 3200000 in
/-- set(l) of a list of ints: the kit's set(t) of a tuple, word for word over a list -/
theorem set_list_ints {l : Addr} {items : Array Value} (ns : List Int) {Q : Value → Shared → Prop} (hh : A.handled = none) (hl : s.heap.IsList l items) (hit : IntsAre items.toList ns) (hb : ns.length + 1 < scanBound)
    (h : ∀ (h' : Heap) (tk c : Nat), SetR w h' s.heap.objs.size (fun j => decide (j ∈ ns)) c → c ≤ ns.length → (∀ b o, s.heap.get? b = some o → h'.get? b = some o) → Q (.ref s.heap.objs.size) { s with heap := h', toks := tk }) :
    wpAny (model P w) A (call (.type "set") [.ref l]) Q E s := by
  have hisz : items.size = ns.length := by
    have q := IntsAre.length hit
    rw [Array.length_toList] at q
    exact q
  obtain ⟨c, tl, hmro⟩ := F.called_set.mro
  have hmade := F.called_set.made
  have hsub := F.called_set.sub
  refine wpAny_call (codeAny_of_tree ?_)
  show wpAny _ _ (callAny (.type "set") _) _ _ _
  refine wpAny_pure ⟨Code.quiet_builtin _ (by decide +kernel), codeAny_builtin F.entry_type_call ?_⟩
  rw [Around.under_plain (weight_type_call_type "set" [.ref l] []) rfl]
  have h1 := F.called_set.notType
  have h2 := F.called_set.canCreate
  have hct := F.typeCall_set_1 (.ref l)
  repeat (any_goals (first | assumption | wp_step))

  refine codeAny_mono (code_set_led1 (.ref l) (E := E) (Q₁ := fun obj s₁ => obj = .ref s.heap.objs.size ∧ s₁ = { s with heap := s.heap.push { cls := .type "set", dict := none, data := .set #[] 0 (.fresh 0 0 (!w.params.followText "set-order")) } }) ⟨rfl, rfl⟩) fun r s₁ hr => ?_
  cases r with
  | error e => exact hr
  | ok fl =>
    cases fl with
    | ret obj =>
      obtain ⟨rfl, rfl⟩ := hr
      have hS : (s.heap.push { cls := .type "set", dict := none, data := .set #[] 0 (.fresh 0 0 (!w.params.followText "set-order")) }).get? s.heap.objs.size = some { cls := .type "set", dict := none, data := .set #[] 0 (.fresh 0 0 (!w.params.followText "set-order")) } := Heap.get?_push_size _ rfl
      have hT : Shared.TypeIs { s with heap := s.heap.push { cls := .type "set", dict := none, data := .set #[] 0 (.fresh 0 0 (!w.params.followText "set-order")) } } (.ref s.heap.objs.size) "set" := ⟨_, hS, rfl⟩
      have hli := F.called_set.init.lookup
      have hbi := F.called_set.init.bind (.ref s.heap.objs.size)
      repeat (any_goals (first | assumption | wp_step))

      refine codeAny_mono (codeAny_call_builtin (R := wants (fun r s₂ => r = .none ∧ ∃ h' tk c, s₂ = { s with heap := h', toks := tk } ∧ SetR w h' s.heap.objs.size (fun j => decide (j ∈ ns)) c ∧ c ≤ ns.length ∧
          (∀ b o, s.heap.get? b = some o → h'.get? b = some o)) E) F.called_set.init.plain F.entry_set_init (check_set_init_1 hT ?_)) fun r₂ s₂ hr₂ => ?_
      · obtain ⟨ol, hol, hcl, nl, hdl⟩ := hl
        obtain ⟨ocls, odict, odata, oslots⟩ := ol
        simp only at hcl hdl
        subst hcl; subst hdl
        have hol' : (s.heap.push { cls := .type "set", dict := none, data := .set #[] 0 (.fresh 0 0 (!w.params.followText "set-order")) }).get? l = some { cls := .type "list", dict := odict, data := .seq items nl, slots := oslots } := Heap.get?_push_of_some _ hol
        have hsls := F.sub_list_set
        have hslf := F.sub_list_frozenset
        have hne : (Value.type "list" == Value.type "dict") = false := by decide
        have hl1 : (s.heap.push { cls := .type "set", dict := none, data := .set #[] 0 (.fresh 0 0 (!w.params.followText "set-order")) }).IsList l items := ⟨_, hol', rfl, nl, rfl⟩
        unfold Builtin.«set.__init__» noKeywords Builtin.Frozenset.updateFrom
        generalize hPI : pyIter = PI
        wp_walk
        subst hPI

        refine wpAny_pyIter_list hl1 ?_
        refine wpAny_bind (wpAny_runValue ?_)
        have hlS : l < s.heap.objs.size := Heap.lt_size hol
        have hh3 : A.in1.in1.in1.handled = none := by simp [hh]
        have hz1 : (s.heap.push { cls := .type "set", dict := none, data := .set #[] 0 (.fresh 0 0 (!w.params.followText "set-order")) }).objs.size = s.heap.objs.size + 1 := Heap.size_push ..
        have hneI : l ≠ (s.heap.push { cls := .type "set", dict := none, data := .set #[] 0 (.fresh 0 0 (!w.params.followText "set-order")) }).objs.size := by
          rw [Heap.size_push]; exact Nat.ne_of_lt (Nat.lt_succ_of_lt hlS)
        have hSf : s.heap.objs.size ∉ [(s.heap.push { cls := .type "set", dict := none, data := .set #[] 0 (.fresh 0 0 (!w.params.followText "set-order")) }).objs.size, l] := by
          rw [Heap.size_push]; simp only [List.mem_cons, List.mem_singleton, List.not_mem_nil, or_false, not_or]
          exact ⟨Nat.ne_of_lt (Nat.lt_succ_self _), Nat.ne_of_gt hlS⟩
        have hval : ∀ (i : Nat) (v : Value), items[i]? = some v → ∃ k t, ns[i]? = some k ∧ v = .int k t := fun i v hv => by
          have hi : i < ns.length := by rw [← hisz]; exact (Array.getElem?_eq_some_iff.mp hv).1
          obtain ⟨t, e⟩ := PyProof.Rows.IntsAre.int_at hit i v (by rw [Array.getElem?_toList]; exact hv)
          refine ⟨ns[i], t, List.getElem?_eq_getElem hi, ?_⟩
          rw [e, List.getD_eq_getElem?_getD, List.getElem?_eq_getElem hi] <;> rfl
        refine set_update_ints ((Walks.list hh3 _ l hneI items).toS) s.heap.objs.size
          hSf ns hisz hb hval (items.size - 0) 0 _ (by omega) (Nat.zero_le _)
          ⟨⟨_, Heap.get?_push_size _ rfl, rfl, rfl⟩, (hl1.push _)⟩ ?hS0 ?hR
        case hS0 =>
          have hget : ((s.heap.push { cls := .type "set", dict := none, data := .set #[] 0 (.fresh 0 0 (!w.params.followText "set-order")) }).push { cls := .type "list_iterator", data := .fields #[.ref l, .int 0 0] }).get? s.heap.objs.size
              = some { cls := .type "set", dict := none, data := .set #[] 0 (.fresh 0 0 (!w.params.followText "set-order")) } := Heap.get?_push_of_some _ hS
          exact ⟨0, Nat.le_refl 0, setR_new_at hget⟩
        case hR =>
          intro s' c' hm hc' hS'
          obtain ⟨h', g2, d', tk', os'⟩ := s'
          have eg : g2 = s.gens := hm.gens
          have ed : d' = s.drawn := hm.drawn
          have eo : os' = s.os := hm.os
          subst eg; subst ed; subst eo
          show wpAny _ _ _ _ _ _
          refine wpAny_pure ?_
          show wpAny _ _ (ret Value.none) _ _ _
          rw [hisz] at hc'
          refine wpAny_pure ⟨rfl, h', tk', c', rfl, hS', hc', fun b o e => ?_⟩
          have hb0 : b < s.heap.objs.size := Heap.lt_size e
          have hb1 : b ≠ s.heap.objs.size := Nat.ne_of_lt hb0
          have hb2 : b ≠ (s.heap.push { cls := .type "set", dict := none, data := .set #[] 0 (.fresh 0 0 (!w.params.followText "set-order")) }).objs.size := by
            rw [Heap.size_push]; exact Nat.ne_of_lt (Nat.lt_succ_of_lt hb0)
          exact hm.heap b o (by simp only [List.mem_cons, List.mem_singleton, List.not_mem_nil, or_false, not_or]; exact ⟨hb1, hb2⟩) (Heap.get?_push_of_some _ (Heap.get?_push_of_some _ e))

      · cases r₂ with
        | error e => exact hr₂
        | ok fl₂ =>
          cases fl₂ with
          | ret r =>
            obtain ⟨rfl, h', tk, c', rfl, hS', hc', hk'⟩ := hr₂
            repeat (any_goals (first | assumption | wp_step))
            exact h _ _ _ hS' hc' hk'
          | _ => exact hr₂.elim
    | _ => exact hr.elim
end
theorem addS_nodup {xs : List Int} {x : Int} (h : xs.Nodup) : (addS xs x).Nodup := by
  unfold addS
  split
  · exact h
  · rename_i c
    rw [List.nodup_append]
    exact ⟨h, by simp, fun a ha b hb => by simp at hb; subst hb; exact fun z => c (z ▸ ha)⟩
theorem addS_mem {xs : List Int} {x k : Int} : k ∈ addS xs x ↔ k ∈ xs ∨ k = x := by
  unfold addS
  split
  · rename_i c
    exact ⟨.inl, fun h => h.elim id fun e => e ▸ c⟩
  · simp
theorem foldl_addS {ns : List Int} : ∀ {acc : List Int}, acc.Nodup → (ns.foldl addS acc).Nodup ∧ ∀ k, k ∈ ns.foldl addS acc ↔ k ∈ acc ∨ k ∈ ns := by
  induction ns with
  | nil => intro acc h; exact ⟨h, by simp⟩
  | cons n r ih =>
    intro acc h
    obtain ⟨h1, h2⟩ := ih (addS_nodup (x := n) h)
    refine ⟨h1, fun k => ?_⟩
    rw [List.foldl_cons, h2, addS_mem]
    simp [or_assoc]
theorem nodup_le {α : Type} [DecidableEq α] : ∀ {a b : List α}, a.Nodup → (∀ k, k ∈ a → k ∈ b) → a.length ≤ b.length
  | [], _, _, _ => Nat.zero_le _
  | x :: a, b, na, h => by
    have hx := h x List.mem_cons_self
    have h2 := nodup_le (a := a) (b := b.erase x) (List.nodup_cons.mp na).2 fun k hk => by
      have hne : k ≠ x := fun e => (List.nodup_cons.mp na).1 (e ▸ hk)
      exact (List.mem_erase_of_ne hne).mpr (h k (List.mem_cons_of_mem _ hk))
    rw [List.length_erase_of_mem hx] at h2
    have : 0 < b.length := List.length_pos_of_mem hx
    simp only [List.length_cons]
    omega
theorem nodup_perm {a b : List Int} (ha : a.Nodup) (hb : b.Nodup) (h : ∀ k, k ∈ a ↔ k ∈ b) : a.length = b.length :=
  Nat.le_antisymm (nodup_le ha fun k hk => (h k).1 hk) (nodup_le hb fun k hk => (h k).2 hk)
theorem setR_count {w : World} {h : Heap} {a : Addr} {S : Int → Bool} {n : Nat} {xs : List Int} (R : SetR w h a S n) (e : ∀ i, S i = decide (i ∈ xs)) (nd : xs.Nodup) : n = xs.length := by
  obtain ⟨o, es, ep, t, ho, hx, hd, g, nd2, hm, hb, hf, hn, _⟩ := R
  have := nodup_perm nd2 nd fun k => by rw [← hm k, e k, decide_eq_true_eq]
  rw [← this, List.length_map, Array.length_toList, hn]
def rSetOf (K : PySem.W.Frag) (w : World) : List V → Hp → VK → Prop := fun vs H Q => ∃ (b : Bool) (p : Addr) (ns : List Int), vs = [V.ref p] ∧ SqB b K H p (ns.map V.int) ∧ ns.length < 4000 ∧
  ∀ q, H q = none → Q (.ref q) (upd H q (SetO w q (fun j => decide (j ∈ ns.foldl addS [])) (ns.foldl addS []).length))
theorem cr_setOf {X : Cx} (hc : X.calm = true) : CallR X (.type "set") (rSetOf X.K X.w) := by
  intro pins s σ H vs us Q I r h
  obtain ⟨b, p, ns, rfl, hs, hn, q⟩ := h
  rw [Vals.ref1 r]
  obtain ⟨its, rv, sq, hz⟩ := inv_seqB I hs
  have hi := rv.ints
  obtain ⟨nd, mem⟩ := foldl_addS (ns := ns) (acc := []) List.nodup_nil
  have hsb : ns.length + 1 < scanBound := by show ns.length + 1 < 4096; omega
  have fin : ∀ (h' : Heap) (tk c : Nat), SetR X.w h' s.heap.objs.size (fun j => decide (j ∈ ns)) c → (∀ b o, s.heap.get? b = some o → h'.get? b = some o) → EP X pins σ Q (.ref s.heap.objs.size) { s with heap := h', toks := tk } := fun h' tk c R k => by
    have R2 : SetR X.w h' s.heap.objs.size (fun j => decide (j ∈ ns.foldl addS [])) c := R.congr fun j => by
      rw [Bool.eq_iff_iff]
      simp [mem j]
    have hc2 := setR_count (xs := ns.foldl addS []) R2 (fun _ => rfl) nd
    rw [hc2] at R2
    exact ⟨.ref s.heap.objs.size, _, I.laid (t' := tk) k (Nat.le_refl _) (setO_new R2), rfl, q _ (I.hok.fresh (Nat.le_refl _))⟩
  cases b with
  | true => exact set_list_ints ns (I.ok.hd hc) sq (by simpa using hi) hsb fun h' tk c R _ k => fin h' tk c R k
  | false => exact call_set_tupI ns (I.ok.hd hc) sq (by simpa using hi) hsb fun h' tk c R _ k => fin h' tk c R k
end Qv
set_option Elab.async false
set_option linter.all false
set_option maxRecDepth 100000
set_option maxHeartbeats 4000000
/-! Comprehensions; lists and sets that are made by calls. -/
namespace Qv
open PySem PySem.Spec PyProof.Rows L2
section
variable {T : Tb} {Q : Ck} {N : List Str} {C : Calls} {k : Nat} {X : Cx} {sc : Scope} {fnb : Str → Bool} {Wx : WX} {H0 : Hp}

/-- nothing may be raised -/
abbrev WF : WX := fun _ _ _ _ => False
theorem takes_none {X : Cx} : Takes X WF := fun _ _ ⟨_, _, _, _, _, _, _, _, _, _, _, _, _, _, _, _, w⟩ => w.elim
theorem PTs.imp {ifs : List PySem.Expr} {t t' : TT} (h : PTs X ifs t) (k : ∀ σ H Q, t' σ H Q → t σ H Q) : PTs X ifs t' := ⟨fun pins s σ H Q I hw => h.run pins s σ H Q I (k _ _ _ hw)⟩
theorem pts_no : PTs X [] (tT T H0 Wx (evC C .no)) := PTs.imp pts_nil fun σ H Qr ⟨W, E, S, sr, fr, h⟩ => (show Resp T EqB (wxs Wx σ) W H Qr (.ok true S) from h).at sr rfl
theorem pts_ye {a : IE} {x : PySem.Expr} (h : PT X x (TTe T H0 Wx C a)) : PTs X [x] (tT T H0 Wx (evC C (.ye a))) := PTs.imp (pts_one h) fun σ H Qr h => h
/-- a list of one's own is changed: what was there ahead stands -/
theorem Stp.own {W W' : Wd} {H H' : Hp} {a : Addr} {o : HO} (st : Stp W H W' H') (h : H a = none) : Stp W H W' (upd H' a o) :=
  ⟨st.le, fun b u e n => by rw [upd_ne (ne_of_none e h)]; exact st.keep b u e n, st.newG, st.newM, fun b hb => by
    by_cases e : b = a
    · subst e; rw [upd_same]; simp
    · rw [upd_ne e]; exact st.there b hb⟩
/-- a list of one's own stays one's own -/
theorem own_stp {W W' : Wd} {H H' : Hp} {a : Addr} {o : HO} (st : Stp W H W' H') (q : H a = some o) (g : W.G a = none) (nm : a ∉ W.m) : H' a = some o ∧ W'.G a = none ∧ a ∉ W'.m := by
  refine ⟨st.keep a _ q nm, ?_, fun c => ?_⟩
  · cases k : W'.G a with
    | none => rfl
    | some u =>
      rcases st.newG a u k with c | c | c
      · rw [g] at c; cases c
      · rw [q] at c; cases c
      · exact absurd c nm
  · rcases st.newM a c with c | c
    · exact nm c
    · rw [q] at c; cases c
/-- one turn of a comprehension -/
def compF (C : Calls) (elt : IE) (tg : Tg) (cond : IO) (vs : List Nat) (E : En) : D → Sh → Res (Option D) := fun x S => match asgT tg x (wipeE E vs) with
  | none => .bad
  | some E1 => (evC C cond E1 S).bind fun t S => match t with
    | true => (ev C elt E1 S).bind fun y S => .ok (some y) S
    | false => .ok none S
theorem noEx_bind {α β γ : Type} {R : Wd → Hp → β → γ → Prop} {W : Wd} {H : Hp} {Wh : WXh} {Qr : γ → Hp → Prop} {r : Res α} {kk : α → Sh → Res β} (h : Resp T R Wh W H Qr (noEx (r.bind kk))) : ∃ a S, r = .ok a S ∧ Resp T R Wh W H Qr (noEx (kk a S)) := by
  cases r with
  | ok a S => exact ⟨a, S, rfl, h⟩
  | ex x S => exact h.elim
  | bad => exact h.elim
/-- the wish of a comprehension -/
theorem lc_wish {elt : IE} {tg : Tg} {it : II} {cond : IO} {vs : List Nat} (hv : ∀ i ∈ tgSlots tg, i ∈ vs) {W : Wd} {E : En} {S : Sh} {σ : L2.St} {H : Hp} {Qr : VK} (sr : SRel T W S H) (fr : FRel T H0 W E σ H)
    (h : Resp T (RL T H) (wxs Wx σ) W H Qr (evL C (.comp elt tg it cond vs) E S)) : tLc (tI T H0 Wx C it) (tG T H0 tg) (tT T H0 WF (evC C cond)) (TDe T H0 WF C elt) vs σ H Qr := by
  have h : Resp T (RL T H) (wxs Wx σ) W H Qr ((evI C it E S).bind fun xs S => noEx (compL (compF C elt tg cond vs E) xs [] S)) := h
  refine tR.then sr fr rfl h fun J H1 xs S1 W1 _ st1 sr1 fr1 r1 h1 => ?_
  intro Dd hD
  let Pv : Nat → Hp → Prop := fun i Hc => ∃ W2 S2 acc vacc, Stp W1 H1 W2 Hc ∧ SRel T W2 S2 Hc ∧ Hc Dd = some (.lst vacc) ∧ Reps T W2 acc vacc ∧ W2.G Dd = none ∧ Dd ∉ W2.m ∧ Resp T (RL T H) (wxs Wx σ) W1 H1 Qr (noEx (compL (compF C elt tg cond vs E) (xs.drop i) acc S2))
  have hH : H Dd = none := st1.back sr hD
  refine ⟨fun i m Hc => m = xs.length - i ∧ i ≤ xs.length ∧ Pv i Hc, ⟨_, rfl, Nat.zero_le _, ?_⟩, ?_⟩
  · obtain ⟨f1, f2⟩ := sr1.fresh (o := .lst []) hD
    exact ⟨W1, S1, [], [], f2, f1, upd_same, .nil, sr1.nonG hD, sr1.nonM hD, h1⟩
  rintro i m Hc ⟨rfl, hi, W2, S2, acc, vacc, st2, sr2, e2, ra, g2, n2, h2⟩
  by_cases hlt : i < xs.length
  · refine .inr ⟨r1.go W2 S2 Hc st2.le sr2 i hlt, Pv (i + 1), fun H' p => ⟨_, by omega, rfl, hlt, p⟩, fun x H' y => ?_⟩
    have hd : xs[i]? = some xs[i] := List.getElem?_eq_getElem hlt
    rw [List.drop_eq_getElem_cons hlt] at h2
    replace h2 : Resp T (RL T H) (wxs Wx σ) W1 H1 Qr (noEx ((compF C elt tg cond vs E xs[i] S2).bind fun o S1 => match o with
      | none => compL (compF C elt tg cond vs E) (xs.drop (i + 1)) acc S1
      | some y => if acc.length < LIM then compL (compF C elt tg cond vs E) (xs.drop (i + 1)) (acc ++ [y]) S1 else .bad)) := h2
    obtain ⟨o, S3, eo, h3⟩ := noEx_bind h2
    obtain ⟨W3, st3, sr3, rx⟩ := r1.yld W2 S2 Hc st2.le sr2 i xs[i] x H' hd y
    obtain ⟨e3, g3, n3⟩ := own_stp st3 e2 g2 n2
    have st13 := st2.trans st3
    unfold compF at eo
    split at eo
    · cases eo
    · rename_i E1 eE
      have fw : FRel T H0 W3 (wipeE E vs) (L2.wipe σ vs) H' := (fr1.stp st13).wipe vs
      refine ⟨W3, wipeE E vs, S2, xs[i], E1, sr3, fw, rx, eE, fun σ2 fr2 hw => ⟨?_, ?_⟩⟩
      · have hww : L2.wipe (L2.wipe σ vs) vs = L2.wipe σ vs := by
          have key : ∀ (us : List Nat) (τ : L2.St), (∀ u ∈ us, ∀ z, τ[u]? = some z → z = none) → L2.wipe τ us = τ := by
            intro us
            induction us with
            | nil => intro τ _; rfl
            | cons u us ih =>
              intro τ hz
              unfold L2.wipe
              rw [ih τ fun a ha => hz a (List.mem_cons_of_mem _ ha)]
              apply List.ext_getElem?
              intro j
              by_cases hj : u = j
              · subst hj
                by_cases hl : u < τ.length
                · rw [List.getElem?_set_self hl]
                  have := hz u List.mem_cons_self _ (List.getElem?_eq_getElem hl)
                  rw [List.getElem?_eq_getElem hl, this]
                · rw [List.getElem?_eq_none (by simpa using hl), List.getElem?_eq_none (by simpa using hl)]
              · rw [List.getElem?_set_ne hj]
          refine key vs _ fun u hu z hz => ?_
          cases z with
          | none => rfl
          | some v => exact absurd hu (L2.wipe_some hz).2
        rw [hw vs hv, hww]
      · cases ec : evC C cond E1 S2 with
        | bad => rw [ec] at eo; cases eo
        | ex _ _ => rw [ec] at eo; cases eo
        | ok t S4 =>
          rw [ec] at eo
          refine ⟨W3, E1, S2, sr3, fr2, ?_⟩
          rw [ec]
          intro W4 H4 t' st4 sr4 et
          subst et
          have fr4 := fr2.stp st4
          obtain ⟨e4, g4, n4⟩ := own_stp st4 e3 g3 n3
          cases t with
          | false =>
            cases eo
            rw [if_neg (by decide)]
            exact ⟨W4, _, acc, vacc, st13.trans st4, sr4, e4, (ra.mono st3.le).mono st4.le, g4, n4, h3⟩
          | true =>
            rw [if_pos rfl]
            replace eo : (ev C elt E1 S4).bind (fun y S => Res.ok (some y) S) = Res.ok o S3 := eo
            refine ⟨W4, E1, S4, sr4, fr4, ?_⟩
            cases ee : ev C elt E1 S4 with
            | bad => rw [ee] at eo; cases eo
            | ex _ _ => rw [ee] at eo; cases eo
            | ok yv S5 =>
              rw [ee] at eo
              cases eo
              intro W5 H5 v st5 sr5 rv
              obtain ⟨e5, g5, n5⟩ := own_stp st5 e4 g4 n4
              have st15 := (st13.trans st4).trans st5
              have ra5 : Reps T W5 acc vacc := ((ra.mono st3.le).mono st4.le).mono st5.le
              replace h3 : Resp T (RL T H) (wxs Wx σ) W1 H1 Qr (noEx (if acc.length < LIM then compL (compF C elt tg cond vs E) (xs.drop (i + 1)) (acc ++ [yv]) S3 else .bad)) := h3
              split at h3
              · rename_i hlim
                have := sl64
                unfold LIM at hlim
                refine ⟨vacc, e5, by rw [← ra5.length]; omega, W5, _, acc ++ [yv], vacc ++ [v], st15.own hD, sr5.ownSet g5 n5, upd_same, ra5.append (.cons rv .nil), g5, n5, h3⟩
              · exact h3.elim
  · have e : i = xs.length := by omega
    subst e
    refine .inl ⟨r1.stop W2 S2 Hc st2.le sr2, ?_⟩
    rw [List.drop_length] at h2
    exact h2 W2 Hc (.ref Dd) st2 sr2 ⟨Dd, vacc, rfl, e2, ra, g2, n2, hH⟩
/-- [.. for ..] -/
theorem l_comp (g : Gd T Q N C k X sc fnb Wx) (hsu : Q.su = false) {elt : IE} {tg : Tg} {it : II} {cond : IO} {vs : List Nat} (hv : ∀ i ∈ tgSlots tg, i ∈ vs) {x t i : PySem.Expr} {ifs : List PySem.Expr} {scope : Scope} {own : List (Str × Nat)} {p : Pos} (hi : PI X t i (tI T H0 Wx C it)) (ok : BlkOk X.N X.env.scope scope own) (ho : own.map (·.2) = vs)
    (hg : ∀ (s : Shared) (H : Hp) (Ca : Addr) (cl : List (Str × Addr)) (fp : List Addr), PG (X.blk s H scope (compEnvC scope cl Ca X.env) fp) t (tG T H0 tg)) (ht : ∀ (s : Shared) (H : Hp) (Ca : Addr) (cl : List (Str × Addr)) (fp : List Addr), PTs (X.blk s H scope (compEnvC scope cl Ca X.env) fp) ifs (tT T H0 WF (evC C cond)))
    (he : ∀ (s : Shared) (H : Hp) (Ca : Addr) (cl : List (Str × Addr)) (fp : List Addr), PE (X.blk s H scope (compEnvC scope cl Ca X.env) fp) x (TDe T H0 WF C elt)) (hs : ∀ x, foldedSetIterable i X.env x = pure x) :
    PL X T H0 Wx (.ListComp x [⟨t, i, ifs, 0⟩] scope p) (evL C (.comp elt tg it cond vs)) := by
  subst ho
  exact PE.imp (pe_lc (g.calm hsu) g.nd hi ok hg ht he hs) fun σ H Qr ⟨W, E, S, sr, fr, h⟩ => lc_wish hv sr fr h
/-- the place in a comprehension's block -/
theorem Gd.blk (g : Gd T Q N C k X sc fnb Wx) (hsu : Q.su = false) (s : Shared) (H : Hp) (scope : Scope) (cl : List (Str × Addr)) (Ca : Addr) (fp : List Addr) : Gd T Q N C k (X.blk s H scope (compEnvC scope cl Ca X.env) fp) (inner scope sc) (innerF scope) WF where
  st := g.st
  N := g.N
  nd := g.nd
  sc := by rw [← g.sc]; rfl
  fnb := fun x h => h
  calm := g.calm
  room := g.room
  un := g.un
  tk := takes_none
  su := fun z => by rw [hsu] at z; cases z

/-! ### list(x), sorted(x), x * n, set(x) -/
theorem View.sq {W : Wd} {S : Sh} {H : Hp} {d : D} {v : V} {xs : List D} {K : PySem.W.Frag} (sr : SRel T W S H) (h : View T W H d v) (e : seqD d = some xs) : ∃ b a vs, v = .ref a ∧ Reps T W xs vs ∧ SqB b K H a vs := by
  obtain ⟨a, vs, e1, r, q⟩ := h.seq (K := K) sr e
  rcases q with q | q
  · exact ⟨true, a, vs, e1, r, q⟩
  · exact ⟨false, a, vs, e1, r, q⟩
theorem l_list (g : Gd T Q N C k X sc fnb Wx) {a : IE} {x : PySem.Expr} {p p' : Pos} (hg : glB sc (Str.ofString "list") = true) (hs : nst x = true) (ha : PE X x (TAe T H0 Wx C a)) : PL X T H0 Wx (.Call (.Name (Str.ofString "list") p') [x] [] p) (evL C (.list a)) :=
  PE.imp (pe_callTy call_list_of (glB_ok g hg) (g.st.bn _ (by decide +kernel)) (by decide +kernel) (pa_cons' hs ha pa_nil) (by decide) (by decide) (by rw [star_of hs]) (by rfl)) fun σ H Qr ⟨W, E, S, sr, fr, h⟩ => by
    refine tA.then sr fr (show Resp T (RL T H) (wxs Wx σ) W H Qr ((brw a E S (ev C a E S)).bind fun x S => lift (seqD (drf S x)) S) from h) fun v H1 d S1 W1 st1 sr1 fr1 r1 h1 => ?_
    obtain ⟨xs, e, h1⟩ := h1.lift1
    obtain ⟨b, ad, vs, rfl, rs, q⟩ := (r1.view sr1).sq (K := X.K) sr1 e
    refine ⟨ad, vs, rfl, by cases b; exact .inr q; exact .inl q, fun l hl => ?_⟩
    obtain ⟨a1, a2, a3⟩ := RL.own sr1 rs hl (st1.back sr hl)
    exact h1 _ _ _ a1 a2 a3
theorem sorted_uniq : ∀ {a b : List Int}, a.Perm b → a.Pairwise (· ≤ ·) → b.Pairwise (· ≤ ·) → a = b
  | a, b, p, ha, hb => p.eq_of_pairwise (fun x y _ _ h1 h2 => Int.le_antisymm h1 h2) ha hb
theorem insI_perm (x : Int) : ∀ l : List Int, (insI x l).Perm (x :: l)
  | [] => .refl _
  | y :: r => by
    unfold insI
    split
    · exact .refl _
    · exact ((insI_perm x r).cons y).trans (.swap x y r)
theorem sortI_perm : ∀ l : List Int, (sortI l).Perm l
  | [] => .nil
  | x :: r => (insI_perm x _).trans ((sortI_perm r).cons x)
theorem insI_sorted (x : Int) : ∀ {l : List Int}, l.Pairwise (· ≤ ·) → (insI x l).Pairwise (· ≤ ·)
  | [], _ => by simp [insI]
  | y :: r, h => by
    unfold insI
    split
    · rename_i c
      refine List.pairwise_cons.mpr ⟨fun z hz => ?_, h⟩
      rcases List.mem_cons.mp hz with rfl | hz
      · exact c
      · exact Int.le_trans c ((List.pairwise_cons.mp h).1 z hz)
    · rename_i c
      refine List.pairwise_cons.mpr ⟨fun z hz => ?_, insI_sorted x (List.pairwise_cons.mp h).2⟩
      rcases List.mem_cons.mp ((insI_perm x r).mem_iff.mp hz) with rfl | hz
      · omega
      · exact (List.pairwise_cons.mp h).1 z hz
theorem sortI_sorted : ∀ l : List Int, (sortI l).Pairwise (· ≤ ·)
  | [] => .nil
  | x :: r => insI_sorted x (sortI_sorted r)
theorem sortI_of_set {xs ns : List Int} (nd : xs.Nodup) (h : ns.Pairwise (· < ·)) (e : ∀ k, k ∈ ns ↔ k ∈ xs) : ns = sortI xs := by
  have nd2 : ns.Nodup := h.imp fun {a b} h => Int.ne_of_lt h
  have p : ns.Perm xs := (List.perm_ext_iff_of_nodup nd2 nd).mpr e
  exact sorted_uniq (p.trans (sortI_perm xs).symm) (h.imp fun {a b} h => Int.le_of_lt h) (sortI_sorted xs)
def rSortA (K : PySem.W.Frag) (w : World) : List V → Hp → VK → Prop := fun vs H Q => rSortedI K vs H Q ∨ rSortedSet w vs H Q
theorem l_sorted (g : Gd T Q N C k X sc fnb Wx) (hsu : Q.su = false) {a : IE} {x : PySem.Expr} {p p' : Pos} (hg : glB sc (Str.ofString "sorted") = true) (hs : nst x = true) (ha : PE X x (TAe T H0 Wx C a)) : PL X T H0 Wx (.Call (.Name (Str.ofString "sorted") p') [x] [] p) (evL C (.sorted a)) := by
  have cr : CallR X (.builtin "sorted") (rSortA X.K X.w) := fun pins s σ H vs us Qr I r h => h.elim (fun h => cr_sortedI pins s σ H vs us Qr I r h) (fun h => cr_sortedSet (g.calm hsu) pins s σ H vs us Qr I r h)
  refine PE.imp (pe_callB cr (glB_ok g hg) (g.st.bn _ (by decide +kernel)) (by decide +kernel) (pa_cons' hs ha pa_nil) (by decide) (by decide) (by rw [star_of hs]) (by rfl)) fun σ H Qr ⟨W, E, S, sr, fr, h⟩ => ?_
  refine tA.then sr fr (show Resp T (RL T H) (wxs Wx σ) W H Qr ((brw a E S (ev C a E S)).bind fun x S => match drf S x with
    | .lst xs => (lift (intsOf xs) S).bind fun l S => .ok ((sortI l).map .int) S
    | .set xs => if xs.length < 64 then .ok ((sortI xs).map .int) S else .bad
    | _ => .bad) from h) fun v H1 d S1 W1 st1 sr1 fr1 r1 h1 => ?_
  have vw := r1.view sr1
  split at h1
  · rename_i xs e
    rw [e] at vw
    obtain ⟨l, e2, h1⟩ := h1.lift
    obtain ⟨ad, vs, rfl, hv, rs⟩ := vw
    obtain ⟨rfl, _⟩ := intsOf_reps rs e2
    refine .inl ⟨ad, l, rfl, SqL.of hv, fun ns q hp hsd hq => ?_⟩
    obtain rfl := sorted_uniq (hp.trans (sortI_perm l).symm) hsd (sortI_sorted l)
    obtain ⟨a1, a2, a3⟩ := RL.own sr1 (reps_ints (T := T) (W := W1) (sortI l)) hq (st1.back sr hq)
    exact h1 _ _ _ a1 a2 a3
  · rename_i xs e
    rw [e] at vw
    obtain ⟨ad, SS, rfl, hv, hS, nd⟩ := vw
    rw [g.st.tw] at hv
    split at h1
    · rename_i c
      refine .inr ⟨ad, SS, _, rfl, hv, c, fun ns q hsd hm hl hq => ?_⟩
      obtain rfl := sortI_of_set nd hsd fun k => by rw [hm k, hS k, decide_eq_true_eq]
      obtain ⟨a1, a2, a3⟩ := RL.own sr1 (reps_ints (T := T) (W := W1) (sortI xs)) hq (st1.back sr hq)
      exact h1 _ _ _ a1 a2 a3
    · exact h1.nobad
  · exact h1.nobad
theorem mul_lst {d y : D} {xs : List D} (h : binD .mul d y = some (.lst xs)) : ∃ ys k, d = .lst ys ∧ y = .int k ∧ 0 ≤ k ∧ k ≤ 1000 ∧ ys.length ≤ 1000 ∧ xs = (List.replicate k.toNat ys).flatten := by
  cases d with
  | lst ys =>
    cases y with
    | int k =>
      simp only [binD] at h
      split at h <;> cases h
      rename_i c
      exact ⟨ys, k, rfl, rfl, c.1, c.2.1, c.2.2, rfl⟩
    | _ => simp [binD] at h
  | tup ys =>
    cases y with
    | int k => simp only [binD] at h; split at h <;> cases h
    | _ => simp [binD] at h
  | int i =>
    cases y with
    | int k => simp only [binD] at h; split at h <;> cases h
    | _ => simp [binD] at h
  | _ => simp [binD] at h
theorem l_rep (g : Gd T Q N C k X sc fnb Wx) {a b : IE} {l r : PySem.Expr} {p : Pos} (ha : PE X l (TAe T H0 Wx C a)) (hb : PE X r (TDe T H0 Wx C b)) : PL X T H0 Wx (.BinOp l .Mult r p) (evL C (.rep a b)) :=
  PE.imp (pe_op op_rep ha hb) fun σ H Qr ⟨W, E, S, sr, fr, h⟩ => by
    refine tA.then sr fr (show Resp T (RL T H) (wxs Wx σ) W H Qr ((brw a E S (ev C a E S)).bind fun x S => (ev C b E S).bind fun y S => match binD .mul (drf S x) y with
      | some (.lst xs) => .ok xs S
      | _ => .bad) from h) fun v H1 d S1 W1 st1 sr1 fr1 r1 h1 => ?_
    refine tD.then sr1 fr1 h1 fun u H2 d2 S2 W2 st2 sr2 fr2 r2 h2 => ?_
    have vw := (RA.stp sr1 st2 r1).view sr2
    split at h2
    · rename_i xs e
      obtain ⟨ys, k, e1, rfl, c1, c2, c3, rfl⟩ := mul_lst e
      rw [e1] at vw
      obtain ⟨ad, vs, rfl, hv, rs⟩ := vw
      cases r2
      have hl := rs.length
      have := sl64
      have a1 : vs.length * k.toNat ≤ 1000 * 1000 := Nat.mul_le_mul (by omega) (by omega)
      refine ⟨ad, k, vs, rfl, rfl, hv, by omega, by omega, by omega, fun q hq => ?_⟩
      obtain ⟨b1, b2, b3⟩ := RL.own sr2 (rs.rep k.toNat) hq ((st1.trans st2).back sr hq)
      exact h2 _ _ _ b1 b2 b3
    · exact h2.nobad
theorem s_st (g : Gd T Q N C k X sc fnb Wx) (hsu : Q.su = false) {a : IE} {x : PySem.Expr} {p p' : Pos} (hg : glB sc (Str.ofString "set") = true) (hs : nst x = true) (ha : PE X x (TAe T H0 Wx C a)) : PE X (.Call (.Name (Str.ofString "set") p') [x] [] p) (TDe T H0 Wx C (.st a)) :=
  PE.imp (pe_callTy (cr_setOf (g.calm hsu)) (glB_ok g hg) (g.st.bn _ (by decide +kernel)) (by decide +kernel) (pa_cons' hs ha pa_nil) (by decide) (by decide) (by rw [star_of hs]) (by rfl)) fun σ H Qr ⟨W, E, S, sr, fr, h⟩ => by
    refine tA.then sr fr (show Resp T (RD T) (wxs Wx σ) W H Qr ((brw a E S (ev C a E S)).bind fun x S => (lift (setOf (drf S x)) S).bind fun l S => .ok (.set l) S) from h) fun v H1 d S1 W1 st1 sr1 fr1 r1 h1 => ?_
    obtain ⟨l, e, h1⟩ := h1.lift
    unfold setOf at e
    simp only [Option.bind_eq_some_iff] at e
    obtain ⟨ns, ⟨xs, e1, e2⟩, e3⟩ := e
    split at e3 <;> cases e3
    rename_i c
    obtain ⟨b, ad, vs, rfl, rs, q⟩ := (r1.view sr1).sq (K := X.K) sr1 e1
    obtain ⟨rfl, _⟩ := intsOf_reps rs e2
    refine ⟨b, ad, ns, rfl, q, c, fun q hq => ?_⟩
    obtain ⟨f1, f2⟩ := sr1.laid (o := SetO X.w q (fun j => decide (j ∈ ns.foldl addS [])) (ns.foldl addS []).length) hq
    refine h1 _ _ _ f2 f1 (.set ?_ (fun _ => rfl) (foldl_addS List.nodup_nil).1)
    rw [g.st.tw]
    exact upd_same
end
end Qv
set_option Elab.async false
set_option linter.all false
set_option maxRecDepth 100000
set_option maxHeartbeats 8000000
/-! The soundness of the checker: expressions. -/
namespace Qv
open PySem PySem.Spec PyProof.Rows L2
def isBO : PySem.Expr → Bool
  | .BoolOp .. => true
  | _ => false
section
variable {T : Tb} {Q : Ck} {N : List Str} {C : Calls} {k : Nat} {H0 : Hp}
def SndE (T : Tb) (Q : Ck) (N : List Str) (C : Calls) (k : Nat) (H0 : Hp) (i : IE) : Prop := ∀ (X : Cx) (sc : Scope) (fnb : Str → Bool) (Wx : WX) (x : PySem.Expr), Gd T Q N C k X sc fnb Wx → okE Q N sc i x = true →
  PE X x (TDe T H0 Wx C i) ∧ PT X x (TTe T H0 Wx C i) ∧ (isBO x = true → PW X x (TTe T H0 Wx C i))
def SndEs (T : Tb) (Q : Ck) (N : List Str) (C : Calls) (k : Nat) (H0 : Hp) (i : IEs) : Prop := ∀ (X : Cx) (sc : Scope) (fnb : Str → Bool) (Wx : WX) (x : List PySem.Expr), Gd T Q N C k X sc fnb Wx → okEs Q N sc i x = true →
  PA X x (tDs T H0 Wx (evs C i)) ∧ PA X x (tAs T H0 Wx (evAs C i))
def SndO (T : Tb) (Q : Ck) (N : List Str) (C : Calls) (k : Nat) (H0 : Hp) (i : IO) : Prop := ∀ (X : Cx) (sc : Scope) (fnb : Str → Bool) (Wx : WX), Gd T Q N C k X sc fnb Wx →
  (∀ x, okO Q N sc i x = true → PO X x (tO T H0 Wx C i)) ∧ (∀ x, okC Q N sc i x = true → PTs X x (tT T H0 Wx (evC C i)))
def SndL (T : Tb) (Q : Ck) (N : List Str) (C : Calls) (k : Nat) (H0 : Hp) (i : LE) : Prop := ∀ (X : Cx) (sc : Scope) (fnb : Str → Bool) (Wx : WX) (x : PySem.Expr), Gd T Q N C k X sc fnb Wx → okL Q N sc i x = true → PL X T H0 Wx x (evL C i)
def SndI (T : Tb) (Q : Ck) (N : List Str) (C : Calls) (k : Nat) (H0 : Hp) (i : II) : Prop := ∀ (X : Cx) (sc : Scope) (fnb : Str → Bool) (Wx : WX) (t x : PySem.Expr), Gd T Q N C k X sc fnb Wx → okI Q N sc i t x = true →
  PI X t x (tI T H0 Wx C i) ∧ plainX x = true
theorem val_all {X : Cx} {sc : Scope} {fnb : Str → Bool} {Wx : WX} {i : IE} {x : PySem.Expr} (g : Gd T Q N C k X sc fnb Wx) (ok : okE Q N sc i x = true) (hv : valX x = true) (hb : isBO x = false) (h : PE X x (TDe T H0 Wx C i)) :
    PE X x (TDe T H0 Wx C i) ∧ PT X x (TTe T H0 Wx C i) ∧ (isBO x = true → PW X x (TTe T H0 Wx C i)) :=
  ⟨h, t_val hv (PE.borrow g ok h), fun z => by rw [hb] at z; cases z⟩
theorem okL_val : ∀ (i : LE) {sc : Scope} {e : PySem.Expr}, okL Q N sc i e = true → valX e = true ∧ isBO e = false
  | .disp es, sc, e, h => by unfold okL at h; split at h <;> first | exact ⟨rfl, rfl⟩ | cases h
  | .comp _ _ _ _ _, sc, e, h => by unfold okL at h; split at h <;> first | exact ⟨rfl, rfl⟩ | cases h
  | .list a, sc, e, h => by unfold okL at h; split at h <;> first | exact ⟨rfl, rfl⟩ | cases h
  | .sorted a, sc, e, h => by unfold okL at h; split at h <;> first | exact ⟨rfl, rfl⟩ | cases h
  | .rep a n, sc, e, h => by unfold okL at h; split at h <;> first | exact ⟨rfl, rfl⟩ | cases h
theorem okEs_z {sc : Scope} {es : IEs} (h : okEs Q N sc es [] = true) : es = .nil := by
  cases es with
  | nil => rfl
  | cons a b => simp [okEs] at h
mutual
theorem sE : ∀ i : IE, SndE T Q N C k H0 i
  | .c d => fun X sc fnb Wx x g h => by
    have hp : valX x = true ∧ isBO x = false := by have h2 := h; unfold okE at h2; split at h2 <;> first | exact ⟨rfl, rfl⟩ | cases h2
    exact val_all g h hp.1 hp.2 (s_c h)
  | .g n => fun X sc fnb Wx x g h => by
    have hp : valX x = true ∧ isBO x = false := by have h2 := h; unfold okE at h2; split at h2 <;> first | exact ⟨rfl, rfl⟩ | cases h2
    exact val_all g h hp.1 hp.2 (s_g g h)
  | .v n => fun X sc fnb Wx x g h => by
    have hp : valX x = true ∧ isBO x = false := by have h2 := h; unfold okE at h2; split at h2 <;> first | exact ⟨rfl, rfl⟩ | cases h2
    exact val_all g h hp.1 hp.2 (PE.imp (s_v g h) fun σ H Qr z => tVar_D z)
  | .tup es => fun X sc fnb Wx x g h => by
    have h0 := h
    unfold okE at h
    split at h
    · exact val_all g h0 rfl rfl (s_tup (sEs es X sc fnb Wx _ g h).1)
    · cases h
  | .l le => fun X sc fnb Wx x g h => by
    have h0 := h
    unfold okE at h
    exact val_all g h0 (okL_val le h).1 (okL_val le h).2 (s_l (sL le X sc fnb Wx x g h))
  | .sh le => fun X sc fnb Wx x g h => by
    have h0 := h
    unfold okE at h
    exact val_all g h0 (okL_val le h).1 (okL_val le h).2 (s_sh (sL le X sc fnb Wx x g h))
  | .bin o a b => fun X sc fnb Wx x g h => by
    have h0 := h
    unfold okE at h
    split at h
    · simp only [Bool.and_eq_true, decide_eq_true_eq] at h
      obtain ⟨⟨rfl, ha⟩, hb⟩ := h
      exact val_all g h0 rfl rfl (s_bin g (PE.borrow g ha (sE a X sc fnb Wx _ g ha).1) (PE.borrow g hb (sE b X sc fnb Wx _ g hb).1))
    · cases h
  | .neg a => fun X sc fnb Wx x g h => by
    have h0 := h
    unfold okE at h
    split at h
    · simp only [Bool.and_eq_true, decide_eq_true_eq] at h
      obtain ⟨rfl, ha⟩ := h
      exact val_all g h0 rfl rfl (s_neg (sE a X sc fnb Wx _ g ha).1)
    · cases h
  | .cmp o a b => fun X sc fnb Wx x g h => by
    have h0 := h
    unfold okE at h
    split at h
    · simp only [Bool.and_eq_true, decide_eq_true_eq] at h
      obtain ⟨⟨rfl, ha⟩, hb⟩ := h
      have pa := PE.borrow g ha (sE a X sc fnb Wx _ g ha).1
      have pb := PE.borrow g hb (sE b X sc fnb Wx _ g hb).1
      exact ⟨s_cmp g (okE_plain b _ hb) pa pb, t_cmp g (okE_plain b _ hb) pa pb, fun z => by cases z⟩
    · cases h
  | .cmpc o1 o2 a b c => fun X sc fnb Wx x g h => by
    unfold okE at h
    split at h
    · simp only [Bool.and_eq_true, decide_eq_true_eq] at h
      obtain ⟨⟨⟨⟨rfl, rfl⟩, ha⟩, hb⟩, hc⟩ := h
      have pa := (sE a X sc fnb Wx _ g ha).1
      have pb := (sE b X sc fnb Wx _ g hb).1
      have pc := (sE c X sc fnb Wx _ g hc).1
      exact ⟨s_cmpc g (okE_plain c _ hc) pa pb pc, t_cmpc g (okE_plain c _ hc) pa pb pc, fun z => by cases z⟩
    · cases h
  | .isn a => fun X sc fnb Wx x g h => by
    unfold okE at h
    split at h
    · have pa := (sE a X sc fnb Wx _ g h).1
      exact ⟨s_isn pa, t_isn pa, fun z => by cases z⟩
    · cases h
  | .nnn a => fun X sc fnb Wx x g h => by
    unfold okE at h
    split at h
    · have pa := (sE a X sc fnb Wx _ g h).1
      exact ⟨s_nnn pa, t_nnn pa, fun z => by cases z⟩
    · cases h
  | .not a => fun X sc fnb Wx x g h => by
    unfold okE at h
    split at h
    · simp only [Bool.and_eq_true, decide_eq_true_eq] at h
      obtain ⟨rfl, ha⟩ := h
      have pa := sE a X sc fnb Wx _ g ha
      exact ⟨s_not (PE.borrow g ha pa.1), t_not pa.2.1, fun z => by cases z⟩
    · cases h
  | .and a b => fun X sc fnb Wx x g h => by
    unfold okE at h
    split at h
    · rename_i x y p
      simp only [Bool.and_eq_true] at h
      have pa := sE a X sc fnb Wx _ g h.1
      have pb := sE b X sc fnb Wx _ g h.2
      have w := w_and (p := p) pa.2.1 (pw_and1 pb.2.1)
      exact ⟨s_and pa.1 (pe_one pb.1), w.pt, fun _ => w⟩
    · simp only [Bool.and_eq_true] at h
      have pa := sE a X sc fnb Wx _ g h.1
      have pb := sE b X sc fnb Wx _ g h.2
      have w := w_and pa.2.1 (pb.2.2 rfl)
      exact ⟨s_and pa.1 pb.1, w.pt, fun _ => w⟩
    · cases h
  | .or a b => fun X sc fnb Wx x g h => by
    unfold okE at h
    split at h
    · rename_i x y p
      simp only [Bool.and_eq_true] at h
      have pa := sE a X sc fnb Wx _ g h.1
      have pb := sE b X sc fnb Wx _ g h.2
      have w := w_or (p := p) pa.2.1 (pw_or1 pb.2.1)
      exact ⟨s_or pa.1 (pe_one pb.1), w.pt, fun _ => w⟩
    · simp only [Bool.and_eq_true] at h
      have pa := sE a X sc fnb Wx _ g h.1
      have pb := sE b X sc fnb Wx _ g h.2
      have w := w_or pa.2.1 (pb.2.2 rfl)
      exact ⟨s_or pa.1 pb.1, w.pt, fun _ => w⟩
    · cases h
  | .ife t a b => fun X sc fnb Wx x g h => by
    unfold okE at h
    split at h
    · simp only [Bool.and_eq_true] at h
      have pt := sE t X sc fnb Wx _ g h.1.1
      have pa := sE a X sc fnb Wx _ g h.1.2
      have pb := sE b X sc fnb Wx _ g h.2
      exact ⟨s_ife pt.2.1 pa.1 pb.1, t_ife pt.2.1 pa.2.1 pb.2.1, fun z => by cases z⟩
    · cases h
  | .call f es => fun X sc fnb Wx x g h => by
    have h0 := h
    unfold okE at h
    split at h
    · simp only [Bool.and_eq_true, decide_eq_true_eq] at h
      obtain ⟨⟨⟨⟨hsu, h1⟩, h2⟩, h3⟩, h4⟩ := h
      exact val_all g h0 rfl rfl (s_call g (by simpa using hsu) h1 h2 h3 (okEs_ns h4) (fun z => by subst z; exact okEs_z h4) (sEs es X sc fnb Wx _ g h4).1)
    · cases h
  | .mk c es => fun X sc fnb Wx x g h => by
    have h0 := h
    unfold okE at h
    split at h
    · simp only [Bool.and_eq_true, decide_eq_true_eq] at h
      obtain ⟨⟨⟨⟨⟨hsu, h1⟩, rfl⟩, h2⟩, h3⟩, h4⟩ := h
      exact val_all g h0 rfl rfl (s_mk g (by simpa using hsu) h1 h2 h3 (okEs_ns h4) (fun z => by subst z; exact okEs_z h4) (sEs es X sc fnb Wx _ g h4).1)
    · cases h
  | .bi b es => fun X sc fnb Wx x g h => by
    have h0 := h
    unfold okE at h
    split at h
    · simp only [Bool.and_eq_true, decide_eq_true_eq] at h
      obtain ⟨⟨⟨hsu, rfl⟩, h2⟩, h4⟩ := h
      exact val_all g h0 rfl rfl (s_bi g hsu h2 (okEs_ns h4) (sEs es X sc fnb Wx _ g h4).2)
    · cases h
  | .ix a b => fun X sc fnb Wx x g h => by
    have h0 := h
    unfold okE at h
    split at h
    · simp only [Bool.and_eq_true] at h
      exact val_all g h0 rfl rfl (s_ix (okE_plain b _ h.2) (PE.borrow g h.1 (sE a X sc fnb Wx _ g h.1).1) (sE b X sc fnb Wx _ g h.2).1)
    · cases h
  | .sl a lo hi => fun X sc fnb Wx x g h => by
    have h0 := h
    unfold okE at h
    split at h
    · simp only [Bool.and_eq_true] at h
      exact val_all g h0 rfl rfl (s_sl g (PE.borrow g h.1.1 (sE a X sc fnb Wx _ g h.1.1).1) ((sO lo X sc fnb Wx g).1 _ h.1.2) ((sO hi X sc fnb Wx g).1 _ h.2))
    · cases h
  | .at a f => fun X sc fnb Wx x g h => by
    have h0 := h
    unfold okE at h
    split at h
    · simp only [Bool.and_eq_true, decide_eq_true_eq] at h
      obtain ⟨⟨⟨h1, rfl⟩, h2⟩, h3⟩ := h
      exact val_all g h0 rfl rfl (s_at g h1 h2 (sE a X sc fnb Wx _ g h3).1)
    · cases h
  | .st a => fun X sc fnb Wx x g h => by
    have h0 := h
    unfold okE at h
    split at h
    · simp only [Bool.and_eq_true, decide_eq_true_eq] at h
      obtain ⟨⟨⟨hsu, rfl⟩, h2⟩, h3⟩ := h
      exact val_all g h0 rfl rfl (s_st g (by simpa using hsu) h2 (plain_ns (okE_plain a _ h3)) (PE.borrow g h3 (sE a X sc fnb Wx _ g h3).1))
    · cases h
  | .is b n a => fun X sc fnb Wx x g h => by
    have h0 := h
    unfold okE at h
    split at h
    · simp only [Bool.and_eq_true, decide_eq_true_eq, beq_iff_eq] at h
      obtain ⟨⟨rfl, rfl⟩, h3⟩ := h
      have pa := (sE a X sc fnb Wx _ g h3).1
      exact ⟨s_is pa, t_is pa, fun z => by cases z⟩
    · cases h
  | .rev a => fun X sc fnb Wx x g h => by
    have h0 := h
    unfold okE at h
    split at h
    · exact val_all g h0 rfl rfl (s_rev (PE.borrow g h (sE a X sc fnb Wx _ g h).1))
    · cases h
  | .dic0 => fun X sc fnb Wx x g h => by
    have h0 := h
    unfold okE at h
    split at h
    · exact val_all g h0 rfl rfl s_dic0
    · cases h
  | .xis i n => fun X sc fnb Wx x g h => by
    have hp : valX x = true ∧ isBO x = false := by have h2 := h; unfold okE at h2; split at h2 <;> first | exact ⟨rfl, rfl⟩ | cases h2
    exact val_all g h hp.1 hp.2 (s_xis g h)
  | .xat i f => fun X sc fnb Wx x g h => by
    have hp : valX x = true ∧ isBO x = false := by have h2 := h; unfold okE at h2; split at h2 <;> first | exact ⟨rfl, rfl⟩ | cases h2
    exact val_all g h hp.1 hp.2 (s_xat g h)
  | .exv c .nil => fun X sc fnb Wx x g h => by
    have h0 := h
    unfold okE at h
    split at h
    · simp only [Bool.and_eq_true, decide_eq_true_eq, Bool.not_eq_true'] at h
      obtain ⟨⟨⟨⟨⟨h1, h2⟩, rfl⟩, h4⟩, h5⟩, h6⟩ := h
      exact val_all g h0 rfl rfl (s_exv0 g h2 h4 h5)
    · simp at h
    · cases h
  | .exv c (.cons a .nil) => fun X sc fnb Wx x g h => by
    have h0 := h
    unfold okE at h
    split at h
    · simp at h
    · simp only [Bool.and_eq_true, decide_eq_true_eq, Bool.not_eq_true'] at h
      obtain ⟨⟨⟨⟨⟨⟨h1, h2⟩, rfl⟩, h4⟩, h5⟩, h6⟩, h7⟩ := h
      exact val_all g h0 rfl rfl (s_exv1 g h1 h2 h4 h5 h6 (sE a X sc fnb Wx _ g h7).1)
    · cases h
  | .exv c (.cons a (.cons b r)) => fun X sc fnb Wx x g h => by
    unfold okE at h
    split at h
    · simp at h
    · simp at h
    · cases h
  | .exf c f a => fun X sc fnb Wx x g h => by
    have h0 := h
    unfold okE at h
    split at h
    · simp only [Bool.and_eq_true, decide_eq_true_eq, Bool.not_eq_true'] at h
      obtain ⟨⟨⟨⟨⟨⟨⟨h1, h2⟩, rfl⟩, h4⟩, h5⟩, h6⟩, rfl⟩, h7⟩ := h
      exact val_all g h0 rfl rfl (s_exf g h1 h2 h4 h5 h6 (sE a X sc fnb Wx _ g h7).1)
    · cases h
  | .xiv a n => fun X sc fnb Wx x g h => by
    have h0 := h
    unfold okE at h
    split at h
    · simp only [Bool.and_eq_true, decide_eq_true_eq, Bool.not_eq_true'] at h
      obtain ⟨⟨⟨⟨⟨⟨⟨rfl, h2⟩, h3⟩, rfl⟩, h5⟩, h6⟩, h7⟩, h8⟩ := h
      exact val_all g h0 rfl rfl (s_xiv g h2 h3 h7 h5 h6 (sE a X sc fnb Wx _ g h8).1)
    · cases h
  | .cnt a b => fun X sc fnb Wx x g h => by
    have h0 := h
    unfold okE at h
    split at h
    · simp only [Bool.and_eq_true, decide_eq_true_eq, beq_iff_eq] at h
      obtain ⟨⟨⟨⟨rfl, h2⟩, h3⟩, rfl⟩, h5⟩ := h
      exact val_all g h0 rfl rfl (s_cnt h2 (by simpa using h3) (PE.borrow g h5 (sE a X sc fnb Wx _ g h5).1))
    · cases h
theorem sEs : ∀ i : IEs, SndEs T Q N C k H0 i
  | .nil => fun X sc fnb Wx x g h => by
    unfold okEs at h
    split at h
    · exact ⟨pa_nilD, pa_nilA⟩
    · cases h
  | .cons e es => fun X sc fnb Wx x g h => by
    unfold okEs at h
    split at h
    · simp only [Bool.and_eq_true] at h
      have p := (sE e X sc fnb Wx _ g h.1).1
      have q := sEs es X sc fnb Wx _ g h.2
      have hs := plain_ns (okE_plain e _ h.1)
      exact ⟨pa_consD hs p q.1, pa_consA hs (PE.borrow g h.1 p) q.2⟩
    · cases h
theorem sO : ∀ i : IO, SndO T Q N C k H0 i
  | .no => fun X sc fnb Wx g => by
    refine ⟨fun x h => ?_, fun x h => ?_⟩
    · unfold okO at h
      split at h
      · exact o_no
      · cases h
    · unfold okC at h
      split at h
      · exact pts_no
      · cases h
  | .ye e => fun X sc fnb Wx g => by
    refine ⟨fun x h => ?_, fun x h => ?_⟩
    · unfold okO at h
      split at h
      · exact o_ye (sE e X sc fnb Wx _ g h).1
      · cases h
    · unfold okC at h
      split at h
      · exact pts_ye (sE e X sc fnb Wx _ g h).2.1
      · cases h
theorem sL : ∀ i : LE, SndL T Q N C k H0 i
  | .disp es => fun X sc fnb Wx x g h => by
    unfold okL at h
    split at h
    · exact l_disp (sEs es X sc fnb Wx _ g h).1
    · cases h
  | .comp elt tg it cond vs => fun X sc fnb Wx x g h => by
    unfold okL at h
    split at h
    · rename_i x t i ifs a scope p
      simp only [Bool.and_eq_true, decide_eq_true_eq] at h
      obtain ⟨⟨⟨⟨⟨⟨⟨⟨hsu, rfl⟩, h1⟩, h2⟩, h3⟩, h4⟩, h5⟩, h6⟩, h7⟩ := h
      have hsu : Q.su = false := by simpa using hsu
      have hi := sI it X sc fnb Wx t i g h5
      refine l_comp g hsu (fun j hj => ?_) hi.1 (by rw [g.N, g.sc]; exact blkOk_by h1) h2 (fun s H Ca cl fp => s_tg (g.blk hsu s H scope cl Ca fp) tg t h4 (by rw [hsu]; simp)) (fun s H Ca cl fp => (sO cond _ _ _ _ (g.blk hsu s H scope cl Ca fp)).2 _ h6)
        (fun s H Ca cl fp => (sE elt _ _ _ _ _ (g.blk hsu s H scope cl Ca fp) h7).1) (fun z => plain_folded hi.2 z)
      have := List.all_eq_true.mp h3 j hj
      simpa using this
    · cases h
  | .list a => fun X sc fnb Wx x g h => by
    unfold okL at h
    split at h
    · simp only [Bool.and_eq_true, decide_eq_true_eq] at h
      obtain ⟨⟨rfl, h2⟩, h3⟩ := h
      exact l_list g h2 (plain_ns (okE_plain a _ h3)) (PE.borrow g h3 (sE a X sc fnb Wx _ g h3).1)
    · cases h
  | .sorted a => fun X sc fnb Wx x g h => by
    unfold okL at h
    split at h
    · simp only [Bool.and_eq_true, decide_eq_true_eq] at h
      obtain ⟨⟨⟨hsu, rfl⟩, h2⟩, h3⟩ := h
      exact l_sorted g (by simpa using hsu) h2 (plain_ns (okE_plain a _ h3)) (PE.borrow g h3 (sE a X sc fnb Wx _ g h3).1)
    · cases h
  | .rep a n => fun X sc fnb Wx x g h => by
    unfold okL at h
    split at h
    · simp only [Bool.and_eq_true, decide_eq_true_eq] at h
      obtain ⟨⟨rfl, h2⟩, h3⟩ := h
      exact l_rep g (PE.borrow g h2 (sE a X sc fnb Wx _ g h2).1) (sE n X sc fnb Wx _ g h3).1
    · cases h
theorem sI : ∀ i : II, SndI T Q N C k H0 i
  | .seq a => fun X sc fnb Wx t x g h => by
    unfold okI at h
    exact ⟨i_seq g (sE a X sc fnb Wx _ g h).1, okE_plain a _ h⟩
  | .rng1 a => fun X sc fnb Wx t x g h => by
    unfold okI at h
    split at h
    · simp only [Bool.and_eq_true, decide_eq_true_eq] at h
      obtain ⟨⟨rfl, h2⟩, h3⟩ := h
      exact ⟨i_rng1 g h2 (plain_ns (okE_plain a _ h3)) (sE a X sc fnb Wx _ g h3).1, rfl⟩
    · cases h
  | .rng2 a b => fun X sc fnb Wx t x g h => by
    unfold okI at h
    split at h
    · simp only [Bool.and_eq_true, decide_eq_true_eq] at h
      obtain ⟨⟨⟨rfl, h2⟩, h3⟩, h4⟩ := h
      exact ⟨i_rng2 g h2 (plain_ns (okE_plain a _ h3)) (plain_ns (okE_plain b _ h4)) (sE a X sc fnb Wx _ g h3).1 (sE b X sc fnb Wx _ g h4).1, rfl⟩
    · cases h
  | .enum a => fun X sc fnb Wx t x g h => by
    unfold okI at h
    split at h
    · simp only [Bool.and_eq_true, decide_eq_true_eq] at h
      obtain ⟨⟨⟨h1, rfl⟩, h2⟩, h3⟩ := h
      cases t with
      | Tuple es kk tp => exact ⟨i_enum g h2 (plain_ns (okE_plain a _ h3)) (sE a X sc fnb Wx _ g h3).1, rfl⟩
      | _ => cases h1
    · cases h
  | .zip a b => fun X sc fnb Wx t x g h => by
    unfold okI at h
    split at h
    · simp only [Bool.and_eq_true, decide_eq_true_eq] at h
      obtain ⟨⟨⟨⟨h1, rfl⟩, h2⟩, h3⟩, h4⟩ := h
      cases t with
      | Tuple es kk tp => exact ⟨i_zip g h2 (plain_ns (okE_plain a _ h3)) (plain_ns (okE_plain b _ h4)) (sE a X sc fnb Wx _ g h3).1 (sE b X sc fnb Wx _ g h4).1, rfl⟩
      | _ => cases h1
    · cases h
end
end
end Qv
set_option Elab.async false
set_option linter.all false
set_option maxRecDepth 100000
set_option maxHeartbeats 4000000
/-! Statements, one by one. -/
namespace Qv
open PySem PySem.Spec PyProof.Rows L2

def EndS (T : Tb) (Wx : WX) (D : Ends) (fl : Fl) (W : Wd) (H : Hp) (σ : L2.St) : Prop := match fl with
  | .nx => D.nx σ H
  | .brk => D.bk σ H
  | .cnt => D.ct σ H
  | .ret d => ∀ v, Rep T W d v → D.rt v H
  | .exc x => ∀ c d, XRep T W x c d → Wx c d σ H
/-- Wb, Hb: where the def began; W: where the statement began -/
def RespS (T : Tb) (Wb : Wd) (Hb : Hp) (Wx : WX) (D : Ends) (W : Wd) : Res (Fl × En) → Prop
  | .ok r S => ∀ W' H' σ', Stp Wb Hb W' H' → W.Le W' → SRel T W' S H' → FRel T Hb W' r.2 σ' H' → EndS T Wx D r.1 W' H' σ'
  | _ => False
def tS (T : Tb) (Wb : Wd) (Hb : Hp) (Wx : WX) (f : En → Sh → Res (Fl × En)) : TS := fun D σ H => ∃ W E S, Stp Wb Hb W H ∧ SRel T W S H ∧ FRel T Hb W E σ H ∧ RespS T Wb Hb Wx D W (f E S)
section
variable {T : Tb} {Wb : Wd} {Hb : Hp} {Wx : WX} {D : Ends} {W W' : Wd}
theorem RespS.mono {r : Res (Fl × En)} (h : RespS T Wb Hb Wx D W r) (le : W.Le W') : RespS T Wb Hb Wx D W' r := by
  cases r with
  | ok a S => exact fun W2 H2 σ2 s1 s2 => h W2 H2 σ2 s1 (le.trans s2)
  | ex x S => exact h
  | bad => exact h
theorem RespS.bind {r : Res (Fl × En)} {k : Fl × En → Sh → Res (Fl × En)} {D' : Ends} (h : RespS T Wb Hb Wx D W (r.bind k))
    (hk : ∀ p S W' H' σ', r = .ok p S → RespS T Wb Hb Wx D W' (k p S) → Stp Wb Hb W' H' → W.Le W' → SRel T W' S H' → FRel T Hb W' p.2 σ' H' → EndS T Wx D' p.1 W' H' σ') : RespS T Wb Hb Wx D' W r := by
  cases r with
  | ok p S => exact fun W2 H2 σ2 s1 s2 s3 s4 => hk p S W2 H2 σ2 rfl (RespS.mono (r := k p S) h s2) s1 s2 s3 s4
  | ex x S => exact h
  | bad => exact h
theorem RespS.nobad (h : RespS T Wb Hb Wx D W (.bad)) {P : Prop} : P := False.elim h
theorem RespS.liftS {α : Type} {o : Option α} {S : Sh} {E : En} {k : α → Sh → Res (Fl × En)} (h : RespS T Wb Hb Wx D W ((lift o S).bindS E k)) : ∃ a, o = some a ∧ RespS T Wb Hb Wx D W (k a S) := by
  cases o with
  | none => exact h.elim
  | some a => exact ⟨a, rfl, h⟩
/-- the end -/
theorem RespS.at {p : Fl × En} {S : Sh} (h : RespS T Wb Hb Wx D W (.ok p S)) {H : Hp} {σ : L2.St} (st : Stp Wb Hb W H) (sr : SRel T W S H) (fr : FRel T Hb W p.2 σ H) : EndS T Wx D p.1 W H σ := h W H σ st (.refl W) sr fr
theorem RespS.nxt {E' : Option En} {S : Sh} (h : RespS T Wb Hb Wx D W (nxt E' S)) : ∃ E1, E' = some E1 ∧ RespS T Wb Hb Wx D W (.ok (.nx, E1) S) := by
  cases E' with
  | none => exact h.elim
  | some E1 => exact ⟨E1, rfl, h⟩
theorem setSl_some {E E' : En} {i : Nat} {s : Sl} (h : setSl E i s = some E') : i < E.length ∧ E' = E.set i (some s) := by
  unfold setSl at h
  split at h <;> cases h
  exact ⟨by assumption, rfl⟩
/-- an expression's value, in a statement -/
theorem thenS {α β : Type} {R : Wd → Hp → α → β → Prop} {f : En → Sh → Res α} {kk : α → Sh → Res (Fl × En)} {E : En} {S : Sh} {σ : L2.St} {H : Hp} {P : β → Hp → Prop}
    (st : Stp Wb Hb W H) (sr : SRel T W S H) (fr : FRel T Hb W E σ H) (h : RespS T Wb Hb Wx D W ((f E S).bindS E kk))
    (hk : ∀ b H1 a S1 W1, Stp Wb Hb W1 H1 → Stp W H W1 H1 → SRel T W1 S1 H1 → FRel T Hb W1 E σ H1 → R W1 H1 a b → RespS T Wb Hb Wx D W1 (kk a S1) → P b H1) : tR T Hb Wx R f σ H P := by
  refine ⟨W, E, S, sr, fr, ?_⟩
  cases e : f E S with
  | ok a S1 =>
    rw [e] at h
    exact fun W1 H1 b s1 s2 s3 => hk b H1 a S1 W1 (st.trans s1) s1 s2 (fr.stp s1) s3 (RespS.mono (r := kk a S1) h s1.le)
  | ex x S1 =>
    rw [e] at h
    exact fun W1 H1 c d s1 s2 s3 => h W1 H1 σ (st.trans s1) s1.le s2 (fr.stp s1) c d s3
  | bad => rw [e] at h; exact h.elim
end

/-! ### slots of one's own -/
section
variable {T : Tb} {H0 : Hp} {W : Wd} {E : En} {σ : L2.St} {H : Hp} {i : Nat} {a : Addr}
theorem set_at {α : Type} {l : List α} {i j : Nat} {x y : α} (h : (l.set i x)[j]? = some y) : (i = j ∧ y = x ∧ i < l.length) ∨ (i ≠ j ∧ l[j]? = some y) := by
  by_cases hj : i = j
  · subst hj
    have hi : i < l.length := by have := (List.getElem?_eq_some_iff.mp h).1; simpa using this
    rw [List.getElem?_set_self hi] at h
    exact .inl ⟨rfl, (Option.some.inj h).symm, hi⟩
  · rw [List.getElem?_set_ne hj] at h
    exact .inr ⟨hj, h⟩
/-- an own slot's address is there -/
theorem own_there {s : Sl} {j : Nat} {b : Addr} (fr : FRel T H0 W E σ H) (e : E[j]? = some (some s)) (o : s.own = true) (q : σ[j]? = some (some (.ref b))) : H b ≠ none := by
  have := fr.at_ j s e
  cases s with
  | v d => cases o
  | ol xs => obtain ⟨a, vs, e1, e2, _⟩ := this; rw [q] at e1; cases e1; rw [e2]; simp
  | os xs => obtain ⟨a, vs, e1, e2, _⟩ := this; rw [q] at e1; cases e1; rw [e2]; simp
  | xv c fs => cases o
/-- a new slot of one's own: s stands at a, and a is in no other own slot -/
theorem FRel.setOwn {s : Sl} (fr : FRel T H0 W E σ H) (i : Nat) (hs : SlRep T H0 W H s (some (some (.ref a)))) (new : ∀ j t, E[j]? = some (some t) → t.own = true → j ≠ i → σ[j]? ≠ some (some (.ref a))) :
    FRel T H0 W (E.set i (some s)) (σ.set i (some (.ref a))) H := by
  refine ⟨by simp [fr.len], fun j t e => ?_, fun j k t u b e1 e2 o1 o2 q1 q2 => ?_⟩
  · rcases set_at e with ⟨rfl, h2, h3⟩ | ⟨h1, h2⟩
    · cases h2
      rw [List.getElem?_set_self (by rw [← fr.len]; exact h3)]
      exact hs
    · rw [List.getElem?_set_ne h1]
      exact fr.at_ j t h2
  · rcases set_at e1 with ⟨rfl, _, h3⟩ | ⟨h1, h2⟩ <;> rcases set_at e2 with ⟨rfl, _, h3'⟩ | ⟨h1', h2'⟩
    · rfl
    · rw [List.getElem?_set_self (by rw [← fr.len]; exact h3)] at q1
      cases q1
      rw [List.getElem?_set_ne h1'] at q2
      exact absurd q2 (new k u h2' o2 (Ne.symm h1'))
    · rw [List.getElem?_set_self (by rw [← fr.len]; exact h3')] at q2
      cases q2
      rw [List.getElem?_set_ne h1] at q1
      exact absurd q1 (new j t h2 o1 (Ne.symm h1))
    · rw [List.getElem?_set_ne h1] at q1
      rw [List.getElem?_set_ne h1'] at q2
      exact fr.sep j k t u b h2 h2' o1 o2 q1 q2
/-- what stands at one's own address is changed -/
theorem FRel.write {s t : Sl} {o : HO} (fr : FRel T H0 W E σ H) (hi : E[i]? = some (some s)) (os : s.own = true) (ha : σ[i]? = some (some (.ref a))) (hs : SlRep T H0 W (upd H a o) t (some (some (.ref a)))) :
    FRel T H0 W (E.set i (some t)) σ (upd H a o) := by
  have hil : i < E.length := (List.getElem?_eq_some_iff.mp hi).1
  refine ⟨by simp [fr.len], fun j u e => ?_, fun j k u u' b e1 e2 o1 o2 q1 q2 => ?_⟩
  · rcases set_at e with ⟨rfl, h2, h3⟩ | ⟨h1, h2⟩
    · cases h2
      rw [ha]
      exact hs
    · have q := fr.at_ j u h2
      cases u with
      | v d => exact q
      | xv c fs => exact q
      | ol xs =>
        obtain ⟨b, vs, e1, e2, r⟩ := q
        have hb : b ≠ a := fun z => by
          subst z
          exact h1 (fr.sep i j s (.ol xs) b hi h2 os rfl ha e1)
        exact ⟨b, vs, e1, by rw [upd_ne hb]; exact e2, r⟩
      | os xs =>
        obtain ⟨b, vs, e1, e2, r⟩ := q
        have hb : b ≠ a := fun z => by
          subst z
          exact h1 (fr.sep i j s (.os xs) b hi h2 os rfl ha e1)
        exact ⟨b, vs, e1, by rw [upd_ne hb]; exact e2, r⟩
  · have old : ∀ {j : Nat} {u : Sl}, (E.set i (some t))[j]? = some (some u) → u.own = true → ∃ u', E[j]? = some (some u') ∧ u'.own = true := fun {j u} e o => by
      rcases set_at e with ⟨rfl, h2, h3⟩ | ⟨h1, h2⟩
      · exact ⟨s, hi, os⟩
      · exact ⟨u, h2, o⟩
    obtain ⟨v1, f1, g1⟩ := old e1 o1
    obtain ⟨v2, f2, g2⟩ := old e2 o2
    exact fr.sep j k v1 v2 b f1 f2 g1 g2 q1 q2
/-- a slot of one's own becomes known -/
theorem FRel.known {s : Sl} {d : D} {o : HO} (fr : FRel T H0 W E σ H) (hi : E[i]? = some (some s)) (os : s.own = true) (ha : σ[i]? = some (some (.ref a))) (g : W.G a = none) (r : Rep T (W.add a o) d (.ref a)) :
    FRel T H0 (W.add a o) (E.set i (some (.v d))) σ H := by
  have le := Wd.le_add (o := o) g
  refine ⟨by simp [fr.len], fun j u e => ?_, fun j k u u' b e1 e2 o1 o2 q1 q2 => ?_⟩
  · rcases set_at e with ⟨rfl, h2, h3⟩ | ⟨h1, h2⟩
    · cases h2
      exact ⟨.ref a, ha, r⟩
    · have q := fr.at_ j u h2
      cases u with
      | v d => obtain ⟨v, e1, e2⟩ := q; exact ⟨v, e1, e2.mono le⟩
      | xv c fs => exact ⟨q.1, q.2.mono le⟩
      | ol xs =>
        obtain ⟨b, vs, e1, e2, e3, e4, e5, e6⟩ := q
        have hb : b ≠ a := fun z => by
          subst z
          exact h1 (fr.sep i j s (.ol xs) b hi h2 os rfl ha e1)
        exact ⟨b, vs, e1, e2, e3.mono le, (show upd W.G a o b = none from by rw [upd_ne hb]; exact e4), e5, e6⟩
      | os xs =>
        obtain ⟨b, vs, e1, e2, e3, e4, e5, e6, e7⟩ := q
        have hb : b ≠ a := fun z => by
          subst z
          exact h1 (fr.sep i j s (.os xs) b hi h2 os rfl ha e1)
        exact ⟨b, vs, e1, e2, e3, e4, (show upd W.G a o b = none from by rw [upd_ne hb]; exact e5), e6, e7⟩
  · rcases set_at e1 with ⟨rfl, h2, h3⟩ | ⟨h1, h2⟩
    · cases h2; cases o1
    · rcases set_at e2 with ⟨rfl, h2', h3'⟩ | ⟨h1', h2'⟩
      · cases h2'; cases o2
      · exact fr.sep j k u u' b h2 h2' o1 o2 q1 q2
end
end Qv
set_option Elab.async false
set_option linter.all false
set_option maxRecDepth 100000
set_option maxHeartbeats 4000000
/-! Statements: the rules. -/
namespace Qv
open PySem PySem.Spec PyProof.Rows L2

/-! ### how a store goes -/
def isComp : PySem.Expr → Bool
  | .ListComp .. => true
  | _ => false
def swB (sc : Scope) (t v : PySem.Expr) : Bool := match v, t with
  | .ListComp _ _ s p, .Name x pos => sc.names.lookup x == some .local && pos.line == p.line && !(s.names.any fun (n, k) => n == x && (k == .local || k == .cell))
  | _, _ => false
def swS (sc : Scope) (ts vs : List PySem.Expr) : Option (Option (List Str)) :=
  if (!(ts.length == 2 || ts.length == 3) || vs.length != ts.length) = true then some none
  else if (vs.any fun | .Starred .. => true | _ => false) = true then some none
  else
    let line := (ts.head?.map (·.pos.line)).getD 0
    let names := ts.filterMap fun
      | .Name id pos => if (sc.names.lookup id == some .local && pos.line == line) = true then some id else none
      | _ => none
    if (names.length != ts.length || names.eraseDups.length != names.length) = true then some none
    else if vs.all (foldedForSure 8) = true then some none
    else if vs.all (constantsAlone 8) = true then none
    else some (some names)
def swT (sc : Scope) (t v : PySem.Expr) : Bool := match t, v with
  | .Tuple ts _ _, .Tuple vs _ _ => (match swS sc ts vs with
    | some none => true
    | _ => false)
  | .List _ _, _ => false
  | _, _ => true
section
variable {env : Env} {sc : Scope}
theorem block_fn (hk : env.scope.kind = .function) : env.blockKind = .function := by
  unfold Env.blockKind
  rw [hk]
  rfl
theorem sw_with (hk : env.scope.kind = .function) (hs : env.scope = sc) {t v : PySem.Expr} {line : Nat} (hp : plainX v = true) : swapsWith v (some t) line env = pure (swB sc t v) := by
  cases v <;> first | rfl | (cases hp; done) | skip
  rename_i elt gens s p
  cases t <;> first | rfl | skip
  rename_i x pos
  subst hs
  show (pure (env.blockKind == .function && env.kindOf x == some .local && pos.line == p.line && !(s.names.any fun (n, k) => n == x && (k == .local || k == .cell))) : Sem Bool) = _
  rw [block_fn hk]
  rfl
theorem sw_stores (hk : env.scope.kind = .function) (hs : env.scope = sc) {ts vs : List PySem.Expr} {a b : Nat} {p q : Pos} {r : Option (List Str)} (h : swS sc ts vs = some r) : swappedStores [.Tuple ts a p] (.Tuple vs b q) env = pure r := by
  subst hs
  unfold swS at h
  unfold swappedStores
  simp only [block_fn hk, bne_self_eq_false, Bool.or_false]
  split at h
  · rename_i c
    cases h
    exact if_pos c
  · rename_i c
    refine (if_neg c).trans ?_
    split at h
    · rename_i c2
      cases h
      exact if_pos c2
    · rename_i c2
      refine (if_neg c2).trans ?_
      dsimp only at h
      split at h
      · rename_i c3
        cases h
        exact if_pos c3
      · rename_i c3
        refine (if_neg c3).trans ?_
        split at h
        · rename_i c4
          cases h
          exact if_pos c4
        · rename_i c4
          refine (if_neg c4).trans ?_
          split at h
          · cases h
          · rename_i c5
            cases h
            exact if_neg c5
theorem sw_none (hk : env.scope.kind = .function) (hs : env.scope = sc) {t v : PySem.Expr} (h : swT sc t v = true) : swappedStores [t] v env = pure none := by
  cases t with
  | Tuple ts a p =>
    cases v with
    | Tuple vs b q =>
      simp only [swT] at h
      split at h
      · rename_i e
        exact sw_stores hk hs e
      · cases h
    | _ => rfl
  | List _ _ => simp [swT] at h
  | _ => rfl
end
end Qv
set_option Elab.async false
set_option linter.all false
set_option maxRecDepth 100000
set_option maxHeartbeats 4000000
/-! Statements: the rules, one by one. -/
namespace Qv
open PySem PySem.Spec PyProof.Rows L2

/-- where a statement stands -/
structure GS (T : Tb) (Q : Ck) (N : List Str) (C : Calls) (k : Nat) (X : Cx) (sc : Scope) (fnb : Str → Bool) (Wx : WX) : Prop where
  gd : Gd T Q N C k X sc fnb Wx
  kind : X.env.scope.kind = .function
  pso : PassesOwn (model X.prog X.w) X.A X.env X.xe
  stk : X.stack = X.env :: X.outer
  frm : X.env.frame = some X.env.locals
theorem Stp.bk {W W' : Wd} {H H' : Hp} (st : Stp W H W' H') {p : Addr} (h : H' p = none) : H p = none := by
  cases q : H p with
  | none => rfl
  | some o =>
    by_cases hm : p ∈ W.m
    · exact absurd h (st.there p hm)
    · rw [st.keep p o q hm] at h; cases h
section
variable {X : Cx}
theorem PS.imp {x : Stmt} {t t' : TS} (h : PS X x t) (k : ∀ D σ H, t' D σ H → t D σ H) : PS X x t' := ⟨fun pins s σ H D I hw => h.run pins s σ H D I (k _ _ _ hw)⟩
theorem PSs.imp {x : List Stmt} {t t' : TS} (h : PSs X x t) (k : ∀ D σ H, t' D σ H → t D σ H) : PSs X x t' := ⟨fun pins s σ H D I hw => h.run pins s σ H D I (k _ _ _ hw)⟩
end
section
variable {T : Tb} {Q : Ck} {N : List Str} {C : Calls} {k : Nat} {X : Cx} {sc : Scope} {fnb : Str → Bool} {Wx : WX} {Wb : Wd} {Hb : Hp}
abbrev TSe (T : Tb) (Wb : Wd) (Hb : Hp) (Wx : WX) (C : Calls) (s : IS) : TS := tS T Wb Hb Wx (exS C s)
abbrev TBe (T : Tb) (Wb : Wd) (Hb : Hp) (Wx : WX) (C : Calls) (s : ISs) : TS := tS T Wb Hb Wx (exB C s)

theorem p_asg (g : GS T Q N C k X sc fnb Wx) {tg : Tg} {e : IE} {t v : PySem.Expr} {p : Pos} (hsu : (tgFlat tg || !Q.su) = true) (ht : okTg N sc fnb tg t = true) (he : okE Q N sc e v = true) (hw : swT sc t v = true) (hc : swB sc t v = false) : PS X (.Assign [t] v p) (TSe T Wb Hb Wx C (.asg tg e)) := by
  have hp := okE_plain e v he
  refine PS.imp (ps_asg (sE (H0 := Hb) e X sc fnb Wx v g.gd he).1 (s_tg (H0 := Hb) g.gd tg t ht hsu) (by show swapsWith v (some t) p.line X.env = _; rw [sw_with g.kind g.gd.sc hp, hc]) (sw_none g.kind g.gd.sc hw) (by rw [asg_each (okTg_ns tg t ht)]; rfl)) fun D σ H ⟨W, E, S, st, sr, fr, h⟩ => ?_
  refine thenS (R := RD T) st sr fr (show RespS T Wb Hb Wx D W ((ev C e E S).bindS E fun d S => nxt (asgT tg d E) S) from h) fun x H1 d S1 W1 st1 _ sr1 fr1 r1 h1 => ?_
  obtain ⟨E1, e1, h1⟩ := h1.nxt
  exact ⟨W1, E, S1, d, E1, sr1, fr1, r1, e1, fun σ' fr' _ => h1.at st1 sr1 fr'⟩

/-! ### several names at once -/
def okNames (N : List Str) (sc : Scope) (fnb : Str → Bool) : List Nat → List PySem.Expr → Bool
  | [], [] => true
  | i :: is, .Name x _ :: ts => decide (N[i]? = some x) && locB sc fnb x && okName x && okNames N sc fnb is ts
  | _, _ => false
def tPs (T : Tb) (H0 : Hp) (is : List Nat) : TGs := fun vs σ H Qr => ∃ W E S ds E', SRel T W S H ∧ FRel T H0 W E σ H ∧ Reps T W ds vs ∧ setPar is ds E = some E' ∧ ∀ σ', FRel T H0 W E' σ' H → Qr σ' H
theorem PGs.imp {x : List PySem.Expr} {t t' : TGs} (h : PGs X x t) (k : ∀ v σ H Q, t' v σ H Q → t v σ H Q) : PGs X x t' := ⟨fun pins s σ H v u Q I r hw => h.run pins s σ H v u Q I r (k _ _ _ _ hw)⟩
theorem okNames_cons {i : Nat} {is : List Nat} {ts : List PySem.Expr} (h : okNames N sc fnb (i :: is) ts = true) : ∃ x p r, ts = .Name x p :: r ∧ N[i]? = some x ∧ locB sc fnb x = true ∧ okName x = true ∧ okNames N sc fnb is r = true := by
  rcases ts with _ | ⟨t, r⟩
  · simp [okNames] at h
  · cases t with
    | Name x p =>
      simp only [okNames, Bool.and_eq_true, decide_eq_true_eq] at h
      exact ⟨x, p, r, rfl, h.1.1.1, h.1.1.2, h.1.2, h.2⟩
    | _ => simp [okNames] at h
theorem setPar_cons {i : Nat} {is : List Nat} {ds : List D} {E E' : En} (h : setPar (i :: is) ds E = some E') : ∃ d r, ds = d :: r ∧ i < E.length ∧ setPar is r (E.set i (some (.v d))) = some E' := by
  rcases ds with _ | ⟨d, r⟩
  · simp [setPar] at h
  · simp only [setPar, Option.bind_eq_some_iff] at h
    obtain ⟨E1, h1, h2⟩ := h
    obtain ⟨h3, rfl⟩ := setSl_some h1
    exact ⟨d, r, rfl, h3, h2⟩
theorem setPar_nil {ds : List D} {E E' : En} (h : setPar [] ds E = some E') : ds = [] ∧ E' = E := by
  rcases ds with _ | ⟨d, r⟩
  · simp [setPar] at h; exact ⟨rfl, h.symm⟩
  · simp [setPar] at h
theorem s_names (g : Gd T Q N C k X sc fnb Wx) {H0 : Hp} : ∀ (is : List Nat) (ts : List PySem.Expr), okNames N sc fnb is ts = true → PGs X ts (tPs T H0 is) ∧ (assignEach ts X.env).length = is.length ∧ (assignEach ts X.env).findIdx? (·.1) = none
  | [], ts, h => by
    rcases ts with _ | ⟨t, r⟩
    · refine ⟨PGs.imp pgs_nil fun v σ H Qr ⟨W, E, S, ds, E', sr, fr, rs, e, hq⟩ => ?_, rfl, rfl⟩
      obtain ⟨rfl, rfl⟩ := setPar_nil e
      cases rs
      exact ⟨rfl, hq _ fr⟩
    · simp [okNames] at h
  | i :: is, ts, h => by
    obtain ⟨x, p, r, rfl, h1, h2, h3, h4⟩ := okNames_cons h
    obtain ⟨ih, ihl, ihf⟩ := s_names g (H0 := H0) is r h4
    obtain ⟨l1, l2⟩ := locB_ok g h2
    have hs : assignEach (.Name x p :: r) X.env = (false, assign (.Name x p) X.env) :: assignEach r X.env := asg_each rfl
    refine ⟨PGs.imp (pgs_cons (pg_name g.nd (by rw [g.N]; exact h1) l1 l2) ih (by rw [hs]; rfl)) fun v σ H Qr ⟨W, E, S, ds, E', sr, fr, rs, e, hq⟩ => ?_, by rw [hs]; simp [ihl], by rw [hs]; simp [List.findIdx?_cons, ihf]⟩
    obtain ⟨d, rr, rfl, hi, e⟩ := setPar_cons e
    cases rs with
    | cons r1 r2 => exact ⟨_, _, rfl, W, _, S, rr, E', sr, fr.setV i r1, r2, e, hq⟩
def okPar (sc : Scope) (is : List Nat) (ts vs : List PySem.Expr) : Bool := match swS sc ts vs with
  | some none => true
  | some (some ns) => (match is, ts, vs with
    | [i, j], [.Name x _, .Name y _], [_, _] => decide (ns = [x, y]) && decide (sc.names.lookup x = some .local) && decide (sc.names.lookup y = some .local) && decide (i ≠ j)
    | [i, j, l], [.Name x _, .Name y _, .Name z _], [_, _, _] => decide (ns = [x, y, z]) && decide (sc.names.lookup x = some .local) && decide (sc.names.lookup y = some .local) && decide (sc.names.lookup z = some .local) && decide (i ≠ j) && decide (i ≠ l) && decide (j ≠ l)
    | _, _, _ => false)
  | none => false
theorem p_par (g : GS T Q N C k X sc fnb Wx) (hsu : Q.su = false) {is : List Nat} {es : IEs} {ts vs : List PySem.Expr} {a b : Nat} {p p1 p2 : Pos} (ht : okNames N sc fnb is ts = true) (he : okEs Q N sc es vs = true) (hw : okPar sc is ts vs = true) : PS X (.Assign [.Tuple ts a p1] (.Tuple vs b p2) p) (TSe T Wb Hb Wx C (.par is es)) := by
  have pv := (sEs (H0 := Hb) es X sc fnb Wx vs g.gd he).1
  have wish : ∀ {D : Ends} {σ : L2.St} {H : Hp}, TSe T Wb Hb Wx C (.par is es) D σ H → tDs T Hb Wx (evs C es) σ H fun xs H1 => ∃ W1 E S1 ds E1, Stp Wb Hb W1 H1 ∧ SRel T W1 S1 H1 ∧ FRel T Hb W1 E σ H1 ∧ Reps T W1 ds xs ∧ ds.length ≤ LIM ∧ setPar is ds E = some E1 ∧ RespS T Wb Hb Wx D W1 (.ok (.nx, E1) S1) := fun {D σ H} ⟨W, E, S, st, sr, fr, h⟩ => by
    refine thenS (R := RDs T) st sr fr (show RespS T Wb Hb Wx D W ((evs C es E S).bindS E fun ds S => if ds.length ≤ LIM then nxt (setPar is ds E) S else .bad) from h) fun x H1 ds S1 W1 st1 _ sr1 fr1 r1 h1 => ?_
    split at h1
    · rename_i c
      obtain ⟨E1, e1, h1⟩ := h1.nxt
      exact ⟨W1, E, S1, ds, E1, st1, sr1, fr1, r1, c, e1, h1⟩
    · exact h1.nobad
  unfold okPar at hw
  split at hw
  · rename_i hn
    obtain ⟨s1, s2, s3⟩ := s_names (H0 := Hb) g.gd is ts ht
    refine PS.imp (ps_asg (pe_tup pv) (pg_tup (g.gd.calm hsu) s1 s2 s3) rfl (sw_stores g.kind g.gd.sc hn) rfl) fun D σ H h => ?_
    obtain ⟨W, E, S, sr, fr, hh⟩ := wish h
    refine ⟨W, E, S, sr, fr, hh.imp fun xs H1 ⟨W1, E', S1, ds, E1, st1, sr1, fr1, r1, c, e1, h1⟩ => ⟨?_, fun q hq => ?_⟩⟩
    · have := sl64
      unfold LIM at c
      rw [← r1.length]; omega
    · obtain ⟨a1, a2, a3⟩ := newTup sr1 r1 hq
      have hl : xs.length = is.length := by
        have l1 : ∀ (is : List Nat) (ds : List Qv.D) (E E' : En), setPar is ds E = some E' → ds.length = is.length := by
          intro is
          induction is with
          | nil => intro ds E E' e; rw [(setPar_nil e).1]; rfl
          | cons i is ih =>
            intro ds E E' e
            obtain ⟨d, r, rfl, _, e2⟩ := setPar_cons e
            simp [ih _ _ _ e2]
        rw [← r1.length]; exact l1 _ _ _ _ e1
      refine ⟨q, xs, rfl, SqT.of upd_same, hl, _, E', S1, ds, E1, a2, fr1.stp a1, r1.mono a1.le, e1, fun σ' fr' => ?_⟩
      exact RespS.at (h1.mono a1.le) (st1.trans a1) a2 fr'
  · rename_i ns hn
    split at hw
    · rename_i i j x px y py e1 e2
      simp only [Bool.and_eq_true, decide_eq_true_eq] at hw
      obtain ⟨⟨⟨rfl, hx⟩, hy⟩, hij⟩ := hw
      obtain ⟨_, _, _, q, i1, _, _, ht⟩ := okNames_cons ht
      cases q
      obtain ⟨_, _, _, q, j1, _, _, ht⟩ := okNames_cons ht
      cases q
      refine PS.imp (ps_par (g.gd.calm hsu) g.gd.nd (by rw [g.gd.N]; exact i1) (by rw [g.gd.N]; exact j1) hij (by rw [g.gd.sc]; exact hx) (by rw [g.gd.sc]; exact hy) pv (sw_stores g.kind g.gd.sc hn) rfl) fun D σ H h => ?_
      obtain ⟨W, E, S, sr, fr, hh⟩ := wish h
      refine ⟨W, E, S, sr, fr, hh.imp fun xs H1 ⟨W1, E', S1, ds, E1, st1, sr1, fr1, r1, c, e1, h1⟩ => ?_⟩
      obtain ⟨d1, _, rfl, _, e1⟩ := setPar_cons e1
      obtain ⟨d2, _, rfl, _, e1⟩ := setPar_cons e1
      obtain ⟨rfl, rfl⟩ := setPar_nil e1
      cases r1 with
      | cons r1 rt =>
        cases rt with
        | cons r2 rt =>
          cases rt
          exact ⟨_, _, rfl, h1.at st1 sr1 ((fr1.setV _ r1).setV _ r2)⟩
    · rename_i i j l x px y py z pz e1 e2 e3
      simp only [Bool.and_eq_true, decide_eq_true_eq] at hw
      obtain ⟨⟨⟨⟨⟨⟨rfl, hx⟩, hy⟩, hz⟩, hij⟩, hil⟩, hjl⟩ := hw
      obtain ⟨_, _, _, q, i1, _, _, ht⟩ := okNames_cons ht
      cases q
      obtain ⟨_, _, _, q, j1, _, _, ht⟩ := okNames_cons ht
      cases q
      obtain ⟨_, _, _, q, k1, _, _, ht⟩ := okNames_cons ht
      cases q
      refine PS.imp (ps_par3 (g.gd.calm hsu) g.gd.nd (by rw [g.gd.N]; exact i1) (by rw [g.gd.N]; exact j1) (by rw [g.gd.N]; exact k1) hij hil hjl (by rw [g.gd.sc]; exact hx) (by rw [g.gd.sc]; exact hy) (by rw [g.gd.sc]; exact hz) pv (sw_stores g.kind g.gd.sc hn) rfl) fun D σ H h => ?_
      obtain ⟨W, E, S, sr, fr, hh⟩ := wish h
      refine ⟨W, E, S, sr, fr, hh.imp fun xs H1 ⟨W1, E', S1, ds, E1, st1, sr1, fr1, r1, c, e1, h1⟩ => ?_⟩
      obtain ⟨d1, _, rfl, _, e1⟩ := setPar_cons e1
      obtain ⟨d2, _, rfl, _, e1⟩ := setPar_cons e1
      obtain ⟨d3, _, rfl, _, e1⟩ := setPar_cons e1
      obtain ⟨rfl, rfl⟩ := setPar_nil e1
      cases r1 with
      | cons r1 rt =>
        cases rt with
        | cons r2 rt =>
          cases rt with
          | cons r3 rt =>
            cases rt
            exact ⟨_, _, _, rfl, h1.at st1 sr1 (((fr1.setV _ r1).setV _ r2).setV _ r3)⟩
    · cases hw
  · cases hw

/-! ### lists and sets of one's own -/
theorem own_new {W W1 : Wd} {E : En} {S S1 : Sh} {σ : L2.St} {H H1 : Hp} {i : Nat} {a : Addr} {s : Sl} (st : Stp Wb Hb W H) (fr : FRel T Hb W E σ H) (fr1 : FRel T Hb W1 E σ H1) (hn : H a = none) (hs : SlRep T Hb W1 H1 s (some (some (.ref a)))) :
    FRel T Hb W1 (E.set i (some s)) (σ.set i (some (.ref a))) H1 :=
  fr1.setOwn i hs fun j t e o _ q => own_there fr e o q hn
theorem p_own (g : GS T Q N C k X sc fnb Wx) {i : Nat} {le : LE} {x : Str} {v : PySem.Expr} {px p : Pos} (hi : N[i]? = some x) (hx : locB sc fnb x = true) (hl : okL Q N sc le v = true) : PS X (.Assign [.Name x px] v p) (TSe T Wb Hb Wx C (.own i le)) := by
  have hp := okL_plain le v hl
  obtain ⟨l1, l2⟩ := locB_ok g.gd hx
  have wish : ∀ {D : Ends} {σ : L2.St} {H : Hp}, TSe T Wb Hb Wx C (.own i le) D σ H → ∃ W E S, SRel T W S H ∧ FRel T Hb W E σ H ∧ Resp T (RL T H) (wxs Wx σ) W H (fun v H1 => D.nx (σ.set i (some v)) H1) (evL C le E S) := fun {D σ H} ⟨W, E, S, st, sr, fr, h⟩ => by
    refine thenS (R := RL T H) (f := evL C le) st sr fr (show RespS T Wb Hb Wx D W ((evL C le E S).bindS E fun ds S => nxt (setSl E i (.ol ds)) S) from h) fun v H1 ds S1 W1 st1 s1 sr1 fr1 r1 h1 => ?_
    obtain ⟨E1, e1, h1⟩ := h1.nxt
    obtain ⟨hi, rfl⟩ := setSl_some e1
    obtain ⟨a, vs, rfl, q1, q2, q3, q4, q5⟩ := r1
    exact h1.at st1 sr1 (own_new (S := S) (S1 := S1) st fr fr1 q5 ⟨a, vs, rfl, q1, q2, q3, q4, st.bk q5⟩)
  cases hsw : swB sc (.Name x px) v with
  | false => exact PS.imp (ps_set g.gd.nd (by rw [g.gd.N]; exact hi) l1 (sL (H0 := Hb) le X sc fnb Wx v g.gd hl) (by rw [sw_with g.kind g.gd.sc hp, hsw]) l2) fun D σ H h => wish h
  | true =>
    cases v with
    | ListComp elt gens scope vp =>
      have hsw2 := hsw
      simp only [swB, Bool.and_eq_true, beq_iff_eq] at hsw2
      cases le with
      | comp elt' tg it cond vs =>
        unfold okL at hl
        split at hl
        · rename_i x' t i' ifs a' scope' p' ev
          cases ev
          simp only [Bool.and_eq_true, decide_eq_true_eq] at hl
          obtain ⟨⟨⟨⟨⟨⟨⟨⟨hsu, rfl⟩, h1⟩, h2⟩, h3⟩, h4⟩, h5⟩, h6⟩, h7⟩ := hl
          have hsu : Q.su = false := by simpa using hsu
          have hit := sI (H0 := Hb) it X sc fnb Wx t i' g.gd h5
          have pss := ps_setLc (spos := p) (py := px) (pos := vp) (g.gd.calm hsu) g.gd.nd (i := i) (y := x) (by rw [g.gd.N]; exact hi) (by rw [g.gd.sc]; exact hsw2.1.1) (by rw [sw_with g.kind g.gd.sc hp, hsw]) hit.1 (by rw [g.gd.N, g.gd.sc]; exact blkOk_by h1)
            (fun s H Ca cl fp => s_tg (H0 := Hb) (g.gd.blk hsu s H scope cl Ca fp) tg t h4 (by rw [hsu]; simp)) (fun s H Ca cl fp => (sO (H0 := Hb) cond _ _ _ _ (g.gd.blk hsu s H scope cl Ca fp)).2 _ h6) (fun s H Ca cl fp => (sE (H0 := Hb) elt' _ _ _ _ _ (g.gd.blk hsu s H scope cl Ca fp) h7).1) (fun z => plain_folded hit.2 z)
          rw [h2] at pss
          refine PS.imp pss fun D σ H h => ?_
          obtain ⟨W, E, S, sr, fr, h⟩ := wish h
          refine lc_wish (fun j hj => ?_) sr fr h
          have := List.all_eq_true.mp h3 j hj
          simpa using this
        · cases hl
      | _ => simp [okL] at hl
    | _ => simp [swB] at hsw
/-- set(), set(x) -/
def okSE (Q : Ck) (N : List Str) (sc : Scope) : SE → PySem.Expr → Bool
  | .set a, .Call (.Name x _) [y] [] _ => !Q.su && decide (x = Str.ofString "set") && glB sc x && okE Q N sc a y
  | .emp, .Call (.Name x _) [] [] _ => decide (x = Str.ofString "set") && glB sc x
  | _, _ => false
def RS (T : Tb) (Hs : Hp) : Wd → Hp → List Int → V → Prop := fun W H xs v => ∃ a S, v = .ref a ∧ H a = some (SetO T.w a S xs.length) ∧ (∀ i, S i = decide (i ∈ xs)) ∧ xs.Nodup ∧ W.G a = none ∧ a ∉ W.m ∧ Hs a = none
theorem se_ok (g : Gd T Q N C k X sc fnb Wx) {H0 : Hp} {se : SE} {v : PySem.Expr} (h : okSE Q N sc se v = true) : plainX v = true ∧ isComp v = false ∧ PE X v fun σ H Qr => ∃ W E S, SRel T W S H ∧ FRel T H0 W E σ H ∧ Resp T (RS T H) (wxs Wx σ) W H Qr (evSE C se E S) := by
  unfold okSE at h
  split at h
  · rename_i a x px y p
    simp only [Bool.and_eq_true, decide_eq_true_eq] at h
    obtain ⟨⟨⟨hsu, rfl⟩, hg⟩, ha⟩ := h
    have hs := plain_ns (okE_plain a _ ha)
    refine ⟨rfl, rfl, PE.imp (pe_callTy (cr_setOf (g.calm (by simpa using hsu))) (glB_ok g hg) (g.st.bn _ (by decide +kernel)) (by decide +kernel) (pa_cons' hs (PE.borrow (H0 := H0) g ha (sE a X sc fnb Wx y g ha).1) pa_nil) (by decide) (by decide) (by rw [star_of hs]) (by rfl)) fun σ H Qr ⟨W, E, S, sr, fr, h⟩ => ?_⟩
    refine tA.then sr fr (show Resp T (RS T H) (wxs Wx σ) W H Qr ((brw a E S (ev C a E S)).bind fun x S => lift (setOf (drf S x)) S) from h) fun v H1 d S1 W1 st1 sr1 fr1 r1 h1 => ?_
    obtain ⟨l, e, h1⟩ := h1.lift1
    unfold setOf at e
    simp only [Option.bind_eq_some_iff] at e
    obtain ⟨ns, ⟨xs, e1, e2⟩, e3⟩ := e
    split at e3 <;> cases e3
    rename_i c
    obtain ⟨b, ad, vs, rfl, rs, q⟩ := (r1.view sr1).sq (K := X.K) sr1 e1
    obtain ⟨rfl, _⟩ := intsOf_reps rs e2
    refine ⟨b, ad, ns, rfl, q, c, fun q hq => ?_⟩
    obtain ⟨f1, f2⟩ := sr1.fresh (o := SetO X.w q (fun j => decide (j ∈ ns.foldl addS [])) (ns.foldl addS []).length) hq
    exact h1 _ _ _ f2 f1 ⟨q, _, rfl, by rw [g.st.tw]; exact upd_same, fun _ => rfl, (foldl_addS List.nodup_nil).1, sr1.nonG hq, sr1.nonM hq, st1.bk hq⟩
  · rename_i x px p
    simp only [Bool.and_eq_true, decide_eq_true_eq] at h
    obtain ⟨rfl, hg⟩ := h
    refine ⟨rfl, rfl, PE.imp (pe_callTy0 cr_set0 (glB_ok g hg) (g.st.bn _ (by decide +kernel)) (by decide +kernel) (by decide) (by decide)) fun σ H Qr ⟨W, E, S, sr, fr, h⟩ => ?_⟩
    replace h : Resp T (RS T H) (wxs Wx σ) W H Qr (.ok [] S) := h
    refine ⟨rfl, fun q hq => ?_⟩
    obtain ⟨f1, f2⟩ := sr.fresh (o := SetO X.w q (fun _ => false) 0) hq
    exact h _ _ _ f2 f1 ⟨q, _, rfl, by rw [g.st.tw]; exact upd_same, fun _ => by simp, List.nodup_nil, sr.nonG hq, sr.nonM hq, hq⟩
  · cases h
theorem p_owns (g : GS T Q N C k X sc fnb Wx) {i : Nat} {se : SE} {x : Str} {v : PySem.Expr} {px p : Pos} (hi : N[i]? = some x) (hx : locB sc fnb x = true) (hl : okSE Q N sc se v = true) : PS X (.Assign [.Name x px] v p) (TSe T Wb Hb Wx C (.owns i se)) := by
  obtain ⟨l1, l2⟩ := locB_ok g.gd hx
  obtain ⟨hp, hc, pe⟩ := se_ok (H0 := Hb) g.gd hl
  have hsw : swB sc (.Name x px) v = false := by cases v <;> first | rfl | cases hc
  refine PS.imp (ps_set g.gd.nd (by rw [g.gd.N]; exact hi) l1 pe (by rw [sw_with g.kind g.gd.sc hp, hsw]) l2) fun D σ H ⟨W, E, S, st, sr, fr, h⟩ => ?_
  refine thenS (R := RS T H) (f := evSE C se) st sr fr (show RespS T Wb Hb Wx D W ((evSE C se E S).bindS E fun l S => nxt (setSl E i (.os l)) S) from h) fun v H1 ds S1 W1 st1 s1 sr1 fr1 r1 h1 => ?_
  obtain ⟨E1, e1, h1⟩ := h1.nxt
  obtain ⟨hi, rfl⟩ := setSl_some e1
  obtain ⟨a, SS, rfl, q1, q2, q3, q4, q5, q6⟩ := r1
  exact h1.at st1 sr1 (own_new (S := S) (S1 := S1) st fr fr1 q6 ⟨a, SS, rfl, q1, q2, q3, q4, q5, st.bk q6⟩)
end
end Qv
set_option Elab.async false
set_option linter.all false
set_option maxRecDepth 100000
set_option maxHeartbeats 4000000
/-! Statements: the rules, the rest. -/
namespace Qv
open PySem PySem.Spec PyProof.Rows L2
section
variable {T : Tb} {Q : Ck} {N : List Str} {C : Calls} {k : Nat} {X : Cx} {sc : Scope} {fnb : Str → Bool} {Wx : WX} {Wb : Wd} {Hb : Hp}

theorem pv_ok (g : Gd T Q N C k X sc fnb Wx) {i : Nat} {x : Str} {px : Pos} (hi : N[i]? = some x) (hv : visB sc x = true) (hn : okName x = true) : PE X (.Name x px) (tVar i) := pe_var (by rw [g.N]; exact hi) (visB_ok g hv) (okName_ok hn).1 (okName_ok hn).2
theorem few_ok {env : Env} {v : PySem.Expr} {cpos : Pos} (hs : nst v = true) : ((backTo cpos (starEach [v] env)).all (fun x => !x.1) && (backToKw cpos (keywordEach [] env)).all (fun x => x.1.isSome) && decide (([v] : List PySem.Expr).length + ([] : List Keyword).length + (if ([] : List Keyword).isEmpty then 0 else 1) < 30)) = true := by
  rw [star_of hs]; rfl
theorem p_app (g : GS T Q N C k X sc fnb Wx) {i : Nat} {e : IE} {x : Str} {v : PySem.Expr} {px apos cpos p : Pos} (hi : N[i]? = some x) (hv : visB sc x = true) (hn : okName x = true) (hl : (apos.endLine == cpos.line) = true) (he : okE Q N sc e v = true) :
    PS X (.Expr (.Call (.Attribute (.Name x px) (Str.ofString "append") apos) [v] [] cpos) p) (TSe T Wb Hb Wx C (.app i e)) := by
  have hs := plain_ns (okE_plain e v he)
  refine PS.imp (ps_expr (pe_bm PySem.F.plainAttrs_list PySem.F.slot_list_append PySem.F.type_list_append mt_append (pv_ok g.gd hi hv hn) (pa_cons' hs (sE (H0 := Hb) e X sc fnb Wx v g.gd he).1 pa_nil) (nca_base rfl) (few_ok hs) hl (star_of hs) rfl) rfl) fun D σ H ⟨W, E, S, st, sr, fr, h⟩ => ?_
  replace h : RespS T Wb Hb Wx D W (match E[i]? with
    | some (some (.ol xs)) => (ev C e E S).bindS E fun d S => if xs.length < LIM then nxt (setSl E i (.ol (xs ++ [d]))) S else .bad
    | _ => .bad) := h
  split at h
  · rename_i xs eE
    obtain ⟨a, vs, q1, q2, q3, q4, q5, q6⟩ := fr.at_ i _ eE
    refine ⟨.ref a, q1, .inl ⟨rfl, vs, SqL.of q2⟩, ?_⟩
    refine thenS (R := RD T) st sr fr h fun x H1 d S1 W1 st1 s1 sr1 fr1 r1 h1 => ?_
    split at h1
    · rename_i c
      obtain ⟨E1, e1, h1⟩ := h1.nxt
      obtain ⟨hil, rfl⟩ := setSl_some e1
      obtain ⟨b, us, p1, p2, p3, p4, p5, p6⟩ := fr1.at_ i _ eE
      rw [q1] at p1; cases p1
      have := sl64
      unfold LIM at c
      refine ⟨a, us, x, rfl, rfl, p2, by rw [← p3.length]; omega, h1.at (st1.own p6) (sr1.ownSet p4 p5) (fr1.write eE rfl q1 ⟨a, us ++ [x], rfl, upd_same, p3.append (.cons r1 .nil), p4, p5, p6⟩)⟩
    · exact h1.nobad
  · exact h.nobad
theorem p_ext (g : GS T Q N C k X sc fnb Wx) {i : Nat} {e : IE} {x : Str} {v : PySem.Expr} {px apos cpos p : Pos} (hi : N[i]? = some x) (hv : visB sc x = true) (hn : okName x = true) (hl : (apos.endLine == cpos.line) = true) (he : okE Q N sc e v = true) :
    PS X (.Expr (.Call (.Attribute (.Name x px) (Str.ofString "extend") apos) [v] [] cpos) p) (TSe T Wb Hb Wx C (.ext i e)) := by
  have hs := plain_ns (okE_plain e v he)
  refine PS.imp (ps_expr (pe_bm PySem.F.plainAttrs_list PySem.F.slot_list_extend PySem.F.type_list_extend mt_extend (pv_ok g.gd hi hv hn) (pa_cons' hs (PE.borrow (H0 := Hb) g.gd he (sE e X sc fnb Wx v g.gd he).1) pa_nil) (nca_base rfl) (few_ok hs) hl (star_of hs) rfl) rfl) fun D σ H ⟨W, E, S, st, sr, fr, h⟩ => ?_
  replace h : RespS T Wb Hb Wx D W (match E[i]? with
    | some (some (.ol xs)) => (brw e E S (ev C e E S)).bindS E fun d S => (match drf S d with
      | .lst ys => if xs.length + ys.length ≤ LIM then nxt (setSl E i (.ol (xs ++ ys))) S else .bad
      | _ => .bad)
    | _ => .bad) := h
  split at h
  · rename_i xs eE
    obtain ⟨a, vs, q1, q2, q3, q4, q5, q6⟩ := fr.at_ i _ eE
    refine ⟨.ref a, q1, .inl ⟨rfl, vs, SqL.of q2⟩, ?_⟩
    refine thenS (R := RA T) (f := fun E S => brw e E S (ev C e E S)) st sr fr h fun x H1 d S1 W1 st1 s1 sr1 fr1 r1 h1 => ?_
    have vw := r1.view sr1
    split at h1
    · rename_i ys ed
      rw [ed] at vw
      obtain ⟨b, us, rfl, u1, u2⟩ := vw
      split at h1
      · rename_i c
        obtain ⟨E1, e1, h1⟩ := h1.nxt
        obtain ⟨hil, rfl⟩ := setSl_some e1
        obtain ⟨b', ws, p1, p2, p3, p4, p5, p6⟩ := fr1.at_ i _ eE
        rw [q1] at p1; cases p1
        have := sl64
        unfold LIM at c
        refine ⟨a, b, ws, us, rfl, rfl, p2, u1, by rw [← p3.length, ← u2.length]; omega, h1.at (st1.own p6) (sr1.ownSet p4 p5) (fr1.write eE rfl q1 ⟨a, ws ++ us, rfl, upd_same, p3.append u2, p4, p5, p6⟩)⟩
      · exact h1.nobad
    · exact h1.nobad
  · exact h.nobad
theorem p_add (g : GS T Q N C k X sc fnb Wx) {i : Nat} {e : IE} {x : Str} {v : PySem.Expr} {px apos cpos p : Pos} (hi : N[i]? = some x) (hv : visB sc x = true) (hn : okName x = true) (hl : (apos.endLine == cpos.line) = true) (he : okE Q N sc e v = true) :
    PS X (.Expr (.Call (.Attribute (.Name x px) (Str.ofString "add") apos) [v] [] cpos) p) (TSe T Wb Hb Wx C (.add i e)) := by
  have hs := plain_ns (okE_plain e v he)
  have hw := g.gd.st.tw
  refine PS.imp (ps_expr (pe_sadd (pv_ok g.gd hi hv hn) (pa_cons' hs (sE (H0 := Hb) e X sc fnb Wx v g.gd he).1 pa_nil) (nca_base rfl) (few_ok hs) hl (star_of hs) rfl) rfl) fun D σ H ⟨W, E, S, st, sr, fr, h⟩ => ?_
  replace h : RespS T Wb Hb Wx D W (match E[i]? with
    | some (some (.os xs)) => (ev C e E S).bindS E fun d S => (match d with
      | .int x => if xs.length < 4000 then nxt (setSl E i (.os (addS xs x))) S else .bad
      | _ => .bad)
    | _ => .bad) := h
  split at h
  · rename_i xs eE
    obtain ⟨a, SS, q1, q2, q3, q4, q5, q6, q7⟩ := fr.at_ i _ eE
    rw [hw] at q2
    refine ⟨.ref a, q1, ⟨a, SS, _, rfl, q2⟩, ?_⟩
    refine thenS (R := RD T) st sr fr h fun x H1 d S1 W1 st1 s1 sr1 fr1 r1 h1 => ?_
    split at h1
    · rename_i n
      cases r1
      split at h1
      · rename_i c
        obtain ⟨E1, e1, h1⟩ := h1.nxt
        obtain ⟨hil, rfl⟩ := setSl_some e1
        obtain ⟨b, S2, p1, p2, p3, p4, p5, p6, p7⟩ := fr1.at_ i _ eE
        rw [q1] at p1; cases p1
        rw [hw] at p2
        have hc : (if S2 n = true then xs.length else xs.length + 1) = (addS xs n).length := by
          rw [p3 n]
          unfold addS
          by_cases hm : n ∈ xs
          · simp [hm]
          · simp [hm]
        refine ⟨a, n, S2, _, rfl, rfl, p2, by show xs.length + 1 < 4096; omega, ?_⟩
        rw [hc]
        refine h1.at (st1.own p7) (sr1.ownSet p5 p6) (fr1.write eE rfl q1 ⟨a, _, rfl, by rw [hw]; exact upd_same, fun j => ?_, addS_nodup p4, p5, p6, p7⟩)
        rw [p3 j, Bool.eq_iff_iff]
        simp [addS_mem]
      · exact h1.nobad
    · exact h1.nobad
  · exact h.nobad
theorem p_sti (g : GS T Q N C k X sc fnb Wx) {i : Nat} {ix e : IE} {x : Str} {y v : PySem.Expr} {px ps p : Pos} (hi : N[i]? = some x) (hv : visB sc x = true) (hn : okName x = true) (hy : okE Q N sc ix y = true) (he : okE Q N sc e v = true) :
    PS X (.Assign [.Subscript (.Name x px) y ps] v p) (TSe T Wb Hb Wx C (.sti i ix e)) := by
  have hp := okE_plain e v he
  have hsw : swB sc (.Subscript (.Name x px) y ps) v = false := by cases v <;> rfl
  have hst : swT sc (.Subscript (.Name x px) y ps) v = true := by cases v <;> rfl
  have hpy := okE_plain ix y hy
  refine PS.imp (ps_asg (sE (H0 := Hb) e X sc fnb Wx v g.gd he).1 (pg_sub (pv_ok g.gd hi hv hn) (sE (H0 := Hb) ix X sc fnb Wx y g.gd hy).1 set_list (by intro v; cases y <;> first | rfl | cases hpy)) (by show swapsWith v (some (.Subscript (.Name x px) y ps)) p.line X.env = pure false; rw [sw_with g.kind g.gd.sc hp, hsw]) (sw_none g.kind g.gd.sc hst) rfl) fun D σ H ⟨W, E, S, st, sr, fr, h⟩ => ?_
  replace h : RespS T Wb Hb Wx D W (match E[i]? with
    | some (some (.ol xs)) => (ev C e E S).bindS E fun d S => (ev C ix E S).bindS E fun k S => (match k with
      | .int j => (match ixAt xs.length j with
        | some n => nxt (setSl E i (.ol (xs.set n d))) S
        | none => .bad)
      | _ => .bad)
    | _ => .bad) := h
  split at h
  · rename_i xs eE
    refine thenS (R := RD T) st sr fr h fun x H1 d S1 W1 st1 s1 sr1 fr1 r1 h1 => ?_
    obtain ⟨a, vs, q1, q2, q3, q4, q5, q6⟩ := fr1.at_ i _ eE
    refine ⟨.ref a, q1, ?_⟩
    refine thenS (R := RD T) st1 sr1 fr1 h1 fun z H2 d2 S2 W2 st2 s2 sr2 fr2 r2 h2 => ?_
    split at h2
    · rename_i j
      cases r2
      split at h2
      · rename_i n hn
        obtain ⟨E1, e1, h2⟩ := h2.nxt
        obtain ⟨hil, rfl⟩ := setSl_some e1
        obtain ⟨b', ws, p1, p2, p3, p4, p5, p6⟩ := fr2.at_ i _ eE
        rw [q1] at p1; cases p1
        refine ⟨a, ws, j, n, rfl, rfl, p2, by rw [← p3.length]; exact hn, h2.at (st2.own p6) (sr2.ownSet p4 p5) (fr2.write eE rfl q1 ⟨a, ws.set n x, rfl, upd_same, p3.set (r1.mono s2.le) n, p4, p5, p6⟩)⟩
      · exact h2.nobad
    · exact h2.nobad
  · exact h.nobad
theorem p_sts (g : GS T Q N C k X sc fnb Wx) {o ix e : IE} {x y v : PySem.Expr} {ps p : Pos} (hx : okE Q N sc o x = true) (hy : okE Q N sc ix y = true) (he : okE Q N sc e v = true) :
    PS X (.Assign [.Subscript x y ps] v p) (TSe T Wb Hb Wx C (.sts o ix e)) := by
  have hp := okE_plain e v he
  have hsw : swB sc (.Subscript x y ps) v = false := by cases v <;> rfl
  have hst : swT sc (.Subscript x y ps) v = true := by cases v <;> rfl
  have hpy := okE_plain ix y hy
  refine PS.imp (ps_asg (sE (H0 := Hb) e X sc fnb Wx v g.gd he).1 (pg_sub (sE (H0 := Hb) o X sc fnb Wx x g.gd hx).1 (sE (H0 := Hb) ix X sc fnb Wx y g.gd hy).1 set_list (by intro v; cases y <;> first | rfl | cases hpy)) (by show swapsWith v (some (.Subscript x y ps)) p.line X.env = pure false; rw [sw_with g.kind g.gd.sc hp, hsw]) (sw_none g.kind g.gd.sc hst) rfl) fun D σ H ⟨W, E, S, st, sr, fr, h⟩ => ?_
  replace h : RespS T Wb Hb Wx D W ((ev C e E S).bindS E fun d S => (ev C o E S).bindS E fun x S => (ev C ix E S).bindS E fun k S => match x, k with
    | .ref l, .int j => (match S[l]? with
      | some (.lst xs) => (match ixAt xs.length j with
        | some n => .ok (.nx, E) (S.set l (.lst (xs.set n d)))
        | none => .bad)
      | _ => .bad)
    | _, _ => .bad) := h
  refine thenS (R := RD T) st sr fr h fun x H1 d S1 W1 st1 s1 sr1 fr1 r1 h1 => ?_
  refine thenS (R := RD T) st1 sr1 fr1 h1 fun z H2 d2 S2 W2 st2 s2 sr2 fr2 r2 h2 => ?_
  refine thenS (R := RD T) st2 sr2 fr2 h2 fun u H3 d3 S3 W3 st3 s3 sr3 fr3 r3 h3 => ?_
  split at h3
  · rename_i l j
    cases r3
    cases r2.mono s3.le with
    | ref e2 =>
      split at h3
      · rename_i xs eS
        split at h3
        · rename_i n hn
          obtain ⟨vs, v1, v2⟩ := sr3.obs l _ _ e2 eS
          obtain ⟨sr4, st4⟩ := sr3.setAt (ob := .lst (xs.set n d)) (u := .lst (vs.set n x)) e2 ⟨_, upd_same, v2.set ((r1.mono s2.le).mono s3.le) n⟩
          exact ⟨_, vs, j, n, rfl, rfl, v1, by rw [← v2.length]; exact hn, h3.at (st3.trans st4) sr4 (fr3.stp st4)⟩
        · exact h3.nobad
      · exact h3.nobad
  · exact h3.nobad
theorem RepF.putF (inj : ∀ i j, T.nm i = T.nm j → i = j) {W : Wd} {f : Nat} {d : D} {v : V} (r : Rep T W d v) : ∀ {fs : List (Nat × D)} {fv : List (Str × V)}, RepF T W fs fv → RepF T W (Qv.putF f d fs) (L2.putF (T.nm f) v fv)
  | _, _, .nil => .cons r .nil
  | _, _, .cons (f := g) a t => by
    unfold Qv.putF L2.putF
    by_cases h : g = f
    · subst h
      rw [if_pos rfl, if_pos rfl]
      exact .cons r t
    · rw [if_neg h, if_neg fun z => h (inj _ _ z)]
      exact .cons a (RepF.putF inj r t)
theorem RepF.length {W : Wd} : ∀ {fs : List (Nat × D)} {fv : List (Str × V)}, RepF T W fs fv → fs.length = fv.length
  | _, _, .nil => rfl
  | _, _, .cons _ t => by simp [RepF.length t]
theorem p_sat (g : GS T Q N C k X sc fnb Wx) {o e : IE} {f : Nat} {x v : PySem.Expr} {ps p : Pos} (hx : okE Q N sc o x = true) (hf : Q.fld f = true) (he : okE Q N sc e v = true) :
    PS X (.Assign [.Attribute x (Q.nm f) ps] v p) (TSe T Wb Hb Wx C (.sat o f e)) := by
  have hp := okE_plain e v he
  have hsw : swB sc (.Attribute x (Q.nm f) ps) v = false := by cases v <;> rfl
  refine PS.imp (ps_fld (sE (H0 := Hb) o X sc fnb Wx x g.gd hx).1 (sE (H0 := Hb) e X sc fnb Wx v g.gd he).1 (by rw [sw_with g.kind g.gd.sc hp, hsw])) fun D σ H ⟨W, E, S, st, sr, fr, h⟩ => ?_
  replace h : RespS T Wb Hb Wx D W ((ev C e E S).bindS E fun d S => (ev C o E S).bindS E fun x S => match x with
    | .ref l => (match S[l]? with
      | some (.ins c fs) => if fs.length < 900 then .ok (.nx, E) (S.set l (.ins c (Qv.putF f d fs))) else .bad
      | _ => .bad)
    | _ => .bad) := h
  refine thenS (R := RD T) st sr fr h fun x H1 d S1 W1 st1 s1 sr1 fr1 r1 h1 => ?_
  refine thenS (R := RD T) st1 sr1 fr1 h1 fun z H2 d2 S2 W2 st2 s2 sr2 fr2 r2 h2 => ?_
  split at h2
  · rename_i l
    cases r2 with
    | ref e2 =>
      split at h2
      · rename_i c fs eS
        split at h2
        · rename_i hlen
          obtain ⟨dx, fv, hc, v1, v2, v3⟩ := sr2.obs l _ _ e2 eS
          obtain ⟨c1, c2⟩ := g.gd.st.at_ c f hc hf
          obtain ⟨sr4, st4⟩ := sr2.setAt (ob := .ins c (Qv.putF f d fs)) (u := .ins (T.ad c) dx (L2.putF (T.nm f) x fv)) e2 ⟨dx, _, hc, upd_same, v2, v3.putF g.gd.st.inj (r1.mono s2.le)⟩
          have e3 := h2.at (st2.trans st4) sr4 (fr2.stp st4)
          rw [← g.gd.st.nm]
          exact ⟨_, _, dx, fv, rfl, v1, c1, c2, by rw [← v3.length]; omega, e3⟩
        · exact h2.nobad
      · exact h2.nobad
  · exact h2.nobad
/-- name op= int -/
theorem aug_ok {o : BinO} : PIp X (opOf o) (fun x y H Qr => ∃ W dx dy z, Rep T W dx x ∧ Rep T W dy y ∧ augD o dx dy = some z ∧ ∀ v, (∃ i, z = .int i ∧ v = .int i) → Qr v H) := by
  intro pins s σ H x y v u Qr I rx ry ⟨W, dx, dy, z, h1, h2, e, hq⟩
  have hint : ∀ j : Int, z = .int j → Qr (.int j) H := fun j q => hq _ ⟨j, q, rfl⟩
  unfold augD at e
  split at e
  · rename_i i j
    cases h1; cases h2
    cases o
    · cases e; exact iop_add pins s σ H _ _ _ _ Qr I rx ry ⟨_, _, rfl, rfl, hint _ rfl⟩
    · cases e; exact iop_sub pins s σ H _ _ _ _ Qr I rx ry ⟨_, _, rfl, rfl, hint _ rfl⟩
    · simp only [binD] at e
      split at e <;> cases e
      rename_i c
      exact iop_mul pins s σ H _ _ _ _ Qr I rx ry ⟨_, _, rfl, rfl, c, hint _ rfl⟩
    · simp only [binD] at e
      split at e <;> cases e
      rename_i c
      exact iop_fdiv pins s σ H _ _ _ _ Qr I rx ry ⟨_, _, rfl, rfl, c, hint _ rfl⟩
    · simp only [binD] at e
      split at e <;> cases e
      rename_i c
      exact iop_mod pins s σ H _ _ _ _ Qr I rx ry ⟨_, _, rfl, rfl, c, hint _ rfl⟩
    · cases e
  · cases e
theorem p_aug (g : GS T Q N C k X sc fnb Wx) {i : Nat} {o : BinO} {e : IE} {x : Str} {v : PySem.Expr} {px p : Pos} (hi : N[i]? = some x) (hx : locB sc fnb x = true) (he : okE Q N sc e v = true) :
    PS X (.AugAssign (.Name x px) (opOf o) v p) (TSe T Wb Hb Wx C (.aug i o e)) := by
  obtain ⟨l1, l2⟩ := locB_ok g.gd hx
  refine PS.imp (ps_aug g.gd.nd (by rw [g.gd.N]; exact hi) l1 (sE (H0 := Hb) e X sc fnb Wx v g.gd he).1 (aug_ok (T := T) (o := o)) l2) fun D σ H ⟨W, E, S, st, sr, fr, h⟩ => ?_
  replace h : RespS T Wb Hb Wx D W (match E[i]? with
    | some (some (.v x)) => (ev C e E S).bindS E fun y S => (lift (augD o x y) S).bindS E fun z S => nxt (setSl E i (.v z)) S
    | _ => .bad) := h
  split at h
  · rename_i d eE
    obtain ⟨vx, q1, q2⟩ := fr.at_ i _ eE
    refine ⟨vx, q1, ?_⟩
    refine thenS (R := RD T) st sr fr h fun y H1 d2 S1 W1 st1 s1 sr1 fr1 r1 h1 => ?_
    obtain ⟨z, ez, h1⟩ := h1.liftS
    obtain ⟨E1, e1, h1⟩ := h1.nxt
    obtain ⟨hil, rfl⟩ := setSl_some e1
    exact ⟨W1, d, d2, z, q2.mono s1.le, r1, ez, fun v ⟨j, e1, e2⟩ => by subst e1 e2; exact h1.at st1 sr1 (fr1.setV i (.int j))⟩
  · exact h.nobad

/-! ### the flow -/
theorem p_expr (g : GS T Q N C k X sc fnb Wx) {e : IE} {v : PySem.Expr} {p : Pos} (hc : isComp v = false) (he : okE Q N sc e v = true) : PS X (.Expr v p) (TSe T Wb Hb Wx C (.expr e)) := by
  have hp := okE_plain e v he
  refine PS.imp (ps_expr (sE (H0 := Hb) e X sc fnb Wx v g.gd he).1 (by cases v <;> first | rfl | (cases hp; done) | (cases hc; done))) fun D σ H ⟨W, E, S, st, sr, fr, h⟩ => ?_
  exact thenS (R := RD T) st sr fr (show RespS T Wb Hb Wx D W ((ev C e E S).bindS E fun _ S => .ok (.nx, E) S) from h) fun x H1 d S1 W1 st1 _ sr1 fr1 r1 h1 => h1.at st1 sr1 fr1
theorem p_ret (g : GS T Q N C k X sc fnb Wx) {e : IE} {v : PySem.Expr} {p : Pos} (he : okE Q N sc e v = true) : PS X (.Return (some v) p) (TSe T Wb Hb Wx C (.ret e)) := by
  refine PS.imp (ps_ret (sE (H0 := Hb) e X sc fnb Wx v g.gd he).1) fun D σ H ⟨W, E, S, st, sr, fr, h⟩ => ?_
  exact thenS (R := RD T) st sr fr (show RespS T Wb Hb Wx D W ((ev C e E S).bindS E fun d S => .ok (.ret d, E) S) from h) fun x H1 d S1 W1 st1 _ sr1 fr1 r1 h1 => h1.at st1 sr1 fr1 x r1
theorem p_retn {p : Pos} : PS X (.Return none p) (TSe T Wb Hb Wx C .retn) := PS.imp ps_retN fun D σ H ⟨W, E, S, st, sr, fr, h⟩ => (show RespS T Wb Hb Wx D W (.ok (.ret .non, E) S) from h).at st sr fr .non .non
theorem p_pas {p : Pos} : PS X (.Pass p) (TSe T Wb Hb Wx C .pas) := PS.imp ps_pass fun D σ H ⟨W, E, S, st, sr, fr, h⟩ => (show RespS T Wb Hb Wx D W (.ok (.nx, E) S) from h).at st sr fr
theorem p_brk {p : Pos} : PS X (.Break p) (TSe T Wb Hb Wx C .brk) := PS.imp ps_break fun D σ H ⟨W, E, S, st, sr, fr, h⟩ => (show RespS T Wb Hb Wx D W (.ok (.brk, E) S) from h).at st sr fr
theorem p_cnt {p : Pos} : PS X (.Continue p) (TSe T Wb Hb Wx C .cnt) := PS.imp ps_continue fun D σ H ⟨W, E, S, st, sr, fr, h⟩ => (show RespS T Wb Hb Wx D W (.ok (.cnt, E) S) from h).at st sr fr
theorem p_ite (g : GS T Q N C k X sc fnb Wx) {t : IE} {a b : ISs} {v : PySem.Expr} {x y : List Stmt} {p : Pos} (ht : okE Q N sc t v = true) (ha : PSs X x (TBe T Wb Hb Wx C a)) (hb : PSs X y (TBe T Wb Hb Wx C b)) : PS X (.If v x y p) (TSe T Wb Hb Wx C (.ite t a b)) := by
  refine PS.imp (ps_if (sE (H0 := Hb) t X sc fnb Wx v g.gd ht).2.1 ha hb) fun D σ H ⟨W, E, S, st, sr, fr, h⟩ => ?_
  refine thenS (R := EqB) (f := fun E S => tst t E S (ev C t E S)) st sr fr (show RespS T Wb Hb Wx D W ((tst t E S (ev C t E S)).bindS E fun t S => match t with
    | true => exB C a E S
    | false => exB C b E S) from h) fun x H1 d S1 W1 st1 _ sr1 fr1 r1 h1 => ?_
  subst r1
  cases d with
  | true => exact ⟨W1, E, S1, st1, sr1, fr1, h1⟩
  | false => exact ⟨W1, E, S1, st1, sr1, fr1, h1⟩
theorem p_for (g : GS T Q N C k X sc fnb Wx) {tg : Tg} {it : II} {b : ISs} {t v : PySem.Expr} {bd : List Stmt} {p : Pos} (hsu : Q.su = false) (ht : okTg N sc fnb tg t = true) (hi : okI Q N sc it t v = true) (hb : PSs X bd (TBe T Wb Hb Wx C b)) : PS X (.For t v bd [] p) (TSe T Wb Hb Wx C (.for tg it b)) := by
  have hit := sI (H0 := Hb) it X sc fnb Wx t v g.gd hi
  refine PS.imp (ps_for g.pso (g.gd.calm hsu) hit.1 (s_tg (H0 := Hb) g.gd tg t ht (by rw [hsu]; simp)) hb (fun z => plain_folded hit.2 z)) fun D σ H ⟨W, E, S, st, sr, fr, h⟩ => ?_
  refine thenS (R := RI T) st sr fr (show RespS T Wb Hb Wx D W ((evI C it E S).bindS E fun xs S => forL (fun x E S => match asgT tg x E with
    | none => .bad
    | some E1 => exB C b E1 S) xs E S) from h) fun J H1 xs S1 W1 st1 _ sr1 fr1 r1 h1 => ?_
  let F : Qv.D → En → Sh → Res (Fl × En) := fun x E S => match asgT tg x E with
    | none => .bad
    | some E1 => exB C b E1 S
  let Pv : Nat → L2.St → Hp → Prop := fun i σ H => ∃ W2 E2 S2, Stp Wb Hb W2 H ∧ W1.Le W2 ∧ SRel T W2 S2 H ∧ FRel T Hb W2 E2 σ H ∧ RespS T Wb Hb Wx D W2 (forL F (xs.drop i) E2 S2)
  refine ⟨fun i m σ H => m = xs.length - i ∧ i ≤ xs.length ∧ Pv i σ H, ⟨_, rfl, Nat.zero_le _, W1, E, S1, st1, .refl _, sr1, fr1, h1⟩, ?_⟩
  rintro i m σ2 H2 ⟨rfl, hi, W2, E2, S2, st2, le2, sr2, fr2, h2⟩
  by_cases hlt : i < xs.length
  · refine .inr ⟨r1.go W2 S2 H2 le2 sr2 i hlt, Pv (i + 1), fun σ' H' p => ⟨_, by omega, rfl, hlt, p⟩, fun x H' y => ?_⟩
    have hd : xs[i]? = some xs[i] := List.getElem?_eq_getElem hlt
    rw [List.drop_eq_getElem_cons hlt] at h2
    obtain ⟨W3, st3, sr3, rx⟩ := r1.yld W2 S2 H2 le2 sr2 i xs[i] x H' hd y
    replace h2 : RespS T Wb Hb Wx D W2 ((F xs[i] E2 S2).bind fun r S1 => match r with
      | (.nx, E1) => forL F (xs.drop (i + 1)) E1 S1
      | (.cnt, E1) => forL F (xs.drop (i + 1)) E1 S1
      | (.brk, E1) => .ok (.nx, E1) S1
      | r => .ok r S1) := h2
    have fr3 := fr2.stp st3
    have st23 := st2.trans st3
    have le23 := le2.trans st3.le
    cases eA : asgT tg xs[i] E2 with
    | none =>
      have : F xs[i] E2 S2 = .bad := by
        show (match asgT tg xs[i] E2 with
          | none => Res.bad
          | some E1 => exB C b E1 S2) = _
        rw [eA]
      rw [this] at h2
      exact h2.elim
    | some E1 =>
      have eF : F xs[i] E2 S2 = exB C b E1 S2 := by
        show (match asgT tg xs[i] E2 with
          | none => Res.bad
          | some E1 => exB C b E1 S2) = _
        rw [eA]
      rw [eF] at h2
      refine ⟨W3, E2, S2, xs[i], E1, sr3, fr3, rx, eA, fun σ' fr' _ => ⟨W3, E1, S2, st23, sr3, fr', ?_⟩⟩
      refine (h2.mono st3.le).bind fun p S' W' H'' σ'' _ h3 s1 s2 s3 s4 => ?_
      obtain ⟨fl, E'⟩ := p
      cases fl with
      | nx => exact ⟨W', E', S', s1, le23.trans s2, s3, s4, h3⟩
      | cnt => exact ⟨W', E', S', s1, le23.trans s2, s3, s4, h3⟩
      | brk => exact h3.at s1 s3 s4
      | ret d => exact h3.at s1 s3 s4
      | exc x => exact h3.at s1 s3 s4
  · have e : i = xs.length := by omega
    subst e
    refine .inl ⟨r1.stop W2 S2 H2 le2 sr2, ?_⟩
    rw [List.drop_length] at h2
    exact h2.at st2 sr2 fr2
theorem p_whl (g : GS T Q N C k X sc fnb Wx) {t : IE} {b : ISs} {v : PySem.Expr} {bd : List Stmt} {p : Pos} (ht : okE Q N sc t v = true) (hb : PSs X bd (TBe T Wb Hb Wx C b)) : PS X (.While v bd [] p) (TSe T Wb Hb Wx C (.whl t b)) := by
  refine PS.imp (ps_while g.pso (sE (H0 := Hb) t X sc fnb Wx v g.gd ht).2.1 hb) fun D σ H ⟨W, E, S, st, sr, fr, h⟩ => ?_
  replace h : RespS T Wb Hb Wx D W (whlL (fun E S => tst t E S (ev C t E S)) (exB C b) WFU E S) := h
  refine ⟨fun m σ H => ∃ W2 E2 S2, Stp Wb Hb W2 H ∧ SRel T W2 S2 H ∧ FRel T Hb W2 E2 σ H ∧ RespS T Wb Hb Wx D W2 (whlL (fun E S => tst t E S (ev C t E S)) (exB C b) m E2 S2), ⟨_, W, E, S, st, sr, fr, h⟩, ?_⟩
  rintro m σ2 H2 ⟨W2, E2, S2, st2, sr2, fr2, h2⟩
  cases m with
  | zero => exact h2.elim
  | succ m =>
    refine thenS (R := EqB) (f := fun E S => tst t E S (ev C t E S)) st2 sr2 fr2 (show RespS T Wb Hb Wx D W2 ((tst t E2 S2 (ev C t E2 S2)).bindS E2 fun b' S1 => match b' with
      | false => .ok (.nx, E2) S1
      | true => (exB C b E2 S1).bind fun r S2 => match r with
        | (.nx, E1) => whlL (fun E S => tst t E S (ev C t E S)) (exB C b) m E1 S2
        | (.cnt, E1) => whlL (fun E S => tst t E S (ev C t E S)) (exB C b) m E1 S2
        | (.brk, E1) => .ok (.nx, E1) S2
        | r => .ok r S2) from h2) fun x H3 d S3 W3 st3 _ sr3 fr3 r3 h3 => ?_
    subst r3
    cases d with
    | false =>
      rw [if_neg (by decide)]
      exact RespS.at (show RespS T Wb Hb Wx D W3 (.ok (.nx, E2) S3) from h3) st3 sr3 fr3
    | true =>
      rw [if_pos rfl]
      refine ⟨fun σ H => ∃ W2 E2 S2, Stp Wb Hb W2 H ∧ SRel T W2 S2 H ∧ FRel T Hb W2 E2 σ H ∧ RespS T Wb Hb Wx D W2 (whlL (fun E S => tst t E S (ev C t E S)) (exB C b) m E2 S2), fun σ' H' p => ⟨m, Nat.lt_succ_self m, p⟩, W3, E2, S3, st3, sr3, fr3, ?_⟩
      refine RespS.bind h3 fun p S' W' H'' σ'' _ h4 s1 s2 s3 s4 => ?_
      obtain ⟨fl, E'⟩ := p
      cases fl with
      | nx => exact ⟨W', E', S', s1, s3, s4, h4⟩
      | cnt => exact ⟨W', E', S', s1, s3, s4, h4⟩
      | brk => exact h4.at s1 s3 s4
      | ret d => exact h4.at s1 s3 s4
      | exc x => exact h4.at s1 s3 s4

/-! ### raise, try -/
theorem p_raise (g : GS T Q N C k X sc fnb Wx) (hsu : Q.su = false) {c : Nat} {p1 p2 p : Pos} (hc : Q.exc c = true) (hg : glB sc (Q.nm c) = true) (hn : okName (Q.nm c) = true) :
    PS X (.Raise (some (.Call (.Name (Q.nm c) p1) [] [] p2)) none p) (TSe T Wb Hb Wx C (.raise c .nil)) := by
  obtain ⟨hm, xo⟩ := g.gd.st.exc c hc
  rw [g.gd.st.nm] at hm
  refine PS.imp (ps_raise (g.gd.calm hsu) g.gd.tk (Qx.pmk_own0 PySem.F.excBase_ValueError xo.ex hm xo.kp (raises_own xo.sb xo.ty) (glB_ok g.gd hg) (okName_ok hn).1)) fun D σ H ⟨W, E, S, st, sr, fr, h⟩ => ?_
  replace h : RespS T Wb Hb Wx D W (match raiseD (C.exn c) c [] with
    | some x => .ok (.exc x, E) S
    | none => .bad) := h
  split at h
  · rename_i x ex
    obtain rfl := raiseD_nil ex
    exact h.at st sr fr (.ref (T.ad c)) none ⟨rfl, .inl ⟨rfl, rfl⟩⟩
  · exact h.nobad
theorem bind_bindS {r : Res Qv.D} {E : En} {kk : List Qv.D → Sh → Res (Fl × En)} : (r.bind fun x S => Res.ok [x] S).bindS E kk = r.bindS E fun d S => kk [d] S := by cases r <;> rfl
theorem p_raise1 (g : GS T Q N C k X sc fnb Wx) (hsu : Q.su = false) {c : Nat} {e : IE} {v : PySem.Expr} {p1 p2 p : Pos} (hc : Q.exf c = true) (hg : glB sc (Q.nm c) = true) (hn : okName (Q.nm c) = true) (hs : nst v = true) (he : okE Q N sc e v = true) :
    PS X (.Raise (some (.Call (.Name (Q.nm c) p1) [v] [] p2)) none p) (TSe T Wb Hb Wx C (.raise c (.cons e .nil))) := by
  obtain ⟨f, hex, hm, so⟩ := g.gd.st.exf c hc
  rw [g.gd.st.nm] at hm
  refine PS.imp (ps_raise (g.gd.calm hsu) g.gd.tk (Qx.pmk_sup so ((g.gd.room hsu).mono (by omega)) (glB_ok g.gd hg) hm (sE (H0 := Hb) e X sc fnb Wx v g.gd he).1 (okName_ok hn).1 (star_of hs))) fun D σ H ⟨W, E, S, st, sr, fr, h⟩ => ?_
  replace h : RespS T Wb Hb Wx D W (((ev C e E S).bind fun x S => Res.ok [x] S).bindS E fun ds S => match raiseD (C.exn c) c ds with
    | some x => .ok (.exc x, E) S
    | none => .bad) := h
  rw [bind_bindS] at h
  refine thenS (R := RD T) st sr fr h fun x H1 d S1 W1 st1 _ sr1 fr1 r1 h1 => ?_
  refine Qx.supW fun dx hdx => ?_
  replace h1 : RespS T Wb Hb Wx D W1 (match raiseD (C.exn c) c [d] with
    | some x => .ok (.exc x, E) S1
    | none => .bad) := h1
  rw [hex] at h1
  obtain ⟨n1, n2⟩ := sr1.laid (o := .xd [(T.nm f, x)]) hdx
  exact (show RespS T Wb Hb Wx D W1 (.ok (.exc (.exc c [(f, d)]), E) S1) from h1) (W1.add dx (.xd [(T.nm f, x)])) _ σ (st1.trans n2) n2.le n1 (fr1.stp n2) (.ref (T.ad c)) (some dx)
    ⟨rfl, .inr ⟨dx, [(T.nm f, x)], by simp, rfl, (show upd W1.G dx _ dx = _ from upd_same), .cons (r1.mono n2.le) .nil⟩⟩
theorem noX_get {E : En} {i : Nat} {s : Sl} (h : (noX E)[i]? = some (some s)) : E[i]? = some (some s) ∧ ∀ c fs, s ≠ .xv c fs := by
  unfold noX at h
  rw [List.getElem?_map] at h
  cases q : E[i]? with
  | none => rw [q] at h; cases h
  | some o =>
    rw [q] at h
    cases o with
    | none => cases h
    | some t => cases t <;> first | (cases h; exact ⟨rfl, fun _ _ z => by cases z⟩) | cases h
theorem FRel.noX {H0 : Hp} {W : Wd} {E : En} {σ : L2.St} {H : Hp} {a : Addr} {c : Value} {e : Option Addr} (h : FRel T H0 W E σ H) : FRel (T.sx a c e) H0 W (noX E) σ H := by
  refine ⟨by unfold Qv.noX; rw [List.length_map]; exact h.len, fun i s q => ?_, fun i j s t b e1 e2 o1 o2 q1 q2 => h.sep i j s t b (noX_get e1).1 (noX_get e2).1 o1 o2 q1 q2⟩
  obtain ⟨q, n⟩ := noX_get q
  have r := h.at_ i s q
  cases s with
  | v d => obtain ⟨v, e1, e2⟩ := r; exact ⟨v, e1, e2.sx⟩
  | ol xs => obtain ⟨b, vs, e1, e2, e3, e4⟩ := r; exact ⟨b, vs, e1, e2, e3.sx, e4⟩
  | os xs => exact r
  | xv c fs => exact absurd rfl (n c fs)
theorem FRel.setX {H0 : Hp} {W : Wd} {E : En} {σ : L2.St} {H : Hp} {c : Nat} {fs : List (Nat × Qv.D)} (h : FRel T H0 W E σ H) (i : Nat) (r : XRep T W (.exc c fs) T.xc T.xd) : FRel T H0 W (E.set i (some (.xv c fs))) (σ.set i (some (.ref T.xa))) H := by
  have ne : ∀ {j : Nat} {s : Sl}, (E.set i (some (.xv c fs)))[j]? = some (some s) → s.own = true → i ≠ j := fun {j s} e o z => by
    subst z
    have hi : i < E.length := by have := (List.getElem?_eq_some_iff.mp e).1; simpa using this
    rw [List.getElem?_set_self hi] at e
    cases e; cases o
  refine ⟨by simp [h.len], fun j s e => ?_, fun j k s t a e1 e2 o1 o2 q1 q2 => ?_⟩
  · rcases set_at e with ⟨rfl, h2, h3⟩ | ⟨h1, h2⟩
    · cases h2
      rw [List.getElem?_set_self (by rw [← h.len]; exact h3)]
      exact ⟨rfl, r⟩
    · rw [List.getElem?_set_ne h1]
      exact h.at_ j s h2
  · have n1 := ne e1 o1
    have n2 := ne e2 o2
    rw [List.getElem?_set_ne n1] at e1 q1
    rw [List.getElem?_set_ne n2] at e2 q2
    exact h.sep j k s t a e1 e2 o1 o2 q1 q2
/-- the place within a try's body -/
theorem GS.tr (g : GS T Q N C k X sc fnb Wx) (hsu : Q.su = false) {W : WX} {pn : List (Addr × Obj)} {xe : Value → Shared → Prop} (tk : Takes (X.tr pn xe) W) (po : PassesOwn (model X.prog X.w) X.A X.env xe) : GS T Q N C k (X.tr pn xe) sc fnb W where
  gd := ⟨g.gd.st, g.gd.N, g.gd.nd, g.gd.sc, g.gd.fnb, g.gd.calm, g.gd.room, g.gd.un, tk, fun z => by rw [hsu] at z; cases z⟩
  kind := g.kind
  pso := po
  stk := g.stk
  frm := g.frm
/-- the place within a suite -/
theorem GS.suite (g : GS T Q N C k X sc fnb Wx) {a : Addr} {oe : Obj} {cls : Value} {d : Option Addr} {pn : List (Addr × Obj)} (hz : Zc cls d oe) (hf : ∃ vs, oe.data = .fields vs) : GS (T.sx a cls d) Q.hot N C.hot k (X.suite a ((a, oe) :: pn)) sc fnb WF where
  gd := ⟨g.gd.st.hot, g.gd.N, g.gd.nd, g.gd.sc, g.gd.fnb, (fun z => by cases z), (fun z => by cases z), g.gd.un, takes_none, fun _ => ⟨X, oe, pn, rfl, hz, hf⟩⟩
  kind := g.kind
  pso := PassesOwn.never
  stk := g.stk
  frm := g.frm
/-- a suite's end, seen from the def -/
theorem su_end {a : Addr} {cls : Value} {d : Option Addr} {D D' : Ends} {W : Wd} {r : Res (Fl × En)} {f : En → En} {fσ : L2.St → L2.St} (hf : ∀ {W E σ H}, FRel T Hb W E σ H → FRel T Hb W (f E) (fσ σ) H)
    (hn : ∀ σ H, D.nx (fσ σ) H → D'.nx σ H) (hr : ∀ v H, D.rt v H → D'.rt v H) (hb : ∀ σ H, D.bk (fσ σ) H → D'.bk σ H) (hc : ∀ σ H, D.ct (fσ σ) H → D'.ct σ H)
    (h : RespS T Wb Hb Wx D W (r.bind (suEnd f))) : RespS (T.sx a cls d) Wb Hb WF D' W r := by
  cases r with
  | ok p S =>
    obtain ⟨fl, E⟩ := p
    intro W2 H2 σ2 s1 s2 s3 s4
    have fr : FRel T Hb W2 (f (Qv.noX E)) (fσ σ2) H2 := hf (FRel.noX (T := T.sx a cls d) (a := T.xa) (c := T.xc) (e := T.xd) s4)
    cases fl with
    | nx => exact hn _ _ ((show RespS T Wb Hb Wx D W (.ok (.nx, f (Qv.noX E)) S) from h) W2 H2 _ s1 s2 s3.ux fr)
    | brk => exact hb _ _ ((show RespS T Wb Hb Wx D W (.ok (.brk, f (Qv.noX E)) S) from h) W2 H2 _ s1 s2 s3.ux fr)
    | cnt => exact hc _ _ ((show RespS T Wb Hb Wx D W (.ok (.cnt, f (Qv.noX E)) S) from h) W2 H2 _ s1 s2 s3.ux fr)
    | ret dd => exact fun v rv => hr _ _ ((show RespS T Wb Hb Wx D W (.ok (.ret dd, f (Qv.noX E)) S) from h) W2 H2 _ s1 s2 s3.ux fr v rv.ux)
    | exc x => exact (show RespS T Wb Hb Wx D W .bad from h).nobad
  | ex x S => exact h.elim
  | bad => exact h.elim
theorem p_tryA (g : GS T Q N C k X sc fnb Wx) (hsu : Q.su = false) {b su : ISs} {n i : Nat} {bd sd : List Stmt} {s0 : Stmt} {y : Str} {np pos' p : Pos} (hy : N[i]? = some y) (hl : sc.names.lookup y = some .local) (hh : Q.hnd n = true) (hg : glB sc (Q.nm n) = true) (hn : okName (Q.nm n) = true)
    (hb : ∀ {X : Cx} {W : WX}, GS T Q N C k X sc fnb W → PSs X bd (TBe T Wb Hb W C b)) (hs : ∀ {T : Tb} {X : Cx}, GS T Q.hot N C.hot k X sc fnb WF → PSs X (s0 :: sd) (TBe T Wb Hb WF C.hot su)) :
    PS X (.Try bd [.ExceptHandler (some (.Name (Q.nm n) np)) (some y) (s0 :: sd) pos'] [] [] p) (TSe T Wb Hb Wx C (.tryA b n i su)) := by
  obtain ⟨u, hu⟩ := g.gd.st.hnd n hh
  have nm : Names X (Q.nm n) u := by
    refine ⟨glB_ok g.gd hg, (okName_ok hn).1, ?_⟩
    rw [g.gd.st.nm] at hu
    rcases hu with h | ⟨h0, h1, h2⟩
    · exact .inl h
    · exact .inr ⟨h0, h2, h1⟩
  refine PS.imp (ps_try_as (i := i) g.stk g.frm g.gd.nd (by rw [g.gd.N]; exact hy) (by show X.env.scope.names.lookup y = _; rw [g.gd.sc]; exact hl) nm g.gd.tk (tb := fun W => TBe T Wb Hb W C b) (ts := fun a cls d => TBe (T.sx a cls d) Wb Hb WF C.hot su)
    (fun W pn xe tk po => hb (g.tr hsu tk po)) (fun a oe cls d pn hz hf => hs (g.suite hz hf))) fun D σ H ⟨W, E, S, st, sr, fr, h⟩ => ⟨W, E, S, st, sr, fr, ?_⟩
  replace h : RespS T Wb Hb Wx D W ((exB C b E S).bind fun r S1 => match r with
    | (.exc (.exc c fs), E1) => (match C.sub c n with
      | some true => (exB C.hot su ((Qv.noX E1).set i (some (.xv c fs))) S1).bind (suEnd fun E => E.set i none)
      | some false => .ok (.exc (.exc c fs), E1) S1
      | none => .bad)
    | (.exc _, _) => .bad
    | r => .ok r S1) := h
  generalize exB C b E S = r at h
  cases r with
  | ok r S1 =>
    obtain ⟨fl, E1⟩ := r
    intro W1 H1 σ1 s1 s2 s3 s4
    cases fl with
    | exc x =>
      intro cls d xr
      cases x with
      | exc c fs =>
        replace h : RespS T Wb Hb Wx D W (match C.sub c n with
          | some true => (exB C.hot su ((Qv.noX E1).set i (some (.xv c fs))) S1).bind (suEnd fun E => E.set i none)
          | some false => .ok (.exc (.exc c fs), E1) S1
          | none => .bad) := h
        cases q : C.sub c n with
        | none => rw [q] at h; exact h.nobad
        | some t =>
          obtain ⟨_, u', v', h1, _, _, h3, _⟩ := g.gd.st.sub c n t q
          obtain rfl := hu.uni h1
          refine ⟨t, by rw [xr.1]; exact h3, fun et a ha => ?_, fun ef => ?_⟩
          · subst et
            rw [q] at h
            have fx : FRel (T.sx a cls d) Hb W1 ((Qv.noX E1).set i (some (.xv c fs))) (σ1.set i (some (.ref a))) H1 := FRel.setX (T := T.sx a cls d) s4.noX i xr.sx
            exact ⟨W1, _, S1, s1, s3.sx, fx, su_end (fun fr => fr.clear i) (fun _ _ z => z) (fun _ _ z => z) (fun _ _ z => z) (fun _ _ z => z) (h.mono s2)⟩
          · subst ef
            rw [q] at h
            exact (show RespS T Wb Hb Wx D W (.ok (.exc (.exc c fs), E1) S1) from h) W1 H1 σ1 s1 s2 s3 s4 cls d xr
      | _ => exact xr.elim
    | nx => exact (show RespS T Wb Hb Wx D W (.ok (.nx, E1) S1) from h) W1 H1 σ1 s1 s2 s3 s4
    | brk => exact (show RespS T Wb Hb Wx D W (.ok (.brk, E1) S1) from h) W1 H1 σ1 s1 s2 s3 s4
    | cnt => exact (show RespS T Wb Hb Wx D W (.ok (.cnt, E1) S1) from h) W1 H1 σ1 s1 s2 s3 s4
    | ret dd => exact (show RespS T Wb Hb Wx D W (.ok (.ret dd, E1) S1) from h) W1 H1 σ1 s1 s2 s3 s4
  | ex x S => exact h.elim
  | bad => exact h.elim
/-- the clauses of a try -/
inductive HsOk (T : Tb) (Q : Ck) (N : List Str) (C : Calls) (k : Nat) (sc : Scope) (fnb : Str → Bool) (Wb : Wd) (Hb : Hp) : Hs → List ExceptHandler → Prop
  | nil : HsOk T Q N C k sc fnb Wb Hb .nil []
  | cons {n : Nat} {su : ISs} {s0 : Stmt} {sd : List Stmt} {r : Hs} {hr : List ExceptHandler} {np pos' : Pos} (hh : Q.hnd n = true) (hg : glB sc (Q.nm n) = true) (hn : okName (Q.nm n) = true)
      (hs : ∀ {T : Tb} {X : Cx}, GS T Q.hot N C.hot k X sc fnb WF → PSs X (s0 :: sd) (TBe T Wb Hb WF C.hot su)) (t : HsOk T Q N C k sc fnb Wb Hb r hr) :
      HsOk T Q N C k sc fnb Wb Hb (.cons n su r) (.ExceptHandler (some (.Name (Q.nm n) np)) none (s0 :: sd) pos' :: hr)
theorem HsOk.wish {hs : Hs} {hds : List ExceptHandler} (h : HsOk T Q N C k sc fnb Wb Hb hs hds) (g : GS T Q N C k X sc fnb Wx) : ∃ l, HdsOk X hds l ∧ ∀ {D : Ends} {W W1 : Wd} {c : Nat} {fs : List (Nat × Qv.D)} {E1 : En} {S1 : Sh} {H1 : Hp} {σ1 : L2.St} {cls : Value} {d : Option Addr},
    RespS T Wb Hb Wx D W (exH C c fs hs E1 S1) → Stp Wb Hb W1 H1 → W.Le W1 → SRel T W1 S1 H1 → FRel T Hb W1 E1 σ1 H1 → XRep T W1 (.exc c fs) cls d → wMany X.K Wx D l cls d σ1 H1 := by
  induction h with
  | nil => exact ⟨[], .nil, fun {D W W1 c fs E1 S1 H1 σ1 cls d} h s1 s2 s3 s4 xr => (show RespS T Wb Hb Wx D W (.ok (.exc (.exc c fs), E1) S1) from h) W1 H1 σ1 s1 s2 s3 s4 cls d xr⟩
  | @cons n su s0 sd r hr np pos' hh hg hn hs t ih =>
    obtain ⟨l, hl, ih⟩ := ih
    obtain ⟨u, hu⟩ := g.gd.st.hnd n hh
    have nm : Names X (Q.nm n) u := by
      refine ⟨glB_ok g.gd hg, (okName_ok hn).1, ?_⟩
      rw [g.gd.st.nm] at hu
      rcases hu with h | ⟨h0, h1, h2⟩
      · exact .inl h
      · exact .inr ⟨h0, h2, h1⟩
    refine ⟨(u, fun a cls d => TBe (T.sx a cls d) Wb Hb WF C.hot su) :: l, .cons nm (fun a oe cls d pn hz hf => hs (g.suite hz hf)) hl, fun {D W W1 c fs E1 S1 H1 σ1 cls d} h s1 s2 s3 s4 xr => ?_⟩
    replace h : RespS T Wb Hb Wx D W (match C.sub c n with
      | some true => (exB C.hot su (Qv.noX E1) S1).bind (suEnd id)
      | some false => exH C c fs r E1 S1
      | none => .bad) := h
    cases q : C.sub c n with
    | none => rw [q] at h; exact h.nobad
    | some t =>
      obtain ⟨_, u', v', h1, _, _, h3, _⟩ := g.gd.st.sub c n t q
      obtain rfl := hu.uni h1
      refine ⟨t, by rw [xr.1]; exact h3, fun et a ha => ?_, fun ef => ?_⟩
      · subst et
        rw [q] at h
        have fx : FRel (T.sx a cls d) Hb W1 (Qv.noX E1) σ1 H1 := s4.noX
        exact ⟨W1, _, S1, s1, s3.sx, fx, su_end (f := id) (fσ := id) (fun fr => fr) (fun _ _ z => z) (fun _ _ z => z) (fun _ _ z => z) (fun _ _ z => z) (h.mono s2)⟩
      · subst ef
        rw [q] at h
        exact ih h s1 s2 s3 s4 xr
theorem p_tryM (g : GS T Q N C k X sc fnb Wx) (hsu : Q.su = false) {b : ISs} {hs : Hs} {bd : List Stmt} {h0 : ExceptHandler} {hds : List ExceptHandler} {p : Pos}
    (hb : ∀ {X : Cx} {W : WX}, GS T Q N C k X sc fnb W → PSs X bd (TBe T Wb Hb W C b)) (hh : HsOk T Q N C k sc fnb Wb Hb hs (h0 :: hds)) : PS X (.Try bd (h0 :: hds) [] [] p) (TSe T Wb Hb Wx C (.tryM b hs)) := by
  obtain ⟨l, hl, wish⟩ := hh.wish g
  refine PS.imp (ps_try_many g.stk g.frm g.gd.tk (tb := fun W => TBe T Wb Hb W C b) (fun W pn xe tk po => hb (g.tr hsu tk po)) hl) fun D σ H ⟨W, E, S, st, sr, fr, h⟩ => ⟨W, E, S, st, sr, fr, ?_⟩
  replace h : RespS T Wb Hb Wx D W ((exB C b E S).bind fun r S1 => match r with
    | (.exc (.exc c fs), E1) => exH C c fs hs E1 S1
    | (.exc _, _) => .bad
    | r => .ok r S1) := h
  generalize exB C b E S = r at h
  cases r with
  | ok r S1 =>
    obtain ⟨fl, E1⟩ := r
    intro W1 H1 σ1 s1 s2 s3 s4
    cases fl with
    | exc x =>
      intro cls d xr
      cases x with
      | exc c fs => exact wish (show RespS T Wb Hb Wx D W (exH C c fs hs E1 S1) from h) s1 s2 s3 s4 xr
      | _ => exact xr.elim
    | nx => exact (show RespS T Wb Hb Wx D W (.ok (.nx, E1) S1) from h) W1 H1 σ1 s1 s2 s3 s4
    | brk => exact (show RespS T Wb Hb Wx D W (.ok (.brk, E1) S1) from h) W1 H1 σ1 s1 s2 s3 s4
    | cnt => exact (show RespS T Wb Hb Wx D W (.ok (.cnt, E1) S1) from h) W1 H1 σ1 s1 s2 s3 s4
    | ret dd => exact (show RespS T Wb Hb Wx D W (.ok (.ret dd, E1) S1) from h) W1 H1 σ1 s1 s2 s3 s4
  | ex x S => exact h.elim
  | bad => exact h.elim
end
end Qv
set_option Elab.async false
set_option linter.all false
set_option maxRecDepth 100000
set_option maxHeartbeats 8000000
/-! The soundness of the checker: statements, defs. -/
namespace Qv
open PySem PySem.Spec PyProof.Rows L2

section
variable (N : List Str) (sc : Scope) (fnb : Str → Bool)
mutual
def okS : Ck → IS → Stmt → Bool
  | Q, .asg tg e, s => (match s with
    | .Assign [t] v _ => (tgFlat tg || !Q.su) && okTg N sc fnb tg t && okE Q N sc e v && swT sc t v && !swB sc t v
    | _ => false)
  | Q, .par is es, s => (match s with
    | .Assign [.Tuple ts _ _] (.Tuple vs _ _) _ => !Q.su && okNames N sc fnb is ts && okEs Q N sc es vs && okPar sc is ts vs
    | _ => false)
  | Q, .own i le, s => (match s with
    | .Assign [.Name x _] v _ => decide (N[i]? = some x) && locB sc fnb x && okL Q N sc le v
    | _ => false)
  | Q, .owns i se, s => (match s with
    | .Assign [.Name x _] v _ => decide (N[i]? = some x) && locB sc fnb x && okSE Q N sc se v
    | _ => false)
  | Q, .aug i o e, s => (match s with
    | .AugAssign (.Name x _) op v _ => decide (op = opOf o) && decide (N[i]? = some x) && locB sc fnb x && okE Q N sc e v
    | _ => false)
  | Q, .app i e, s => (match s with
    | .Expr (.Call (.Attribute (.Name x _) m ap) [v] [] cp) _ => decide (m = Str.ofString "append") && decide (N[i]? = some x) && visB sc x && okName x && (ap.endLine == cp.line) && okE Q N sc e v
    | _ => false)
  | Q, .ext i e, s => (match s with
    | .Expr (.Call (.Attribute (.Name x _) m ap) [v] [] cp) _ => decide (m = Str.ofString "extend") && decide (N[i]? = some x) && visB sc x && okName x && (ap.endLine == cp.line) && okE Q N sc e v
    | _ => false)
  | Q, .add i e, s => (match s with
    | .Expr (.Call (.Attribute (.Name x _) m ap) [v] [] cp) _ => decide (m = Str.ofString "add") && decide (N[i]? = some x) && visB sc x && okName x && (ap.endLine == cp.line) && okE Q N sc e v
    | _ => false)
  | Q, .sti i ix e, s => (match s with
    | .Assign [.Subscript (.Name x _) y _] v _ => decide (N[i]? = some x) && visB sc x && okName x && okE Q N sc ix y && okE Q N sc e v
    | _ => false)
  | Q, .sts o ix e, s => (match s with
    | .Assign [.Subscript x y _] v _ => okE Q N sc o x && okE Q N sc ix y && okE Q N sc e v
    | _ => false)
  | Q, .sat o f e, s => (match s with
    | .Assign [.Attribute x n _] v _ => decide (n = Q.nm f) && Q.fld f && okE Q N sc o x && okE Q N sc e v
    | _ => false)
  | Q, .expr e, s => (match s with
    | .Expr v _ => !isComp v && okE Q N sc e v
    | _ => false)
  | Q, .ret e, s => (match s with
    | .Return (some v) _ => okE Q N sc e v
    | _ => false)
  | Q, .retn, s => (match s with
    | .Return none _ => true
    | _ => false)
  | Q, .pas, s => (match s with
    | .Pass _ => true
    | _ => false)
  | Q, .brk, s => (match s with
    | .Break _ => true
    | _ => false)
  | Q, .cnt, s => (match s with
    | .Continue _ => true
    | _ => false)
  | Q, .ite t a b, s => (match s with
    | .If v x y _ => okE Q N sc t v && okB Q a x && okB Q b y
    | _ => false)
  | Q, .for tg it b, s => (match s with
    | .For t v bd [] _ => !Q.su && okTg N sc fnb tg t && okI Q N sc it t v && okB Q b bd
    | _ => false)
  | Q, .whl t b, s => (match s with
    | .While v bd [] _ => okE Q N sc t v && okB Q b bd
    | _ => false)
  | Q, .nvr, _ => true
  | Q, .raise c es, s => (match s with
    | .Raise (some (.Call (.Name x _) [] [] _)) none _ => !Q.su && Q.exc c && decide (x = Q.nm c) && glB sc x && okName x && (match es with
      | .nil => true
      | _ => false)
    | .Raise (some (.Call (.Name x _) [v] [] _)) none _ => !Q.su && Q.exf c && decide (x = Q.nm c) && glB sc x && okName x && (match es with
      | .cons e .nil => nst v && okE Q N sc e v
      | _ => false)
    | _ => false)
  | Q, .tryA b n i su, s => (match s with
    | .Try bd [.ExceptHandler (some (.Name x _)) (some y) (s0 :: sd) _] [] [] _ => !Q.su && Q.hnd n && decide (x = Q.nm n) && glB sc x && okName x && decide (N[i]? = some y) && decide (sc.names.lookup y = some .local) && okB Q b bd && okB Q.hot su (s0 :: sd)
    | _ => false)
  | Q, .tryM b hs, s => (match s with
    | .Try bd (h0 :: hds) [] [] _ => !Q.su && okB Q b bd && okH Q hs (h0 :: hds)
    | _ => false)
def okH : Ck → Hs → List ExceptHandler → Bool
  | Q, .nil, l => (match l with
    | [] => true
    | _ => false)
  | Q, .cons n su r, l => (match l with
    | .ExceptHandler (some (.Name x _)) none (s0 :: sd) _ :: hr => Q.hnd n && decide (x = Q.nm n) && glB sc x && okName x && okB Q.hot su (s0 :: sd) && okH Q r hr
    | _ => false)
def okB : Ck → ISs → List Stmt → Bool
  | Q, .nil, s => (match s with
    | [] => true
    | _ => false)
  | Q, .cons s b, ss => (match ss with
    | x :: r => okS Q s x && okB Q b r
    | _ => false)
  | Q, .frz _ b, ss => okB Q b ss
end
end
section
variable {T : Tb} {Q : Ck} {N : List Str} {C : Calls} {k : Nat} {X : Cx} {sc : Scope} {fnb : Str → Bool} {Wx : WX} {Wb : Wd} {Hb : Hp}
theorem b_nil : PSs X [] (TBe T Wb Hb Wx C .nil) := PSs.imp pss_nil fun D σ H ⟨W, E, S, st, sr, fr, h⟩ => (show RespS T Wb Hb Wx D W (.ok (.nx, E) S) from h).at st sr fr
theorem b_cons {s : IS} {b : ISs} {x : Stmt} {r : List Stmt} (hs : PS X x (TSe T Wb Hb Wx C s)) (hb : PSs X r (TBe T Wb Hb Wx C b)) : PSs X (x :: r) (TBe T Wb Hb Wx C (.cons s b)) :=
  PSs.imp (pss_cons hs hb) fun D σ H ⟨W, E, S, st, sr, fr, h⟩ => by
    refine ⟨W, E, S, st, sr, fr, ?_⟩
    refine RespS.bind (show RespS T Wb Hb Wx D W ((exS C s E S).bind fun r S => match r with
      | (.nx, E1) => exB C b E1 S
      | r => .ok r S) from h) fun p S' W' H' σ' _ h2 s1 s2 s3 s4 => ?_
    obtain ⟨fl, E'⟩ := p
    cases fl with
    | nx => exact ⟨W', E', S', s1, s3, s4, h2⟩
    | brk => exact h2.at s1 s3 s4
    | cnt => exact h2.at s1 s3 s4
    | ret d => exact h2.at s1 s3 s4
    | exc x => exact h2.at s1 s3 s4
theorem Stp.knowB {W : Wd} {H : Hp} {a : Addr} {o : HO} (st : Stp Wb Hb W H) (e3 : W.G a = none) (e5 : Hb a = none) : Stp Wb Hb (W.add a o) H := by
  have le := Wd.le_add (o := o) e3
  refine ⟨st.le.trans le, st.keep, fun b u q => ?_, st.newM, st.there⟩
  by_cases hb : b = a
  · subst hb; exact .inr (.inl e5)
  · have q' : upd W.G a o b = some u := q
    rw [upd_ne hb] at q'
    exact st.newG b u q'
theorem b_frz {i : Nat} {b : ISs} {r : List Stmt} (hb : PSs X r (TBe T Wb Hb Wx C b)) : PSs X r (TBe T Wb Hb Wx C (.frz i b)) :=
  PSs.imp hb fun D σ H ⟨W, E, S, st, sr, fr, h⟩ => by
    replace h : RespS T Wb Hb Wx D W (match E[i]? with
      | some (some (.ol xs)) => exB C b (E.set i (some (.v (.lst xs)))) S
      | some (some (.os xs)) => exB C b (E.set i (some (.v (.set xs)))) S
      | _ => exB C b E S) := h
    split at h
    · rename_i xs eE
      obtain ⟨a, vs, e1, e2, e3, e4, e5, e6⟩ := fr.at_ i _ eE
      have le := Wd.le_add (o := HO.lst vs) e4
      exact ⟨W.add a (.lst vs), _, S, st.knowB e4 e6, sr.freeze e2 e4 e5, fr.known eE rfl e1 e4 (.lst (show upd W.G a _ a = _ from upd_same) (e3.mono le)), h.mono le⟩
    · rename_i xs eE
      obtain ⟨a, SS, e1, e2, e3, e4, e5, e6, e7⟩ := fr.at_ i _ eE
      have le := Wd.le_add (o := SetO T.w a SS xs.length) e5
      exact ⟨W.add a (SetO T.w a SS xs.length), _, S, st.knowB e5 e7, sr.freeze e2 e5 e6, fr.known eE rfl e1 e5 (.set (show upd W.G a _ a = _ from upd_same) e3 e4), h.mono le⟩
    · exact ⟨W, E, S, st, sr, fr, h⟩
end
section
variable {T : Tb} {Q : Ck} {N : List Str} {C : Calls} {k : Nat} {X : Cx} {sc : Scope} {fnb : Str → Bool} {Wx : WX} {Wb : Wd} {Hb : Hp}
mutual
theorem sS : ∀ (s : IS) {T : Tb} {Q : Ck} {C : Calls} {X : Cx} {Wx : WX}, GS T Q N C k X sc fnb Wx → ∀ (x : Stmt), okS N sc fnb Q s x = true → PS X x (TSe T Wb Hb Wx C s)
  | .asg tg e, T, Q, C, X, Wx, g, x, h => by
    unfold okS at h
    split at h
    · simp only [Bool.and_eq_true, Bool.not_eq_true'] at h
      exact p_asg g h.1.1.1.1 h.1.1.1.2 h.1.1.2 h.1.2 h.2
    · cases h
  | .par is es, T, Q, C, X, Wx, g, x, h => by
    unfold okS at h
    split at h
    · simp only [Bool.and_eq_true] at h
      exact p_par g (by simpa using h.1.1.1) h.1.1.2 h.1.2 h.2
    · cases h
  | .own i le, T, Q, C, X, Wx, g, x, h => by
    unfold okS at h
    split at h
    · simp only [Bool.and_eq_true, decide_eq_true_eq] at h
      exact p_own g h.1.1 h.1.2 h.2
    · cases h
  | .owns i se, T, Q, C, X, Wx, g, x, h => by
    unfold okS at h
    split at h
    · simp only [Bool.and_eq_true, decide_eq_true_eq] at h
      exact p_owns g h.1.1 h.1.2 h.2
    · cases h
  | .aug i o e, T, Q, C, X, Wx, g, x, h => by
    unfold okS at h
    split at h
    · simp only [Bool.and_eq_true, decide_eq_true_eq] at h
      obtain ⟨⟨⟨rfl, h2⟩, h3⟩, h4⟩ := h
      exact p_aug g h2 h3 h4
    · cases h
  | .app i e, T, Q, C, X, Wx, g, x, h => by
    unfold okS at h
    split at h
    · simp only [Bool.and_eq_true, decide_eq_true_eq] at h
      obtain ⟨⟨⟨⟨⟨rfl, h2⟩, h3⟩, h4⟩, h5⟩, h6⟩ := h
      exact p_app g h2 h3 h4 h5 h6
    · cases h
  | .ext i e, T, Q, C, X, Wx, g, x, h => by
    unfold okS at h
    split at h
    · simp only [Bool.and_eq_true, decide_eq_true_eq] at h
      obtain ⟨⟨⟨⟨⟨rfl, h2⟩, h3⟩, h4⟩, h5⟩, h6⟩ := h
      exact p_ext g h2 h3 h4 h5 h6
    · cases h
  | .add i e, T, Q, C, X, Wx, g, x, h => by
    unfold okS at h
    split at h
    · simp only [Bool.and_eq_true, decide_eq_true_eq] at h
      obtain ⟨⟨⟨⟨⟨rfl, h2⟩, h3⟩, h4⟩, h5⟩, h6⟩ := h
      exact p_add g h2 h3 h4 h5 h6
    · cases h
  | .sti i ix e, T, Q, C, X, Wx, g, x, h => by
    unfold okS at h
    split at h
    · simp only [Bool.and_eq_true, decide_eq_true_eq] at h
      obtain ⟨⟨⟨⟨h2, h3⟩, h4⟩, h5⟩, h6⟩ := h
      exact p_sti g h2 h3 h4 h5 h6
    · cases h
  | .sts o ix e, T, Q, C, X, Wx, g, x, h => by
    unfold okS at h
    split at h
    · simp only [Bool.and_eq_true] at h
      exact p_sts g h.1.1 h.1.2 h.2
    · cases h
  | .sat o f e, T, Q, C, X, Wx, g, x, h => by
    unfold okS at h
    split at h
    · simp only [Bool.and_eq_true, decide_eq_true_eq] at h
      obtain ⟨⟨⟨rfl, h2⟩, h3⟩, h4⟩ := h
      exact p_sat g h3 h2 h4
    · cases h
  | .expr e, T, Q, C, X, Wx, g, x, h => by
    unfold okS at h
    split at h
    · simp only [Bool.and_eq_true, Bool.not_eq_true'] at h
      exact p_expr g h.1 h.2
    · cases h
  | .ret e, T, Q, C, X, Wx, g, x, h => by
    unfold okS at h
    split at h
    · exact p_ret g h
    · cases h
  | .retn, T, Q, C, X, Wx, g, x, h => by
    unfold okS at h
    split at h
    · exact p_retn
    · cases h
  | .pas, T, Q, C, X, Wx, g, x, h => by
    unfold okS at h
    split at h
    · exact p_pas
    · cases h
  | .brk, T, Q, C, X, Wx, g, x, h => by
    unfold okS at h
    split at h
    · exact p_brk
    · cases h
  | .cnt, T, Q, C, X, Wx, g, x, h => by
    unfold okS at h
    split at h
    · exact p_cnt
    · cases h
  | .ite t a b, T, Q, C, X, Wx, g, x, h => by
    unfold okS at h
    split at h
    · simp only [Bool.and_eq_true] at h
      exact p_ite g h.1.1 (sB a g _ h.1.2) (sB b g _ h.2)
    · cases h
  | .for tg it b, T, Q, C, X, Wx, g, x, h => by
    unfold okS at h
    split at h
    · simp only [Bool.and_eq_true] at h
      exact p_for g (by simpa using h.1.1.1) h.1.1.2 h.1.2 (sB b g _ h.2)
    · cases h
  | .whl t b, T, Q, C, X, Wx, g, x, h => by
    unfold okS at h
    split at h
    · simp only [Bool.and_eq_true] at h
      exact p_whl g h.1 (sB b g _ h.2)
    · cases h
  | .nvr, T, Q, C, X, Wx, g, x, h => ⟨fun pins s σ H D I ⟨W, E, S, st, sr, fr, h⟩ => False.elim h⟩
  | .raise c es, T, Q, C, X, Wx, g, x, h => by
    unfold okS at h
    split at h
    · simp only [Bool.and_eq_true, decide_eq_true_eq, Bool.not_eq_true'] at h
      obtain ⟨⟨⟨⟨⟨h1, h2⟩, rfl⟩, h4⟩, h5⟩, h6⟩ := h
      split at h6
      · exact p_raise g h1 h2 h4 h5
      · cases h6
    · simp only [Bool.and_eq_true, decide_eq_true_eq, Bool.not_eq_true'] at h
      obtain ⟨⟨⟨⟨⟨h1, h2⟩, rfl⟩, h4⟩, h5⟩, h6⟩ := h
      split at h6
      · simp only [Bool.and_eq_true] at h6
        exact p_raise1 g h1 h2 h4 h5 h6.1 h6.2
      · cases h6
    · cases h
  | .tryA b n i su, T, Q, C, X, Wx, g, x, h => by
    unfold okS at h
    split at h
    · simp only [Bool.and_eq_true, decide_eq_true_eq, Bool.not_eq_true'] at h
      obtain ⟨⟨⟨⟨⟨⟨⟨⟨h1, h2⟩, rfl⟩, h4⟩, h5⟩, h6⟩, h7⟩, h8⟩, h9⟩ := h
      exact p_tryA g h1 h6 h7 h2 h4 h5 (fun g => sB b g _ h8) (fun g => sB su g _ h9)
    · cases h
  | .tryM b hs, T, Q, C, X, Wx, g, x, h => by
    unfold okS at h
    split at h
    · simp only [Bool.and_eq_true, decide_eq_true_eq, Bool.not_eq_true'] at h
      exact p_tryM g h.1.1 (fun g => sB b g _ h.1.2) (sH hs _ h.2)
    · cases h
theorem sH : ∀ (hs : Hs) {T : Tb} {Q : Ck} {C : Calls}, ∀ (l : List ExceptHandler), okH N sc fnb Q hs l = true → HsOk T Q N C k sc fnb Wb Hb hs l
  | .nil, _, _, _, l, h => by
    unfold okH at h
    split at h
    · exact .nil
    · cases h
  | .cons n su r, _, _, _, l, h => by
    unfold okH at h
    split at h
    · simp only [Bool.and_eq_true, decide_eq_true_eq] at h
      obtain ⟨⟨⟨⟨⟨h1, rfl⟩, h3⟩, h4⟩, h5⟩, h6⟩ := h
      exact .cons h1 h3 h4 (fun g => sB su g _ h5) (sH r _ h6)
    · cases h
theorem sB : ∀ (b : ISs) {T : Tb} {Q : Ck} {C : Calls} {X : Cx} {Wx : WX}, GS T Q N C k X sc fnb Wx → ∀ (x : List Stmt), okB N sc fnb Q b x = true → PSs X x (TBe T Wb Hb Wx C b)
  | .nil, T, Q, C, X, Wx, g, x, h => by
    unfold okB at h
    split at h
    · exact b_nil
    · cases h
  | .cons s b, T, Q, C, X, Wx, g, x, h => by
    unfold okB at h
    split at h
    · simp only [Bool.and_eq_true] at h
      exact b_cons (sS s g _ h.1) (sB b g _ h.2)
    · cases h
  | .frz i b, T, Q, C, X, Wx, g, x, h => by
    unfold okB at h
    exact b_frz (sB b g x h)
end
end

/-! ### defs -/
def scopeB (N ps : List Str) (sc : Scope) : Bool :=
  (match sc.kind with
    | .function => true
    | _ => false) && !sc.isCoroutine && !sc.isGenerator && decide N.Nodup && decide (N.take ps.length = ps) && ps.all (fun x => match sc.names.lookup x with
    | some .local => true
    | some .cell => true
    | _ => false) && sc.names.all (fun y => match y.2 with
    | .free => false
    | _ => true)
theorem scopeB_ok {N ps : List Str} {sc : Scope} (h : scopeB N ps sc = true) : FnScope N ps sc := by
  unfold scopeB at h
  simp only [Bool.and_eq_true, Bool.not_eq_true', decide_eq_true_eq, List.all_eq_true] at h
  obtain ⟨⟨⟨⟨⟨⟨h1, h2⟩, h3⟩, h4⟩, h5⟩, h6⟩, h7⟩ := h
  refine ⟨?_, h2, h3, h4, h5, fun x hx => ?_, fun y hy e => ?_⟩
  · split at h1
    · assumption
    · cases h1
  · have := h6 x hx
    split at this
    · exact .inl ‹_›
    · exact .inr ‹_›
    · cases this
  · have := h7 y hy
    rw [e] at this
    cases this
/-- the slots of a def's start -/
theorem start_ok {T : Tb} {W : Wd} {H : Hp} {N : List Str} {n : Nat} : ∀ {ds : List D} {vs : List V}, Reps T W ds vs → n = N.length - vs.length → ds.length ≤ N.length → FRel T H W (ds.map (fun d => some (.v d)) ++ List.replicate n none) (L2.start N vs) H := by
  intro ds vs r hn hl
  have e := r.length
  subst hn
  unfold L2.start
  have low : ∀ {i : Nat} {s : Sl}, (ds.map (fun d => some (Sl.v d)) ++ List.replicate (N.length - vs.length) none)[i]? = some (some s) → ∃ d, ds[i]? = some d ∧ s = .v d := fun {i s} q => by
    by_cases hi : i < ds.length
    · rw [List.getElem?_append_left (by simpa using hi), List.getElem?_map] at q
      rw [List.getElem?_eq_getElem hi] at q ⊢
      simp at q
      exact ⟨_, rfl, q.symm⟩
    · rw [List.getElem?_append_right (by simpa using hi), List.getElem?_replicate] at q
      split at q <;> cases q
  refine ⟨by simp; omega, fun i s q => ?_, fun i j s t a e1 e2 o1 => ?_⟩
  · obtain ⟨d, h1, rfl⟩ := low q
    obtain ⟨v, h2, h3⟩ := r.get h1
    refine ⟨v, ?_, h3⟩
    have hi : i < vs.length := (List.getElem?_eq_some_iff.mp h2).1
    rw [List.getElem?_append_left (by simpa using hi), List.getElem?_map, h2]
    rfl
  · obtain ⟨d, _, rfl⟩ := low e1
    cases o1
/-- A DEF KEEPS ITS PROMISE: its body is the tree that the checker knows -/
theorem fn_sound {P : Program} {w : World} {K : PySem.W.Frag} {mg : Str → Option Value} {base : Heap} {T : Tb} {Q : Ck} {C : Calls} {k : Nat} {f : Addr} {x qual : Str} {params : Arguments} {body : List Stmt} {scope : Scope} {dvs : List V} {kws : List (Str × V)} {fd : FuncData} {N ps : List Str} {fn : Fn}
    (F : FunD K x qual params body scope dvs kws f fd) (st : SOk P w K mg base T Q C k) (hsu : Q.su = false) (hs : scopeB N ps scope = true) (hn : fn.n = N.length) (hp : fn.ps = ps.length) (ok : okB N scope (fun _ => true) Q fn.body body = true) :
    FnOk P w K mg base (L2.CX P w) (2 * k + 3) f fd ps (spD T (runF C fn)) := by
  have FS := scopeB_ok hs
  have hpl : ps.length ≤ N.length := by have := congrArg List.length FS.pre; rw [List.length_take] at this; omega
  refine F.ok FS (fun vs H Qr E ⟨W, S, ds, sr, r, h⟩ => ?_) fun cdv A outer s H vs Qr E hr ⟨W, S, ds, sr, r, h⟩ => ?_
  · unfold runF at h
    split at h
    · rename_i e
      rw [← r.length, e, hp]
    · exact h.elim
  · let X := cxOf (L2.CX P w) P w K mg base N qual scope f cdv A outer s H E
    have g : GS T Q N C k X scope (fun _ => true) (fun c d _ H => E c d H) := ⟨⟨st, rfl, FS.nd, rfl, fun _ _ => rfl, fun _ => rfl, fun _ => hr, hr.units, takes_of rfl rfl rfl rfl, fun z => by rw [hsu] at z; cases z⟩, FS.kind, passes_of rfl, rfl, rfl⟩
    refine ⟨_, sB (Wb := W) (Hb := H) fn.body g body ok, ?_⟩
    unfold runF at h
    split at h
    · rename_i e
      have hl : vs.length = ps.length := by rw [← r.length, e, hp]
      refine ⟨W, _, S, sr.stp, sr, start_ok (N := N) (n := fn.n - fn.ps) r (by rw [hn, hp, hl]) (by rw [r.length, hl]; exact hpl), ?_⟩
      generalize exB C fn.body (ds.map (fun d => some (.v d)) ++ List.replicate (fn.n - fn.ps) none) S = res at h
      cases res with
      | ok p S1 =>
        obtain ⟨fl, E1⟩ := p
        intro W' H' σ' s1 _ s3 _
        cases fl with
        | nx => exact (show Resp T (RD T) E W H Qr (.ok .non S1) from h) W' H' .non s1 s3 .non
        | ret d => exact fun v rv => (show Resp T (RD T) E W H Qr (.ok d S1) from h) W' H' v s1 s3 rv
        | exc x => exact fun c d rx => (show Resp T (RD T) E W H Qr (.ex x S1) from h) W' H' c d s1 s3 rx
        | brk => exact h.elim
        | cnt => exact h.elim
      | ex x S1 => exact h.elim
      | bad => exact h.elim
    · exact h.elim
end Qv
set_option Elab.async false
set_option linter.all false
set_option maxRecDepth 100000
set_option maxHeartbeats 8000000
/-! The whole program; the law. -/
namespace Qv
open PySem PySem.Spec PyProof.Rows L2

/-- what the checker and the head say of a program -/
structure PgOk (P : Program) (w : World) (K : PySem.W.Frag) (mg : Str → Option Value) (base : Heap) (T : Tb) (Q : Ck) (pg : Pg) (adr : Nat → Addr) (pss : Nat → List Str) : Prop where
  tw : T.w = w
  kl : ∀ a vs, T.kl a vs → ∀ H, SqL K H a vs
  nm : T.nm = Q.nm
  inj : ∀ i j, T.nm i = T.nm j → i = j
  bn : ∀ x, x ∈ bnames → mg x = none
  gl : ∀ n d, pg.gl n = some d → ∃ u v, (mg (T.nm n) = some u ∨ (mg (T.nm n) = none ∧ T.nm n ≠ "__name__" ∧ bootBuiltins (T.nm n) = some u)) ∧ RelV v u ∧ ∀ W, Rep T W d v
  fns : ∀ f fn, pg.fns[f]? = some fn → ∃ (x qual : Str) (params : Arguments) (body : List Stmt) (scope : Scope) (kws : List (Str × V)) (fd : FuncData) (N : List Str), FunD K x qual params body scope [] kws (adr f) fd ∧
    scopeB N (pss f) scope = true ∧ fn.n = N.length ∧ fn.ps = (pss f).length ∧ okB N scope (fun _ => true) Q fn.body body = true ∧ Binds K fd (pss f) []
  fnm : ∀ f x, Q.fn f = some x → mg x = some (.ref (adr f)) ∧ f < pg.fns.length
  cls : ∀ c, Q.cls c = true → T.cl c ∧ ∃ f, pg.ini c = some f ∧ mg (T.nm c) = some (.ref (T.ad c)) ∧ Mk K (T.ad c) (adr f) ∧ f < pg.fns.length
  at_ : ∀ c f, T.cl c → Q.fld f = true → Cls K (T.ad c) ∧ NoAttr K (T.ad c) (T.nm f)
  su : Q.su = false
  exc : ∀ c, Q.exc c = true → mg (T.nm c) = some (.ref (T.ad c)) ∧ XOk K (T.ad c)
  exf : ∀ c, Q.exf c = true → ∃ f, pg.exn c = some [f] ∧ mg (T.nm c) = some (.ref (T.ad c)) ∧ Qx.SupOk P K mg (T.ad c) (T.nm f)
  sub : ∀ c n b, pg.sub c n = some b → ExcC K (T.ad c) ∧ ∃ u v, Stands mg (T.nm n) u ∧ RelV v u ∧ (∀ u', RelV v u' → u' = u) ∧ PySem.W.exmOne K (.ref (T.ad c)) u = some b ∧ PySem.W.kitOne K (.ref (T.ad c)) u = some b
  hnd : ∀ n, Q.hnd n = true → ∃ u, Stands mg (T.nm n) u
  xat : ∀ c fl f, pg.exn c = some fl → f ∈ fl → XfC K (T.ad c) ∧ PySem.W.findIn K (.ref (T.ad c)) (T.nm f) = some none
section
variable {P : Program} {w : World} {K : PySem.W.Frag} {mg : Str → Option Value} {base : Heap} {T : Tb} {Q : Ck} {pg : Pg} {adr : Nat → Addr} {pss : Nat → List Str}
/-- the function object at a -/
def fdAt (K : PySem.W.Frag) (a : Addr) : Option FuncData := match K.lookup a with
  | some ⟨_, _, .func fd, _⟩ => some fd
  | _ => none
theorem fdAt_of {x qual : Str} {params : Arguments} {body : List Stmt} {scope : Scope} {dvs : List V} {kws : List (Str × V)} {f : Addr} {fd : FuncData} (F : FunD K x qual params body scope dvs kws f fd) : fdAt K f = some fd := by
  obtain ⟨_, _, _, _, _, _, _, _, _, _, _, e, _⟩ := F.ex
  unfold fdAt
  rw [e]
def FnAt (P : Program) (w : World) (K : PySem.W.Frag) (mg : Str → Option Value) (base : Heap) (T : Tb) (pg : Pg) (adr : Nat → Addr) (pss : Nat → List Str) (k f : Nat) : Prop :=
  ∃ fd, fdAt K (adr f) = some fd ∧ PySem.W.keepIn K (.ref (adr f)) = true ∧ Binds K fd (pss f) [] ∧ FnOk P w K mg base (L2.CX P w) (2 * k + 1) (adr f) fd (pss f) (spD T (callAt pg k f))
theorem PgOk.at (g : PgOk P w K mg base T Q pg adr pss) {k : Nat} (ih : ∀ f, f < pg.fns.length → FnAt P w K mg base T pg adr pss k f) : SOk P w K mg base T Q (pg.calls k) k where
  tw := g.tw
  kl := g.kl
  nm := g.nm
  inj := g.inj
  bn := g.bn
  gl := g.gl
  fn := fun f x e => by
    obtain ⟨h1, h2⟩ := g.fnm f x e
    obtain ⟨fd, _, h3, h4, h5⟩ := ih f h2
    exact ⟨adr f, fd, pss f, h1, h3, h4, h5⟩
  new := fun c e => by
    obtain ⟨h1, f, h2, h3, h4, h5⟩ := g.cls c e
    obtain ⟨fd, _, h6, h7, h8⟩ := ih f h5
    exact ⟨h1, pg.ini, f, adr f, fd, pss f, rfl, h2, h3, h4, h7, h8⟩
  at_ := g.at_
  exc := g.exc
  exf := g.exf
  sub := g.sub
  hnd := g.hnd
  xat := g.xat
theorem PgOk.all (g : PgOk P w K mg base T Q pg adr pss) : ∀ k f, f < pg.fns.length → FnAt P w K mg base T pg adr pss k f
  | 0, f, hf => by
    obtain ⟨x, qual, params, body, scope, kws, fd, N, F, h1, h2, h3, h4, b⟩ := g.fns f _ (List.getElem?_eq_getElem hf)
    refine ⟨fd, fdAt_of F, F.kp, b, ⟨fun vs H Qr E ⟨W, S, ds, sr, r, h⟩ => ?_, fun A outer s H args us vs Qr E _ _ _ _ ⟨W, S, ds, sr, r, h⟩ => ?_⟩⟩
    · exact False.elim h
    · exact False.elim h
  | k + 1, f, hf => by
    obtain ⟨x, qual, params, body, scope, kws, fd, N, F, h1, h2, h3, h4, b⟩ := g.fns f _ (List.getElem?_eq_getElem hf)
    have s := fn_sound F (g.at fun f hf => g.all k f hf) g.su h1 h2 h3 h4
    refine ⟨fd, fdAt_of F, F.kp, b, ?_⟩
    have e : spD T (callAt pg (k + 1) f) = spD T (runF (pg.calls k) pg.fns[f]) := by
      have : callAt pg (k + 1) f = runF (pg.calls k) pg.fns[f] := by
        funext ds S
        show (match pg.fns[f]? with
          | none => Res.bad
          | some fn => runF ⟨callAt pg k, mkI (callAt pg k) pg.ini, pg.gl, pg.sub, pg.exn⟩ fn ds S) = _
        rw [List.getElem?_eq_getElem hf]
        rfl
      rw [this]
    rw [e]
    exact s
end

/-! ### names -/
/-- a table of names; behind its end, names that are nobody's -/
def nmOf (l : List Str) (i : Nat) : Str := match l[i]? with
  | some x => x
  | none => ⟨Array.replicate (i + 1000) 0⟩
def namesB (l : List Str) : Bool := decide l.Nodup && l.all (fun x => decide (x.cps.size < 1000))
theorem nmOf_inj {l : List Str} (h : namesB l = true) (i j : Nat) (e : nmOf l i = nmOf l j) : i = j := by
  unfold namesB at h
  simp only [Bool.and_eq_true, decide_eq_true_eq, List.all_eq_true] at h
  obtain ⟨nd, sm⟩ := h
  unfold nmOf at e
  split at e
  · rename_i x hx
    split at e
    · rename_i y hy
      subst e
      have h1 := List.getElem?_eq_some_iff.mp hx
      have h2 := List.getElem?_eq_some_iff.mp hy
      exact (List.getElem_inj nd).mp (h1.2.trans h2.2.symm)
    · have := sm x (List.mem_of_getElem? hx)
      rw [e] at this
      simp at this
      omega
  · split at e
    · rename_i y hy
      have := sm y (List.mem_of_getElem? hy)
      rw [← e] at this
      simp at this
      omega
    · have := congrArg (fun s : Str => s.cps.size) e
      simpa using this

/-! ### the law -/
/-- a law: walk_ofE, the exceptions' word over the law's own world -/
theorem walk_ofW {l : PySem.W.OpenLaw} {n k : Nat} {q : Program} {loose : List Str} {XP : (Str → Option Value) → Heap → Prop} {YP : World → Heap → Prop} {d : DefRec} {x : Str}
    (hn : l.most = some n) (hn2 : n ≤ sizeLine) (hdf : d.params.defaults = []) (hr : Room k callerA)
    (F : ∀ (w : World) (mg : Str → Option Value) (fa : Addr) (h : Heap), YP w h → h.Ns mainGlobals mg → mg d.name = some (.ref fa) →
      ∃ (K : PySem.W.Frag) (fd : FuncData) (sp : Sp), K.In h ∧ (∀ (s : Shared) (u : Value), BindsTo s fd ⟨[u], []⟩ [(x, u)]) ∧
        (∀ (H : Hp) (a : Addr) (ns : List Int), ns.length ≤ n → Only H → SqL K H a (ns.map V.int) → sp [.ref a] H (fun v _ => v = .bl true) fun _ _ _ => False) ∧
        ∀ base : Heap, K.In base → base.Ns mainGlobals mg → FnOk l.prog w K mg base (L2.CX l.prog w) k fa fd [x] sp) :
    PySem.W.WalkO q loose XP YP l.row.toRowW d [] (fun f vs => PySem.call f vs) := by
  refine Att.attach_call hn hdf fun w s₀ s₁ mg mb fa o pm cd doc a vs ns G Y ho hd hcd hmg hobj hints hlen hg => ?_
  obtain ⟨K, fd, sp, KX, hb, hsp, hF⟩ := F w mg fa _ Y G.T.g hmg
  exact law_call KX G.T.g G.T.b G.T.builtins G.T.nolimit hg hobj hints (Nat.le_trans hlen hn2) hr hF hb (fun H hO hS => hsp H a ns hlen hO hS) fun H e s' ⟨_, _, _, _, _, _, _, _, _, _, _, _, z⟩ => z
/-- the law's promise, from what the evaluator says of it -/
theorem law_sp {T : Tb} {K : PySem.W.Frag} {pg : Pg} {k f : Nat} (hkl : T.kl = fun a vs => ∀ H, SqL K H a vs) {n : Nat} (pure : ∀ ns : List Int, ns.length ≤ n → ∃ S, callAt pg k f [.scr ns] [] = .ok (.bl true) S) (H : Hp) (a : Addr) (ns : List Int) (hl : ns.length ≤ n) (hO : Only H) (hS : SqL K H a (ns.map V.int)) :
    spD T (callAt pg k f) [.ref a] H (fun v _ => v = .bl true) fun _ _ _ => False := by
  have fin : ∀ W, SRel T W [] H → Rep T W (.scr ns) (.ref a) → spD T (callAt pg k f) [.ref a] H (fun v _ => v = .bl true) fun _ _ _ => False := fun W sr r => by
    obtain ⟨S, e⟩ := pure ns hl
    refine ⟨W, [], [.scr ns], sr, .cons r .nil, ?_⟩
    rw [e]
    intro W' H' v _ _ rv
    cases rv
    rfl
  rcases hS with (h | ⟨o, h⟩) | h
  · rcases hO a with z | ⟨o, xs, z⟩
    · rw [z] at h; cases h
    · rw [z] at h; cases h
  · refine fin ⟨fun b => if b = a then H a else none, []⟩ ⟨fun b u q => ?_, rfl, List.nodup_nil, (by intro b hb; cases hb), (by intro l b u e1; cases e1)⟩ (.scr (.inr ⟨o, by show (if a = a then H a else none) = _; rw [if_pos rfl]; exact h⟩))
    by_cases hb : b = a
    · subst hb
      have q' : (if b = b then H b else none) = some u := q
      rw [if_pos rfl] at q'
      exact q'
    · have q' : (if b = a then H a else none) = some u := q
      rw [if_neg hb] at q'
      cases q'
  · refine fin ⟨fun _ => none, []⟩ ⟨fun b u q => (by cases q), rfl, List.nodup_nil, (by intro b hb; cases hb), (by intro l b u e1; cases e1)⟩ (.scr (.inl ?_))
    rw [hkl]
    exact fun H => .inr h
end Qv
set_option Elab.async false
set_option linter.all false
set_option maxRecDepth 100000
set_option maxHeartbeats 8000000
/-! A law's data, and the walk of the law. -/
namespace Qv
open PySem PySem.Spec PyProof.Rows L2

/-- a def: where it stands in the text, its slots, its tree in the small language -/
structure Df where
  at_ : Str × Option Str
  name : Str
  qual : Str
  params : Arguments
  body : List Stmt
  scope : Scope
  N : List Str
  ps : List Str
  fn : Fn
structure Lw where
  names : List Str
  defs : List Df
  /-- globals as values -/
  gls : List (Nat × D)
  /-- classes: the name's number, its __init__'s -/
  cls : List (Nat × Nat)
  flds : List Nat
  /-- classes of exceptions: their fields -/
  exs : List (Nat × List Nat)
  /-- built-in classes, by name -/
  bis : List Nat
  /-- which class of exceptions lies under which -/
  subs : List ((Nat × Nat) × Bool)
  /-- the program's file -/
  file : Str
def Lw.nm (L : Lw) : Nat → Str := nmOf L.names
def Lw.ck (L : Lw) : Ck where
  nm := L.nm
  fn := fun f => match L.defs[f]? with
    | some d => (match d.at_.2 with
      | none => some d.at_.1
      | _ => none)
    | none => none
  cls := fun c => (L.cls.lookup c).isSome
  fld := fun f => L.flds.contains f
  exc := fun c => decide (L.exs.lookup c = some [])
  exf := fun c => match L.exs.lookup c with
    | some [_] => true
    | _ => false
  hnd := fun n => (L.exs.lookup n).isSome || L.bis.contains n
  su := false
def Lw.pg (L : Lw) : Pg where
  fns := L.defs.map (·.fn)
  ini := fun c => L.cls.lookup c
  gl := fun n => L.gls.lookup n
  sub := fun c n => L.subs.lookup (c, n)
  exn := fun c => L.exs.lookup c
def Lw.fa (L : Lw) : List He.Fa := bnames.map .free ++ L.defs.filterMap (fun d => match d.at_.2 with
    | none => some (.glo d.at_.1)
    | _ => none) ++ L.gls.filterMap (fun p => match p.2 with
    | .int i => some (.int (L.nm p.1) i)
    | .str z => some (.str (L.nm p.1) z)
    | .glo _ => some (.glo (L.nm p.1))
    | _ => none) ++ (L.cls.flatMap fun p => [.glo (L.nm p.1), .cls (L.nm p.1), .mkr (L.nm p.1)] ++ L.flds.map (fun f => .noat (L.nm p.1) (L.nm f))) ++ (L.exs.map (fun p => .glo (L.nm p.1)) ++ L.bis.map fun n => .free (L.nm n))
/-- what is asked of a class of exceptions -/
def xcB (K : PySem.W.Frag) (C : Addr) : Bool := (PySem.W.keepIn K (.ref C) && (decide (PySem.W.subIn K (.ref C) (.type "BaseException") = some true) && (decide (PySem.W.typeIn K (.ref C) = some (.type "type")) &&
  (decide (PySem.W.findIn K (.ref C) "__getattribute__" = some (some (.builtin "BaseException.__getattribute__"))) && (decide (PySem.W.findIn K (.ref C) "__getattr__" = some none) && (PySem.W.hasDictIn K C && (decide (PySem.W.findIn K (.ref C) "__class__" = some (some (.builtin "object.__class__"))) &&
  (decide (PySem.W.specialIn K (.builtin "object.__class__") "__get__" = some (some (.builtin "getset_descriptor.__get__"))) && (decide (PySem.W.takesIn K (.builtin "object.__class__") = some true) && decide (PySem.W.mroIn K C (.type "object") = some true))))))))))
/-- how its instances are made -/
def mkB (K : PySem.W.Frag) (file : Str) (C : Addr) (nm : Nat → Str) : List Nat → Bool
  | [] => PySem.W.excIn K C PySem.HandSPX.veTail "ValueError.__new__"
  | [f] => Qx.supB K file C (nm f)
  | _ => false
/-- what a class's name stands for -/
def Lw.hv (L : Lw) (K : PySem.W.Frag) (n : Nat) : Value := match L.exs.lookup n with
  | some _ => .ref (He.ga K (L.nm n))
  | none => (bootBuiltins (L.nm n)).getD .none
def Lw.fx (L : Lw) (K : PySem.W.Frag) : Bool := L.exs.all (fun p => (xcB K (He.ga K (L.nm p.1)) && mkB K L.file (He.ga K (L.nm p.1)) L.nm p.2) && p.2.all fun f => decide (PySem.W.findIn K (.ref (He.ga K (L.nm p.1))) (L.nm f) = some none)) &&
  L.subs.all fun p => decide (PySem.W.exmOne K (.ref (He.ga K (L.nm p.1.1))) (L.hv K p.1.2) = some p.2) && decide (PySem.W.kitOne K (.ref (He.ga K (L.nm p.1.1))) (L.hv K p.1.2) = some p.2)
theorem xcB_ok {K : PySem.W.Frag} {C : Addr} (h : xcB K C = true) : (PySem.W.excIn K C PySem.HandSPX.veTail "ValueError.__new__" = true → XOk K C) ∧ ExcC K C ∧ XfC K C := by
  unfold xcB at h
  simp only [Bool.and_eq_true, decide_eq_true_eq] at h
  obtain ⟨h2, h3, h4, h5, h6, h7, h8, h9, h10, h11⟩ := h
  exact ⟨fun h1 => ⟨h1, h2, h3, h4⟩, ⟨h5, h6, h3, h7, h8, h9, h10, h11⟩, ⟨h5, h6, h3, h7⟩⟩
def Df.dD (d : Df) : He.DefD := ⟨d.at_, d.name, d.qual, d.params, d.body, d.scope, [], []⟩
def Lw.fnD (L : Lw) : List He.DefD := L.defs.map Df.dD
structure DfOk (Q : Ck) (d : Df) : Prop where
  sc : scopeB d.N d.ps d.scope = true
  n : d.fn.n = d.N.length
  p : d.fn.ps = d.ps.length
  ok : okB d.N d.scope (fun _ => true) Q d.fn.body d.body = true
  b : ∀ (kV doc pm : Value) (an : Option Addr) (cdv ct : Value) (us : List Value), us.length = d.ps.length → bindArgs (PySem.W.fnOf d.name d.qual d.params d.body d.scope .none kV doc pm an cdv ct) ⟨us, []⟩ = pure (d.ps.zip us)
def AllOk (Q : Ck) : List Df → Prop
  | [] => True
  | d :: r => DfOk Q d ∧ AllOk Q r
theorem AllOk.at {Q : Ck} : ∀ {ds : List Df} {i : Nat} {d : Df}, AllOk Q ds → ds[i]? = some d → DfOk Q d
  | [], i, d, _, e => by simp at e
  | x :: r, 0, d, h, e => by simp at e; subst e; exact h.1
  | x :: r, i + 1, d, h, e => AllOk.at (ds := r) (i := i) h.2 (by simpa using e)
def tyV : D → Option Value
  | .ty n => some (.type n)
  | _ => none
def Lw.chk (L : Lw) : Bool := namesB L.names && L.gls.all (fun p => match p.2 with
    | .int _ => true
    | .str _ => true
    | .glo g => g == p.1
    | .ty t => bnames.contains (L.nm p.1) && decide (L.nm p.1 ≠ "__name__") && (match bootBuiltins (L.nm p.1) with
      | some (.type u) => t == u
      | _ => false)
    | _ => false) && L.cls.all fun p => (match L.defs[p.2]? with
    | some d => decide (d.at_ = (L.nm p.1, some (Str.ofString "__init__")))
    | none => false)
def Lw.chx (L : Lw) : Bool := L.bis.all (fun n => decide (L.nm n ≠ "__name__") && (match bootBuiltins (L.nm n) with
    | some (.type _) => true
    | _ => false) && (L.exs.lookup n).isNone) && L.subs.all fun p => (L.exs.lookup p.1.1).isSome && ((L.exs.lookup p.1.2).isSome || L.bis.contains p.1.2)
def Lw.adr (L : Lw) (K : PySem.W.Frag) (f : Nat) : Addr := match L.defs[f]? with
  | some d => He.fAd K d.at_
  | none => 0
def Lw.pss (L : Lw) (f : Nat) : List Str := match L.defs[f]? with
  | some d => d.ps
  | none => []
def Lw.tb (L : Lw) (K : PySem.W.Frag) (w : World) : Tb := ⟨L.nm, fun c => He.ga K (L.nm c), fun c => (L.cls.lookup c).isSome = true, w, fun a vs => ∀ H, SqL K H a vs, 0, .none, none⟩
theorem mem_of_look2 {α β : Type} [BEq α] [LawfulBEq α] : ∀ {l : List (α × β)} {n : α} {x : β}, l.lookup n = some x → (n, x) ∈ l
  | [], n, x, h => by simp at h
  | (m, y) :: r, n, x, h => by
    rw [List.lookup_cons] at h
    cases q : n == m with
    | true =>
      rw [q] at h
      have e : n = m := by simpa using q
      cases h
      rw [e]
      exact List.mem_cons_self
    | false => rw [q] at h; exact List.mem_cons_of_mem _ (mem_of_look2 h)
theorem mem_of_look {α : Type} : ∀ {l : List (Nat × α)} {n : Nat} {x : α}, l.lookup n = some x → (n, x) ∈ l
  | [], n, x, h => by simp at h
  | (m, y) :: r, n, x, h => by
    rw [List.lookup_cons] at h
    cases q : n == m with
    | true =>
      rw [q] at h
      have e : n = m := by simpa using q
      cases h
      rw [e]
      exact List.mem_cons_self
    | false => rw [q] at h; exact List.mem_cons_of_mem _ (mem_of_look h)
theorem says_mem {fa : List He.Fa} {fn : List He.DefD} {K : PySem.W.Frag} (c : He.SaysD fa fn K) {f : He.Fa} (h : f ∈ fa) : f.ok K = true := by
  obtain ⟨i, e⟩ := List.getElem?_of_mem h
  exact c.fact i e
theorem Lw.pgOk (L : Lw) (hall : AllOk L.ck L.defs) (hchk : L.chk = true) (hchx : L.chx = true) {P : Program} {w : World} {K : PySem.W.Frag} {h : Heap} {mg : Str → Option Value} (KX : K.In h) (G : h.Ns mainGlobals mg) (c : He.SaysD L.fa L.fnD K) (cx : L.fx K = true) (hfl : P.main.file = L.file) (htop : (P.main.scope.names.lookup ("super" : Str)).isSome = false) (base : Heap) :
    PgOk P w K mg base (L.tb K w) L.ck L.pg (L.adr K) L.pss := by
  unfold Lw.chk at hchk
  simp only [Bool.and_eq_true, List.all_eq_true] at hchk
  obtain ⟨⟨c1, c2⟩, c3⟩ := hchk
  have m1 : ∀ {f : He.Fa}, f ∈ bnames.map He.Fa.free → f ∈ L.fa := fun h => List.mem_append_left _ (List.mem_append_left _ (List.mem_append_left _ (List.mem_append_left _ h)))
  have m2 : ∀ {d : Df}, d ∈ L.defs → d.at_.2 = none → He.Fa.glo d.at_.1 ∈ L.fa := fun {d} h e => by
    refine List.mem_append_left _ (List.mem_append_left _ (List.mem_append_left _ (List.mem_append_right _ (List.mem_filterMap.mpr ⟨d, h, ?_⟩))))
    rw [e]
  have m3 : ∀ {p : Nat × D} {f : He.Fa}, p ∈ L.gls → (match p.2 with
    | .int i => some (He.Fa.int (L.nm p.1) i)
    | .str z => some (.str (L.nm p.1) z)
    | .glo _ => some (.glo (L.nm p.1))
    | _ => none) = some f → f ∈ L.fa := fun {p f} h e => List.mem_append_left _ (List.mem_append_left _ (List.mem_append_right _ (List.mem_filterMap.mpr ⟨p, h, e⟩)))
  have m4 : ∀ {p : Nat × Nat} {f : He.Fa}, p ∈ L.cls → f ∈ [He.Fa.glo (L.nm p.1), .cls (L.nm p.1), .mkr (L.nm p.1)] ++ L.flds.map (fun f => He.Fa.noat (L.nm p.1) (L.nm f)) → f ∈ L.fa := fun {p f} h e => List.mem_append_left _ (List.mem_append_right _ (List.mem_flatMap.mpr ⟨p, h, e⟩))
  have hbn : ∀ x, x ∈ bnames → mg x = none := fun x hx => He.free_ok KX G (says_mem c (m1 (List.mem_map_of_mem hx)))
  have m5 : ∀ {p : Nat × List Nat}, p ∈ L.exs → He.Fa.glo (L.nm p.1) ∈ L.fa := fun {p} h => List.mem_append_right _ (List.mem_append_left _ (List.mem_map.mpr ⟨p, h, rfl⟩))
  have m6 : ∀ {n : Nat}, n ∈ L.bis → He.Fa.free (L.nm n) ∈ L.fa := fun {n} h => List.mem_append_right _ (List.mem_append_right _ (List.mem_map.mpr ⟨n, h, rfl⟩))
  unfold Lw.fx at cx
  unfold Lw.chx at hchx
  simp only [Bool.and_eq_true, List.all_eq_true, decide_eq_true_eq] at cx hchx
  obtain ⟨x1, x2⟩ := cx
  obtain ⟨y1, y2⟩ := hchx
  have exg : ∀ {c : Nat} {fl : List Nat}, L.exs.lookup c = some fl → mg (L.nm c) = some (.ref (He.ga K (L.nm c))) ∧ (xcB K (He.ga K (L.nm c)) = true ∧ mkB K L.file (He.ga K (L.nm c)) L.nm fl = true) ∧ ∀ f, f ∈ fl → PySem.W.findIn K (.ref (He.ga K (L.nm c))) (L.nm f) = some none := fun {cc fl} e => by
    have hm := mem_of_look e
    exact ⟨He.glo_ok (x := L.nm cc) KX G (says_mem c (m5 hm)), (x1 _ hm).1, (x1 _ hm).2⟩
  have stand : ∀ n, ((L.exs.lookup n).isSome || L.bis.contains n) = true → Stands mg (L.nm n) (L.hv K n) ∧ ∃ v, RelV v (L.hv K n) ∧ ∀ u', RelV v u' → u' = L.hv K n := fun n hn => by
    unfold Lw.hv
    cases q : L.exs.lookup n with
    | some fl => exact ⟨.inl (exg q).1, .ref _, rfl, fun u' h => h⟩
    | none =>
      rw [q] at hn
      have hb : n ∈ L.bis := by simpa using hn
      obtain ⟨⟨k1, k2⟩, k3⟩ := y1 n hb
      split at k2
      · rename_i t et
        rw [et]
        exact ⟨.inr ⟨He.free_ok KX G (says_mem c (m6 hb)), k1, et⟩, .ty t, rfl, fun u' h => h⟩
      · cases k2
  refine ⟨rfl, fun a vs h => h, rfl, nmOf_inj c1, hbn, fun n d e => ?_, fun f fn e => ?_, fun f x e => ?_, fun cc e => ?_, fun cc f hc hf => ?_, rfl, fun cc e => ?_, fun cc e => ?_, fun cc n b e => ?_, fun n e => ⟨_, (stand n e).1⟩, fun cc fl f e hf => ⟨(xcB_ok (exg e).2.1.1).2.2, (exg e).2.2 f hf⟩⟩
  rotate_left 5
  · have e : L.exs.lookup cc = some [] := of_decide_eq_true e
    exact ⟨(exg e).1, (xcB_ok (exg e).2.1.1).1 (exg e).2.1.2⟩
  · have e : (match L.exs.lookup cc with
      | some [_] => true
      | _ => false) = true := e
    split at e
    · rename_i f q
      exact ⟨f, q, (exg q).1, Qx.supB_ok (exg q).2.1.2 hfl htop (hbn _ (by decide +kernel))⟩
    · cases e
  · have e : L.subs.lookup (cc, n) = some b := e
    have hm := mem_of_look2 e
    obtain ⟨fl, h1⟩ := Option.isSome_iff_exists.mp (y2 _ hm).1
    obtain ⟨k1, v, k2, k3⟩ := stand n (y2 _ hm).2
    exact ⟨(xcB_ok (exg h1).2.1.1).2.1, _, v, k1, k2, k3, (x2 _ hm).1, (x2 _ hm).2⟩
  · have hm := mem_of_look e
    have hk := c2 _ hm
    cases d with
    | int i =>
      obtain ⟨t, q⟩ := He.int_ok KX G (says_mem c (m3 hm rfl))
      exact ⟨_, .int i, .inl q, ⟨t, rfl⟩, fun W => .int i⟩
    | str z =>
      obtain ⟨t, q⟩ := He.str_ok KX G (says_mem c (m3 hm rfl))
      exact ⟨_, .str z, .inl q, ⟨t, rfl⟩, fun W => .str z⟩
    | glo g =>
      have q := He.glo_ok KX G (says_mem c (m3 hm rfl))
      have eg : g = n := by simpa using hk
      subst eg
      exact ⟨_, .ref _, .inl q, rfl, fun W => .glo _⟩
    | ty t =>
      simp only [Bool.and_eq_true, decide_eq_true_eq] at hk
      obtain ⟨⟨k1, k2⟩, k3⟩ := hk
      have k1 : L.nm n ∈ bnames := by simpa using k1
      split at k3
      · rename_i u q
        have et : t = u := by simpa using k3
        subst et
        exact ⟨_, .ty t, .inr ⟨hbn _ k1, k2, q⟩, rfl, fun W => .ty t⟩
      · cases k3
    | _ => cases hk
  · have e' : (L.defs.map (·.fn))[f]? = some fn := e
    rw [List.getElem?_map] at e'
    cases q : L.defs[f]? with
    | none => rw [q] at e'; cases e'
    | some d =>
      rw [q] at e'
      cases e'
      have k := hall.at q
      obtain ⟨fd, F⟩ := c.def_ f (d := d.dD) (by show (L.defs.map Df.dD)[f]? = _; rw [List.getElem?_map, q]; rfl)
      have ea : L.adr K f = He.fAd K d.at_ := by unfold Lw.adr; rw [q]
      have ep : L.pss f = d.ps := by unfold Lw.pss; rw [q]
      rw [ea, ep]
      exact ⟨d.name, d.qual, d.params, d.body, d.scope, [], fd, d.N, F, k.sc, k.n, k.p, k.ok, F.bindsN k.b⟩
  · have e' : (match L.defs[f]? with
      | some d => (match d.at_.2 with
        | none => some d.at_.1
        | _ => none)
      | none => none) = some x := e
    cases q : L.defs[f]? with
    | none => rw [q] at e'; cases e'
    | some d =>
      rw [q] at e'
      cases q2 : d.at_.2 with
      | some _ =>
        have e2 : (match d.at_.2 with
          | none => some d.at_.1
          | _ => none) = some x := e'
        rw [q2] at e2; cases e2
      | none =>
        have e2 : (match d.at_.2 with
          | none => some d.at_.1
          | _ => none) = some x := e'
        rw [q2] at e2
        cases e2
        have ea : L.adr K f = He.ga K d.at_.1 := by
          unfold Lw.adr
          rw [q]
          show He.fAd K d.at_ = _
          unfold He.fAd
          rw [q2]
        rw [ea]
        refine ⟨He.glo_ok KX G (says_mem c (m2 (List.mem_of_getElem? q) q2)), ?_⟩
        show f < (L.defs.map (·.fn)).length
        rw [List.length_map]
        exact (List.getElem?_eq_some_iff.mp q).1
  · refine ⟨e, ?_⟩
    obtain ⟨f, hf⟩ := Option.isSome_iff_exists.mp e
    have hm := mem_of_look hf
    have k3 := c3 _ hm
    cases q : L.defs[f]? with
    | none => rw [q] at k3; cases k3
    | some d =>
      rw [q] at k3
      have k3 : d.at_ = (L.nm cc, some (Str.ofString "__init__")) := by simpa using k3
      refine ⟨f, hf, He.glo_ok (x := L.nm cc) KX G (says_mem c (m4 hm List.mem_cons_self)), ?_, ?_⟩
      · have ea : L.adr K f = He.ma K (He.ga K (L.nm cc)) "__init__" := by
          unfold Lw.adr
          rw [q]
          show He.fAd K d.at_ = _
          unfold He.fAd
          rw [k3]
        rw [ea]
        exact He.mkr_ok (says_mem c (m4 hm (by simp)))
      · show f < (L.defs.map (·.fn)).length
        rw [List.length_map]
        exact (List.getElem?_eq_some_iff.mp q).1
  · obtain ⟨f', hf'⟩ := Option.isSome_iff_exists.mp (show (L.cls.lookup cc).isSome = true from hc)
    have hm := mem_of_look hf'
    have hf2 : f ∈ L.flds := by
      have : L.flds.contains f = true := hf
      simpa using this
    exact ⟨He.cls_ok (says_mem c (m4 hm (by simp))), He.noat_ok (says_mem c (m4 hm (List.mem_append_right _ (List.mem_map_of_mem hf2))))⟩
/-- THE LAW'S WALK: the checks hold, and the evaluator says True -/
theorem Lw.walk (L : Lw) (hall : AllOk L.ck L.defs) (hchk : L.chk = true) (hchx : L.chx = true) {ix k n : Nat} {x law : Str} {d : Df} (hd : L.defs[ix]? = some d) (hx : d.ps = [x]) (hat : d.at_ = (law, none))
    (pure : ∀ ns : List Int, ns.length ≤ n → ∃ S, callAt L.pg k ix [.scr ns] [] = .ok (.bl true) S) {P : Program} {w : World} {K : PySem.W.Frag} {h : Heap} {mg : Str → Option Value} {fa : Addr} (KX : K.In h) (G : h.Ns mainGlobals mg) (hfa : mg law = some (.ref fa)) (c : He.SaysD L.fa L.fnD K) (cx : L.fx K = true) (hfl : P.main.file = L.file) (htop : (P.main.scope.names.lookup ("super" : Str)).isSome = false) :
    ∃ (K : PySem.W.Frag) (fd : FuncData) (sp : Sp), K.In h ∧ (∀ (s : Shared) (u : Value), BindsTo s fd ⟨[u], []⟩ [(x, u)]) ∧
      (∀ (H : Hp) (a : Addr) (ns : List Int), ns.length ≤ n → Only H → SqL K H a (ns.map V.int) → sp [.ref a] H (fun v _ => v = .bl true) fun _ _ _ => False) ∧
      ∀ base : Heap, K.In base → base.Ns mainGlobals mg → FnOk P w K mg base (L2.CX P w) (2 * k + 1) fa fd [x] sp := by
  obtain ⟨fd, F⟩ := c.def_ ix (d := d.dD) (by show (L.defs.map Df.dD)[ix]? = _; rw [List.getElem?_map, hd]; rfl)
  have kk := hall.at hd
  have ha : L.adr K ix = fa := by
    have e1 : L.adr K ix = He.ga K law := by
      unfold Lw.adr
      rw [hd]
      show He.fAd K d.at_ = _
      unfold He.fAd
      rw [hat]
    rw [e1]
    have hm : He.Fa.glo law ∈ L.fa := by
      refine List.mem_append_left _ (List.mem_append_left _ (List.mem_append_left _ (List.mem_append_right _ (List.mem_filterMap.mpr ⟨d, List.mem_of_getElem? hd, ?_⟩))))
      rw [hat]
    have q := hfa.symm.trans (He.glo_ok KX G (says_mem c hm))
    cases q
    rfl
  have ep : L.pss ix = [x] := by unfold Lw.pss; rw [hd]; exact hx
  have hlen : ix < L.pg.fns.length := by
    show ix < (L.defs.map (·.fn)).length
    rw [List.length_map]
    exact (List.getElem?_eq_some_iff.mp hd).1
  refine ⟨K, fd, spD (L.tb K w) (callAt L.pg k ix), KX, fun s u => ?_, fun H a ns hl hO hS => law_sp rfl pure H a ns hl hO hS, fun base KB GB => ?_⟩
  · have b := FunD.bindsA (ps := [x]) F (fun kV doc pm an cdv ct us hl => by have := kk.b kV doc pm an cdv ct us (by rw [hx]; exact hl); rw [hx] at this; exact this) s [u] rfl
    exact b
  · obtain ⟨fd', e1, _, _, e2⟩ := (L.pgOk hall hchk hchx (P := P) (w := w) KX G c cx hfl htop base).all k ix hlen
    have ea : L.adr K ix = He.fAd K d.dD.at_ := by unfold Lw.adr; rw [hd]; rfl
    rw [ea, fdAt_of F] at e1
    cases e1
    rw [ha, ep] at e2
    exact e2
/-! ### the hook: what the boot's heap is asked for -/
/-- what is read of the boot's heap: all that the module's names lead to, and the statics -/
def frX (n : Nat) (g : Addr → Option Obj) : PySem.W.Frag := He.frG g (cStatics :: He.asD g n)
def hookX (n : Nat) (fa : List He.Fa) (fn : List He.DefD) (fx : PySem.W.Frag → Bool) : PySem.W.Hook where
  α := He.AlD × Bool
  obs := fun s => (He.obsD fa fn (frX n s.heap.get?), fx (frX n s.heap.get?))
  val := fun _ => (He.valD fn, true)
  says := fun _ h => ∃ K : PySem.W.Frag, K.In h ∧ He.SaysD fa fn K ∧ fx K = true
  of := fun _ _ e => ⟨_, He.frG_in, congrArg Prod.fst e, congrArg Prod.snd e⟩
  keeps := fun _ _ _ ⟨K, hK, c⟩ k => ⟨K, PySem.W.Frag.In.keeps hK k, c⟩
def obsX (n : Nat) (fa : List He.Fa) (fn : List He.DefD) (fx : PySem.W.Frag → Bool) (g : Addr → Option Obj) : He.AlD × Bool := (He.obsD fa fn (frX n g), fx (frX n g))
theorem obsX_eq {n : Nat} {fa : List He.Fa} {fn : List He.DefD} {fx : PySem.W.Frag → Bool} {g : Addr → Option Obj} {s : Shared} (h : ∀ a, g a = s.heap.get? a) : obsX n fa fn fx g = (hookX n fa fn fx).obs s := by
  have e : g = s.heap.get? := funext h
  rw [e] <;> rfl
end Qv
set_option Elab.async false
set_option linter.all false
set_option maxRecDepth 100000
set_option maxHeartbeats 4000000
/-! What the evaluator is asked for, step by step. -/
namespace Qv
open PySem

/-- an end: a value, or something raised -/
def OkM {α : Type} (r : Res α) (Q : α → Sh → Prop) (X : D → Sh → Prop) : Prop := match r with
  | .ok a S => Q a S
  | .ex x S => X x S
  | .bad => False
structure OkX {α : Type} (r : Res α) (Q : α → Sh → Prop) (X : D → Sh → Prop) : Prop where
  of : OkM r Q X
/-- nothing is raised -/
def NoX : D → Sh → Prop := fun _ _ => False
abbrev Ok {α : Type} (r : Res α) (Q : α → Sh → Prop) : Prop := OkX r Q NoX
theorem OkX.mono2 {α : Type} {r : Res α} {Q Q' : α → Sh → Prop} {X X' : D → Sh → Prop} (h : OkX r Q X) (k : ∀ a S, Q a S → Q' a S) (k2 : ∀ x S, X x S → X' x S) : OkX r Q' X' := by
  cases r with
  | ok a S => exact ⟨k _ _ h.of⟩
  | ex x S => exact ⟨k2 _ _ h.of⟩
  | bad => exact h.of.elim
theorem OkX.monoX {α : Type} {r : Res α} {Q Q' : α → Sh → Prop} {X : D → Sh → Prop} (h : OkX r Q X) (k : ∀ a S, Q a S → Q' a S) : OkX r Q' X := h.mono2 k fun _ _ z => z
theorem Ok.mono {α : Type} {r : Res α} {Q Q' : α → Sh → Prop} {X : D → Sh → Prop} (h : Ok r Q) (k : ∀ a S, Q a S → Q' a S) : OkX r Q' X := h.mono2 k fun _ _ z => z.elim
theorem Ok.ex {α : Type} {r : Res α} {Q : α → Sh → Prop} (h : Ok r Q) : ∃ a S, r = .ok a S ∧ Q a S := by
  cases r with
  | ok a S => exact ⟨a, S, rfl, h.of⟩
  | ex x S => exact h.of.elim
  | bad => exact h.of.elim
theorem Ok.ofEx {α : Type} {r : Res α} {Q : α → Sh → Prop} {X : D → Sh → Prop} (h : ∃ a S, r = .ok a S ∧ Q a S) : OkX r Q X := by
  obtain ⟨a, S, rfl, q⟩ := h
  exact ⟨q⟩
theorem OkX.raised {α : Type} {x : D} {S : Sh} {Q : α → Sh → Prop} {X : D → Sh → Prop} (h : X x S) : OkX (.ex x S) Q X := ⟨h⟩
theorem OkX.bind {α β : Type} {r : Res α} {k : α → Sh → Res β} {Q : β → Sh → Prop} {X : D → Sh → Prop} (h : OkX r (fun a S => OkX (k a S) Q X) X) : OkX (r.bind k) Q X := by
  cases r with
  | ok a S => exact h.of
  | ex x S => exact ⟨h.of⟩
  | bad => exact h.of.elim
theorem OkX.bindS {α : Type} {r : Res α} {E : En} {k : α → Sh → Res (Fl × En)} {Q : Fl × En → Sh → Prop} (h : OkX r (fun a S => Ok (k a S) Q) fun x S => Q (.exc x, E) S) : Ok (r.bindS E k) Q := by
  cases r with
  | ok a S => exact h.of
  | ex x S => exact ⟨h.of⟩
  | bad => exact h.of.elim
theorem Ok.ret {α : Type} {a : α} {S : Sh} {Q : α → Sh → Prop} {X : D → Sh → Prop} (h : Q a S) : OkX (.ok a S) Q X := ⟨h⟩
theorem Ok.lift {α : Type} {o : Option α} {S : Sh} {Q : α → Sh → Prop} {X : D → Sh → Prop} (h : ∃ a, o = some a ∧ Q a S) : OkX (lift o S) Q X := by
  obtain ⟨a, rfl, q⟩ := h
  exact ⟨q⟩
def brwW (a : IE) (E : En) (S : Sh) (w : (D → Sh → Prop) → Prop) (Q : D → Sh → Prop) : Prop := match a with
  | .v i => ∃ d, slotA E i = some d ∧ Q d S
  | _ => w Q
def isNon : D → Bool
  | .non => true
  | _ => false
def wpG : Tg → D → En → (En → Prop) → Prop
  | .n i, d, E, Q => i < E.length ∧ Q (E.set i (some (.v d)))
  | .t a b, d, E, Q => ∃ x y, d = .tup [x, y] ∧ wpG a x E fun E => wpG b y E Q
  | .t3 a b c, d, E, Q => ∃ x y z, d = .tup [x, y, z] ∧ wpG a x E fun E => wpG b y E fun E => wpG c z E Q
theorem wpG_ok : ∀ (tg : Tg) {d : D} {E : En} {Q : En → Prop}, wpG tg d E Q → ∃ E1, asgT tg d E = some E1 ∧ Q E1
  | .n i, d, E, Q, h => ⟨_, by simp only [asgT]; rw [if_pos h.1], h.2⟩
  | .t a b, d, E, Q, h => by
    obtain ⟨x, y, rfl, h⟩ := h
    obtain ⟨E1, e1, h⟩ := wpG_ok a h
    obtain ⟨E2, e2, h⟩ := wpG_ok b h
    exact ⟨E2, by simp only [asgT]; rw [e1]; exact e2, h⟩
  | .t3 a b c, d, E, Q, h => by
    obtain ⟨x, y, z, rfl, h⟩ := h
    obtain ⟨E1, e1, h⟩ := wpG_ok a h
    obtain ⟨E2, e2, h⟩ := wpG_ok b h
    obtain ⟨E3, e3, h⟩ := wpG_ok c h
    exact ⟨E3, by simp only [asgT]; rw [e1]; show ((asgT b y E1).bind (asgT c z)) = _; rw [e2]; exact e3, h⟩
def forF (C : Calls) (tg : Tg) (b : ISs) : D → En → Sh → Res (Fl × En) := fun x E S => match asgT tg x E with
  | none => .bad
  | some E1 => exB C b E1 S
section
variable (C : Calls) (X : D → Sh → Prop)
mutual
def wpE : IE → En → Sh → (D → Sh → Prop) → Prop
  | .c d, _, S, Q => Q d S
  | .g n, _, S, Q => ∃ d, C.gl n = some d ∧ Q d S
  | .v i, E, S, Q => ∃ d, slotV E i = some d ∧ Q d S
  | .tup es, E, S, Q => wpEs es E S fun ds S => ds.length ≤ LIM ∧ Q (.tup ds) S
  | .l le, E, S, Q => wpL le E S fun ds S => Q (.lst ds) S
  | .sh le, E, S, Q => wpL le E S fun ds S => Q (.ref S.length) (S ++ [.lst ds])
  | .bin o a b, E, S, Q => brwW a E S (wpE a E S) fun x S => brwW b E S (wpE b E S) fun y S => ∃ z, binD o (drf S x) (drf S y) = some z ∧ Q z S
  | .neg a, E, S, Q => wpE a E S fun x S => ∃ i, x = .int i ∧ Q (.int (-i)) S
  | .cmp o a b, E, S, Q => brwW a E S (wpE a E S) fun x S => brwW b E S (wpE b E S) fun y S => ∃ t, cmpD o (drf S x) (drf S y) = some t ∧ Q (.bl t) S
  | .cmpc o1 o2 a b c, E, S, Q => wpE a E S fun x S => wpE b E S fun y S => ∃ t, cmpD o1 (drf S x) (drf S y) = some t ∧ if t = true then wpE c E S fun z S => ∃ t, cmpD o2 (drf S y) (drf S z) = some t ∧ Q (.bl t) S else Q (.bl false) S
  | .isn a, E, S, Q => wpE a E S fun x S => Q (.bl (isNon x)) S
  | .nnn a, E, S, Q => wpE a E S fun x S => Q (.bl (!isNon x)) S
  | .not a, E, S, Q => brwW a E S (wpE a E S) fun x S => ∃ t, truD (drf S x) = some t ∧ Q (.bl (!t)) S
  | .and a b, E, S, Q => wpE a E S fun x S => ∃ t, truD (drf S x) = some t ∧ if t = true then wpE b E S Q else Q x S
  | .or a b, E, S, Q => wpE a E S fun x S => ∃ t, truD (drf S x) = some t ∧ if t = true then Q x S else wpE b E S Q
  | .ife t a b, E, S, Q => brwW t E S (wpE t E S) fun x S => ∃ t, truD (drf S x) = some t ∧ if t = true then wpE a E S Q else wpE b E S Q
  | .call f es, E, S, Q => wpEs es E S fun ds S => OkX (C.fn f ds S) Q X
  | .mk c es, E, S, Q => wpEs es E S fun ds S => OkX (C.new c ds S) Q X
  | .bi b es, E, S, Q => wpAs es E S fun ds S => ∃ z, biD b (ds.map (drf S)) = some z ∧ Q z S
  | .ix a b, E, S, Q => brwW a E S (wpE a E S) fun x S => wpE b E S fun y S => ∃ z, ixD (drf S x) y = some z ∧ Q z S
  | .sl a lo hi, E, S, Q => brwW a E S (wpE a E S) fun x S => wpO lo E S fun l S => wpO hi E S fun h S => ∃ z, slD (drf S x) l h = some z ∧ Q z S
  | .at a f, E, S, Q => wpE a E S fun x S => ∃ z, atD S f x = some z ∧ Q z S
  | .st a, E, S, Q => brwW a E S (wpE a E S) fun x S => ∃ l, setOf (drf S x) = some l ∧ Q (.set l) S
  | .is b n a, E, S, Q => wpE a E S fun x S => ∃ c, x = .bl c ∧ Q (.bl (if n then !decide (c = b) else decide (c = b))) S
  | .rev a, E, S, Q => brwW a E S (wpE a E S) fun x S => ∃ z, revD (drf S x) = some z ∧ Q z S
  | .dic0, _, S, Q => Q (.dic []) S
  | .xis i n, E, S, Q => ∃ c fs, E[i]? = some (some (.xv c fs)) ∧ ∃ t, C.sub c n = some t ∧ Q (.bl t) S
  | .exv c es, E, S, Q => wpEs es E S fun ds S => ∃ x, raiseD (C.exn c) c ds = some x ∧ Q x S
  | .exf c f a, E, S, Q => wpE a E S fun d S => C.exn c = some [f] ∧ Q d S
  | .xiv a n, E, S, Q => wpE a E S fun x S => ∃ c fs, x = .exc c fs ∧ ∃ t, C.sub c n = some t ∧ Q (.bl t) S
  | .cnt a b, E, S, Q => brwW a E S (wpE a E S) fun x S => ∃ z, cntD (drf S x) b = some z ∧ Q z S
  | .xat i f, E, S, Q => ∃ c fs, E[i]? = some (some (.xv c fs)) ∧ ∃ fl, C.exn c = some fl ∧ f ∈ fl ∧ ∃ z, fs.lookup f = some z ∧ Q z S
def wpO : IO → En → Sh → (Option Int → Sh → Prop) → Prop
  | .no, _, S, Q => Q none S
  | .ye e, E, S, Q => wpE e E S fun x S => ∃ i, x = .int i ∧ Q (some i) S
def wpEs : IEs → En → Sh → (List D → Sh → Prop) → Prop
  | .nil, _, S, Q => Q [] S
  | .cons e es, E, S, Q => wpE e E S fun x S => wpEs es E S fun xs S => Q (x :: xs) S
def wpAs : IEs → En → Sh → (List D → Sh → Prop) → Prop
  | .nil, _, S, Q => Q [] S
  | .cons e es, E, S, Q => brwW e E S (wpE e E S) fun x S => wpAs es E S fun xs S => Q (x :: xs) S
def wpL : LE → En → Sh → (List D → Sh → Prop) → Prop
  | .disp es, E, S, Q => wpEs es E S fun ds S => ds.length ≤ LIM ∧ Q ds S
  | .comp elt tg it cond vs, E, S, Q => wpI it E S fun xs S => Ok (compL (compF C elt tg cond vs E) xs [] S) Q
  | .list a, E, S, Q => brwW a E S (wpE a E S) fun x S => ∃ l, seqD (drf S x) = some l ∧ Q l S
  | .sorted a, E, S, Q => brwW a E S (wpE a E S) fun x S => (∃ xs l, drf S x = .lst xs ∧ intsOf xs = some l ∧ Q ((sortI l).map .int) S) ∨ (∃ xs, drf S x = .set xs ∧ xs.length < 64 ∧ Q ((sortI xs).map .int) S)
  | .rep a n, E, S, Q => brwW a E S (wpE a E S) fun x S => wpE n E S fun y S => ∃ xs, binD .mul (drf S x) y = some (.lst xs) ∧ Q xs S
def wpC : IO → En → Sh → (Bool → Sh → Prop) → Prop
  | .no, _, S, Q => Q true S
  | .ye e, E, S, Q => brwW e E S (wpE e E S) fun x S => ∃ t, truD (drf S x) = some t ∧ Q t S
def wpI : II → En → Sh → (List D → Sh → Prop) → Prop
  | .seq a, E, S, Q => wpE a E S fun x S => ∃ l, seqI x = some l ∧ Q l S
  | .rng1 a, E, S, Q => wpE a E S fun x S => ∃ n, x = .int n ∧ -(LIM : Int) ≤ n ∧ n ≤ LIM ∧ Q (rngD 0 n) S
  | .rng2 a b, E, S, Q => wpE a E S fun x S => wpE b E S fun y S => ∃ i j, x = .int i ∧ y = .int j ∧ (-(LIM : Int) ≤ i ∧ i ≤ LIM ∧ -(LIM : Int) ≤ j ∧ j ≤ LIM) ∧ Q (rngD i j) S
  | .enum a, E, S, Q => wpE a E S fun x S => ∃ l, seqD x = some l ∧ Q (enumD 0 l) S
  | .zip a b, E, S, Q => wpE a E S fun x S => wpE b E S fun y S => ∃ l m, seqD x = some l ∧ seqD y = some m ∧ Q (zipD l m) S
end
def wpT (t : IE) (E : En) (S : Sh) (Q : Bool → Sh → Prop) : Prop := brwW t E S (wpE C X t E S) fun x S => ∃ b, truD (drf S x) = some b ∧ Q b S
end
section
variable {C : Calls} {X : D → Sh → Prop}
theorem brwW_ok {a : IE} {E : En} {S : Sh} {Q : D → Sh → Prop} (ih : ∀ Q, wpE C X a E S Q → OkX (ev C a E S) Q X) (h : brwW a E S (wpE C X a E S) Q) : OkX (brw a E S (ev C a E S)) Q X := by
  cases a with
  | v i => exact Ok.lift h
  | _ => exact ih Q h
mutual
theorem wpE_ok : ∀ (e : IE) (E : En) (S : Sh) (Q : D → Sh → Prop), wpE C X e E S Q → OkX (ev C e E S) Q X
  | .c d, E, S, Q, h => Ok.ret h
  | .g n, E, S, Q, h => Ok.lift h
  | .v i, E, S, Q, h => Ok.lift h
  | .tup es, E, S, Q, h => OkX.bind ((wpEs_ok es E S _ h).monoX fun ds S q => by rw [if_pos q.1]; exact Ok.ret q.2)
  | .l le, E, S, Q, h => OkX.bind ((wpL_ok le E S _ h).monoX fun ds S q => Ok.ret q)
  | .sh le, E, S, Q, h => OkX.bind ((wpL_ok le E S _ h).monoX fun ds S q => Ok.ret q)
  | .bin o a b, E, S, Q, h => OkX.bind ((brwW_ok (wpE_ok a E S) h).monoX fun x S q => OkX.bind ((brwW_ok (wpE_ok b E S) q).monoX fun y S q => Ok.lift q))
  | .neg a, E, S, Q, h => OkX.bind ((wpE_ok a E S _ h).monoX fun x S ⟨i, e, q⟩ => by subst e; exact Ok.ret q)
  | .cmp o a b, E, S, Q, h => OkX.bind ((brwW_ok (wpE_ok a E S) h).monoX fun x S q => OkX.bind ((brwW_ok (wpE_ok b E S) q).monoX fun y S ⟨t, e, q⟩ => OkX.bind (Ok.lift ⟨t, e, Ok.ret q⟩)))
  | .cmpc o1 o2 a b c, E, S, Q, h => OkX.bind ((wpE_ok a E S _ h).monoX fun x S q => OkX.bind ((wpE_ok b E S _ q).monoX fun y S ⟨t, e, q⟩ => OkX.bind (Ok.lift ⟨t, e, by
      cases t with
      | true => exact OkX.bind ((wpE_ok c E S (fun z S => ∃ t, cmpD o2 (drf S y) (drf S z) = some t ∧ Q (.bl t) S) (by simpa using q)).monoX fun z S ⟨t, e, q⟩ => OkX.bind (Ok.lift ⟨t, e, Ok.ret q⟩))
      | false => exact Ok.ret (by simpa using q)⟩)))
  | .isn a, E, S, Q, h => OkX.bind ((wpE_ok a E S _ h).monoX fun x S q => by cases x <;> exact Ok.ret q)
  | .nnn a, E, S, Q, h => OkX.bind ((wpE_ok a E S _ h).monoX fun x S q => by cases x <;> exact Ok.ret q)
  | .not a, E, S, Q, h => OkX.bind (OkX.bind ((brwW_ok (wpE_ok a E S) h).monoX fun x S ⟨t, e, q⟩ => Ok.lift ⟨t, e, Ok.ret q⟩))
  | .and a b, E, S, Q, h => OkX.bind ((wpE_ok a E S _ h).monoX fun x S ⟨t, e, q⟩ => by
      try dsimp only
      rw [e]
      cases t with
      | true => exact wpE_ok b E S _ (by simpa using q)
      | false => exact Ok.ret (by simpa using q))
  | .or a b, E, S, Q, h => OkX.bind ((wpE_ok a E S _ h).monoX fun x S ⟨t, e, q⟩ => by
      try dsimp only
      rw [e]
      cases t with
      | true => exact Ok.ret (by simpa using q)
      | false => exact wpE_ok b E S _ (by simpa using q))
  | .ife t a b, E, S, Q, h => OkX.bind (OkX.bind ((brwW_ok (wpE_ok t E S) h).monoX fun x S ⟨t, e, q⟩ => Ok.lift ⟨t, e, by
      cases t with
      | true => exact wpE_ok a E S _ (by simpa using q)
      | false => exact wpE_ok b E S _ (by simpa using q)⟩))
  | .call f es, E, S, Q, h => OkX.bind (wpEs_ok es E S _ h)
  | .mk c es, E, S, Q, h => OkX.bind (wpEs_ok es E S _ h)
  | .bi b es, E, S, Q, h => OkX.bind ((wpAs_ok es E S _ h).monoX fun ds S q => Ok.lift q)
  | .ix a b, E, S, Q, h => OkX.bind ((brwW_ok (wpE_ok a E S) h).monoX fun x S q => OkX.bind ((wpE_ok b E S _ q).monoX fun y S q => Ok.lift q))
  | .sl a lo hi, E, S, Q, h => OkX.bind ((brwW_ok (wpE_ok a E S) h).monoX fun x S q => OkX.bind ((wpO_ok lo E S _ q).monoX fun l S q => OkX.bind ((wpO_ok hi E S _ q).monoX fun l S q => Ok.lift q)))
  | .at a f, E, S, Q, h => OkX.bind ((wpE_ok a E S _ h).monoX fun x S q => Ok.lift q)
  | .st a, E, S, Q, h => OkX.bind ((brwW_ok (wpE_ok a E S) h).monoX fun x S ⟨l, e, q⟩ => OkX.bind (Ok.lift ⟨l, e, Ok.ret q⟩))
  | .is b n a, E, S, Q, h => OkX.bind ((wpE_ok a E S _ h).monoX fun x S ⟨c, e, q⟩ => by subst e; exact ⟨q⟩)
  | .rev a, E, S, Q, h => OkX.bind ((brwW_ok (wpE_ok a E S) h).monoX fun x S q => Ok.lift q)
  | .dic0, E, S, Q, h => Ok.ret h
  | .xis i n, E, S, Q, h => by
    obtain ⟨c, fs, e, t, e2, q⟩ := h
    unfold ev
    rw [e]
    exact OkX.bind (Ok.lift ⟨t, e2, ⟨q⟩⟩)
  | .exv c es, E, S, Q, h => OkX.bind ((wpEs_ok es E S _ h).monoX fun ds S q => Ok.lift q)
  | .exf c f a, E, S, Q, h => OkX.bind ((wpE_ok a E S _ h).monoX fun d S ⟨e, q⟩ => by rw [if_pos e]; exact ⟨q⟩)
  | .xiv a n, E, S, Q, h => OkX.bind ((wpE_ok a E S _ h).monoX fun x S ⟨c, fs, e, t, e2, q⟩ => by
    subst e
    exact OkX.bind (Ok.lift ⟨t, e2, ⟨q⟩⟩))
  | .cnt a b, E, S, Q, h => OkX.bind ((brwW_ok (wpE_ok a E S) h).monoX fun x S q => Ok.lift q)
  | .xat i f, E, S, Q, h => by
    obtain ⟨c, fs, e, fl, e2, hm, z, e3, q⟩ := h
    unfold ev
    rw [e]
    show OkX (match C.exn c with
      | some fl => if fl.contains f then lift (fs.lookup f) S else .bad
      | none => .bad) Q X
    rw [e2]
    show OkX (if fl.contains f then lift (fs.lookup f) S else .bad) Q X
    rw [if_pos (by simpa using hm)]
    exact Ok.lift ⟨z, e3, q⟩
theorem wpO_ok : ∀ (e : IO) (E : En) (S : Sh) (Q : Option Int → Sh → Prop), wpO C X e E S Q → OkX (evO C e E S) Q X
  | .no, E, S, Q, h => Ok.ret h
  | .ye e, E, S, Q, h => OkX.bind ((wpE_ok e E S _ h).monoX fun x S ⟨i, e, q⟩ => by subst e; exact Ok.ret q)
theorem wpEs_ok : ∀ (e : IEs) (E : En) (S : Sh) (Q : List D → Sh → Prop), wpEs C X e E S Q → OkX (evs C e E S) Q X
  | .nil, E, S, Q, h => Ok.ret h
  | .cons e es, E, S, Q, h => OkX.bind ((wpE_ok e E S _ h).monoX fun x S q => OkX.bind ((wpEs_ok es E S _ q).monoX fun xs S q => Ok.ret q))
theorem wpAs_ok : ∀ (e : IEs) (E : En) (S : Sh) (Q : List D → Sh → Prop), wpAs C X e E S Q → OkX (evAs C e E S) Q X
  | .nil, E, S, Q, h => Ok.ret h
  | .cons e es, E, S, Q, h => OkX.bind ((brwW_ok (wpE_ok e E S) h).monoX fun x S q => OkX.bind ((wpAs_ok es E S _ q).monoX fun xs S q => Ok.ret q))
theorem wpL_ok : ∀ (e : LE) (E : En) (S : Sh) (Q : List D → Sh → Prop), wpL C X e E S Q → OkX (evL C e E S) Q X
  | .disp es, E, S, Q, h => OkX.bind ((wpEs_ok es E S _ h).monoX fun ds S q => by rw [if_pos q.1]; exact Ok.ret q.2)
  | .comp elt tg it cond vs, E, S, Q, h => OkX.bind ((wpI_ok it E S _ h).monoX fun xs S q => by
      obtain ⟨ys, S', e, q⟩ := Ok.ex q
      show OkX (noEx (compL (compF C elt tg cond vs E) xs [] S)) Q X
      rw [e]
      exact ⟨q⟩)
  | .list a, E, S, Q, h => by
    unfold wpL at h
    exact OkX.bind ((brwW_ok (wpE_ok a E S) h).monoX fun x S q => Ok.lift q)
  | .sorted a, E, S, Q, h => by
    unfold wpL at h
    exact OkX.bind ((brwW_ok (wpE_ok a E S) h).monoX fun x S q => by
      try dsimp only
      rcases q with ⟨xs, l, e1, e2, q⟩ | ⟨xs, e1, e2, q⟩
      · rw [e1]
        exact OkX.bind (Ok.lift ⟨l, e2, Ok.ret q⟩)
      · rw [e1]
        try dsimp only
        rw [if_pos e2]
        exact Ok.ret q)
  | .rep a n, E, S, Q, h => by
    unfold wpL at h
    exact OkX.bind ((brwW_ok (wpE_ok a E S) h).monoX fun x S q => OkX.bind ((wpE_ok n E S _ q).monoX fun y S ⟨xs, e, q⟩ => by
      try dsimp only
      rw [e]
      exact Ok.ret q))
theorem wpC_ok : ∀ (e : IO) (E : En) (S : Sh) (Q : Bool → Sh → Prop), wpC C X e E S Q → OkX (evC C e E S) Q X
  | .no, E, S, Q, h => Ok.ret h
  | .ye e, E, S, Q, h => by
    unfold wpC at h
    exact OkX.bind ((brwW_ok (wpE_ok e E S) h).monoX fun x S q => Ok.lift q)
theorem wpI_ok : ∀ (e : II) (E : En) (S : Sh) (Q : List D → Sh → Prop), wpI C X e E S Q → OkX (evI C e E S) Q X
  | .seq a, E, S, Q, h => OkX.bind ((wpE_ok a E S _ h).monoX fun x S q => Ok.lift q)
  | .rng1 a, E, S, Q, h => OkX.bind ((wpE_ok a E S _ h).monoX fun x S ⟨n, e, h1, h2, q⟩ => by
      subst e
      try dsimp only
      rw [if_pos ⟨h1, h2⟩]
      exact Ok.ret q)
  | .rng2 a b, E, S, Q, h => OkX.bind ((wpE_ok a E S _ h).monoX fun x S q => OkX.bind ((wpE_ok b E S _ q).monoX fun y S ⟨i, j, e1, e2, h1, q2⟩ => by
      subst e1 e2
      try dsimp only
      rw [if_pos h1]
      exact Ok.ret q2))
  | .enum a, E, S, Q, h => OkX.bind ((wpE_ok a E S _ h).monoX fun x S ⟨l, e, q⟩ => by
      try dsimp only
      rw [e]
      exact Ok.ret q)
  | .zip a b, E, S, Q, h => OkX.bind ((wpE_ok a E S _ h).monoX fun x S q => OkX.bind ((wpE_ok b E S _ q).monoX fun y S ⟨l, m, e1, e2, q⟩ => by
      try dsimp only
      rw [e1, e2]
      exact Ok.ret q))
end
theorem wpT_ok {t : IE} {E : En} {S : Sh} {Q : Bool → Sh → Prop} (h : wpT C X t E S Q) : OkX (tst t E S (ev C t E S)) Q X :=
  OkX.bind ((brwW_ok (wpE_ok t E S) h).monoX fun x S q => Ok.lift q)

/-! ### statements -/
/-- a block's end: the flow and the slots -/
def wpB (C : Calls) (b : ISs) (E : En) (S : Sh) (Q : Fl → En → Sh → Prop) : Prop := Ok (exB C b E S) fun r S => Q r.1 r.2 S
def wpSE (C : Calls) (X : D → Sh → Prop) : SE → En → Sh → (List Int → Sh → Prop) → Prop
  | .emp, _, S, Q => Q [] S
  | .set a, E, S, Q => brwW a E S (wpE C X a E S) fun x S => ∃ l, setOf (drf S x) = some l ∧ Q l S
def wpPar : List Nat → List D → En → (En → Prop) → Prop
  | [], [], E, Q => Q E
  | i :: is, d :: ds, E, Q => i < E.length ∧ wpPar is ds (E.set i (some (.v d))) Q
  | _, _, _, _ => False
theorem wpPar_ok : ∀ {is : List Nat} {ds : List D} {E : En} {Q : En → Prop}, wpPar is ds E Q → ∃ E1, setPar is ds E = some E1 ∧ Q E1
  | [], [], E, Q, h => ⟨E, rfl, h⟩
  | i :: is, d :: ds, E, Q, h => by
    obtain ⟨E1, e, q⟩ := wpPar_ok (is := is) (ds := ds) h.2
    refine ⟨E1, ?_, q⟩
    simp only [setPar, setSl]
    rw [if_pos h.1]
    exact e
  | [], _ :: _, E, Q, h => h.elim
  | _ :: _, [], E, Q, h => h.elim
/-- what is raised by an expression ends the statement -/
def XQ (Q : Fl → En → Sh → Prop) (E : En) : D → Sh → Prop := fun x S => Q (.exc x) E S
/-- a suite's end -/
def suQ (g : En → En) (Q : Fl → En → Sh → Prop) (f : Fl) (E : En) (S : Sh) : Prop := match f with
  | .exc _ => False
  | f => Q f (g (noX E)) S
def wpH (C : Calls) (c : Nat) (fs : List (Nat × D)) : Hs → En → Sh → (Fl → En → Sh → Prop) → Prop
  | .nil, E, S, Q => Q (.exc (.exc c fs)) E S
  | .cons n su r, E, S, Q => ∃ t, C.sub c n = some t ∧ if t = true then wpB C.hot su (noX E) S (suQ id Q) else wpH C c fs r E S Q
theorem suQ_ok {f : En → En} {r : Res (Fl × En)} {Q : Fl → En → Sh → Prop} (h : Ok r fun r S => suQ f Q r.1 r.2 S) : Ok (r.bind (suEnd f)) fun r S => Q r.1 r.2 S := by
  cases r with
  | ok p S =>
    obtain ⟨fl, E⟩ := p
    cases fl with
    | exc x => exact h.of.elim
    | nx => exact ⟨h.of⟩
    | brk => exact ⟨h.of⟩
    | cnt => exact ⟨h.of⟩
    | ret d => exact ⟨h.of⟩
  | ex x S => exact ⟨h.of⟩
  | bad => exact h.of.elim
theorem wpH_ok {C : Calls} {c : Nat} {fs : List (Nat × D)} {Q : Fl → En → Sh → Prop} : ∀ (hs : Hs) {E : En} {S : Sh}, wpH C c fs hs E S Q → Ok (exH C c fs hs E S) fun r S => Q r.1 r.2 S
  | .nil, E, S, h => ⟨h⟩
  | .cons n su r, E, S, ⟨t, e, h⟩ => by
    unfold exH
    rw [e]
    cases t with
    | true => exact suQ_ok (show wpB C.hot su (noX E) S (suQ id Q) by simpa using h)
    | false => exact wpH_ok r (by simpa using h)
/-- behind a try's body -/
def tryQ (C : Calls) (n i : Nat) (su : ISs) (Q : Fl → En → Sh → Prop) (f : Fl) (E1 : En) (S1 : Sh) : Prop := match f with
  | .exc x => ∃ c fs, x = .exc c fs ∧ ∃ t, C.sub c n = some t ∧ if t = true then wpB C.hot su ((noX E1).set i (some (.xv c fs))) S1 (suQ (fun E => E.set i none) Q) else Q (.exc x) E1 S1
  | f => Q f E1 S1
def tryQM (C : Calls) (hs : Hs) (Q : Fl → En → Sh → Prop) (f : Fl) (E1 : En) (S1 : Sh) : Prop := match f with
  | .exc x => ∃ c fs, x = .exc c fs ∧ wpH C c fs hs E1 S1 Q
  | f => Q f E1 S1
/-- what a statement is asked for -/
def wpS (C : Calls) (s : IS) (E : En) (S : Sh) (Q : Fl → En → Sh → Prop) : Prop := match s with
  | .asg tg e => wpE C (XQ Q E) e E S fun d S => wpG tg d E fun E => Q .nx E S
  | .par is es => wpEs C (XQ Q E) es E S fun ds S => ds.length ≤ LIM ∧ wpPar is ds E fun E => Q .nx E S
  | .own i le => wpL C (XQ Q E) le E S fun ds S => i < E.length ∧ Q .nx (E.set i (some (.ol ds))) S
  | .owns i se => wpSE C (XQ Q E) se E S fun l S => i < E.length ∧ Q .nx (E.set i (some (.os l))) S
  | .aug i o e => ∃ x, E[i]? = some (some (.v x)) ∧ wpE C (XQ Q E) e E S fun y S => ∃ z, augD o x y = some z ∧ i < E.length ∧ Q .nx (E.set i (some (.v z))) S
  | .app i e => ∃ xs, E[i]? = some (some (.ol xs)) ∧ wpE C (XQ Q E) e E S fun d S => xs.length < LIM ∧ i < E.length ∧ Q .nx (E.set i (some (.ol (xs ++ [d])))) S
  | .ext i e => ∃ xs, E[i]? = some (some (.ol xs)) ∧ brwW e E S (wpE C (XQ Q E) e E S) fun d S => ∃ ys, drf S d = .lst ys ∧ xs.length + ys.length ≤ LIM ∧ i < E.length ∧ Q .nx (E.set i (some (.ol (xs ++ ys)))) S
  | .add i e => ∃ xs, E[i]? = some (some (.os xs)) ∧ wpE C (XQ Q E) e E S fun d S => ∃ x, d = .int x ∧ xs.length < 4000 ∧ i < E.length ∧ Q .nx (E.set i (some (.os (addS xs x)))) S
  | .sti i ix e => ∃ xs, E[i]? = some (some (.ol xs)) ∧ wpE C (XQ Q E) e E S fun d S => wpE C (XQ Q E) ix E S fun k S => ∃ j n, k = .int j ∧ ixAt xs.length j = some n ∧ i < E.length ∧ Q .nx (E.set i (some (.ol (xs.set n d)))) S
  | .sts o ix e => wpE C (XQ Q E) e E S fun d S => wpE C (XQ Q E) o E S fun x S => wpE C (XQ Q E) ix E S fun k S => ∃ l xs j n, x = .ref l ∧ S[l]? = some (.lst xs) ∧ k = .int j ∧ ixAt xs.length j = some n ∧ Q .nx E (S.set l (.lst (xs.set n d)))
  | .sat o f e => wpE C (XQ Q E) e E S fun d S => wpE C (XQ Q E) o E S fun x S => ∃ l c fs, x = .ref l ∧ S[l]? = some (.ins c fs) ∧ fs.length < 900 ∧ Q .nx E (S.set l (.ins c (putF f d fs)))
  | .expr e => wpE C (XQ Q E) e E S fun _ S => Q .nx E S
  | .ret e => wpE C (XQ Q E) e E S fun d S => Q (.ret d) E S
  | .retn => Q (.ret .non) E S
  | .pas => Q .nx E S
  | .brk => Q .brk E S
  | .cnt => Q .cnt E S
  | .ite t a b => wpT C (XQ Q E) t E S fun t S => if t = true then wpB C a E S Q else wpB C b E S Q
  | .for tg it b => wpI C (XQ Q E) it E S fun xs S => Ok (forL (forF C tg b) xs E S) fun r S => Q r.1 r.2 S
  | .whl t b => Ok (whlL (fun E S => tst t E S (ev C t E S)) (exB C b) WFU E S) fun r S => Q r.1 r.2 S
  | .nvr => False
  | .raise c es => wpEs C (XQ Q E) es E S fun ds S => ∃ x, raiseD (C.exn c) c ds = some x ∧ Q (.exc x) E S
  | .tryA b n i su => wpB C b E S (tryQ C n i su Q)
  | .tryM b hs => wpB C b E S (tryQM C hs Q)
theorem setSl_ok {E : En} {i : Nat} {s : Sl} {S : Sh} {Q : Fl → En → Sh → Prop} (hi : i < E.length) (q : Q .nx (E.set i (some s)) S) : Ok (nxt (setSl E i s) S) fun r S => Q r.1 r.2 S := by
  unfold setSl
  rw [if_pos hi]
  exact ⟨q⟩
theorem wpS_ok (s : IS) {E : En} {S : Sh} {Q : Fl → En → Sh → Prop} (h : wpS C s E S Q) : Ok (exS C s E S) fun r S => Q r.1 r.2 S := by
  cases s with
  | asg tg e => exact OkX.bindS ((wpE_ok e E S _ h).monoX fun d S q => by
      obtain ⟨E1, e1, q⟩ := wpG_ok tg q
      try dsimp only
      rw [e1]
      exact ⟨q⟩)
  | par is es => exact OkX.bindS ((wpEs_ok es E S _ h).monoX fun ds S q => by
      obtain ⟨E1, e1, q2⟩ := wpPar_ok q.2
      rw [if_pos q.1, e1]
      exact ⟨q2⟩)
  | own i le => exact OkX.bindS ((wpL_ok le E S _ h).monoX fun ds S q => setSl_ok q.1 q.2)
  | owns i se =>
    refine OkX.bindS (OkX.monoX (Q := fun l S => i < E.length ∧ Q .nx (E.set i (some (.os l))) S) ?_ fun l S q => setSl_ok q.1 q.2)
    cases se with
    | emp => exact Ok.ret h
    | set a =>
      replace h : brwW a E S (wpE C (XQ Q E) a E S) fun x S => ∃ l, setOf (drf S x) = some l ∧ i < E.length ∧ Q .nx (E.set i (some (.os l))) S := h
      exact OkX.bind ((brwW_ok (wpE_ok a E S) h).monoX fun x S q => Ok.lift q)
  | aug i o e =>
    obtain ⟨x, ex, h⟩ := h
    unfold exS
    rw [ex]
    exact OkX.bindS ((wpE_ok e E S _ h).monoX fun y S ⟨z, e, hi, q⟩ => OkX.bindS (Ok.lift ⟨z, e, setSl_ok hi q⟩))
  | app i e =>
    obtain ⟨xs, ex, h⟩ := h
    unfold exS
    rw [ex]
    exact OkX.bindS ((wpE_ok e E S _ h).monoX fun y S ⟨h1, h2, q⟩ => by rw [if_pos h1]; exact setSl_ok h2 q)
  | ext i e =>
    obtain ⟨xs, ex, h⟩ := h
    unfold exS
    rw [ex]
    exact OkX.bindS ((brwW_ok (wpE_ok e E S) h).monoX fun y S ⟨ys, e, h1, h2, q⟩ => by
      try dsimp only
      rw [e]
      try dsimp only
      rw [if_pos h1]
      exact setSl_ok h2 q)
  | add i e =>
    obtain ⟨xs, ex, h⟩ := h
    unfold exS
    rw [ex]
    exact OkX.bindS ((wpE_ok e E S _ h).monoX fun y S ⟨x, e, h1, h2, q⟩ => by
      subst e
      try dsimp only
      rw [if_pos h1]
      exact setSl_ok h2 q)
  | sti i ix e =>
    obtain ⟨xs, ex, h⟩ := h
    unfold exS
    rw [ex]
    exact OkX.bindS ((wpE_ok e E S _ h).monoX fun d S q => OkX.bindS ((wpE_ok ix E S _ q).monoX fun k S ⟨j, n, e, e2, h2, q⟩ => by
      subst e
      try dsimp only
      rw [e2]
      exact setSl_ok h2 q))
  | sts o ix e => exact OkX.bindS ((wpE_ok e E S _ h).monoX fun d S q => OkX.bindS ((wpE_ok o E S _ q).monoX fun x S q => OkX.bindS ((wpE_ok ix E S _ q).monoX fun k S ⟨l, xs, j, n, e1, e2, e3, e4, q3⟩ => by
      subst e1 e3
      try dsimp only
      rw [e2]
      try dsimp only
      rw [e4]
      exact ⟨q3⟩)))
  | sat o f e => exact OkX.bindS ((wpE_ok e E S _ h).monoX fun d S q => OkX.bindS ((wpE_ok o E S _ q).monoX fun x S ⟨l, c, fs, e1, e2, e3, q3⟩ => by
      subst e1
      try dsimp only
      rw [e2]
      try dsimp only
      rw [if_pos e3]
      exact ⟨q3⟩))
  | expr e => exact OkX.bindS ((wpE_ok e E S _ h).monoX fun d S q => Ok.ret q)
  | ret e => exact OkX.bindS ((wpE_ok e E S _ h).monoX fun d S q => Ok.ret q)
  | retn => exact Ok.ret h
  | pas => exact Ok.ret h
  | brk => exact Ok.ret h
  | cnt => exact Ok.ret h
  | ite t a b => exact OkX.bindS ((wpT_ok h).monoX fun t S q => by
      cases t with
      | true => exact (show wpB C a E S Q by simpa using q)
      | false => exact (show wpB C b E S Q by simpa using q))
  | «for» tg it b => exact OkX.bindS (wpI_ok it E S _ h)
  | whl t b => exact h
  | nvr => exact h.elim
  | raise c es => exact OkX.bindS ((wpEs_ok es E S _ h).monoX fun ds S ⟨x, e1, q⟩ => by
      show Ok (match raiseD (C.exn c) c ds with
        | some x => (.ok (Fl.exc x, E) S : Res (Fl × En))
        | none => .bad) _
      rw [e1]
      exact ⟨q⟩)
  | tryA b n i su =>
    unfold exS
    refine OkX.bind (OkX.monoX (show wpB C b E S (tryQ C n i su Q) from h) fun r S1 q => ?_)
    obtain ⟨f, E1⟩ := r
    cases f with
    | exc x =>
      obtain ⟨c, fs, rfl, t, e, q⟩ := q
      show Ok (match C.sub c n with
        | some true => (exB C.hot su ((noX E1).set i (some (.xv c fs))) S1).bind (suEnd fun E => E.set i none)
        | some false => .ok (.exc (.exc c fs), E1) S1
        | none => .bad) _
      rw [e]
      cases t with
      | true => exact suQ_ok (show wpB C.hot su _ S1 (suQ (fun E => E.set i none) Q) by simpa using q)
      | false => exact ⟨(show Q _ E1 S1 by simpa using q)⟩
    | nx => exact ⟨q⟩
    | brk => exact ⟨q⟩
    | cnt => exact ⟨q⟩
    | ret d => exact ⟨q⟩
  | tryM b hs =>
    unfold exS
    refine OkX.bind (OkX.monoX (show wpB C b E S (tryQM C hs Q) from h) fun r S1 q => ?_)
    obtain ⟨f, E1⟩ := r
    cases f with
    | exc x =>
      obtain ⟨c, fs, rfl, q⟩ := q
      exact wpH_ok hs q
    | nx => exact ⟨q⟩
    | brk => exact ⟨q⟩
    | cnt => exact ⟨q⟩
    | ret d => exact ⟨q⟩
theorem b_nilW {E : En} {S : Sh} {Q : Fl → En → Sh → Prop} (h : Q .nx E S) : wpB C .nil E S Q := ⟨h⟩
/-- the next statement -/
def wpN (C : Calls) (b : ISs) (Q : Fl → En → Sh → Prop) (f : Fl) (E : En) (S : Sh) : Prop := match f with
  | .nx => wpB C b E S Q
  | f => Q f E S
theorem b_consW {s : IS} {b : ISs} {E : En} {S : Sh} {Q : Fl → En → Sh → Prop} (h : wpS C s E S (wpN C b Q)) : wpB C (.cons s b) E S Q := by
  obtain ⟨⟨f, E1⟩, S1, e, q⟩ := Ok.ex (wpS_ok s h)
  unfold wpB
  have e2 : exB C (.cons s b) E S = (exS C s E S).bind fun r S => match r with
    | (.nx, E1) => exB C b E1 S
    | r => .ok r S := by
      simp only [exB]
      try rfl
  rw [e2, e]
  cases f with
  | nx => exact q
  | brk => exact ⟨q⟩
  | cnt => exact ⟨q⟩
  | ret d => exact ⟨q⟩
  | exc x => exact ⟨q⟩
def frzE (E : En) (i : Nat) : En := match E[i]? with
  | some (some (.ol xs)) => E.set i (some (.v (.lst xs)))
  | some (some (.os xs)) => E.set i (some (.v (.set xs)))
  | _ => E
theorem b_frzW {i : Nat} {b : ISs} {E : En} {S : Sh} {Q : Fl → En → Sh → Prop} (h : wpB C b (frzE E i) S Q) : wpB C (.frz i b) E S Q := by
  unfold wpB frzE at *
  have e2 : exB C (.frz i b) E S = (match E[i]? with
    | some (some (.ol xs)) => exB C b (E.set i (some (.v (.lst xs)))) S
    | some (some (.os xs)) => exB C b (E.set i (some (.v (.set xs)))) S
    | _ => exB C b E S) := rfl
  rw [e2]
  split at h <;> exact h
/-- a def -/
theorem fn_WX {pg : Pg} {k f : Nat} {fn : Fn} {ds : List D} {S : Sh} {Q : D → Sh → Prop} {X : D → Sh → Prop} (e : pg.fns[f]? = some fn) (hl : ds.length = fn.ps)
    (h : wpB (pg.calls k) fn.body (ds.map (fun d => some (.v d)) ++ List.replicate (fn.n - fn.ps) none) S fun f _ S => match f with
      | .nx => Q .non S
      | .ret d => Q d S
      | .exc x => X x S
      | _ => False) : OkX (callAt pg (k + 1) f ds S) Q X := by
  have e2 : callAt pg (k + 1) f ds S = runF (pg.calls k) fn ds S := by
    show (match pg.fns[f]? with
      | none => Res.bad
      | some fn => runF ⟨callAt pg k, mkI (callAt pg k) pg.ini, pg.gl, pg.sub, pg.exn⟩ fn ds S) = _
    rw [e]
    rfl
  rw [e2]
  unfold runF
  rw [if_pos hl]
  obtain ⟨⟨f, E1⟩, S1, e3, q⟩ := Ok.ex h
  rw [e3]
  cases f with
  | nx => exact ⟨q⟩
  | ret d => exact ⟨q⟩
  | exc x => exact ⟨q⟩
  | _ => exact q.elim
theorem fn_W {pg : Pg} {k f : Nat} {fn : Fn} {ds : List D} {S : Sh} {Q : D → Sh → Prop} (e : pg.fns[f]? = some fn) (hl : ds.length = fn.ps)
    (h : wpB (pg.calls k) fn.body (ds.map (fun d => some (.v d)) ++ List.replicate (fn.n - fn.ps) none) S fun f _ S => match f with
      | .nx => Q .non S
      | .ret d => Q d S
      | _ => False) : Ok (callAt pg (k + 1) f ds S) Q :=
  fn_WX e hl (OkX.monoX h fun r S q => by
    obtain ⟨f, E1⟩ := r
    cases f <;> exact q)

/-! ### loops -/
theorem compF_W {elt : IE} {tg : Tg} {cond : IO} {vs : List Nat} {E : En} {x : D} {S : Sh} {Q : Option D → Sh → Prop}
    (h : wpG tg x (wipeE E vs) fun E1 => wpC C NoX cond E1 S fun t S => if t = true then wpE C NoX elt E1 S fun y S => Q (some y) S else Q none S) : Ok (compF C elt tg cond vs E x S) Q := by
  obtain ⟨E1, e, h⟩ := wpG_ok tg h
  unfold compF
  rw [e]
  exact OkX.bind ((wpC_ok cond E1 S _ h).monoX fun t S q => by
    cases t with
    | true => exact OkX.bind ((wpE_ok elt E1 S _ (by simpa using q)).monoX fun y S q => Ok.ret q)
    | false => exact Ok.ret (by simpa using q))
/-- nothing is left as it was but by P; each item's result is told by R -/
theorem compL_ok {f : D → Sh → Res (Option D)} {P : Sh → Prop} {R : D → Option D → Prop} : ∀ (xs acc : List D) (S : Sh), acc.length + xs.length ≤ LIM → P S → (∀ x ∈ xs, ∀ S, P S → Ok (f x S) fun o S => P S ∧ R x o) →
    Ok (compL f xs acc S) fun ys S => P S ∧ ∃ os : List (Option D), os.length = xs.length ∧ (∀ (i : Nat) (x : D) (o : Option D), xs[i]? = some x → os[i]? = some o → R x o) ∧ ys = acc ++ os.filterMap id
  | [], acc, S, _, p, _ => ⟨p, [], rfl, by simp, by simp⟩
  | x :: xs, acc, S, hl, p, h => by
    obtain ⟨o, S1, e, p1, r⟩ := Ok.ex (h x List.mem_cons_self S p)
    simp only [List.length_cons] at hl
    have fin : ∀ acc', acc' = acc ++ [o].filterMap id → acc'.length + xs.length ≤ LIM → Ok (compL f xs acc' S1) fun ys S => P S ∧ ∃ os : List (Option D), os.length = (x :: xs).length ∧ (∀ (i : Nat) (x' : D) (o : Option D), (x :: xs)[i]? = some x' → os[i]? = some o → R x' o) ∧ ys = acc ++ os.filterMap id := fun acc' ea hl' => by
      refine (compL_ok xs acc' S1 hl' p1 fun y hy => h y (List.mem_cons_of_mem _ hy)).mono fun ys S2 ⟨p2, os, h1, h2, h3⟩ => ⟨p2, o :: os, by simp [h1], fun i x' o' q1 q2 => ?_, ?_⟩
      · cases i with
        | zero => simp at q1 q2; subst q1 q2; exact r
        | succ i => exact h2 i x' o' (by simpa using q1) (by simpa using q2)
      · rw [h3, ea, List.append_assoc]
        congr 1
        cases o <;> simp
    have e2 : compL f (x :: xs) acc S = (f x S).bind fun o S1 => match o with
      | none => compL f xs acc S1
      | some y => if acc.length < LIM then compL f xs (acc ++ [y]) S1 else .bad := rfl
    rw [e2, e]
    cases o with
    | none => exact fin acc (by simp) (by omega)
    | some y =>
      show Ok (if acc.length < LIM then compL f xs (acc ++ [y]) S1 else .bad) _
      rw [if_pos (by omega)]
      exact fin (acc ++ [y]) (by simp) (by simp; omega)
/-- each item gives one thing, and nothing else happens -/
theorem compL_map {f : D → Sh → Res (Option D)} {S : Sh} {g : D → Option D} (xs : List D) (hl : xs.length ≤ LIM) (h : ∀ x ∈ xs, f x S = .ok (g x) S) : compL f xs [] S = .ok (xs.filterMap g) S := by
  have key : ∀ (xs acc : List D), acc.length + xs.length ≤ LIM → (∀ x ∈ xs, f x S = .ok (g x) S) → compL f xs acc S = .ok (acc ++ xs.filterMap g) S := by
    intro xs
    induction xs with
    | nil => intro acc _ _; simp [compL]
    | cons x xs ih =>
      intro acc hl h
      simp only [List.length_cons] at hl
      have e2 : compL f (x :: xs) acc S = (f x S).bind fun o S1 => match o with
        | none => compL f xs acc S1
        | some y => if acc.length < LIM then compL f xs (acc ++ [y]) S1 else .bad := rfl
      rw [e2, h x List.mem_cons_self]
      cases q : g x with
      | none =>
        show compL f xs acc S = _
        rw [ih acc (by omega) fun y hy => h y (List.mem_cons_of_mem _ hy)]
        simp [List.filterMap_cons, q]
      | some y =>
        show (if acc.length < LIM then compL f xs (acc ++ [y]) S else .bad) = _
        rw [if_pos (by omega), ih (acc ++ [y]) (by simp; omega) fun y hy => h y (List.mem_cons_of_mem _ hy)]
        simp [List.filterMap_cons, q]
  simpa using key xs [] (by simpa using hl) h
theorem forF_W {tg : Tg} {b : ISs} {E : En} {x : D} {S : Sh} {Q : Fl → En → Sh → Prop} (h : wpG tg x E fun E1 => wpB C b E1 S Q) : Ok (forF C tg b x E S) fun r S => Q r.1 r.2 S := by
  obtain ⟨E1, e, h⟩ := wpG_ok tg h
  unfold forF
  rw [e]
  exact h
/-- a loop, by its invariant: I at the start of turn i; a turn goes on, breaks off or returns -/
theorem forL_ok {f : D → En → Sh → Res (Fl × En)} {I : Nat → En → Sh → Prop} {Q : Fl → En → Sh → Prop} (xs : List D) {E : En} {S : Sh} (h0 : I 0 E S)
    (h : ∀ i x E S, xs[i]? = some x → I i E S → Ok (f x E S) fun r S => match r.1 with
      | .nx => I (i + 1) r.2 S
      | .cnt => I (i + 1) r.2 S
      | .brk => Q .nx r.2 S
      | fl => Q fl r.2 S) (hd : ∀ E S, I xs.length E S → Q .nx E S) : Ok (forL f xs E S) fun r S => Q r.1 r.2 S := by
  have key : ∀ (ys : List D) (i : Nat) (E : En) (S : Sh), i ≤ xs.length → xs.drop i = ys → I i E S → Ok (forL f ys E S) fun r S => Q r.1 r.2 S := by
    intro ys
    induction ys with
    | nil =>
      intro i E S hile hy hi
      have e : i = xs.length := by
        have : xs.length ≤ i := by simpa using hy
        omega
      subst e
      exact ⟨hd E S hi⟩
    | cons y ys ih =>
      intro i E S hile hy hi
      have hlt : i < xs.length := by
        by_cases c : i < xs.length
        · exact c
        · rw [List.drop_eq_nil_of_le (by omega)] at hy; cases hy
      rw [List.drop_eq_getElem_cons hlt] at hy
      cases hy
      obtain ⟨⟨fl, E1⟩, S1, e, q⟩ := Ok.ex (h i xs[i] E S (List.getElem?_eq_getElem hlt) hi)
      have e2 : forL f (xs[i] :: xs.drop (i + 1)) E S = (f xs[i] E S).bind fun r S1 => match r with
        | (.nx, E1) => forL f (xs.drop (i + 1)) E1 S1
        | (.cnt, E1) => forL f (xs.drop (i + 1)) E1 S1
        | (.brk, E1) => .ok (.nx, E1) S1
        | r => .ok r S1 := rfl
      rw [e2, e]
      cases fl with
      | nx => exact ih (i + 1) E1 S1 hlt rfl q
      | cnt => exact ih (i + 1) E1 S1 hlt rfl q
      | brk => exact ⟨q⟩
      | ret d => exact ⟨q⟩
      | exc d => exact ⟨q⟩
  exact key xs 0 E S (Nat.zero_le _) rfl h0
end
end Qv
set_option Elab.async false
set_option linter.all false
set_option maxRecDepth 100000
set_option maxHeartbeats 4000000
/-! What each step comes to, as equations. -/
namespace Qv
open PySem
section
variable {S : Sh} {i j : Int} {a b : Bool} {xs ys : List D} {x y z u v : D} {s t : Str} {ns : List Int} {Q : D → Prop} {n m : Nat}
theorem drf_int : drf S (.int i) = .int i := rfl
theorem drf_bl : drf S (.bl a) = .bl a := rfl
theorem drf_non : drf S .non = .non := rfl
theorem drf_str : drf S (.str s) = .str s := rfl
theorem drf_tup : drf S (.tup xs) = .tup xs := rfl
theorem drf_lst : drf S (.lst xs) = .lst xs := rfl
theorem drf_scr : drf S (.scr ns) = .scr ns := rfl
theorem drf_set : drf S (.set ns) = .set ns := rfl
theorem drf_ty {k : String} : drf S (.ty k) = .ty k := rfl
theorem drf_ins {c : Nat} {fs : List (Nat × D)} : drf S (.ins c fs) = .ins c fs := rfl
theorem drf_glo {g : Nat} : drf S (.glo g) = .glo g := rfl
theorem drf_0 : drf (.lst xs :: S) (.ref 0) = .lst xs := rfl
theorem drf_of {l : Nat} (h : S[l]? = some (.lst xs)) : drf S (.ref l) = .lst xs := by
  show (match S[l]? with
    | some (.lst xs) => D.lst xs
    | _ => .ref l) = _
  rw [h]
theorem ixAt_nat (h : n < m) : ixAt m (n : Int) = some n := by
  unfold ixAt
  rw [if_pos (by omega), if_pos (by omega)]
  simp
theorem ixL0 : ixD (.lst (x :: xs)) (.int 0) = some x := by
  show (ixAt (x :: xs).length ((0 : Nat) : Int)).bind _ = _
  rw [ixAt_nat (by simp)]; rfl
theorem ixL1 : ixD (.lst (x :: y :: xs)) (.int 1) = some y := by
  show (ixAt (x :: y :: xs).length ((1 : Nat) : Int)).bind _ = _
  rw [ixAt_nat (by simp)]; rfl
theorem ixL2 : ixD (.lst (x :: y :: z :: xs)) (.int 2) = some z := by
  show (ixAt (x :: y :: z :: xs).length ((2 : Nat) : Int)).bind _ = _
  rw [ixAt_nat (by simp)]; rfl
theorem ixL3 : ixD (.lst (x :: y :: z :: u :: xs)) (.int 3) = some u := by
  show (ixAt (x :: y :: z :: u :: xs).length ((3 : Nat) : Int)).bind _ = _
  rw [ixAt_nat (by simp)]; rfl
theorem ixL4 : ixD (.lst (x :: y :: z :: u :: v :: xs)) (.int 4) = some v := by
  show (ixAt (x :: y :: z :: u :: v :: xs).length ((4 : Nat) : Int)).bind _ = _
  rw [ixAt_nat (by simp)]; rfl
theorem ixT0 : ixD (.tup (x :: xs)) (.int 0) = some x := by
  show (ixAt (x :: xs).length ((0 : Nat) : Int)).bind _ = _
  rw [ixAt_nat (by simp)]; rfl
theorem ixT1 : ixD (.tup (x :: y :: xs)) (.int 1) = some y := by
  show (ixAt (x :: y :: xs).length ((1 : Nat) : Int)).bind _ = _
  rw [ixAt_nat (by simp)]; rfl
theorem ixT2 : ixD (.tup (x :: y :: z :: xs)) (.int 2) = some z := by
  show (ixAt (x :: y :: z :: xs).length ((2 : Nat) : Int)).bind _ = _
  rw [ixAt_nat (by simp)]; rfl
theorem ixLn (h : xs[n]? = some x) : ixD (.lst xs) (.int (n : Int)) = some x := by
  show (ixAt xs.length (n : Int)).bind _ = _
  rw [ixAt_nat (List.getElem?_eq_some_iff.mp h).1]
  exact h
theorem ixTn (h : xs[n]? = some x) : ixD (.tup xs) (.int (n : Int)) = some x := by
  show (ixAt xs.length (n : Int)).bind _ = _
  rw [ixAt_nat (List.getElem?_eq_some_iff.mp h).1]
  exact h
theorem ixAt0 : ixAt (n + 1) 0 = some 0 := ixAt_nat (n := 0) (Nat.succ_pos n)
theorem ixAt1 : ixAt (n + 2) 1 = some 1 := ixAt_nat (n := 1) (by omega)
theorem ixAt2 : ixAt (n + 3) 2 = some 2 := ixAt_nat (n := 2) (by omega)
theorem ixAt3 : ixAt (n + 4) 3 = some 3 := ixAt_nat (n := 3) (by omega)
theorem ixAt4 : ixAt (n + 5) 4 = some 4 := ixAt_nat (n := 4) (by omega)
theorem tru_bl : truD (.bl a) = some a := rfl
theorem tru_int : truD (.int i) = some (i != 0) := rfl
theorem tru_tup : truD (.tup xs) = some (!xs.isEmpty) := rfl
theorem tru_lst : truD (.lst xs) = some (!xs.isEmpty) := rfl
theorem c_eq_int : cmpD .eq (.int i) (.int j) = some (decide (i = j)) := by
  show some (i == j) = _
  rw [Bool.eq_iff_iff.mpr (show (i == j) = true ↔ decide (i = j) = true by simp)]
theorem c_ne_int : cmpD .ne (.int i) (.int j) = some (!decide (i = j)) := by
  show some (!(i == j)) = _
  rw [Bool.eq_iff_iff.mpr (show (i == j) = true ↔ decide (i = j) = true by simp)]
theorem c_lt : cmpD .lt (.int i) (.int j) = some (decide (i < j)) := rfl
theorem c_le : cmpD .le (.int i) (.int j) = some (decide (i ≤ j)) := rfl
theorem c_gt : cmpD .gt (.int i) (.int j) = some (decide (j < i)) := rfl
theorem c_ge : cmpD .ge (.int i) (.int j) = some (decide (j ≤ i)) := rfl
theorem c_eq_bl : cmpD .eq (.bl a) (.bl b) = some (a == b) := rfl
theorem c_ne_bl : cmpD .ne (.bl a) (.bl b) = some (!(a == b)) := rfl
theorem c_in {h : x.flat = true} (e : seqD y = some ys) (h2 : ys.all D.flat = true) : cmpD .inn x y = some (ys.any fun z => D.beq z x) := by
  cases y with
  | lst l => cases e; cases x <;> first | (cases h; done) | (simp [cmpD, seqD, D.flat, h2])
  | tup l => cases e; cases x <;> first | (cases h; done) | (simp [cmpD, seqD, D.flat, h2])
  | _ => cases e
theorem c_nin {h : x.flat = true} (e : seqD y = some ys) (h2 : ys.all D.flat = true) : cmpD .nin x y = some (!ys.any fun z => D.beq z x) := by
  cases y with
  | lst l => cases e; cases x <;> first | (cases h; done) | (simp [cmpD, seqD, D.flat, h2])
  | tup l => cases e; cases x <;> first | (cases h; done) | (simp [cmpD, seqD, D.flat, h2])
  | _ => cases e
theorem c_in2 {k : Int} : cmpD .inn (.int i) (.tup [.int j, .int k]) = some (decide (j = i) || decide (k = i)) := by
  rw [c_in (h := rfl) rfl rfl]
  congr 1
  show ((j == i) || ((k == i) || false)) = _
  rw [Bool.or_false]
  congr 1
theorem c_inL {k : List Int} : cmpD .inn (.int i) (.lst (k.map .int)) = some (decide (i ∈ k)) := by
  rw [c_in (h := rfl) rfl (by simp [D.flat])]
  congr 1
  rw [List.any_map, Bool.eq_iff_iff]
  simp [D.beq]
theorem c_inT {k : List Int} : cmpD .inn (.int i) (.tup (k.map .int)) = some (decide (i ∈ k)) := by
  rw [c_in (h := rfl) rfl (by simp [D.flat])]
  congr 1
  rw [List.any_map, Bool.eq_iff_iff]
  simp [D.beq]
theorem c_ninT {k : List Int} : cmpD .nin (.int i) (.tup (k.map .int)) = some (!decide (i ∈ k)) := by
  rw [c_nin (h := rfl) rfl (by simp [D.flat])]
  congr 2
  rw [List.any_map, Bool.eq_iff_iff]
  simp [D.beq]
theorem b_len_l : biD .len [.lst xs] = some (.int xs.length) := rfl
theorem b_len_t : biD .len [.tup xs] = some (.int xs.length) := rfl
theorem b_len_s : biD .len [.scr ns] = some (.int ns.length) := rfl
theorem b_abs : biD .abs [.int i] = some (.int (if i < 0 then -i else i)) := rfl
theorem b_int : biD .int [.int i] = some (.int i) := rfl
theorem b_tup_l : biD .tuple [.lst xs] = some (.tup xs) := rfl
theorem b_tup_t : biD .tuple [.tup xs] = some (.tup xs) := rfl
theorem b_max : biD .max2 [.int i, .int j] = some (.int (if j > i then j else i)) := rfl
theorem b_min : biD .min2 [.int i, .int j] = some (.int (if j < i then j else i)) := rfl
theorem b_all : biD .all [.lst xs] = (blsOf xs).map fun l => .bl (l.all id) := rfl
theorem o_add : binD .add (.int i) (.int j) = some (.int (i + j)) := rfl
theorem o_sub : binD .sub (.int i) (.int j) = some (.int (i - j)) := rfl
theorem o_mul : (∃ z, binD .mul (.int i) (.int j) = some z ∧ Q z) = (mulOk i j ∧ Q (.int (i * j))) := by
  apply propext
  constructor
  · rintro ⟨z, e, q⟩
    simp only [binD] at e
    split at e <;> cases e
    exact ⟨by assumption, q⟩
  · rintro ⟨h, q⟩
    exact ⟨_, by simp only [binD]; rw [if_pos h], q⟩
theorem o_fdiv : (∃ z, binD .fdiv (.int i) (.int j) = some z ∧ Q z) = ((0 < j ∧ j < 1073741824) ∧ Q (.int (i / j))) := by
  apply propext
  constructor
  · rintro ⟨z, e, q⟩
    simp only [binD] at e
    split at e <;> cases e
    exact ⟨by assumption, q⟩
  · rintro ⟨h, q⟩
    exact ⟨_, by simp only [binD]; rw [if_pos h], q⟩
theorem o_mod : (∃ z, binD .mod (.int i) (.int j) = some z ∧ Q z) = (0 < j ∧ Q (.int (i % j))) := by
  apply propext
  constructor
  · rintro ⟨z, e, q⟩
    simp only [binD] at e
    split at e <;> cases e
    exact ⟨by assumption, q⟩
  · rintro ⟨h, q⟩
    exact ⟨_, by simp only [binD]; rw [if_pos h], q⟩
theorem o_pow : (∃ z, binD .pow (.int i) (.int j) = some z ∧ Q z) = ((0 ≤ j ∧ j ≤ 1000000 ∧ i.natAbs < 2 ^ 64) ∧ Q (.int (i ^ j.toNat))) := by
  apply propext
  constructor
  · rintro ⟨z, e, q⟩
    simp only [binD] at e
    split at e <;> cases e
    exact ⟨by assumption, q⟩
  · rintro ⟨h, q⟩
    exact ⟨_, by simp only [binD]; rw [if_pos h], q⟩
theorem o_catT : (∃ z, binD .add (.tup xs) (.tup ys) = some z ∧ Q z) = (xs.length + ys.length ≤ LIM ∧ Q (.tup (xs ++ ys))) := by
  apply propext
  constructor
  · rintro ⟨z, e, q⟩
    simp only [binD] at e
    split at e <;> cases e
    exact ⟨by assumption, q⟩
  · rintro ⟨h, q⟩
    exact ⟨_, by simp only [binD]; rw [if_pos h], q⟩
theorem o_catL : (∃ z, binD .add (.lst xs) (.lst ys) = some z ∧ Q z) = (xs.length + ys.length ≤ LIM ∧ Q (.lst (xs ++ ys))) := by
  apply propext
  constructor
  · rintro ⟨z, e, q⟩
    simp only [binD] at e
    split at e <;> cases e
    exact ⟨by assumption, q⟩
  · rintro ⟨h, q⟩
    exact ⟨_, by simp only [binD]; rw [if_pos h], q⟩
theorem o_repT : (∃ z, binD .mul (.tup xs) (.int i) = some z ∧ Q z) = ((1 ≤ i ∧ i ≤ 1000 ∧ xs ≠ [] ∧ xs.length ≤ 1000) ∧ Q (.tup (List.replicate i.toNat xs).flatten)) := by
  apply propext
  constructor
  · rintro ⟨z, e, q⟩
    simp only [binD] at e
    split at e <;> cases e
    exact ⟨by assumption, q⟩
  · rintro ⟨h, q⟩
    exact ⟨_, by simp only [binD]; rw [if_pos h], q⟩
theorem o_repL : (∃ z, binD .mul (.lst xs) (.int i) = some z ∧ Q z) = ((0 ≤ i ∧ i ≤ 1000 ∧ xs.length ≤ 1000) ∧ Q (.lst (List.replicate i.toNat xs).flatten)) := by
  apply propext
  constructor
  · rintro ⟨z, e, q⟩
    simp only [binD] at e
    split at e <;> cases e
    exact ⟨by assumption, q⟩
  · rintro ⟨h, q⟩
    exact ⟨_, by simp only [binD]; rw [if_pos h], q⟩
theorem o_repL2 {Q : List D → Prop} : (∃ zs, binD .mul (.lst xs) (.int i) = some (.lst zs) ∧ Q zs) = ((0 ≤ i ∧ i ≤ 1000 ∧ xs.length ≤ 1000) ∧ Q (List.replicate i.toNat xs).flatten) := by
  apply propext
  constructor
  · rintro ⟨z, e, q⟩
    simp only [binD] at e
    split at e <;> cases e
    exact ⟨by assumption, q⟩
  · rintro ⟨h, q⟩
    exact ⟨_, by simp only [binD]; rw [if_pos h], q⟩
theorem s_tupX {lo hi : Option Int} : slD (.tup xs) lo hi = some (.tup (cutD xs lo hi)) := rfl
theorem s_lstX {lo hi : Option Int} : slD (.lst xs) lo hi = some (.lst (cutD xs lo hi)) := rfl
theorem s_scrX {lo hi : Option Int} : slD (.scr ns) lo hi = some (.lst (cutD (ns.map .int) lo hi)) := rfl
theorem q_tup : seqD (.tup xs) = some xs := rfl
theorem q_lst : seqD (.lst xs) = some xs := rfl
theorem qi_tup : seqI (.tup xs) = some xs := rfl
theorem qi_lst : seqI (.lst xs) = some xs := rfl
theorem qi_scr : seqI (.scr ns) = some (ns.map .int) := rfl
theorem at_ins {f c : Nat} {fs : List (Nat × D)} : atD S f (.ins c fs) = fs.lookup f := rfl
theorem isNon_int : isNon (.int i) = false := rfl
theorem isNon_non : isNon .non = true := rfl
theorem wpN_nx {C : Calls} {bb : ISs} {QQ : Fl → En → Sh → Prop} {E : En} : wpN C bb QQ .nx E S = wpB C bb E S QQ := rfl
theorem wpN_ret {C : Calls} {bb : ISs} {QQ : Fl → En → Sh → Prop} {E : En} : wpN C bb QQ (.ret x) E S = QQ (.ret x) E S := rfl
theorem wpN_brk {C : Calls} {bb : ISs} {QQ : Fl → En → Sh → Prop} {E : En} : wpN C bb QQ .brk E S = QQ .brk E S := rfl
theorem wpN_cnt {C : Calls} {bb : ISs} {QQ : Fl → En → Sh → Prop} {E : En} : wpN C bb QQ .cnt E S = QQ .cnt E S := rfl
/-- a statement, with what holds behind it -/
theorem b_consR {C : Calls} {st : IS} {bb : ISs} {E : En} {QQ : Fl → En → Sh → Prop} (R : Fl → En → Sh → Prop) (h : wpS C st E S R) (k : ∀ f E S, R f E S → wpN C bb QQ f E S) : wpB C (.cons st bb) E S QQ := by
  obtain ⟨⟨f, E1⟩, S1, e, q⟩ := Ok.ex (wpS_ok st h)
  have q2 := k _ _ _ q
  unfold wpB
  have e2 : exB C (.cons st bb) E S = (exS C st E S).bind fun r S => match r with
    | (.nx, E1) => exB C bb E1 S
    | r => .ok r S := by
      simp only [exB]
      try rfl
  rw [e2, e]
  cases f with
  | nx => exact q2
  | brk => exact ⟨q2⟩
  | cnt => exact ⟨q2⟩
  | ret d => exact ⟨q2⟩
  | exc x => exact ⟨q2⟩
theorem b_nilN {C : Calls} {bb : ISs} {E : En} {QQ : Fl → En → Sh → Prop} (h : wpB C bb E S QQ) : wpB C .nil E S (wpN C bb QQ) := b_nilW h
theorem compL_map2 {f : D → Sh → Res (Option D)} {g : D → Option D} (xs : List D) (hl : xs.length ≤ LIM) (h : ∀ x ∈ xs, Ok (f x S) fun o S' => o = g x ∧ S' = S) {QQ : List D → Sh → Prop} (q : QQ (xs.filterMap g) S) : Ok (compL f xs [] S) QQ := by
  rw [compL_map (g := g) xs hl fun x hx => by
    obtain ⟨o, S', e, rfl, rfl⟩ := Ok.ex (h x hx)
    exact e]
  exact ⟨q⟩
theorem fm_map {α β : Type} {f : α → Option β} {g : α → β} {l : List α} (h : ∀ x ∈ l, f x = some (g x)) : l.filterMap f = l.map g := by
  induction l with
  | nil => rfl
  | cons x r ih =>
    rw [List.filterMap_cons, h x List.mem_cons_self, List.map_cons, ih fun y hy => h y (List.mem_cons_of_mem _ hy)]
/-- a turn's end -/
def trn (I : En → Sh → Prop) (QQ : Fl → En → Sh → Prop) (f : Fl) (E : En) (S : Sh) : Prop := match f with
  | .nx => I E S
  | .cnt => I E S
  | .brk => QQ .nx E S
  | fl => QQ fl E S
theorem trn_nx {I : En → Sh → Prop} {QQ : Fl → En → Sh → Prop} {E : En} : trn I QQ .nx E S = I E S := rfl
theorem trn_cnt {I : En → Sh → Prop} {QQ : Fl → En → Sh → Prop} {E : En} : trn I QQ .cnt E S = I E S := rfl
theorem trn_brk {I : En → Sh → Prop} {QQ : Fl → En → Sh → Prop} {E : En} : trn I QQ .brk E S = QQ .nx E S := rfl
theorem trn_ret {I : En → Sh → Prop} {QQ : Fl → En → Sh → Prop} {E : En} : trn I QQ (.ret x) E S = QQ (.ret x) E S := rfl
theorem for_W {C : Calls} {tg : Tg} {bb : ISs} {I : Nat → En → Sh → Prop} {QQ : Fl → En → Sh → Prop} (xs : List D) {E : En} (h0 : I 0 E S)
    (h : ∀ (i : Nat) (x : D) (E : En) (S : Sh), xs[i]? = some x → I i E S → wpG tg x E fun E1 => wpB C bb E1 S (trn (I (i + 1)) QQ)) (hd : ∀ E S, I xs.length E S → QQ .nx E S) : Ok (forL (forF C tg bb) xs E S) fun r S => QQ r.1 r.2 S :=
  forL_ok (I := I) (Q := QQ) xs h0 (fun i x E S e q => (forF_W (h i x E S e q)).mono fun r S q => by
    obtain ⟨f, E1⟩ := r
    cases f <;> exact q) hd
theorem b_ownR {C : Calls} {le : LE} {bb : ISs} {E : En} {QQ : Fl → En → Sh → Prop} (R : List D → Sh → Prop) (h : wpL C (fun x S => QQ (.exc x) E S) le E S R) (k : ∀ ds S', R ds S' → n < E.length ∧ wpB C bb (E.set n (some (.ol ds))) S' QQ) : wpB C (.cons (.own n le) bb) E S QQ := by
  have hh := wpL_ok (X := fun x S => QQ (.exc x) E S) le E S R h
  unfold wpB
  have e2 : exB C (.cons (.own n le) bb) E S = (exS C (.own n le) E S).bind fun r S => match r with
    | (.nx, E1) => exB C bb E1 S
    | r => .ok r S := by
      simp only [exB]
      try rfl
  rw [e2]
  have e3 : exS C (.own n le) E S = (evL C le E S).bindS E fun ds S => nxt (setSl E n (.ol ds)) S := rfl
  rw [e3]
  generalize evL C le E S = r at hh
  cases r with
  | ok ds S1 =>
    obtain ⟨h1, h2⟩ := k ds S1 hh.of
    show OkX ((nxt (setSl E n (.ol ds)) S1).bind _) _ _
    unfold setSl
    rw [if_pos h1]
    exact h2
  | ex x S1 => exact ⟨hh.of⟩
  | bad => exact hh.of.elim
theorem brw_v {E : En} {w : (D → Sh → Prop) → Prop} {QQ : D → Sh → Prop} : brwW (.v n) E S w QQ = ∃ d, slotA E n = some d ∧ QQ d S := rfl
theorem sA_v {E : En} (h : E[n]? = some (some (.v x))) : slotA E n = some x := by unfold slotA; rw [h]
end
theorem raiseD_0 {c : Nat} : raiseD (some []) c [] = some (.exc c []) := rfl
theorem raiseD_1 {c f : Nat} {d : D} : raiseD (some [f]) c [d] = some (.exc c [(f, d)]) := rfl
end Qv
set_option Elab.async false
set_option linter.all false
set_option maxRecDepth 100000
set_option maxHeartbeats 4000000
/-! More equations. -/
namespace Qv
open PySem
theorem ex2 {α β : Type} {a : α} {b : β} {P : α → β → Prop} : (∃ x y, (a = x ∧ b = y) ∧ P x y) = P a b := propext ⟨fun ⟨_, _, ⟨rfl, rfl⟩, h⟩ => h, fun h => ⟨_, _, ⟨rfl, rfl⟩, h⟩⟩
theorem ex3 {α β γ : Type} {a : α} {b : β} {c : γ} {P : α → β → γ → Prop} : (∃ x y z, (a = x ∧ b = y ∧ c = z) ∧ P x y z) = P a b c := propext ⟨fun ⟨_, _, _, ⟨rfl, rfl, rfl⟩, h⟩ => h, fun h => ⟨_, _, _, ⟨rfl, rfl, rfl⟩, h⟩⟩
theorem lim2 : (2 ≤ LIM) = True := by simp [LIM]
theorem lim1 : (1 ≤ LIM) = True := by simp [LIM]
theorem lim0 : (0 ≤ LIM) = True := by simp [LIM]
theorem lim3 : (3 ≤ LIM) = True := by simp [LIM]
theorem lim4 : (4 ≤ LIM) = True := by simp [LIM]
theorem intsOf_map : ∀ l : List Int, intsOf (l.map .int) = some l
  | [] => rfl
  | x :: l => by simp only [List.map_cons, intsOf]; rw [intsOf_map l]; rfl
theorem c_inS {i : Int} {l : List Int} : cmpD .inn (.int i) (.set l) = some (decide (i ∈ l)) := rfl
theorem mem_insI {x y : Int} : ∀ {l : List Int}, y ∈ insI x l ↔ y = x ∨ y ∈ l
  | [] => by simp [insI]
  | z :: r => by
    unfold insI
    split
    · simp
    · rw [List.mem_cons, mem_insI (l := r), List.mem_cons]
      constructor
      · rintro (h | h | h) <;> simp [h]
      · rintro (h | h | h) <;> simp [h]
theorem mem_sortI {y : Int} : ∀ {l : List Int}, y ∈ sortI l ↔ y ∈ l
  | [] => by simp [sortI]
  | x :: r => by
    unfold sortI
    rw [mem_insI, mem_sortI (l := r), List.mem_cons]
theorem len_insI {x : Int} : ∀ {l : List Int}, (insI x l).length = l.length + 1
  | [] => rfl
  | z :: r => by
    unfold insI
    split
    · rfl
    · simp [len_insI (l := r)]
theorem len_sortI : ∀ {l : List Int}, (sortI l).length = l.length
  | [] => rfl
  | x :: r => by
    unfold sortI
    rw [len_insI, len_sortI (l := r)]
    rfl
theorem mem_addS {x y : Int} {l : List Int} : y ∈ addS l x ↔ y = x ∨ y ∈ l := by
  unfold addS
  split
  · constructor
    · exact .inr
    · rintro (rfl | h) <;> assumption
  · simp [or_comm]
theorem len_addS {x : Int} {l : List Int} : (addS l x).length ≤ l.length + 1 := by
  unfold addS
  split <;> simp
theorem mem_fold {y : Int} : ∀ {l acc : List Int}, y ∈ l.foldl addS acc ↔ y ∈ acc ∨ y ∈ l
  | [], acc => by simp
  | x :: r, acc => by
    rw [List.foldl_cons, mem_fold (l := r), mem_addS, List.mem_cons]
    constructor
    · rintro ((h | h) | h) <;> simp [h]
    · rintro (h | h | h) <;> simp [h]
theorem len_fold : ∀ {l acc : List Int}, (l.foldl addS acc).length ≤ acc.length + l.length
  | [], acc => by simp
  | x :: r, acc => by
    rw [List.foldl_cons]
    have := len_fold (l := r) (acc := addS acc x)
    have := len_addS (x := x) (l := acc)
    rw [List.length_cons]
    omega
theorem setOf_l {l : List Int} (h : l.length < 4000) : setOf (.lst (l.map .int)) = some (l.foldl addS []) := by
  show ((intsOf (l.map .int)).bind _) = _
  rw [intsOf_map]
  show (if l.length < 4000 then _ else _) = _
  rw [if_pos h]
theorem setOf_t {l : List Int} (h : l.length < 4000) : setOf (.tup (l.map .int)) = some (l.foldl addS []) := setOf_l h
theorem cut_hi {xs : List D} {n : Nat} : cutD xs none (some (n : Int)) = xs.take n := by
  show (xs.drop 0).take (sIxO xs.length xs.length (some (n : Int)) - 0) = _
  unfold sIxO
  dsimp only
  rw [if_neg (by omega), List.drop_zero, Nat.sub_zero, Int.toNat_natCast]
  by_cases h : n ≤ xs.length
  · rw [Nat.min_eq_left h]
  · rw [Nat.min_eq_right (by omega), List.take_of_length_le (Nat.le_refl _), List.take_of_length_le (by omega)]
theorem cut_lo {xs : List D} {n : Nat} : cutD xs (some (n : Int)) none = xs.drop n := by
  show (xs.drop (sIxO xs.length 0 (some (n : Int)))).take (xs.length - sIxO xs.length 0 (some (n : Int))) = _
  unfold sIxO
  dsimp only
  rw [if_neg (by omega), Int.toNat_natCast]
  by_cases h : n ≤ xs.length
  · rw [Nat.min_eq_left h]
    exact List.take_of_length_le (by simp)
  · rw [Nat.min_eq_right (by omega), Nat.sub_self, List.take_zero, List.drop_eq_nil_of_le (by omega)]
end Qv
set_option Elab.async false
set_option linter.all false
set_option maxRecDepth 100000
set_option maxHeartbeats 4000000
/-! Pure defs as equations; data of any kind. -/
namespace Qv
open PySem
section
variable {S S' : Sh} {E : En} {x v : D} {xs : List D}
theorem calls_fn {pg : Pg} {k : Nat} : (pg.calls k).fn = callAt pg k := rfl
theorem okx_ok {α : Type} {a : α} {Q : α → Sh → Prop} {X : D → Sh → Prop} : OkX (.ok a S) Q X = Q a S := propext ⟨fun h => h.of, fun h => ⟨h⟩⟩
theorem okx_ex {α : Type} {Q : α → Sh → Prop} {X : D → Sh → Prop} : OkX (.ex x S : Res α) Q X = X x S := propext ⟨fun h => h.of, fun h => ⟨h⟩⟩
theorem Ok.eq {r : Res D} (h : Ok r fun d S' => d = v ∧ S' = S) : r = .ok v S := by
  obtain ⟨a, S1, e, rfl, rfl⟩ := Ok.ex h
  exact e
/-- hands back v, nothing being changed -/
def retE (v : D) (S : Sh) (f : Fl) (E : En) (S' : Sh) : Prop := match f with
  | .nx => .non = v ∧ S' = S
  | .ret d => d = v ∧ S' = S
  | _ => False
theorem retE_ret : retE v S (.ret x) E S' = (x = v ∧ S' = S) := rfl
theorem retE_nx : retE v S .nx E S' = (.non = v ∧ S' = S) := rfl
theorem retE_brk : retE v S .brk E S' = False := rfl
theorem retE_exc : retE v S (.exc x) E S' = False := rfl
theorem fn_E {pg : Pg} {k f : Nat} {fn : Fn} {ds : List D} (e : pg.fns[f]? = some fn) (hl : ds.length = fn.ps)
    (h : wpB (pg.calls k) fn.body (ds.map (fun d => some (.v d)) ++ List.replicate (fn.n - fn.ps) none) S (retE v S)) : callAt pg (k + 1) f ds S = .ok v S :=
  Ok.eq (fn_W e hl (OkX.monoX h fun r S q => by
    obtain ⟨f, E1⟩ := r
    cases f <;> exact q))
/-- raises x, nothing being changed -/
def excE (v : D) (S : Sh) (f : Fl) (E : En) (S' : Sh) : Prop := match f with
  | .exc d => d = v ∧ S' = S
  | _ => False
theorem excE_exc : excE v S (.exc x) E S' = (x = v ∧ S' = S) := rfl
theorem excE_ret : excE v S (.ret x) E S' = False := rfl
theorem excE_nx : excE v S .nx E S' = False := rfl
theorem fn_X {pg : Pg} {k f : Nat} {fn : Fn} {ds : List D} (e : pg.fns[f]? = some fn) (hl : ds.length = fn.ps)
    (h : wpB (pg.calls k) fn.body (ds.map (fun d => some (.v d)) ++ List.replicate (fn.n - fn.ps) none) S (excE v S)) : callAt pg (k + 1) f ds S = .ex v S := by
  have h2 : OkX (callAt pg (k + 1) f ds S) (fun _ _ => False) fun d S' => d = v ∧ S' = S := fn_WX e hl (OkX.monoX h fun r S q => by
    obtain ⟨f, E1⟩ := r
    cases f <;> exact q)
  cases q : callAt pg (k + 1) f ds S with
  | ok a S1 => rw [q] at h2; exact h2.of.elim
  | ex a S1 => rw [q] at h2; obtain ⟨rfl, rfl⟩ := h2.of; rfl
  | bad => rw [q] at h2; exact h2.of.elim
theorem isNon_bl {b : Bool} : isNon (.bl b) = false := rfl
theorem isNon_str {s : Str} : isNon (.str s) = false := rfl
theorem isNon_tup : isNon (.tup xs) = false := rfl
theorem isNon_lst : isNon (.lst xs) = false := rfl
theorem wpN_exc {C : Calls} {bb : ISs} {QQ : Fl → En → Sh → Prop} : wpN C bb QQ (.exc x) E S = QQ (.exc x) E S := rfl
theorem trn_exc {I : En → Sh → Prop} {QQ : Fl → En → Sh → Prop} : trn I QQ (.exc x) E S = QQ (.exc x) E S := rfl
theorem r_tup : revD (.tup xs) = some (.tup xs.reverse) := rfl
theorem r_lst : revD (.lst xs) = some (.lst xs.reverse) := rfl
/-- a list comprehension, each item giving one thing -/
theorem compL_E {f : D → Sh → Res (Option D)} {g : D → Option D} (hl : xs.length ≤ LIM) (h : ∀ x ∈ xs, Ok (f x S) fun o S' => o = g x ∧ S' = S) : compL f xs [] S = .ok (xs.filterMap g) S :=
  compL_map (g := g) xs hl fun x hx => by
    obtain ⟨o, S', e, rfl, rfl⟩ := Ok.ex (h x hx)
    exact e
/-! ### data -/
mutual
/-- data of the plain kinds, through and through -/
def D.th : D → Bool
  | .non => true
  | .bl _ => true
  | .int _ => true
  | .str x => PyData.canLay0 (.str x)
  | .tup xs => D.ths xs
  | .lst xs => D.ths xs
  | .dic [] => true
  | .dic (_ :: _) => false
  | .set _ => false
  | .ins _ _ => false
  | .exc _ _ => false
  | .ref _ => false
  | .ty _ => false
  | .glo _ => false
  | .clo _ _ => false
  | .scr _ => false
def D.ths : List D → Bool
  | [] => true
  | x :: xs => D.th x && D.ths xs
end
theorem ths_all : ∀ {xs : List D}, D.ths xs = xs.all D.th
  | [] => rfl
  | x :: xs => by rw [D.ths, List.all_cons, ths_all (xs := xs)]
theorem ths_mem (h : D.ths xs = true) (hx : x ∈ xs) : x.th = true := by
  rw [ths_all] at h
  exact List.all_eq_true.mp h x hx
theorem ths_of (h : ∀ x ∈ xs, x.th = true) : D.ths xs = true := by
  rw [ths_all]
  exact List.all_eq_true.mpr h
theorem th_tup : (D.tup xs).th = D.ths xs := by rw [D.th]
theorem th_lst : (D.lst xs).th = D.ths xs := by rw [D.th]
/-- which built-in class -/
def isK (n : String) (d : D) : Bool := match kindD d with
  | some k => (isiK k n).getD false
  | none => false
theorem th_kind (h : x.th = true) : ∃ k, kindD x = some k := by
  cases x with
  | dic l => exact ⟨_, rfl⟩
  | _ => first | exact ⟨_, rfl⟩ | (simp [D.th] at h; done)
theorem isiK_some {k n : String} (h : n = "int" ∨ n = "bool" ∨ n = "str" ∨ n = "tuple" ∨ n = "list" ∨ n = "dict") : ∃ b, isiK k n = some b := by
  rcases h with rfl | rfl | rfl | rfl | rfl | rfl <;> exact ⟨_, rfl⟩
theorem isi_th {n : String} (h : x.th = true) (hn : n = "int" ∨ n = "bool" ∨ n = "str" ∨ n = "tuple" ∨ n = "list" ∨ n = "dict") : biD .isi [x, .ty n] = some (.bl (isK n x)) := by
  obtain ⟨k, hk⟩ := th_kind h
  obtain ⟨b, hb⟩ := isiK_some (k := k) hn
  unfold isK
  rw [hk]
  show (match kindD x with
    | some k => (isiK k n).map D.bl
    | none => none) = _
  rw [hk]
  show (isiK k n).map D.bl = _
  simp [hb]
theorem isi_int (h : x.th = true) : biD .isi [x, .ty "int"] = some (.bl (isK "int" x)) := isi_th h (by simp)
theorem isi_bool (h : x.th = true) : biD .isi [x, .ty "bool"] = some (.bl (isK "bool" x)) := isi_th h (by simp)
theorem isi_str (h : x.th = true) : biD .isi [x, .ty "str"] = some (.bl (isK "str" x)) := isi_th h (by simp)
theorem isi_tuple (h : x.th = true) : biD .isi [x, .ty "tuple"] = some (.bl (isK "tuple" x)) := isi_th h (by simp)
theorem isi_list (h : x.th = true) : biD .isi [x, .ty "list"] = some (.bl (isK "list" x)) := isi_th h (by simp)
theorem isi_dict (h : x.th = true) : biD .isi [x, .ty "dict"] = some (.bl (isK "dict" x)) := isi_th h (by simp)
theorem isi_tl (h : x.th = true) : biD .isi [x, .tup [.ty "tuple", .ty "list"]] = some (.bl (isK "tuple" x || isK "list" x)) := by
  obtain ⟨k, hk⟩ := th_kind h
  unfold isK
  rw [hk]
  show (match kindD x with
    | some k => (isiT k [.ty "tuple", .ty "list"]).map D.bl
    | none => none) = _
  rw [hk]
  obtain ⟨a, ha⟩ := isiK_some (k := k) (n := "tuple") (by simp)
  obtain ⟨b, hb⟩ := isiK_some (k := k) (n := "list") (by simp)
  show (isiT k [.ty "tuple", .ty "list"]).map D.bl = _
  simp [isiT, ha, hb]
theorem isK_tup : isK "tuple" x = true ↔ ∃ xs, x = .tup xs := by
  cases x <;> simp [isK, kindD, isiK]
theorem isK_lst : isK "list" x = true ↔ ∃ xs, x = .lst xs := by
  cases x <;> simp [isK, kindD, isiK]
theorem isK_str : isK "str" x = true ↔ ∃ xs, x = .str xs := by
  cases x <;> simp [isK, kindD, isiK]
theorem isK_bool : isK "bool" x = true ↔ ∃ b, x = .bl b := by
  cases x <;> simp [isK, kindD, isiK]
/-- an integer that is no flag -/
def intD : D → Option Int
  | .int i => some i
  | _ => none
theorem isK_int (h : isK "int" x = true) : (∃ b, x = .bl b) ∨ ∃ i, x = .int i := by
  cases x <;> simp_all [isK, kindD, isiK]
theorem isK_II {i : Int} : isK "int" (.int i) = true := by rfl
theorem isK_IB {i : Int} : isK "bool" (.int i) = false := by rfl
theorem isK_TT : isK "tuple" (.tup xs) = true := by rfl
theorem isK_TL : isK "list" (.tup xs) = false := by rfl
theorem isK_LL : isK "list" (.lst xs) = true := by rfl
theorem isK_LT : isK "tuple" (.lst xs) = false := by rfl
theorem isK_SS {s : Str} : isK "str" (.str s) = true := by rfl
theorem c_eq_str {s t : Str} (hs : PyData.canLay0 (.str s) = true) (ht : PyData.canLay0 (.str t) = true) : cmpD .eq (.str s) (.str t) = some (decide (s = t)) := by
  show (if PyData.canLay0 (.str s) && PyData.canLay0 (.str t) && decide (D.dep (.str s) ≤ 64) && decide (D.dep (.str t) ≤ 64) then some (s == t) else none) = _
  rw [hs, ht]
  show some (s == t) = _
  rw [Bool.eq_iff_iff.mpr (show (s == t) = true ↔ decide (s = t) = true by simp)]
/-! ### try -/
section
variable {C : Calls} {n i c : Nat} {su : ISs} {hs r : Hs} {fs : List (Nat × D)} {Q : Fl → En → Sh → Prop} {d : D} {g : En → En} {o : Option Sl} {l : List D} {l2 : List Int}
theorem tryQ_exc : tryQ C n i su Q (.exc (.exc c fs)) E S = ∃ t, C.sub c n = some t ∧ if t = true then wpB C.hot su ((noX E).set i (some (.xv c fs))) S (suQ (fun E => E.set i none) Q) else Q (.exc (.exc c fs)) E S := by
  apply propext
  constructor
  · rintro ⟨c', fs', e, h⟩
    cases e
    exact h
  · exact fun h => ⟨c, fs, rfl, h⟩
theorem tryQ_nx : tryQ C n i su Q .nx E S = Q .nx E S := rfl
theorem tryQ_ret : tryQ C n i su Q (.ret d) E S = Q (.ret d) E S := rfl
theorem tryQM_exc : tryQM C hs Q (.exc (.exc c fs)) E S = wpH C c fs hs E S Q := by
  apply propext
  constructor
  · rintro ⟨c', fs', e, h⟩
    cases e
    exact h
  · exact fun h => ⟨c, fs, rfl, h⟩
theorem tryQM_nx : tryQM C hs Q .nx E S = Q .nx E S := rfl
theorem tryQM_ret : tryQM C hs Q (.ret d) E S = Q (.ret d) E S := rfl
theorem suQ_nx : suQ g Q .nx E S = Q .nx (g (noX E)) S := rfl
theorem suQ_ret : suQ g Q (.ret d) E S = Q (.ret d) (g (noX E)) S := rfl
theorem noX_nil : noX [] = [] := rfl
theorem noX_v : noX (some (.v d) :: E) = some (.v d) :: noX E := rfl
theorem noX_ol : noX (some (.ol l) :: E) = some (.ol l) :: noX E := rfl
theorem noX_os : noX (some (.os l2) :: E) = some (.os l2) :: noX E := rfl
theorem noX_xv : noX (some (.xv c fs) :: E) = none :: noX E := rfl
theorem noX_none : noX (none :: E) = none :: noX E := rfl
theorem hot_sub : C.hot.sub = C.sub := rfl
theorem hot_gl : C.hot.gl = C.gl := rfl
theorem hot_exn : C.hot.exn = C.exn := rfl
theorem xv_inj {c' : Nat} {fs' : List (Nat × D)} : (Sl.xv c fs = Sl.xv c' fs') = (c = c' ∧ fs = fs') := by simp
theorem calls_sub {pg : Pg} {k : Nat} : (pg.calls k).sub = pg.sub := rfl
theorem calls_exn {pg : Pg} {k : Nat} : (pg.calls k).exn = pg.exn := rfl
theorem ex_xv {P : Nat → Prop} : (∃ c', (c = c' ∧ fs = []) ∧ P c') = (fs = [] ∧ P c) := propext ⟨fun ⟨_, ⟨rfl, h⟩, p⟩ => ⟨h, p⟩, fun ⟨h, p⟩ => ⟨_, ⟨rfl, h⟩, p⟩⟩
theorem ex_xv2 {P : Nat → List (Nat × D) → Prop} : (∃ c' fs', (c = c' ∧ fs = fs') ∧ P c' fs') = P c fs := propext ⟨fun ⟨_, _, ⟨rfl, rfl⟩, p⟩ => p, fun p => ⟨_, _, ⟨rfl, rfl⟩, p⟩⟩
end
/-! ### loops that carry one thing from turn to turn, or hand something back -/
def stepL {σ : Type} (step : σ → D → σ ⊕ D) : σ → List D → σ ⊕ D
  | s, [] => .inl s
  | s, x :: r => match step s x with
    | .inl s' => stepL step s' r
    | .inr d => .inr d
/-- a turn's end -/
def StepT {σ : Type} (enc : σ → En → Prop) (P : σ → Prop) (S : Sh) (r : σ ⊕ D) (f : Fl) (E : En) (S' : Sh) : Prop := S' = S ∧ match f with
  | .nx => ∃ s, r = .inl s ∧ enc s E ∧ P s
  | .cnt => ∃ s, r = .inl s ∧ enc s E ∧ P s
  | .ret d => r = .inr d
  | _ => False
/-- the loop's end -/
def StepQ {σ : Type} (enc : σ → En → Prop) (P : σ → Prop) (S : Sh) (r : σ ⊕ D) (f : Fl) (E : En) (S' : Sh) : Prop := S' = S ∧ ((f = .nx ∧ ∃ s, r = .inl s ∧ enc s E ∧ P s) ∨ ∃ d, f = .ret d ∧ r = .inr d)
section
variable {σ : Type} {enc : σ → En → Prop} {P : σ → Prop} {r : σ ⊕ D} {d : D}
theorem stepT_nx : StepT enc P S r .nx E S' = (S' = S ∧ ∃ s, r = .inl s ∧ enc s E ∧ P s) := rfl
theorem stepT_cnt : StepT enc P S r .cnt E S' = (S' = S ∧ ∃ s, r = .inl s ∧ enc s E ∧ P s) := rfl
theorem stepT_ret : StepT enc P S r (.ret d) E S' = (S' = S ∧ r = .inr d) := rfl
theorem for_step {C : Calls} {tg : Tg} {bb : ISs} (step : σ → D → σ ⊕ D) (enc : σ → En → Prop) (P : Nat → σ → Prop) (xs : List D) {s0 : σ} (h0 : enc s0 E) (p0 : P 0 s0)
    (h : ∀ (i : Nat) (x : D) (s : σ) (E : En), xs[i]? = some x → P i s → enc s E → wpG tg x E fun E1 => wpB C bb E1 S (StepT enc (P (i + 1)) S (step s x))) :
    Ok (forL (forF C tg bb) xs E S) fun r S' => StepQ enc (P xs.length) S (stepL step s0 xs) r.1 r.2 S' := by
  refine forL_ok (I := fun i E S' => S' = S ∧ ∃ s, enc s E ∧ P i s ∧ stepL step s0 xs = stepL step s (xs.drop i)) (Q := StepQ enc (P xs.length) S (stepL step s0 xs)) xs ⟨rfl, s0, h0, p0, by rw [List.drop_zero]⟩ (fun i x E S' hx ⟨e1, s, h1, h2, h3⟩ => ?_) (fun E S' ⟨e1, s, h1, h2, h3⟩ => ?_)
  · subst e1
    have hd : xs.drop i = x :: xs.drop (i + 1) := by
      obtain ⟨hlt, e⟩ := List.getElem?_eq_some_iff.mp hx
      rw [List.drop_eq_getElem_cons hlt, e]
    rw [hd] at h3
    refine (forF_W (h i x s E hx h2 h1)).monoX fun r S2 q => ?_
    obtain ⟨f, E1⟩ := r
    obtain ⟨q1, q2⟩ := q
    cases f with
    | nx =>
      obtain ⟨s', e, q3, q4⟩ := q2
      exact ⟨q1, s', q3, q4, by rw [h3]; simp only [stepL]; rw [e]⟩
    | cnt =>
      obtain ⟨s', e, q3, q4⟩ := q2
      exact ⟨q1, s', q3, q4, by rw [h3]; simp only [stepL]; rw [e]⟩
    | ret d =>
      have e : step s x = .inr d := q2
      exact ⟨q1, .inr ⟨d, rfl, by rw [h3]; simp only [stepL]; rw [e]⟩⟩
    | brk => exact q2.elim
    | exc x => exact q2.elim
  · rw [List.drop_length] at h3
    exact ⟨e1, .inl ⟨rfl, s, h3, h1, h2⟩⟩
/-- such a loop, and what follows it -/
theorem b_forS {C : Calls} {tg : Tg} {it : II} {b bb : ISs} {xs : List D} {Q : Fl → En → Sh → Prop} (step : σ → D → σ ⊕ D) (enc : σ → En → Prop) (P : Nat → σ → Prop) {s0 : σ} (hi : evI C it E S = .ok xs S) (h0 : enc s0 E) (p0 : P 0 s0)
    (h : ∀ (i : Nat) (x : D) (s : σ) (E : En), xs[i]? = some x → P i s → enc s E → wpG tg x E fun E1 => wpB C b E1 S (StepT enc (P (i + 1)) S (step s x)))
    (hr : ∀ d E', stepL step s0 xs = .inr d → Q (.ret d) E' S) (hn : ∀ s E', stepL step s0 xs = .inl s → enc s E' → P xs.length s → wpB C bb E' S Q) : wpB C (.cons (.for tg it b) bb) E S Q := by
  have hh := for_step (E := E) (S := S) step enc P xs h0 p0 h
  unfold wpB
  have e2 : exB C (.cons (.for tg it b) bb) E S = (exS C (.for tg it b) E S).bind fun r S => match r with
    | (.nx, E1) => exB C bb E1 S
    | r => .ok r S := by
      simp only [exB]
      try rfl
  have e3 : exS C (.for tg it b) E S = forL (forF C tg b) xs E S := by
    show (evI C it E S).bindS E _ = _
    rw [hi]
    rfl
  rw [e2, e3]
  obtain ⟨⟨f, E1⟩, S1, e, rfl, q⟩ := Ok.ex hh
  rw [e]
  rcases q with ⟨q1, s, q2, q3, q4⟩ | ⟨d, q1, q2⟩
  · obtain rfl : f = .nx := q1
    exact hn s E1 q2 q3 q4
  · obtain rfl : f = .ret d := q1
    exact ⟨hr d E1 q2⟩
end
end
theorem lim5 : (5 ≤ LIM) = True := by simp [LIM]
theorem lim6 : (6 ≤ LIM) = True := by simp [LIM]
theorem lim7 : (7 ≤ LIM) = True := by simp [LIM]
theorem lim8 : (8 ≤ LIM) = True := by simp [LIM]
theorem lim9 : (9 ≤ LIM) = True := by simp [LIM]
theorem lim10 : (10 ≤ LIM) = True := by simp [LIM]
theorem lim11 : (11 ≤ LIM) = True := by simp [LIM]
theorem lim12 : (12 ≤ LIM) = True := by simp [LIM]
theorem lim13 : (13 ≤ LIM) = True := by simp [LIM]
theorem lim14 : (14 ≤ LIM) = True := by simp [LIM]
theorem lim15 : (15 ≤ LIM) = True := by simp [LIM]
theorem lim16 : (16 ≤ LIM) = True := by simp [LIM]
theorem lim17 : (17 ≤ LIM) = True := by simp [LIM]
theorem lim18 : (18 ≤ LIM) = True := by simp [LIM]
theorem lim19 : (19 ≤ LIM) = True := by simp [LIM]
theorem lim20 : (20 ≤ LIM) = True := by simp [LIM]
theorem lim21 : (21 ≤ LIM) = True := by simp [LIM]
theorem lim22 : (22 ≤ LIM) = True := by simp [LIM]
theorem lim23 : (23 ≤ LIM) = True := by simp [LIM]
theorem lim24 : (24 ≤ LIM) = True := by simp [LIM]
theorem lim25 : (25 ≤ LIM) = True := by simp [LIM]
theorem lim26 : (26 ≤ LIM) = True := by simp [LIM]
theorem lim27 : (27 ≤ LIM) = True := by simp [LIM]
theorem lim28 : (28 ≤ LIM) = True := by simp [LIM]
theorem lim29 : (29 ≤ LIM) = True := by simp [LIM]
theorem lim30 : (30 ≤ LIM) = True := by simp [LIM]
theorem lim31 : (31 ≤ LIM) = True := by simp [LIM]
theorem lim32 : (32 ≤ LIM) = True := by simp [LIM]
theorem cut_mem {xs : List D} {lo hi : Option Int} {x : D} (h : x ∈ cutD xs lo hi) : x ∈ xs := by
  unfold cutD at h
  exact List.mem_of_mem_drop (List.mem_of_mem_take h)
theorem cut_len {xs : List D} {lo hi : Option Int} : (cutD xs lo hi).length ≤ xs.length := by
  unfold cutD
  rw [List.length_take, List.length_drop]
  omega
/-- a statement that is no loop -/
def strB : IS → Bool
  | .for _ _ _ => false
  | .whl _ _ => false
  | _ => true
theorem b_consG {C : Calls} {s : IS} {b : ISs} {E : En} {S : Sh} {Q : Fl → En → Sh → Prop} (hs : strB s = true) (h : wpS C s E S (wpN C b Q)) : wpB C (.cons s b) E S Q := b_consW h
end Qv
set_option Elab.async false
set_option linter.all false
set_option maxRecDepth 100000
set_option maxHeartbeats 8000000
namespace Qv.Law
open PySem PySem.Spec PyProof.Rows L2
def top (i : Nat) : Stmt := PySem.Challenge.pw_staletags_k00_errors_of_the_package.main.body.getD i (.Pass ⟨0, 0, 0, 0⟩)
def meth (i j : Nat) : Stmt := match top i with
  | .ClassDef _ _ _ b _ _ _ _ _ _ _ => b.getD j (.Pass ⟨0, 0, 0, 0⟩)
  | s => s
/-- _law_is: 0 _law_told, 1 _law_due, 2 _law_one, 3 _law_two -/
def b__law_is : ISs := .cons (.ite (.bi .isi (.cons (.v 1) (.cons (.tup (.cons (.g 0) (.cons (.g 1) .nil))) .nil))) (.cons (.ite (.or (.cmp .ne (.bi .isi (.cons (.v 0) (.cons (.g 0) .nil))) (.bi .isi (.cons (.v 1) (.cons (.g 0) .nil)))) (.not (.bi .isi (.cons (.v 0) (.cons (.tup (.cons (.g 0) (.cons (.g 1) .nil))) .nil))))) (.cons (.ret (.c (.bl false))) .nil) .nil) (.cons (.ret (.and (.cmp .eq (.bi .len (.cons (.v 0) .nil)) (.bi .len (.cons (.v 1) .nil))) (.bi .all (.cons (.l (.comp (.call 0 (.cons (.v 2) (.cons (.v 3) .nil))) (.t (.n 2) (.n 3)) (.zip (.v 0) (.v 1)) (.no) [2, 3])) .nil)))) .nil)) .nil) (.cons (.ret (.and (.cmp .eq (.bi .isi (.cons (.v 0) (.cons (.g 2) .nil))) (.bi .isi (.cons (.v 1) (.cons (.g 2) .nil)))) (.cmp .eq (.v 0) (.v 1)))) .nil)
def f__law_is : Fn := ⟨2, 4, b__law_is⟩
/-- _law_nested: 0 _law_hand_here, 1 _law_thing, 2 _law_turn -/
def b__law_nested : ISs := .cons (.asg (.n 1) (.call 3 (.cons (.v 0) (.cons (.l (.disp (.cons (.tup .nil) (.cons (.c (.int 0)) (.cons (.c (.str (Str.ofString "a"))) (.cons (.c .non) .nil)))))) .nil)))) (.cons (.for (.n 2) (.rng1 (.c (.int 36))) (.cons (.asg (.n 1) (.ife (.cmp .eq (.bin .mod (.bi .int (.cons (.v 2) .nil)) (.c (.int 5))) (.c (.int 4))) (.l (.disp (.cons (.v 1) .nil))) (.tup (.cons (.v 1) .nil)))) .nil)) (.cons (.ret (.v 1)) .nil))
def f__law_nested : Fn := ⟨1, 3, b__law_nested⟩
/-- _law_draw: 0 _law_hand_here, 1 _law_many, 2 _law_number, 3 _law_cell, 4 _law_digit -/
def b__law_draw : ISs := .cons (.ite (.and (.cmp .eq (.ix (.v 0) (.c (.int 2))) (.c (.int 0))) (.cmp .lt (.ix (.v 0) (.c (.int 1))) (.bi .len (.cons (.ix (.v 0) (.c (.int 0))) .nil)))) (.cons (.asg (.n 3) (.ix (.ix (.v 0) (.c (.int 0))) (.ix (.v 0) (.c (.int 1))))) (.cons (.sts (.v 0) (.c (.int 1)) (.bin .add (.ix (.v 0) (.c (.int 1))) (.c (.int 1)))) (.cons (.sts (.v 0) (.c (.int 3)) (.bin .mod (.bi .int (.cons (.bin .add (.bin .add (.bin .mul (.ix (.v 0) (.c (.int 3))) (.c (.int 69621))) (.v 3)) (.c (.int 11))) .nil)) (.c (.int 2147483629)))) (.cons (.ite (.cmp .ge (.v 3) (.bin .pow (.c (.int 10)) (.c (.int 18)))) (.cons (.sts (.v 0) (.c (.int 2)) (.v 3)) .nil) .nil) .nil)))) .nil) (.cons (.ite (.cmp .gt (.ix (.v 0) (.c (.int 2))) (.c (.int 0))) (.cons (.asg (.n 4) (.bin .mod (.bi .int (.cons (.ix (.v 0) (.c (.int 2))) .nil)) (.v 1))) (.cons (.sts (.v 0) (.c (.int 2)) (.bin .fdiv (.ix (.v 0) (.c (.int 2))) (.v 1))) (.cons (.ret (.v 4)) .nil))) .nil) (.cons (.sts (.v 0) (.c (.int 4)) (.bin .add (.ix (.v 0) (.c (.int 4))) (.c (.int 1)))) (.cons (.asg (.n 2) (.bin .mod (.bi .int (.cons (.bin .mul (.bi .int (.cons (.bin .add (.ix (.v 0) (.c (.int 3))) (.bin .mul (.c (.int 7919)) (.ix (.v 0) (.c (.int 4))))) .nil)) (.c (.int 48271))) .nil)) (.c (.int 2147483647)))) (.cons (.asg (.n 2) (.bin .mod (.bi .int (.cons (.bin .mul (.v 2) (.bin .add (.bin .fdiv (.v 2) (.c (.int 1009))) (.c (.int 69621)))) .nil)) (.c (.int 2147483647)))) (.cons (.asg (.n 2) (.bin .mod (.bi .int (.cons (.bin .mul (.v 2) (.bin .add (.bin .fdiv (.v 2) (.c (.int 2003))) (.c (.int 40692)))) .nil)) (.c (.int 2147483399)))) (.cons (.ret (.bin .mod (.bi .int (.cons (.bin .fdiv (.v 2) (.c (.int 16))) .nil)) (.v 1))) .nil))))))
def f__law_draw : Fn := ⟨2, 5, b__law_draw⟩
/-- _law_any: 0 _law_hand_here, 1 _law_items -/
def b__law_any : ISs := .cons (.ret (.ix (.v 1) (.call 2 (.cons (.v 0) (.cons (.bi .len (.cons (.v 1) .nil)) .nil))))) .nil
def f__law_any : Fn := ⟨2, 2, b__law_any⟩
/-- _law_hand: 0 _law_script, 1 _law_cells, 2 _law_cell -/
def b__law_hand : ISs := .cons (.own 1 (.comp (.bi .abs (.cons (.bi .int (.cons (.v 2) .nil)) .nil)) (.n 2) (.seq (.sl (.v 0) (.no) (.ye (.c (.int 63))))) (.no) [2])) (.frz 1 (.cons (.ret (.sh (.disp (.cons (.v 1) (.cons (.c (.int 0)) (.cons (.c (.int 0)) (.cons (.bin .add (.c (.int 1)) (.bi .len (.cons (.v 1) .nil))) (.cons (.c (.int 0)) .nil)))))))) .nil))
def f__law_hand : Fn := ⟨1, 3, b__law_hand⟩
/-- law: 0 _law_script, 1 _law_hand_here, 2 _law_things, 3 _law_thing, 4 _law_fields, 5 _law_made, 6 _law_at, 7 _law_one, 8 _law_flags, 9 _law_field -/
def b_law : ISs := .cons (.asg (.n 1) (.call 4 (.cons (.v 0) .nil))) (.cons (.asg (.n 2) (.l (.disp (.cons (.c .non) (.cons (.c (.int 0)) (.cons (.c (.int 7)) (.cons (.c (.str (Str.ofString "ties"))) (.cons (.tup (.cons (.c (.int 3)) (.cons (.c (.int 1)) .nil))) (.cons (.l (.disp (.cons (.c (.int 1)) .nil))) (.cons (.dic0) (.cons (.bin .pow (.c (.int 10)) (.c (.int 39))) (.cons (.c (.bl true)) (.cons (.call 1 (.cons (.v 1) .nil)) .nil))))))))))))) (.cons (.asg (.n 3) (.call 3 (.cons (.v 1) (.cons (.v 2) .nil)))) (.cons (.asg (.n 4) (.l (.disp (.cons (.exf 3 4 (.v 3)) (.cons (.exf 5 6 (.v 3)) (.cons (.exf 7 8 (.v 3)) (.cons (.exf 9 6 (.v 3)) (.cons (.exf 10 11 (.v 3)) .nil)))))))) (.cons (.asg (.n 4) (.bin .add (.v 4) (.l (.disp (.cons (.exf 12 13 (.v 3)) (.cons (.exf 14 15 (.v 3)) (.cons (.exf 16 13 (.v 3)) .nil))))))) (.cons (.ite (.not (.bi .all (.cons (.l (.comp (.call 0 (.cons (.v 9) (.cons (.v 3) .nil))) (.n 9) (.seq (.v 4)) (.no) [9])) .nil))) (.cons (.ret (.c (.bl false))) .nil) .nil) (.cons (.asg (.n 5) (.l (.disp (.cons (.exv 3 (.cons (.c (.int 0)) .nil)) (.cons (.exv 5 (.cons (.c (.int 0)) .nil)) (.cons (.exv 7 (.cons (.c (.int 0)) .nil)) (.cons (.exv 9 (.cons (.c (.int 0)) .nil)) (.cons (.exv 10 (.cons (.c (.int 0)) .nil)) (.cons (.exv 12 (.cons (.c (.int 0)) .nil)) (.cons (.exv 14 (.cons (.c (.int 0)) .nil)) (.cons (.exv 17 .nil) (.cons (.exv 18 .nil) .nil)))))))))))) (.cons (.asg (.n 5) (.bin .add (.v 5) (.l (.disp (.cons (.exv 19 .nil) (.cons (.exv 20 .nil) (.cons (.exv 21 .nil) (.cons (.exv 22 .nil) (.cons (.exv 23 .nil) (.cons (.exv 24 .nil) (.cons (.exv 25 .nil) (.cons (.exv 26 .nil) (.cons (.exv 27 .nil) .nil))))))))))))) (.cons (.asg (.n 5) (.bin .add (.v 5) (.l (.disp (.cons (.exv 28 .nil) (.cons (.exv 29 .nil) (.cons (.exv 30 .nil) (.cons (.exv 16 (.cons (.c (.int 0)) .nil)) (.cons (.exv 31 .nil) (.cons (.exv 32 .nil) .nil)))))))))) (.cons (.for (.t (.n 6) (.n 7)) (.enum (.v 5)) (.cons (.asg (.n 8) (.l (.disp (.cons (.xiv (.v 7) 3) (.cons (.xiv (.v 7) 5) (.cons (.xiv (.v 7) 7) (.cons (.xiv (.v 7) 9) .nil))))))) (.cons (.asg (.n 8) (.bin .add (.v 8) (.l (.disp (.cons (.xiv (.v 7) 10) (.cons (.xiv (.v 7) 12) (.cons (.xiv (.v 7) 14) .nil))))))) (.cons (.asg (.n 8) (.bin .add (.v 8) (.l (.disp (.cons (.xiv (.v 7) 17) (.cons (.xiv (.v 7) 18) (.cons (.xiv (.v 7) 19) .nil))))))) (.cons (.asg (.n 8) (.bin .add (.v 8) (.l (.disp (.cons (.xiv (.v 7) 20) (.cons (.xiv (.v 7) 21) (.cons (.xiv (.v 7) 22) .nil))))))) (.cons (.asg (.n 8) (.bin .add (.v 8) (.l (.disp (.cons (.xiv (.v 7) 23) (.cons (.xiv (.v 7) 24) (.cons (.xiv (.v 7) 25) .nil))))))) (.cons (.asg (.n 8) (.bin .add (.v 8) (.l (.disp (.cons (.xiv (.v 7) 26) (.cons (.xiv (.v 7) 27) (.cons (.xiv (.v 7) 28) .nil))))))) (.cons (.asg (.n 8) (.bin .add (.v 8) (.l (.disp (.cons (.xiv (.v 7) 29) (.cons (.xiv (.v 7) 30) (.cons (.xiv (.v 7) 16) .nil))))))) (.cons (.asg (.n 8) (.bin .add (.v 8) (.l (.disp (.cons (.xiv (.v 7) 31) (.cons (.xiv (.v 7) 32) .nil)))))) (.cons (.ite (.or (.cmp .ne (.cnt (.v 8) true) (.c (.int 1))) (.or (.not (.ix (.v 8) (.v 6))) (.or (.not (.xiv (.v 7) 34)) (.not (.xiv (.v 7) 33))))) (.cons (.ret (.c (.bl false))) .nil) .nil) .nil)))))))))) (.cons (.ret (.xiv (.exv 34 .nil) 33)) .nil))))))))))
def f_law : Fn := ⟨1, 10, b_law⟩
def d__law_is : Df := ⟨((Str.ofString "_law_is"), none), (Str.ofString "_law_is"), (Str.ofString "_law_is"), defArgs (top 30), defBody (top 30), defScope (top 30), [(Str.ofString "_law_told"), (Str.ofString "_law_due"), (Str.ofString "_law_one"), (Str.ofString "_law_two")], [(Str.ofString "_law_told"), (Str.ofString "_law_due")], f__law_is⟩
def d__law_nested : Df := ⟨((Str.ofString "_law_nested"), none), (Str.ofString "_law_nested"), (Str.ofString "_law_nested"), defArgs (top 31), defBody (top 31), defScope (top 31), [(Str.ofString "_law_hand_here"), (Str.ofString "_law_thing"), (Str.ofString "_law_turn")], [(Str.ofString "_law_hand_here")], f__law_nested⟩
def d__law_draw : Df := ⟨((Str.ofString "_law_draw"), none), (Str.ofString "_law_draw"), (Str.ofString "_law_draw"), defArgs (top 28), defBody (top 28), defScope (top 28), [(Str.ofString "_law_hand_here"), (Str.ofString "_law_many"), (Str.ofString "_law_number"), (Str.ofString "_law_cell"), (Str.ofString "_law_digit")], [(Str.ofString "_law_hand_here"), (Str.ofString "_law_many")], f__law_draw⟩
def d__law_any : Df := ⟨((Str.ofString "_law_any"), none), (Str.ofString "_law_any"), (Str.ofString "_law_any"), defArgs (top 29), defBody (top 29), defScope (top 29), [(Str.ofString "_law_hand_here"), (Str.ofString "_law_items")], [(Str.ofString "_law_hand_here"), (Str.ofString "_law_items")], f__law_any⟩
def d__law_hand : Df := ⟨((Str.ofString "_law_hand"), none), (Str.ofString "_law_hand"), (Str.ofString "_law_hand"), defArgs (top 27), defBody (top 27), defScope (top 27), [(Str.ofString "_law_script"), (Str.ofString "_law_cells"), (Str.ofString "_law_cell")], [(Str.ofString "_law_script")], f__law_hand⟩
def d_law : Df := ⟨((Str.ofString "law"), none), (Str.ofString "law"), (Str.ofString "law"), defArgs (top 32), defBody (top 32), defScope (top 32), [(Str.ofString "_law_script"), (Str.ofString "_law_hand_here"), (Str.ofString "_law_things"), (Str.ofString "_law_thing"), (Str.ofString "_law_fields"), (Str.ofString "_law_made"), (Str.ofString "_law_at"), (Str.ofString "_law_one"), (Str.ofString "_law_flags"), (Str.ofString "_law_field")], [(Str.ofString "_law_script")], f_law⟩
def L : Lw where
  names := [(Str.ofString "tuple"), (Str.ofString "list"), (Str.ofString "bool"), (Str.ofString "BadWeb"), (Str.ofString "part"), (Str.ofString "NoRow"), (Str.ofString "index"), (Str.ofString "TooMany"), (Str.ofString "most"), (Str.ofString "BadFoe"), (Str.ofString "NotKept"), (Str.ofString "word"), (Str.ofString "BadProgram"), (Str.ofString "place"), (Str.ofString "BadText"), (Str.ofString "line"), (Str.ofString "NoWeaving"), (Str.ofString "NoRoom"), (Str.ofString "NoNumber"), (Str.ofString "NoTags"), (Str.ofString "NoDeed"), (Str.ofString "TooFew"), (Str.ofString "NotFew"), (Str.ofString "NoSlip"), (Str.ofString "NotRight"), (Str.ofString "NotFree"), (Str.ofString "Full"), (Str.ofString "NoGiving"), (Str.ofString "NoNear"), (Str.ofString "NoPast"), (Str.ofString "NoText"), (Str.ofString "NoHands"), (Str.ofString "NoWay"), (Str.ofString "ValueError"), (Str.ofString "TagError")]
  defs := [d__law_is, d__law_nested, d__law_draw, d__law_any, d__law_hand, d_law]
  gls := [(0, .ty "tuple"), (1, .ty "list"), (2, .ty "bool")]
  cls := []
  flds := []
  exs := [(3, [4]), (5, [6]), (7, [8]), (9, [6]), (10, [11]), (12, [13]), (14, [15]), (16, [13]), (17, []), (18, []), (19, []), (20, []), (21, []), (22, []), (23, []), (24, []), (25, []), (26, []), (27, []), (28, []), (29, []), (30, []), (31, []), (32, []), (34, [])]
  bis := [33]
  subs := [((3, 3), true), ((3, 5), false), ((3, 7), false), ((3, 9), false), ((3, 10), false), ((3, 12), false), ((3, 14), false), ((3, 17), false), ((3, 18), false), ((3, 19), false), ((3, 20), false), ((3, 21), false), ((3, 22), false), ((3, 23), false), ((3, 24), false), ((3, 25), false), ((3, 26), false), ((3, 27), false), ((3, 28), false), ((3, 29), false), ((3, 30), false), ((3, 16), false), ((3, 31), false), ((3, 32), false), ((3, 33), true), ((3, 34), true), ((5, 3), false), ((5, 5), true), ((5, 7), false), ((5, 9), false), ((5, 10), false), ((5, 12), false), ((5, 14), false), ((5, 17), false), ((5, 18), false), ((5, 19), false), ((5, 20), false), ((5, 21), false), ((5, 22), false), ((5, 23), false), ((5, 24), false), ((5, 25), false), ((5, 26), false), ((5, 27), false), ((5, 28), false), ((5, 29), false), ((5, 30), false), ((5, 16), false), ((5, 31), false), ((5, 32), false), ((5, 33), true), ((5, 34), true), ((7, 3), false), ((7, 5), false), ((7, 7), true), ((7, 9), false), ((7, 10), false), ((7, 12), false), ((7, 14), false), ((7, 17), false), ((7, 18), false), ((7, 19), false), ((7, 20), false), ((7, 21), false), ((7, 22), false), ((7, 23), false), ((7, 24), false), ((7, 25), false), ((7, 26), false), ((7, 27), false), ((7, 28), false), ((7, 29), false), ((7, 30), false), ((7, 16), false), ((7, 31), false), ((7, 32), false), ((7, 33), true), ((7, 34), true), ((9, 3), false), ((9, 5), false), ((9, 7), false), ((9, 9), true), ((9, 10), false), ((9, 12), false), ((9, 14), false), ((9, 17), false), ((9, 18), false), ((9, 19), false), ((9, 20), false), ((9, 21), false), ((9, 22), false), ((9, 23), false), ((9, 24), false), ((9, 25), false), ((9, 26), false), ((9, 27), false), ((9, 28), false), ((9, 29), false), ((9, 30), false), ((9, 16), false), ((9, 31), false), ((9, 32), false), ((9, 33), true), ((9, 34), true), ((10, 3), false), ((10, 5), false), ((10, 7), false), ((10, 9), false), ((10, 10), true), ((10, 12), false), ((10, 14), false), ((10, 17), false), ((10, 18), false), ((10, 19), false), ((10, 20), false), ((10, 21), false), ((10, 22), false), ((10, 23), false), ((10, 24), false), ((10, 25), false), ((10, 26), false), ((10, 27), false), ((10, 28), false), ((10, 29), false), ((10, 30), false), ((10, 16), false), ((10, 31), false), ((10, 32), false), ((10, 33), true), ((10, 34), true), ((12, 3), false), ((12, 5), false), ((12, 7), false), ((12, 9), false), ((12, 10), false), ((12, 12), true), ((12, 14), false), ((12, 17), false), ((12, 18), false), ((12, 19), false), ((12, 20), false), ((12, 21), false), ((12, 22), false), ((12, 23), false), ((12, 24), false), ((12, 25), false), ((12, 26), false), ((12, 27), false), ((12, 28), false), ((12, 29), false), ((12, 30), false), ((12, 16), false), ((12, 31), false), ((12, 32), false), ((12, 33), true), ((12, 34), true), ((14, 3), false), ((14, 5), false), ((14, 7), false), ((14, 9), false), ((14, 10), false), ((14, 12), false), ((14, 14), true), ((14, 17), false), ((14, 18), false), ((14, 19), false), ((14, 20), false), ((14, 21), false), ((14, 22), false), ((14, 23), false), ((14, 24), false), ((14, 25), false), ((14, 26), false), ((14, 27), false), ((14, 28), false), ((14, 29), false), ((14, 30), false), ((14, 16), false), ((14, 31), false), ((14, 32), false), ((14, 33), true), ((14, 34), true), ((16, 3), false), ((16, 5), false), ((16, 7), false), ((16, 9), false), ((16, 10), false), ((16, 12), false), ((16, 14), false), ((16, 17), false), ((16, 18), false), ((16, 19), false), ((16, 20), false), ((16, 21), false), ((16, 22), false), ((16, 23), false), ((16, 24), false), ((16, 25), false), ((16, 26), false), ((16, 27), false), ((16, 28), false), ((16, 29), false), ((16, 30), false), ((16, 16), true), ((16, 31), false), ((16, 32), false), ((16, 33), true), ((16, 34), true), ((17, 3), false), ((17, 5), false), ((17, 7), false), ((17, 9), false), ((17, 10), false), ((17, 12), false), ((17, 14), false), ((17, 17), true), ((17, 18), false), ((17, 19), false), ((17, 20), false), ((17, 21), false), ((17, 22), false), ((17, 23), false), ((17, 24), false), ((17, 25), false), ((17, 26), false), ((17, 27), false), ((17, 28), false), ((17, 29), false), ((17, 30), false), ((17, 16), false), ((17, 31), false), ((17, 32), false), ((17, 33), true), ((17, 34), true), ((18, 3), false), ((18, 5), false), ((18, 7), false), ((18, 9), false), ((18, 10), false), ((18, 12), false), ((18, 14), false), ((18, 17), false), ((18, 18), true), ((18, 19), false), ((18, 20), false), ((18, 21), false), ((18, 22), false), ((18, 23), false), ((18, 24), false), ((18, 25), false), ((18, 26), false), ((18, 27), false), ((18, 28), false), ((18, 29), false), ((18, 30), false), ((18, 16), false), ((18, 31), false), ((18, 32), false), ((18, 33), true), ((18, 34), true), ((19, 3), false), ((19, 5), false), ((19, 7), false), ((19, 9), false), ((19, 10), false), ((19, 12), false), ((19, 14), false), ((19, 17), false), ((19, 18), false), ((19, 19), true), ((19, 20), false), ((19, 21), false), ((19, 22), false), ((19, 23), false), ((19, 24), false), ((19, 25), false), ((19, 26), false), ((19, 27), false), ((19, 28), false), ((19, 29), false), ((19, 30), false), ((19, 16), false), ((19, 31), false), ((19, 32), false), ((19, 33), true), ((19, 34), true), ((20, 3), false), ((20, 5), false), ((20, 7), false), ((20, 9), false), ((20, 10), false), ((20, 12), false), ((20, 14), false), ((20, 17), false), ((20, 18), false), ((20, 19), false), ((20, 20), true), ((20, 21), false), ((20, 22), false), ((20, 23), false), ((20, 24), false), ((20, 25), false), ((20, 26), false), ((20, 27), false), ((20, 28), false), ((20, 29), false), ((20, 30), false), ((20, 16), false), ((20, 31), false), ((20, 32), false), ((20, 33), true), ((20, 34), true), ((21, 3), false), ((21, 5), false), ((21, 7), false), ((21, 9), false), ((21, 10), false), ((21, 12), false), ((21, 14), false), ((21, 17), false), ((21, 18), false), ((21, 19), false), ((21, 20), false), ((21, 21), true), ((21, 22), false), ((21, 23), false), ((21, 24), false), ((21, 25), false), ((21, 26), false), ((21, 27), false), ((21, 28), false), ((21, 29), false), ((21, 30), false), ((21, 16), false), ((21, 31), false), ((21, 32), false), ((21, 33), true), ((21, 34), true), ((22, 3), false), ((22, 5), false), ((22, 7), false), ((22, 9), false), ((22, 10), false), ((22, 12), false), ((22, 14), false), ((22, 17), false), ((22, 18), false), ((22, 19), false), ((22, 20), false), ((22, 21), false), ((22, 22), true), ((22, 23), false), ((22, 24), false), ((22, 25), false), ((22, 26), false), ((22, 27), false), ((22, 28), false), ((22, 29), false), ((22, 30), false), ((22, 16), false), ((22, 31), false), ((22, 32), false), ((22, 33), true), ((22, 34), true), ((23, 3), false), ((23, 5), false), ((23, 7), false), ((23, 9), false), ((23, 10), false), ((23, 12), false), ((23, 14), false), ((23, 17), false), ((23, 18), false), ((23, 19), false), ((23, 20), false), ((23, 21), false), ((23, 22), false), ((23, 23), true), ((23, 24), false), ((23, 25), false), ((23, 26), false), ((23, 27), false), ((23, 28), false), ((23, 29), false), ((23, 30), false), ((23, 16), false), ((23, 31), false), ((23, 32), false), ((23, 33), true), ((23, 34), true), ((24, 3), false), ((24, 5), false), ((24, 7), false), ((24, 9), false), ((24, 10), false), ((24, 12), false), ((24, 14), false), ((24, 17), false), ((24, 18), false), ((24, 19), false), ((24, 20), false), ((24, 21), false), ((24, 22), false), ((24, 23), false), ((24, 24), true), ((24, 25), false), ((24, 26), false), ((24, 27), false), ((24, 28), false), ((24, 29), false), ((24, 30), false), ((24, 16), false), ((24, 31), false), ((24, 32), false), ((24, 33), true), ((24, 34), true), ((25, 3), false), ((25, 5), false), ((25, 7), false), ((25, 9), false), ((25, 10), false), ((25, 12), false), ((25, 14), false), ((25, 17), false), ((25, 18), false), ((25, 19), false), ((25, 20), false), ((25, 21), false), ((25, 22), false), ((25, 23), false), ((25, 24), false), ((25, 25), true), ((25, 26), false), ((25, 27), false), ((25, 28), false), ((25, 29), false), ((25, 30), false), ((25, 16), false), ((25, 31), false), ((25, 32), false), ((25, 33), true), ((25, 34), true), ((26, 3), false), ((26, 5), false), ((26, 7), false), ((26, 9), false), ((26, 10), false), ((26, 12), false), ((26, 14), false), ((26, 17), false), ((26, 18), false), ((26, 19), false), ((26, 20), false), ((26, 21), false), ((26, 22), false), ((26, 23), false), ((26, 24), false), ((26, 25), false), ((26, 26), true), ((26, 27), false), ((26, 28), false), ((26, 29), false), ((26, 30), false), ((26, 16), false), ((26, 31), false), ((26, 32), false), ((26, 33), true), ((26, 34), true), ((27, 3), false), ((27, 5), false), ((27, 7), false), ((27, 9), false), ((27, 10), false), ((27, 12), false), ((27, 14), false), ((27, 17), false), ((27, 18), false), ((27, 19), false), ((27, 20), false), ((27, 21), false), ((27, 22), false), ((27, 23), false), ((27, 24), false), ((27, 25), false), ((27, 26), false), ((27, 27), true), ((27, 28), false), ((27, 29), false), ((27, 30), false), ((27, 16), false), ((27, 31), false), ((27, 32), false), ((27, 33), true), ((27, 34), true), ((28, 3), false), ((28, 5), false), ((28, 7), false), ((28, 9), false), ((28, 10), false), ((28, 12), false), ((28, 14), false), ((28, 17), false), ((28, 18), false), ((28, 19), false), ((28, 20), false), ((28, 21), false), ((28, 22), false), ((28, 23), false), ((28, 24), false), ((28, 25), false), ((28, 26), false), ((28, 27), false), ((28, 28), true), ((28, 29), false), ((28, 30), false), ((28, 16), false), ((28, 31), false), ((28, 32), false), ((28, 33), true), ((28, 34), true), ((29, 3), false), ((29, 5), false), ((29, 7), false), ((29, 9), false), ((29, 10), false), ((29, 12), false), ((29, 14), false), ((29, 17), false), ((29, 18), false), ((29, 19), false), ((29, 20), false), ((29, 21), false), ((29, 22), false), ((29, 23), false), ((29, 24), false), ((29, 25), false), ((29, 26), false), ((29, 27), false), ((29, 28), false), ((29, 29), true), ((29, 30), false), ((29, 16), false), ((29, 31), false), ((29, 32), false), ((29, 33), true), ((29, 34), true), ((30, 3), false), ((30, 5), false), ((30, 7), false), ((30, 9), false), ((30, 10), false), ((30, 12), false), ((30, 14), false), ((30, 17), false), ((30, 18), false), ((30, 19), false), ((30, 20), false), ((30, 21), false), ((30, 22), false), ((30, 23), false), ((30, 24), false), ((30, 25), false), ((30, 26), false), ((30, 27), false), ((30, 28), false), ((30, 29), false), ((30, 30), true), ((30, 16), false), ((30, 31), false), ((30, 32), false), ((30, 33), true), ((30, 34), true), ((31, 3), false), ((31, 5), false), ((31, 7), false), ((31, 9), false), ((31, 10), false), ((31, 12), false), ((31, 14), false), ((31, 17), false), ((31, 18), false), ((31, 19), false), ((31, 20), false), ((31, 21), false), ((31, 22), false), ((31, 23), false), ((31, 24), false), ((31, 25), false), ((31, 26), false), ((31, 27), false), ((31, 28), false), ((31, 29), false), ((31, 30), false), ((31, 16), false), ((31, 31), true), ((31, 32), false), ((31, 33), true), ((31, 34), true), ((32, 3), false), ((32, 5), false), ((32, 7), false), ((32, 9), false), ((32, 10), false), ((32, 12), false), ((32, 14), false), ((32, 17), false), ((32, 18), false), ((32, 19), false), ((32, 20), false), ((32, 21), false), ((32, 22), false), ((32, 23), false), ((32, 24), false), ((32, 25), false), ((32, 26), false), ((32, 27), false), ((32, 28), false), ((32, 29), false), ((32, 30), false), ((32, 16), false), ((32, 31), false), ((32, 32), true), ((32, 33), true), ((32, 34), true), ((34, 3), false), ((34, 5), false), ((34, 7), false), ((34, 9), false), ((34, 10), false), ((34, 12), false), ((34, 14), false), ((34, 17), false), ((34, 18), false), ((34, 19), false), ((34, 20), false), ((34, 21), false), ((34, 22), false), ((34, 23), false), ((34, 24), false), ((34, 25), false), ((34, 26), false), ((34, 27), false), ((34, 28), false), ((34, 29), false), ((34, 30), false), ((34, 16), false), ((34, 31), false), ((34, 32), false), ((34, 33), true), ((34, 34), true)]
  file := PySem.Challenge.pw_staletags_k00_errors_of_the_package.main.file
theorem ok__law_is : DfOk L.ck d__law_is := ⟨by decide +kernel, by rfl, by rfl, by decide +kernel, fun _ _ _ _ _ _ us hl => match us, hl with | [_, _], _ => rfl⟩
theorem ok__law_nested : DfOk L.ck d__law_nested := ⟨by decide +kernel, by rfl, by rfl, by decide +kernel, fun _ _ _ _ _ _ us hl => match us, hl with | [_], _ => rfl⟩
theorem ok__law_draw : DfOk L.ck d__law_draw := ⟨by decide +kernel, by rfl, by rfl, by decide +kernel, fun _ _ _ _ _ _ us hl => match us, hl with | [_, _], _ => rfl⟩
theorem ok__law_any : DfOk L.ck d__law_any := ⟨by decide +kernel, by rfl, by rfl, by decide +kernel, fun _ _ _ _ _ _ us hl => match us, hl with | [_, _], _ => rfl⟩
theorem ok__law_hand : DfOk L.ck d__law_hand := ⟨by decide +kernel, by rfl, by rfl, by decide +kernel, fun _ _ _ _ _ _ us hl => match us, hl with | [_], _ => rfl⟩
theorem ok_law : DfOk L.ck d_law := ⟨by decide +kernel, by rfl, by rfl, by decide +kernel, fun _ _ _ _ _ _ us hl => match us, hl with | [_], _ => rfl⟩
theorem all_ok : AllOk L.ck L.defs := ⟨ok__law_is, ok__law_nested, ok__law_draw, ok__law_any, ok__law_hand, ok_law, trivial⟩
theorem chk_ok : L.chk = true := by decide +kernel
theorem chx_ok : L.chx = true := by decide +kernel
end Qv.Law
set_option Elab.async false
set_option linter.all false
set_option maxRecDepth 100000
set_option maxHeartbeats 4000000
namespace Qv.Law
open Qv

def hd (cells : List Int) (p : Nat) (w s c : Int) : Ob := .lst [.lst (cells.map .int), .int p, .int w, .int s, .int c]
theorem mulL {i j : Int} (h : -(2 ^ 64) < i ∧ i < 2 ^ 64) : mulOk i j := .inl h
theorem mulR {i j : Int} (h : -(2 ^ 64) < j ∧ j < 2 ^ 64) : mulOk i j := .inr h
/-- what a drawn number is -/
def DrawR (cells : List Int) (many : Int) (S : Sh) (d : D) (S' : Sh) : Prop := ∃ n p' w' s' c', d = .int n ∧ S' = hd cells p' w' s' c' :: S ∧ 0 ≤ n ∧ n < many ∧ 0 ≤ w'
def DrawM (cells : List Int) (many c : Int) (S : Sh) (f : Fl) (E : En) (S' : Sh) : Prop := f = .nx ∧ ∃ p w s x3, E = [some (.v (.ref 0)), some (.v (.int many)), none, x3, none] ∧ S' = hd cells p w s c :: S ∧ 0 ≤ w
theorem draw_ok (k : Nat) (cells : List Int) (hc : ∀ x ∈ cells, 0 ≤ x) (p : Nat) (w s c : Int) (hw : 0 ≤ w) (many : Int) (h1 : 0 < many) (h2 : many < 1073741824) (S : Sh) :
    Ok (callAt L.pg (k + 1) 2 [.ref 0, .int many] (hd cells p w s c :: S)) (DrawR cells many S) := by
  refine fn_W (fn := f__law_draw) rfl rfl ?_
  unfold f__law_draw b__law_draw
  refine b_consR (DrawM cells many c S) ?_ ?_
  · unfold hd
    try simp only [wpS, wpT, wpE, wpO, wpEs, wpAs, wpL, wpC, wpI, wpG, wpPar, wpSE, brwW, slotV, slotA, List.getElem?_cons_zero, List.getElem?_cons_succ, List.set_cons_zero, List.set_cons_succ, drf_int, drf_bl, drf_non, drf_str, drf_tup, drf_lst, drf_scr, drf_set, drf_ty, drf_ins, drf_glo, drf_0, ixL0, ixL1, ixL2, ixL3, ixL4, ixT0, ixT1, ixT2, ixAt0, ixAt1, ixAt2, ixAt3, ixAt4, tru_bl, tru_int, tru_tup, tru_lst, c_eq_int, c_ne_int, c_lt, c_le, c_gt, c_ge, c_in2, c_inL, c_inT, c_ninT, c_eq_bl, c_ne_bl, b_len_l, b_len_t, b_len_s, b_abs, b_int, b_tup_l, b_tup_t, b_max, b_min, o_add, o_sub, o_mul, o_fdiv, o_mod, o_pow, o_catT, o_catL, o_repT, o_repL, o_repL2, s_tupX, s_lstX, s_scrX, q_tup, q_lst, qi_tup, qi_lst, qi_scr, at_ins, isNon_int, isNon_non, wpN_nx, wpN_ret, wpN_brk, wpN_cnt, trn_nx, trn_cnt, trn_brk, trn_ret, raiseD_0, raiseD_1, List.map_cons, List.map_nil, List.length_cons, List.length_nil, Nat.zero_add, Nat.reduceAdd, Nat.reduceLT, true_and, and_true, Option.some.injEq, exists_eq_left', exists_eq_left, exists_and_left, Sl.ol.injEq, Sl.v.injEq, Sl.os.injEq, D.int.injEq, D.bl.injEq, D.tup.injEq, D.lst.injEq, D.ref.injEq, Ob.lst.injEq, List.cons.injEq, decide_eq_true_eq, Bool.not_eq_true', decide_eq_false_iff_not, bne_iff_ne, ne_eq, if_true, if_false, Bool.false_eq_true, Bool.true_eq_false, reduceIte, Bool.not_true, Bool.not_false, decide_true, decide_false, not_true_eq_false, not_false_eq_true, ex2, ex3, lim0, lim1, lim2, lim3, lim4, List.cons_append, List.nil_append, List.map, List.replicate]
    split
    · split
      · rename_i hp
        have hp : p < cells.length := by simpa using hp
        have e0 : (cells.map D.int)[p]? = some (.int cells[p]) := by simp [hp]
        have hx : 0 ≤ cells[p] := hc _ (List.getElem_mem hp)
        refine b_consW ?_
        try simp only [ixLn e0, wpS, wpT, wpE, wpO, wpEs, wpAs, wpL, wpC, wpI, wpG, wpPar, wpSE, brwW, slotV, slotA, List.getElem?_cons_zero, List.getElem?_cons_succ, List.set_cons_zero, List.set_cons_succ, drf_int, drf_bl, drf_non, drf_str, drf_tup, drf_lst, drf_scr, drf_set, drf_ty, drf_ins, drf_glo, drf_0, ixL0, ixL1, ixL2, ixL3, ixL4, ixT0, ixT1, ixT2, ixAt0, ixAt1, ixAt2, ixAt3, ixAt4, tru_bl, tru_int, tru_tup, tru_lst, c_eq_int, c_ne_int, c_lt, c_le, c_gt, c_ge, c_in2, c_inL, c_inT, c_ninT, c_eq_bl, c_ne_bl, b_len_l, b_len_t, b_len_s, b_abs, b_int, b_tup_l, b_tup_t, b_max, b_min, o_add, o_sub, o_mul, o_fdiv, o_mod, o_pow, o_catT, o_catL, o_repT, o_repL, o_repL2, s_tupX, s_lstX, s_scrX, q_tup, q_lst, qi_tup, qi_lst, qi_scr, at_ins, isNon_int, isNon_non, wpN_nx, wpN_ret, wpN_brk, wpN_cnt, trn_nx, trn_cnt, trn_brk, trn_ret, raiseD_0, raiseD_1, List.map_cons, List.map_nil, List.length_cons, List.length_nil, Nat.zero_add, Nat.reduceAdd, Nat.reduceLT, true_and, and_true, Option.some.injEq, exists_eq_left', exists_eq_left, exists_and_left, Sl.ol.injEq, Sl.v.injEq, Sl.os.injEq, D.int.injEq, D.bl.injEq, D.tup.injEq, D.lst.injEq, D.ref.injEq, Ob.lst.injEq, List.cons.injEq, decide_eq_true_eq, Bool.not_eq_true', decide_eq_false_iff_not, bne_iff_ne, ne_eq, if_true, if_false, Bool.false_eq_true, Bool.true_eq_false, reduceIte, Bool.not_true, Bool.not_false, decide_true, decide_false, not_true_eq_false, not_false_eq_true, ex2, ex3, lim0, lim1, lim2, lim3, lim4, List.cons_append, List.nil_append, List.map, List.replicate]
        refine b_consW ?_
        try simp only [wpS, wpT, wpE, wpO, wpEs, wpAs, wpL, wpC, wpI, wpG, wpPar, wpSE, brwW, slotV, slotA, List.getElem?_cons_zero, List.getElem?_cons_succ, List.set_cons_zero, List.set_cons_succ, drf_int, drf_bl, drf_non, drf_str, drf_tup, drf_lst, drf_scr, drf_set, drf_ty, drf_ins, drf_glo, drf_0, ixL0, ixL1, ixL2, ixL3, ixL4, ixT0, ixT1, ixT2, ixAt0, ixAt1, ixAt2, ixAt3, ixAt4, tru_bl, tru_int, tru_tup, tru_lst, c_eq_int, c_ne_int, c_lt, c_le, c_gt, c_ge, c_in2, c_inL, c_inT, c_ninT, c_eq_bl, c_ne_bl, b_len_l, b_len_t, b_len_s, b_abs, b_int, b_tup_l, b_tup_t, b_max, b_min, o_add, o_sub, o_mul, o_fdiv, o_mod, o_pow, o_catT, o_catL, o_repT, o_repL, o_repL2, s_tupX, s_lstX, s_scrX, q_tup, q_lst, qi_tup, qi_lst, qi_scr, at_ins, isNon_int, isNon_non, wpN_nx, wpN_ret, wpN_brk, wpN_cnt, trn_nx, trn_cnt, trn_brk, trn_ret, raiseD_0, raiseD_1, List.map_cons, List.map_nil, List.length_cons, List.length_nil, Nat.zero_add, Nat.reduceAdd, Nat.reduceLT, true_and, and_true, Option.some.injEq, exists_eq_left', exists_eq_left, exists_and_left, Sl.ol.injEq, Sl.v.injEq, Sl.os.injEq, D.int.injEq, D.bl.injEq, D.tup.injEq, D.lst.injEq, D.ref.injEq, Ob.lst.injEq, List.cons.injEq, decide_eq_true_eq, Bool.not_eq_true', decide_eq_false_iff_not, bne_iff_ne, ne_eq, if_true, if_false, Bool.false_eq_true, Bool.true_eq_false, reduceIte, Bool.not_true, Bool.not_false, decide_true, decide_false, not_true_eq_false, not_false_eq_true, ex2, ex3, lim0, lim1, lim2, lim3, lim4, List.cons_append, List.nil_append, List.map, List.replicate]
        have ep : (p : Int) + 1 = ((p + 1 : Nat) : Int) := by omega
        rw [ep]
        refine b_consW ?_
        try simp only [wpS, wpT, wpE, wpO, wpEs, wpAs, wpL, wpC, wpI, wpG, wpPar, wpSE, brwW, slotV, slotA, List.getElem?_cons_zero, List.getElem?_cons_succ, List.set_cons_zero, List.set_cons_succ, drf_int, drf_bl, drf_non, drf_str, drf_tup, drf_lst, drf_scr, drf_set, drf_ty, drf_ins, drf_glo, drf_0, ixL0, ixL1, ixL2, ixL3, ixL4, ixT0, ixT1, ixT2, ixAt0, ixAt1, ixAt2, ixAt3, ixAt4, tru_bl, tru_int, tru_tup, tru_lst, c_eq_int, c_ne_int, c_lt, c_le, c_gt, c_ge, c_in2, c_inL, c_inT, c_ninT, c_eq_bl, c_ne_bl, b_len_l, b_len_t, b_len_s, b_abs, b_int, b_tup_l, b_tup_t, b_max, b_min, o_add, o_sub, o_mul, o_fdiv, o_mod, o_pow, o_catT, o_catL, o_repT, o_repL, o_repL2, s_tupX, s_lstX, s_scrX, q_tup, q_lst, qi_tup, qi_lst, qi_scr, at_ins, isNon_int, isNon_non, wpN_nx, wpN_ret, wpN_brk, wpN_cnt, trn_nx, trn_cnt, trn_brk, trn_ret, raiseD_0, raiseD_1, List.map_cons, List.map_nil, List.length_cons, List.length_nil, Nat.zero_add, Nat.reduceAdd, Nat.reduceLT, true_and, and_true, Option.some.injEq, exists_eq_left', exists_eq_left, exists_and_left, Sl.ol.injEq, Sl.v.injEq, Sl.os.injEq, D.int.injEq, D.bl.injEq, D.tup.injEq, D.lst.injEq, D.ref.injEq, Ob.lst.injEq, List.cons.injEq, decide_eq_true_eq, Bool.not_eq_true', decide_eq_false_iff_not, bne_iff_ne, ne_eq, if_true, if_false, Bool.false_eq_true, Bool.true_eq_false, reduceIte, Bool.not_true, Bool.not_false, decide_true, decide_false, not_true_eq_false, not_false_eq_true, ex2, ex3, lim0, lim1, lim2, lim3, lim4, List.cons_append, List.nil_append, List.map, List.replicate]
        refine ⟨mulR (by omega), by omega, ?_⟩
        refine b_consW ?_
        try simp only [wpS, wpT, wpE, wpO, wpEs, wpAs, wpL, wpC, wpI, wpG, wpPar, wpSE, brwW, slotV, slotA, List.getElem?_cons_zero, List.getElem?_cons_succ, List.set_cons_zero, List.set_cons_succ, drf_int, drf_bl, drf_non, drf_str, drf_tup, drf_lst, drf_scr, drf_set, drf_ty, drf_ins, drf_glo, drf_0, ixL0, ixL1, ixL2, ixL3, ixL4, ixT0, ixT1, ixT2, ixAt0, ixAt1, ixAt2, ixAt3, ixAt4, tru_bl, tru_int, tru_tup, tru_lst, c_eq_int, c_ne_int, c_lt, c_le, c_gt, c_ge, c_in2, c_inL, c_inT, c_ninT, c_eq_bl, c_ne_bl, b_len_l, b_len_t, b_len_s, b_abs, b_int, b_tup_l, b_tup_t, b_max, b_min, o_add, o_sub, o_mul, o_fdiv, o_mod, o_pow, o_catT, o_catL, o_repT, o_repL, o_repL2, s_tupX, s_lstX, s_scrX, q_tup, q_lst, qi_tup, qi_lst, qi_scr, at_ins, isNon_int, isNon_non, wpN_nx, wpN_ret, wpN_brk, wpN_cnt, trn_nx, trn_cnt, trn_brk, trn_ret, raiseD_0, raiseD_1, List.map_cons, List.map_nil, List.length_cons, List.length_nil, Nat.zero_add, Nat.reduceAdd, Nat.reduceLT, true_and, and_true, Option.some.injEq, exists_eq_left', exists_eq_left, exists_and_left, Sl.ol.injEq, Sl.v.injEq, Sl.os.injEq, D.int.injEq, D.bl.injEq, D.tup.injEq, D.lst.injEq, D.ref.injEq, Ob.lst.injEq, List.cons.injEq, decide_eq_true_eq, Bool.not_eq_true', decide_eq_false_iff_not, bne_iff_ne, ne_eq, if_true, if_false, Bool.false_eq_true, Bool.true_eq_false, reduceIte, Bool.not_true, Bool.not_false, decide_true, decide_false, not_true_eq_false, not_false_eq_true, ex2, ex3, lim0, lim1, lim2, lim3, lim4, List.cons_append, List.nil_append, List.map, List.replicate]
        refine ⟨by decide, ?_⟩
        split
        · refine b_consW ?_
          try simp only [wpS, wpT, wpE, wpO, wpEs, wpAs, wpL, wpC, wpI, wpG, wpPar, wpSE, brwW, slotV, slotA, List.getElem?_cons_zero, List.getElem?_cons_succ, List.set_cons_zero, List.set_cons_succ, drf_int, drf_bl, drf_non, drf_str, drf_tup, drf_lst, drf_scr, drf_set, drf_ty, drf_ins, drf_glo, drf_0, ixL0, ixL1, ixL2, ixL3, ixL4, ixT0, ixT1, ixT2, ixAt0, ixAt1, ixAt2, ixAt3, ixAt4, tru_bl, tru_int, tru_tup, tru_lst, c_eq_int, c_ne_int, c_lt, c_le, c_gt, c_ge, c_in2, c_inL, c_inT, c_ninT, c_eq_bl, c_ne_bl, b_len_l, b_len_t, b_len_s, b_abs, b_int, b_tup_l, b_tup_t, b_max, b_min, o_add, o_sub, o_mul, o_fdiv, o_mod, o_pow, o_catT, o_catL, o_repT, o_repL, o_repL2, s_tupX, s_lstX, s_scrX, q_tup, q_lst, qi_tup, qi_lst, qi_scr, at_ins, isNon_int, isNon_non, wpN_nx, wpN_ret, wpN_brk, wpN_cnt, trn_nx, trn_cnt, trn_brk, trn_ret, raiseD_0, raiseD_1, List.map_cons, List.map_nil, List.length_cons, List.length_nil, Nat.zero_add, Nat.reduceAdd, Nat.reduceLT, true_and, and_true, Option.some.injEq, exists_eq_left', exists_eq_left, exists_and_left, Sl.ol.injEq, Sl.v.injEq, Sl.os.injEq, D.int.injEq, D.bl.injEq, D.tup.injEq, D.lst.injEq, D.ref.injEq, Ob.lst.injEq, List.cons.injEq, decide_eq_true_eq, Bool.not_eq_true', decide_eq_false_iff_not, bne_iff_ne, ne_eq, if_true, if_false, Bool.false_eq_true, Bool.true_eq_false, reduceIte, Bool.not_true, Bool.not_false, decide_true, decide_false, not_true_eq_false, not_false_eq_true, ex2, ex3, lim0, lim1, lim2, lim3, lim4, List.cons_append, List.nil_append, List.map, List.replicate]
          exact b_nilN (b_nilW ⟨rfl, _, _, _, _, rfl, rfl, hx⟩)
        · exact b_nilN (b_nilW ⟨rfl, _, _, _, _, rfl, rfl, hw⟩)
      · exact b_nilW ⟨rfl, _, _, _, _, rfl, rfl, hw⟩
    · exact b_nilW ⟨rfl, _, _, _, _, rfl, rfl, hw⟩
  · rintro f E S' ⟨rfl, p, w, s, x3, rfl, rfl, hw⟩
    rw [wpN_nx]
    unfold hd
    refine b_consW ?_
    try simp only [wpS, wpT, wpE, wpO, wpEs, wpAs, wpL, wpC, wpI, wpG, wpPar, wpSE, brwW, slotV, slotA, List.getElem?_cons_zero, List.getElem?_cons_succ, List.set_cons_zero, List.set_cons_succ, drf_int, drf_bl, drf_non, drf_str, drf_tup, drf_lst, drf_scr, drf_set, drf_ty, drf_ins, drf_glo, drf_0, ixL0, ixL1, ixL2, ixL3, ixL4, ixT0, ixT1, ixT2, ixAt0, ixAt1, ixAt2, ixAt3, ixAt4, tru_bl, tru_int, tru_tup, tru_lst, c_eq_int, c_ne_int, c_lt, c_le, c_gt, c_ge, c_in2, c_inL, c_inT, c_ninT, c_eq_bl, c_ne_bl, b_len_l, b_len_t, b_len_s, b_abs, b_int, b_tup_l, b_tup_t, b_max, b_min, o_add, o_sub, o_mul, o_fdiv, o_mod, o_pow, o_catT, o_catL, o_repT, o_repL, o_repL2, s_tupX, s_lstX, s_scrX, q_tup, q_lst, qi_tup, qi_lst, qi_scr, at_ins, isNon_int, isNon_non, wpN_nx, wpN_ret, wpN_brk, wpN_cnt, trn_nx, trn_cnt, trn_brk, trn_ret, raiseD_0, raiseD_1, List.map_cons, List.map_nil, List.length_cons, List.length_nil, Nat.zero_add, Nat.reduceAdd, Nat.reduceLT, true_and, and_true, Option.some.injEq, exists_eq_left', exists_eq_left, exists_and_left, Sl.ol.injEq, Sl.v.injEq, Sl.os.injEq, D.int.injEq, D.bl.injEq, D.tup.injEq, D.lst.injEq, D.ref.injEq, Ob.lst.injEq, List.cons.injEq, decide_eq_true_eq, Bool.not_eq_true', decide_eq_false_iff_not, bne_iff_ne, ne_eq, if_true, if_false, Bool.false_eq_true, Bool.true_eq_false, reduceIte, Bool.not_true, Bool.not_false, decide_true, decide_false, not_true_eq_false, not_false_eq_true, ex2, ex3, lim0, lim1, lim2, lim3, lim4, List.cons_append, List.nil_append, List.map, List.replicate]
    split
    · refine b_consW ?_
      try simp only [wpS, wpT, wpE, wpO, wpEs, wpAs, wpL, wpC, wpI, wpG, wpPar, wpSE, brwW, slotV, slotA, List.getElem?_cons_zero, List.getElem?_cons_succ, List.set_cons_zero, List.set_cons_succ, drf_int, drf_bl, drf_non, drf_str, drf_tup, drf_lst, drf_scr, drf_set, drf_ty, drf_ins, drf_glo, drf_0, ixL0, ixL1, ixL2, ixL3, ixL4, ixT0, ixT1, ixT2, ixAt0, ixAt1, ixAt2, ixAt3, ixAt4, tru_bl, tru_int, tru_tup, tru_lst, c_eq_int, c_ne_int, c_lt, c_le, c_gt, c_ge, c_in2, c_inL, c_inT, c_ninT, c_eq_bl, c_ne_bl, b_len_l, b_len_t, b_len_s, b_abs, b_int, b_tup_l, b_tup_t, b_max, b_min, o_add, o_sub, o_mul, o_fdiv, o_mod, o_pow, o_catT, o_catL, o_repT, o_repL, o_repL2, s_tupX, s_lstX, s_scrX, q_tup, q_lst, qi_tup, qi_lst, qi_scr, at_ins, isNon_int, isNon_non, wpN_nx, wpN_ret, wpN_brk, wpN_cnt, trn_nx, trn_cnt, trn_brk, trn_ret, raiseD_0, raiseD_1, List.map_cons, List.map_nil, List.length_cons, List.length_nil, Nat.zero_add, Nat.reduceAdd, Nat.reduceLT, true_and, and_true, Option.some.injEq, exists_eq_left', exists_eq_left, exists_and_left, Sl.ol.injEq, Sl.v.injEq, Sl.os.injEq, D.int.injEq, D.bl.injEq, D.tup.injEq, D.lst.injEq, D.ref.injEq, Ob.lst.injEq, List.cons.injEq, decide_eq_true_eq, Bool.not_eq_true', decide_eq_false_iff_not, bne_iff_ne, ne_eq, if_true, if_false, Bool.false_eq_true, Bool.true_eq_false, reduceIte, Bool.not_true, Bool.not_false, decide_true, decide_false, not_true_eq_false, not_false_eq_true, ex2, ex3, lim0, lim1, lim2, lim3, lim4, List.cons_append, List.nil_append, List.map, List.replicate]
      refine ⟨h1, ?_⟩
      refine b_consW ?_
      try simp only [wpS, wpT, wpE, wpO, wpEs, wpAs, wpL, wpC, wpI, wpG, wpPar, wpSE, brwW, slotV, slotA, List.getElem?_cons_zero, List.getElem?_cons_succ, List.set_cons_zero, List.set_cons_succ, drf_int, drf_bl, drf_non, drf_str, drf_tup, drf_lst, drf_scr, drf_set, drf_ty, drf_ins, drf_glo, drf_0, ixL0, ixL1, ixL2, ixL3, ixL4, ixT0, ixT1, ixT2, ixAt0, ixAt1, ixAt2, ixAt3, ixAt4, tru_bl, tru_int, tru_tup, tru_lst, c_eq_int, c_ne_int, c_lt, c_le, c_gt, c_ge, c_in2, c_inL, c_inT, c_ninT, c_eq_bl, c_ne_bl, b_len_l, b_len_t, b_len_s, b_abs, b_int, b_tup_l, b_tup_t, b_max, b_min, o_add, o_sub, o_mul, o_fdiv, o_mod, o_pow, o_catT, o_catL, o_repT, o_repL, o_repL2, s_tupX, s_lstX, s_scrX, q_tup, q_lst, qi_tup, qi_lst, qi_scr, at_ins, isNon_int, isNon_non, wpN_nx, wpN_ret, wpN_brk, wpN_cnt, trn_nx, trn_cnt, trn_brk, trn_ret, raiseD_0, raiseD_1, List.map_cons, List.map_nil, List.length_cons, List.length_nil, Nat.zero_add, Nat.reduceAdd, Nat.reduceLT, true_and, and_true, Option.some.injEq, exists_eq_left', exists_eq_left, exists_and_left, Sl.ol.injEq, Sl.v.injEq, Sl.os.injEq, D.int.injEq, D.bl.injEq, D.tup.injEq, D.lst.injEq, D.ref.injEq, Ob.lst.injEq, List.cons.injEq, decide_eq_true_eq, Bool.not_eq_true', decide_eq_false_iff_not, bne_iff_ne, ne_eq, if_true, if_false, Bool.false_eq_true, Bool.true_eq_false, reduceIte, Bool.not_true, Bool.not_false, decide_true, decide_false, not_true_eq_false, not_false_eq_true, ex2, ex3, lim0, lim1, lim2, lim3, lim4, List.cons_append, List.nil_append, List.map, List.replicate]
      refine ⟨⟨h1, h2⟩, ?_⟩
      refine b_consW ?_
      try simp only [wpS, wpT, wpE, wpO, wpEs, wpAs, wpL, wpC, wpI, wpG, wpPar, wpSE, brwW, slotV, slotA, List.getElem?_cons_zero, List.getElem?_cons_succ, List.set_cons_zero, List.set_cons_succ, drf_int, drf_bl, drf_non, drf_str, drf_tup, drf_lst, drf_scr, drf_set, drf_ty, drf_ins, drf_glo, drf_0, ixL0, ixL1, ixL2, ixL3, ixL4, ixT0, ixT1, ixT2, ixAt0, ixAt1, ixAt2, ixAt3, ixAt4, tru_bl, tru_int, tru_tup, tru_lst, c_eq_int, c_ne_int, c_lt, c_le, c_gt, c_ge, c_in2, c_inL, c_inT, c_ninT, c_eq_bl, c_ne_bl, b_len_l, b_len_t, b_len_s, b_abs, b_int, b_tup_l, b_tup_t, b_max, b_min, o_add, o_sub, o_mul, o_fdiv, o_mod, o_pow, o_catT, o_catL, o_repT, o_repL, o_repL2, s_tupX, s_lstX, s_scrX, q_tup, q_lst, qi_tup, qi_lst, qi_scr, at_ins, isNon_int, isNon_non, wpN_nx, wpN_ret, wpN_brk, wpN_cnt, trn_nx, trn_cnt, trn_brk, trn_ret, raiseD_0, raiseD_1, List.map_cons, List.map_nil, List.length_cons, List.length_nil, Nat.zero_add, Nat.reduceAdd, Nat.reduceLT, true_and, and_true, Option.some.injEq, exists_eq_left', exists_eq_left, exists_and_left, Sl.ol.injEq, Sl.v.injEq, Sl.os.injEq, D.int.injEq, D.bl.injEq, D.tup.injEq, D.lst.injEq, D.ref.injEq, Ob.lst.injEq, List.cons.injEq, decide_eq_true_eq, Bool.not_eq_true', decide_eq_false_iff_not, bne_iff_ne, ne_eq, if_true, if_false, Bool.false_eq_true, Bool.true_eq_false, reduceIte, Bool.not_true, Bool.not_false, decide_true, decide_false, not_true_eq_false, not_false_eq_true, ex2, ex3, lim0, lim1, lim2, lim3, lim4, List.cons_append, List.nil_append, List.map, List.replicate]
      exact ⟨_, _, _, _, _, rfl, rfl, Int.emod_nonneg _ (by omega), Int.emod_lt_of_pos _ h1, Int.ediv_nonneg hw (by omega)⟩
    · refine b_nilN ?_
      refine b_consW ?_
      try simp only [wpS, wpT, wpE, wpO, wpEs, wpAs, wpL, wpC, wpI, wpG, wpPar, wpSE, brwW, slotV, slotA, List.getElem?_cons_zero, List.getElem?_cons_succ, List.set_cons_zero, List.set_cons_succ, drf_int, drf_bl, drf_non, drf_str, drf_tup, drf_lst, drf_scr, drf_set, drf_ty, drf_ins, drf_glo, drf_0, ixL0, ixL1, ixL2, ixL3, ixL4, ixT0, ixT1, ixT2, ixAt0, ixAt1, ixAt2, ixAt3, ixAt4, tru_bl, tru_int, tru_tup, tru_lst, c_eq_int, c_ne_int, c_lt, c_le, c_gt, c_ge, c_in2, c_inL, c_inT, c_ninT, c_eq_bl, c_ne_bl, b_len_l, b_len_t, b_len_s, b_abs, b_int, b_tup_l, b_tup_t, b_max, b_min, o_add, o_sub, o_mul, o_fdiv, o_mod, o_pow, o_catT, o_catL, o_repT, o_repL, o_repL2, s_tupX, s_lstX, s_scrX, q_tup, q_lst, qi_tup, qi_lst, qi_scr, at_ins, isNon_int, isNon_non, wpN_nx, wpN_ret, wpN_brk, wpN_cnt, trn_nx, trn_cnt, trn_brk, trn_ret, raiseD_0, raiseD_1, List.map_cons, List.map_nil, List.length_cons, List.length_nil, Nat.zero_add, Nat.reduceAdd, Nat.reduceLT, true_and, and_true, Option.some.injEq, exists_eq_left', exists_eq_left, exists_and_left, Sl.ol.injEq, Sl.v.injEq, Sl.os.injEq, D.int.injEq, D.bl.injEq, D.tup.injEq, D.lst.injEq, D.ref.injEq, Ob.lst.injEq, List.cons.injEq, decide_eq_true_eq, Bool.not_eq_true', decide_eq_false_iff_not, bne_iff_ne, ne_eq, if_true, if_false, Bool.false_eq_true, Bool.true_eq_false, reduceIte, Bool.not_true, Bool.not_false, decide_true, decide_false, not_true_eq_false, not_false_eq_true, ex2, ex3, lim0, lim1, lim2, lim3, lim4, List.cons_append, List.nil_append, List.map, List.replicate]
      refine b_consW ?_
      try simp only [wpS, wpT, wpE, wpO, wpEs, wpAs, wpL, wpC, wpI, wpG, wpPar, wpSE, brwW, slotV, slotA, List.getElem?_cons_zero, List.getElem?_cons_succ, List.set_cons_zero, List.set_cons_succ, drf_int, drf_bl, drf_non, drf_str, drf_tup, drf_lst, drf_scr, drf_set, drf_ty, drf_ins, drf_glo, drf_0, ixL0, ixL1, ixL2, ixL3, ixL4, ixT0, ixT1, ixT2, ixAt0, ixAt1, ixAt2, ixAt3, ixAt4, tru_bl, tru_int, tru_tup, tru_lst, c_eq_int, c_ne_int, c_lt, c_le, c_gt, c_ge, c_in2, c_inL, c_inT, c_ninT, c_eq_bl, c_ne_bl, b_len_l, b_len_t, b_len_s, b_abs, b_int, b_tup_l, b_tup_t, b_max, b_min, o_add, o_sub, o_mul, o_fdiv, o_mod, o_pow, o_catT, o_catL, o_repT, o_repL, o_repL2, s_tupX, s_lstX, s_scrX, q_tup, q_lst, qi_tup, qi_lst, qi_scr, at_ins, isNon_int, isNon_non, wpN_nx, wpN_ret, wpN_brk, wpN_cnt, trn_nx, trn_cnt, trn_brk, trn_ret, raiseD_0, raiseD_1, List.map_cons, List.map_nil, List.length_cons, List.length_nil, Nat.zero_add, Nat.reduceAdd, Nat.reduceLT, true_and, and_true, Option.some.injEq, exists_eq_left', exists_eq_left, exists_and_left, Sl.ol.injEq, Sl.v.injEq, Sl.os.injEq, D.int.injEq, D.bl.injEq, D.tup.injEq, D.lst.injEq, D.ref.injEq, Ob.lst.injEq, List.cons.injEq, decide_eq_true_eq, Bool.not_eq_true', decide_eq_false_iff_not, bne_iff_ne, ne_eq, if_true, if_false, Bool.false_eq_true, Bool.true_eq_false, reduceIte, Bool.not_true, Bool.not_false, decide_true, decide_false, not_true_eq_false, not_false_eq_true, ex2, ex3, lim0, lim1, lim2, lim3, lim4, List.cons_append, List.nil_append, List.map, List.replicate]
      refine ⟨mulL (by omega), mulR (by omega), by omega, ?_⟩
      generalize hn : (s + 7919 * (c + 1)) * 48271 % 2147483647 = n
      have n0 : 0 ≤ n := by omega
      have n1 : n < 2147483647 := by omega
      refine b_consW ?_
      try simp only [wpS, wpT, wpE, wpO, wpEs, wpAs, wpL, wpC, wpI, wpG, wpPar, wpSE, brwW, slotV, slotA, List.getElem?_cons_zero, List.getElem?_cons_succ, List.set_cons_zero, List.set_cons_succ, drf_int, drf_bl, drf_non, drf_str, drf_tup, drf_lst, drf_scr, drf_set, drf_ty, drf_ins, drf_glo, drf_0, ixL0, ixL1, ixL2, ixL3, ixL4, ixT0, ixT1, ixT2, ixAt0, ixAt1, ixAt2, ixAt3, ixAt4, tru_bl, tru_int, tru_tup, tru_lst, c_eq_int, c_ne_int, c_lt, c_le, c_gt, c_ge, c_in2, c_inL, c_inT, c_ninT, c_eq_bl, c_ne_bl, b_len_l, b_len_t, b_len_s, b_abs, b_int, b_tup_l, b_tup_t, b_max, b_min, o_add, o_sub, o_mul, o_fdiv, o_mod, o_pow, o_catT, o_catL, o_repT, o_repL, o_repL2, s_tupX, s_lstX, s_scrX, q_tup, q_lst, qi_tup, qi_lst, qi_scr, at_ins, isNon_int, isNon_non, wpN_nx, wpN_ret, wpN_brk, wpN_cnt, trn_nx, trn_cnt, trn_brk, trn_ret, raiseD_0, raiseD_1, List.map_cons, List.map_nil, List.length_cons, List.length_nil, Nat.zero_add, Nat.reduceAdd, Nat.reduceLT, true_and, and_true, Option.some.injEq, exists_eq_left', exists_eq_left, exists_and_left, Sl.ol.injEq, Sl.v.injEq, Sl.os.injEq, D.int.injEq, D.bl.injEq, D.tup.injEq, D.lst.injEq, D.ref.injEq, Ob.lst.injEq, List.cons.injEq, decide_eq_true_eq, Bool.not_eq_true', decide_eq_false_iff_not, bne_iff_ne, ne_eq, if_true, if_false, Bool.false_eq_true, Bool.true_eq_false, reduceIte, Bool.not_true, Bool.not_false, decide_true, decide_false, not_true_eq_false, not_false_eq_true, ex2, ex3, lim0, lim1, lim2, lim3, lim4, List.cons_append, List.nil_append, List.map, List.replicate]
      refine ⟨by omega, mulL (by omega), by omega, ?_⟩
      generalize hm : n * (n / 1009 + 69621) % 2147483647 = m
      have m0 : 0 ≤ m := by omega
      have m1 : m < 2147483647 := by omega
      refine b_consW ?_
      try simp only [wpS, wpT, wpE, wpO, wpEs, wpAs, wpL, wpC, wpI, wpG, wpPar, wpSE, brwW, slotV, slotA, List.getElem?_cons_zero, List.getElem?_cons_succ, List.set_cons_zero, List.set_cons_succ, drf_int, drf_bl, drf_non, drf_str, drf_tup, drf_lst, drf_scr, drf_set, drf_ty, drf_ins, drf_glo, drf_0, ixL0, ixL1, ixL2, ixL3, ixL4, ixT0, ixT1, ixT2, ixAt0, ixAt1, ixAt2, ixAt3, ixAt4, tru_bl, tru_int, tru_tup, tru_lst, c_eq_int, c_ne_int, c_lt, c_le, c_gt, c_ge, c_in2, c_inL, c_inT, c_ninT, c_eq_bl, c_ne_bl, b_len_l, b_len_t, b_len_s, b_abs, b_int, b_tup_l, b_tup_t, b_max, b_min, o_add, o_sub, o_mul, o_fdiv, o_mod, o_pow, o_catT, o_catL, o_repT, o_repL, o_repL2, s_tupX, s_lstX, s_scrX, q_tup, q_lst, qi_tup, qi_lst, qi_scr, at_ins, isNon_int, isNon_non, wpN_nx, wpN_ret, wpN_brk, wpN_cnt, trn_nx, trn_cnt, trn_brk, trn_ret, raiseD_0, raiseD_1, List.map_cons, List.map_nil, List.length_cons, List.length_nil, Nat.zero_add, Nat.reduceAdd, Nat.reduceLT, true_and, and_true, Option.some.injEq, exists_eq_left', exists_eq_left, exists_and_left, Sl.ol.injEq, Sl.v.injEq, Sl.os.injEq, D.int.injEq, D.bl.injEq, D.tup.injEq, D.lst.injEq, D.ref.injEq, Ob.lst.injEq, List.cons.injEq, decide_eq_true_eq, Bool.not_eq_true', decide_eq_false_iff_not, bne_iff_ne, ne_eq, if_true, if_false, Bool.false_eq_true, Bool.true_eq_false, reduceIte, Bool.not_true, Bool.not_false, decide_true, decide_false, not_true_eq_false, not_false_eq_true, ex2, ex3, lim0, lim1, lim2, lim3, lim4, List.cons_append, List.nil_append, List.map, List.replicate]
      refine ⟨by omega, mulL (by omega), by omega, ?_⟩
      refine b_consW ?_
      try simp only [wpS, wpT, wpE, wpO, wpEs, wpAs, wpL, wpC, wpI, wpG, wpPar, wpSE, brwW, slotV, slotA, List.getElem?_cons_zero, List.getElem?_cons_succ, List.set_cons_zero, List.set_cons_succ, drf_int, drf_bl, drf_non, drf_str, drf_tup, drf_lst, drf_scr, drf_set, drf_ty, drf_ins, drf_glo, drf_0, ixL0, ixL1, ixL2, ixL3, ixL4, ixT0, ixT1, ixT2, ixAt0, ixAt1, ixAt2, ixAt3, ixAt4, tru_bl, tru_int, tru_tup, tru_lst, c_eq_int, c_ne_int, c_lt, c_le, c_gt, c_ge, c_in2, c_inL, c_inT, c_ninT, c_eq_bl, c_ne_bl, b_len_l, b_len_t, b_len_s, b_abs, b_int, b_tup_l, b_tup_t, b_max, b_min, o_add, o_sub, o_mul, o_fdiv, o_mod, o_pow, o_catT, o_catL, o_repT, o_repL, o_repL2, s_tupX, s_lstX, s_scrX, q_tup, q_lst, qi_tup, qi_lst, qi_scr, at_ins, isNon_int, isNon_non, wpN_nx, wpN_ret, wpN_brk, wpN_cnt, trn_nx, trn_cnt, trn_brk, trn_ret, raiseD_0, raiseD_1, List.map_cons, List.map_nil, List.length_cons, List.length_nil, Nat.zero_add, Nat.reduceAdd, Nat.reduceLT, true_and, and_true, Option.some.injEq, exists_eq_left', exists_eq_left, exists_and_left, Sl.ol.injEq, Sl.v.injEq, Sl.os.injEq, D.int.injEq, D.bl.injEq, D.tup.injEq, D.lst.injEq, D.ref.injEq, Ob.lst.injEq, List.cons.injEq, decide_eq_true_eq, Bool.not_eq_true', decide_eq_false_iff_not, bne_iff_ne, ne_eq, if_true, if_false, Bool.false_eq_true, Bool.true_eq_false, reduceIte, Bool.not_true, Bool.not_false, decide_true, decide_false, not_true_eq_false, not_false_eq_true, ex2, ex3, lim0, lim1, lim2, lim3, lim4, List.cons_append, List.nil_append, List.map, List.replicate]
      refine ⟨by omega, h1, ?_⟩
      exact ⟨_, _, _, _, _, rfl, rfl, Int.emod_nonneg _ (by omega), Int.emod_lt_of_pos _ h1, hw⟩
/-- the hand that all draw from -/
def IsHand (o : Ob) : Prop := ∃ cells p w s c, o = hd cells p w s c ∧ (∀ x ∈ cells, 0 ≤ x) ∧ 0 ≤ w
/-- a hand stands first -/
def HS (R S : Sh) : Prop := ∃ o, IsHand o ∧ S = o :: R
def NatB (m : Int) (d : D) : Prop := ∃ n : Nat, d = .int (n : Int) ∧ (n : Int) < m
theorem drw {C : Calls} {k : Nat} (hC : C.fn = callAt L.pg (k + 1)) {R S : Sh} (h : HS R S) {many : Int} (h1 : 0 < many) (h2 : many < 1073741824) : Ok (C.fn 2 [.ref 0, .int many] S) fun d S' => NatB many d ∧ HS R S' := by
  obtain ⟨o, ⟨cells, p, w, s, c, rfl, hc, hw⟩, rfl⟩ := h
  rw [hC]
  refine (draw_ok k cells hc p w s c hw many h1 h2 R).mono fun d S' ⟨n, p', w', s', c', e1, e2, n0, n1, w0⟩ => ⟨⟨n.toNat, ?_, ?_⟩, _, ⟨cells, p', w', s', c', rfl, hc, w0⟩, e2⟩
  · rw [e1, Int.toNat_of_nonneg n0]
  · rw [Int.toNat_of_nonneg n0]; exact n1
def HandR (d : D) (S : Sh) : Prop := d = .ref 0 ∧ HS [] S
theorem hand_ok (k : Nat) (ns : List Int) : Ok (callAt L.pg (k + 1) 4 [.scr ns] []) HandR := by
  refine fn_W (fn := f__law_hand) rfl rfl ?_
  unfold f__law_hand b__law_hand
  refine b_consW ?_
  try simp only [wpS, wpT, wpE, wpO, wpEs, wpAs, wpL, wpC, wpI, wpG, wpPar, wpSE, brwW, slotV, slotA, List.getElem?_cons_zero, List.getElem?_cons_succ, List.set_cons_zero, List.set_cons_succ, drf_int, drf_bl, drf_non, drf_str, drf_tup, drf_lst, drf_scr, drf_set, drf_ty, drf_ins, drf_glo, drf_0, ixL0, ixL1, ixL2, ixL3, ixL4, ixT0, ixT1, ixT2, ixAt0, ixAt1, ixAt2, ixAt3, ixAt4, tru_bl, tru_int, tru_tup, tru_lst, c_eq_int, c_ne_int, c_lt, c_le, c_gt, c_ge, c_in2, c_inL, c_inT, c_ninT, c_eq_bl, c_ne_bl, b_len_l, b_len_t, b_len_s, b_abs, b_int, b_tup_l, b_tup_t, b_max, b_min, o_add, o_sub, o_mul, o_fdiv, o_mod, o_pow, o_catT, o_catL, o_repT, o_repL, o_repL2, s_tupX, s_lstX, s_scrX, q_tup, q_lst, qi_tup, qi_lst, qi_scr, at_ins, isNon_int, isNon_non, wpN_nx, wpN_ret, wpN_brk, wpN_cnt, trn_nx, trn_cnt, trn_brk, trn_ret, raiseD_0, raiseD_1, List.map_cons, List.map_nil, List.length_cons, List.length_nil, Nat.zero_add, Nat.reduceAdd, Nat.reduceLT, true_and, and_true, Option.some.injEq, exists_eq_left', exists_eq_left, exists_and_left, Sl.ol.injEq, Sl.v.injEq, Sl.os.injEq, D.int.injEq, D.bl.injEq, D.tup.injEq, D.lst.injEq, D.ref.injEq, Ob.lst.injEq, List.cons.injEq, decide_eq_true_eq, Bool.not_eq_true', decide_eq_false_iff_not, bne_iff_ne, ne_eq, if_true, if_false, Bool.false_eq_true, Bool.true_eq_false, reduceIte, Bool.not_true, Bool.not_false, decide_true, decide_false, not_true_eq_false, not_false_eq_true, ex2, ex3, lim0, lim1, lim2, lim3, lim4, List.cons_append, List.nil_append, List.map, List.replicate]
  have ec : cutD (ns.map D.int) none (some 63) = (ns.take 63).map D.int := by
    unfold cutD sIxO
    simp [List.map_take]
  rw [ec]
  refine compL_map2 (g := fun d => match d with
    | .int i => some (.int (if i < 0 then -i else i))
    | _ => none) _ (by simp [LIM]; omega) (fun x hx => ?_) ?_
  · obtain ⟨i, _, rfl⟩ := List.mem_map.mp hx
    refine compF_W ?_
    try simp only [wipeE, wpS, wpT, wpE, wpO, wpEs, wpAs, wpL, wpC, wpI, wpG, wpPar, wpSE, brwW, slotV, slotA, List.getElem?_cons_zero, List.getElem?_cons_succ, List.set_cons_zero, List.set_cons_succ, drf_int, drf_bl, drf_non, drf_str, drf_tup, drf_lst, drf_scr, drf_set, drf_ty, drf_ins, drf_glo, drf_0, ixL0, ixL1, ixL2, ixL3, ixL4, ixT0, ixT1, ixT2, ixAt0, ixAt1, ixAt2, ixAt3, ixAt4, tru_bl, tru_int, tru_tup, tru_lst, c_eq_int, c_ne_int, c_lt, c_le, c_gt, c_ge, c_in2, c_inL, c_inT, c_ninT, c_eq_bl, c_ne_bl, b_len_l, b_len_t, b_len_s, b_abs, b_int, b_tup_l, b_tup_t, b_max, b_min, o_add, o_sub, o_mul, o_fdiv, o_mod, o_pow, o_catT, o_catL, o_repT, o_repL, o_repL2, s_tupX, s_lstX, s_scrX, q_tup, q_lst, qi_tup, qi_lst, qi_scr, at_ins, isNon_int, isNon_non, wpN_nx, wpN_ret, wpN_brk, wpN_cnt, trn_nx, trn_cnt, trn_brk, trn_ret, raiseD_0, raiseD_1, List.map_cons, List.map_nil, List.length_cons, List.length_nil, Nat.zero_add, Nat.reduceAdd, Nat.reduceLT, true_and, and_true, Option.some.injEq, exists_eq_left', exists_eq_left, exists_and_left, Sl.ol.injEq, Sl.v.injEq, Sl.os.injEq, D.int.injEq, D.bl.injEq, D.tup.injEq, D.lst.injEq, D.ref.injEq, Ob.lst.injEq, List.cons.injEq, decide_eq_true_eq, Bool.not_eq_true', decide_eq_false_iff_not, bne_iff_ne, ne_eq, if_true, if_false, Bool.false_eq_true, Bool.true_eq_false, reduceIte, Bool.not_true, Bool.not_false, decide_true, decide_false, not_true_eq_false, not_false_eq_true, ex2, ex3, lim0, lim1, lim2, lim3, lim4, List.cons_append, List.nil_append, List.map, List.replicate]
  · have e2 : ((ns.take 63).map D.int).filterMap (fun d => match d with
        | .int i => some (.int (if i < 0 then -i else i))
        | _ => none) = ((ns.take 63).map fun i => if i < 0 then -i else i).map D.int := by
      rw [List.filterMap_map, List.map_map]
      exact fm_map fun x _ => rfl
    rw [e2]
    try simp only [wpS, wpT, wpE, wpO, wpEs, wpAs, wpL, wpC, wpI, wpG, wpPar, wpSE, brwW, slotV, slotA, List.getElem?_cons_zero, List.getElem?_cons_succ, List.set_cons_zero, List.set_cons_succ, drf_int, drf_bl, drf_non, drf_str, drf_tup, drf_lst, drf_scr, drf_set, drf_ty, drf_ins, drf_glo, drf_0, ixL0, ixL1, ixL2, ixL3, ixL4, ixT0, ixT1, ixT2, ixAt0, ixAt1, ixAt2, ixAt3, ixAt4, tru_bl, tru_int, tru_tup, tru_lst, c_eq_int, c_ne_int, c_lt, c_le, c_gt, c_ge, c_in2, c_inL, c_inT, c_ninT, c_eq_bl, c_ne_bl, b_len_l, b_len_t, b_len_s, b_abs, b_int, b_tup_l, b_tup_t, b_max, b_min, o_add, o_sub, o_mul, o_fdiv, o_mod, o_pow, o_catT, o_catL, o_repT, o_repL, o_repL2, s_tupX, s_lstX, s_scrX, q_tup, q_lst, qi_tup, qi_lst, qi_scr, at_ins, isNon_int, isNon_non, wpN_nx, wpN_ret, wpN_brk, wpN_cnt, trn_nx, trn_cnt, trn_brk, trn_ret, raiseD_0, raiseD_1, List.map_cons, List.map_nil, List.length_cons, List.length_nil, Nat.zero_add, Nat.reduceAdd, Nat.reduceLT, true_and, and_true, Option.some.injEq, exists_eq_left', exists_eq_left, exists_and_left, Sl.ol.injEq, Sl.v.injEq, Sl.os.injEq, D.int.injEq, D.bl.injEq, D.tup.injEq, D.lst.injEq, D.ref.injEq, Ob.lst.injEq, List.cons.injEq, decide_eq_true_eq, Bool.not_eq_true', decide_eq_false_iff_not, bne_iff_ne, ne_eq, if_true, if_false, Bool.false_eq_true, Bool.true_eq_false, reduceIte, Bool.not_true, Bool.not_false, decide_true, decide_false, not_true_eq_false, not_false_eq_true, ex2, ex3, lim0, lim1, lim2, lim3, lim4, List.cons_append, List.nil_append, List.map, List.replicate]
    refine b_frzW ?_
    try simp only [frzE, wpS, wpT, wpE, wpO, wpEs, wpAs, wpL, wpC, wpI, wpG, wpPar, wpSE, brwW, slotV, slotA, List.getElem?_cons_zero, List.getElem?_cons_succ, List.set_cons_zero, List.set_cons_succ, drf_int, drf_bl, drf_non, drf_str, drf_tup, drf_lst, drf_scr, drf_set, drf_ty, drf_ins, drf_glo, drf_0, ixL0, ixL1, ixL2, ixL3, ixL4, ixT0, ixT1, ixT2, ixAt0, ixAt1, ixAt2, ixAt3, ixAt4, tru_bl, tru_int, tru_tup, tru_lst, c_eq_int, c_ne_int, c_lt, c_le, c_gt, c_ge, c_in2, c_inL, c_inT, c_ninT, c_eq_bl, c_ne_bl, b_len_l, b_len_t, b_len_s, b_abs, b_int, b_tup_l, b_tup_t, b_max, b_min, o_add, o_sub, o_mul, o_fdiv, o_mod, o_pow, o_catT, o_catL, o_repT, o_repL, o_repL2, s_tupX, s_lstX, s_scrX, q_tup, q_lst, qi_tup, qi_lst, qi_scr, at_ins, isNon_int, isNon_non, wpN_nx, wpN_ret, wpN_brk, wpN_cnt, trn_nx, trn_cnt, trn_brk, trn_ret, raiseD_0, raiseD_1, List.map_cons, List.map_nil, List.length_cons, List.length_nil, Nat.zero_add, Nat.reduceAdd, Nat.reduceLT, true_and, and_true, Option.some.injEq, exists_eq_left', exists_eq_left, exists_and_left, Sl.ol.injEq, Sl.v.injEq, Sl.os.injEq, D.int.injEq, D.bl.injEq, D.tup.injEq, D.lst.injEq, D.ref.injEq, Ob.lst.injEq, List.cons.injEq, decide_eq_true_eq, Bool.not_eq_true', decide_eq_false_iff_not, bne_iff_ne, ne_eq, if_true, if_false, Bool.false_eq_true, Bool.true_eq_false, reduceIte, Bool.not_true, Bool.not_false, decide_true, decide_false, not_true_eq_false, not_false_eq_true, ex2, ex3, lim0, lim1, lim2, lim3, lim4, List.cons_append, List.nil_append, List.map, List.replicate]
    refine b_consW ?_
    try simp only [wpS, wpT, wpE, wpO, wpEs, wpAs, wpL, wpC, wpI, wpG, wpPar, wpSE, brwW, slotV, slotA, List.getElem?_cons_zero, List.getElem?_cons_succ, List.set_cons_zero, List.set_cons_succ, drf_int, drf_bl, drf_non, drf_str, drf_tup, drf_lst, drf_scr, drf_set, drf_ty, drf_ins, drf_glo, drf_0, ixL0, ixL1, ixL2, ixL3, ixL4, ixT0, ixT1, ixT2, ixAt0, ixAt1, ixAt2, ixAt3, ixAt4, tru_bl, tru_int, tru_tup, tru_lst, c_eq_int, c_ne_int, c_lt, c_le, c_gt, c_ge, c_in2, c_inL, c_inT, c_ninT, c_eq_bl, c_ne_bl, b_len_l, b_len_t, b_len_s, b_abs, b_int, b_tup_l, b_tup_t, b_max, b_min, o_add, o_sub, o_mul, o_fdiv, o_mod, o_pow, o_catT, o_catL, o_repT, o_repL, o_repL2, s_tupX, s_lstX, s_scrX, q_tup, q_lst, qi_tup, qi_lst, qi_scr, at_ins, isNon_int, isNon_non, wpN_nx, wpN_ret, wpN_brk, wpN_cnt, trn_nx, trn_cnt, trn_brk, trn_ret, raiseD_0, raiseD_1, List.map_cons, List.map_nil, List.length_cons, List.length_nil, Nat.zero_add, Nat.reduceAdd, Nat.reduceLT, true_and, and_true, Option.some.injEq, exists_eq_left', exists_eq_left, exists_and_left, Sl.ol.injEq, Sl.v.injEq, Sl.os.injEq, D.int.injEq, D.bl.injEq, D.tup.injEq, D.lst.injEq, D.ref.injEq, Ob.lst.injEq, List.cons.injEq, decide_eq_true_eq, Bool.not_eq_true', decide_eq_false_iff_not, bne_iff_ne, ne_eq, if_true, if_false, Bool.false_eq_true, Bool.true_eq_false, reduceIte, Bool.not_true, Bool.not_false, decide_true, decide_false, not_true_eq_false, not_false_eq_true, ex2, ex3, lim0, lim1, lim2, lim3, lim4, List.cons_append, List.nil_append, List.map, List.replicate]
    refine ⟨by decide, rfl, _, ⟨_, 0, 0, _, 0, rfl, fun x hx => ?_, by decide⟩, rfl⟩
    obtain ⟨i, _, rfl⟩ := List.mem_map.mp hx
    split <;> omega
def AnyR (R : Sh) (xs : List D) (d : D) (S : Sh) : Prop := d ∈ xs ∧ HS R S
theorem any_ok {C : Calls} {k : Nat} (hC : C.fn = callAt L.pg (k + 2)) {R S : Sh} (h : HS R S) {xs : List D} (h1 : xs ≠ []) (h2 : xs.length < 1000000) : Ok (C.fn 3 [.ref 0, .lst xs] S) (AnyR R xs) := by
  rw [hC]
  refine fn_W (fn := f__law_any) rfl rfl ?_
  unfold f__law_any b__law_any
  refine b_consW ?_
  try simp only [wpS, wpT, wpE, wpO, wpEs, wpAs, wpL, wpC, wpI, wpG, wpPar, wpSE, brwW, slotV, slotA, List.getElem?_cons_zero, List.getElem?_cons_succ, List.set_cons_zero, List.set_cons_succ, drf_int, drf_bl, drf_non, drf_str, drf_tup, drf_lst, drf_scr, drf_set, drf_ty, drf_ins, drf_glo, drf_0, ixL0, ixL1, ixL2, ixL3, ixL4, ixT0, ixT1, ixT2, ixAt0, ixAt1, ixAt2, ixAt3, ixAt4, tru_bl, tru_int, tru_tup, tru_lst, c_eq_int, c_ne_int, c_lt, c_le, c_gt, c_ge, c_in2, c_inL, c_inT, c_ninT, c_eq_bl, c_ne_bl, b_len_l, b_len_t, b_len_s, b_abs, b_int, b_tup_l, b_tup_t, b_max, b_min, o_add, o_sub, o_mul, o_fdiv, o_mod, o_pow, o_catT, o_catL, o_repT, o_repL, o_repL2, s_tupX, s_lstX, s_scrX, q_tup, q_lst, qi_tup, qi_lst, qi_scr, at_ins, isNon_int, isNon_non, wpN_nx, wpN_ret, wpN_brk, wpN_cnt, trn_nx, trn_cnt, trn_brk, trn_ret, raiseD_0, raiseD_1, List.map_cons, List.map_nil, List.length_cons, List.length_nil, Nat.zero_add, Nat.reduceAdd, Nat.reduceLT, true_and, and_true, Option.some.injEq, exists_eq_left', exists_eq_left, exists_and_left, Sl.ol.injEq, Sl.v.injEq, Sl.os.injEq, D.int.injEq, D.bl.injEq, D.tup.injEq, D.lst.injEq, D.ref.injEq, Ob.lst.injEq, List.cons.injEq, decide_eq_true_eq, Bool.not_eq_true', decide_eq_false_iff_not, bne_iff_ne, ne_eq, if_true, if_false, Bool.false_eq_true, Bool.true_eq_false, reduceIte, Bool.not_true, Bool.not_false, decide_true, decide_false, not_true_eq_false, not_false_eq_true, ex2, ex3, lim0, lim1, lim2, lim3, lim4, List.cons_append, List.nil_append, List.map, List.replicate]
  have h0 : 0 < xs.length := List.length_pos_iff.mpr h1
  refine (drw (C := L.pg.calls (k + 1)) rfl h (by omega) (by omega)).mono fun d S' ⟨⟨n, e, hn⟩, hS⟩ => ?_
  subst e
  have hn : n < xs.length := by omega
  try simp only [ixLn (List.getElem?_eq_getElem hn), wpS, wpT, wpE, wpO, wpEs, wpAs, wpL, wpC, wpI, wpG, wpPar, wpSE, brwW, slotV, slotA, List.getElem?_cons_zero, List.getElem?_cons_succ, List.set_cons_zero, List.set_cons_succ, drf_int, drf_bl, drf_non, drf_str, drf_tup, drf_lst, drf_scr, drf_set, drf_ty, drf_ins, drf_glo, drf_0, ixL0, ixL1, ixL2, ixL3, ixL4, ixT0, ixT1, ixT2, ixAt0, ixAt1, ixAt2, ixAt3, ixAt4, tru_bl, tru_int, tru_tup, tru_lst, c_eq_int, c_ne_int, c_lt, c_le, c_gt, c_ge, c_in2, c_inL, c_inT, c_ninT, c_eq_bl, c_ne_bl, b_len_l, b_len_t, b_len_s, b_abs, b_int, b_tup_l, b_tup_t, b_max, b_min, o_add, o_sub, o_mul, o_fdiv, o_mod, o_pow, o_catT, o_catL, o_repT, o_repL, o_repL2, s_tupX, s_lstX, s_scrX, q_tup, q_lst, qi_tup, qi_lst, qi_scr, at_ins, isNon_int, isNon_non, wpN_nx, wpN_ret, wpN_brk, wpN_cnt, trn_nx, trn_cnt, trn_brk, trn_ret, raiseD_0, raiseD_1, List.map_cons, List.map_nil, List.length_cons, List.length_nil, Nat.zero_add, Nat.reduceAdd, Nat.reduceLT, true_and, and_true, Option.some.injEq, exists_eq_left', exists_eq_left, exists_and_left, Sl.ol.injEq, Sl.v.injEq, Sl.os.injEq, D.int.injEq, D.bl.injEq, D.tup.injEq, D.lst.injEq, D.ref.injEq, Ob.lst.injEq, List.cons.injEq, decide_eq_true_eq, Bool.not_eq_true', decide_eq_false_iff_not, bne_iff_ne, ne_eq, if_true, if_false, Bool.false_eq_true, Bool.true_eq_false, reduceIte, Bool.not_true, Bool.not_false, decide_true, decide_false, not_true_eq_false, not_false_eq_true, ex2, ex3, lim0, lim1, lim2, lim3, lim4, List.cons_append, List.nil_append, List.map, List.replicate]
  exact ⟨List.getElem_mem hn, hS⟩
end Qv.Law
set_option Elab.async false
set_option linter.all false
set_option maxRecDepth 100000
set_option maxHeartbeats 4000000
namespace Qv.Law
open Qv PySem
local macro_rules | `(tactic| walk_at "ev") => `(tactic| simp only [wpS, wpT, wpE, wpO, wpEs, wpAs, wpL, wpC, wpI, wpG, wpPar, wpSE, brwW, slotV, slotA, List.getElem?_cons_zero, List.getElem?_cons_succ, List.set_cons_zero, List.set_cons_succ, drf_int, drf_bl, drf_non, drf_str, drf_tup, drf_lst, drf_scr, drf_set, drf_ty, drf_ins, drf_glo, drf_0, ixL0, ixL1, ixL2, ixL3, ixL4, ixT0, ixT1, ixT2, ixAt0, ixAt1, ixAt2, ixAt3, ixAt4, tru_bl, tru_int, tru_tup, tru_lst, c_eq_int, c_ne_int, c_lt, c_le, c_gt, c_ge, c_in2, c_inL, c_inT, c_ninT, c_eq_bl, c_ne_bl, b_len_l, b_len_t, b_len_s, b_abs, b_int, b_tup_l, b_tup_t, b_max, b_min, o_add, o_sub, o_mul, o_fdiv, o_mod, o_pow, o_catT, o_catL, o_repT, o_repL, o_repL2, s_tupX, s_lstX, s_scrX, q_tup, q_lst, qi_tup, qi_lst, qi_scr, at_ins, isNon_int, isNon_non, wpN_nx, wpN_ret, wpN_brk, wpN_cnt, trn_nx, trn_cnt, trn_brk, trn_ret, raiseD_0, raiseD_1, List.map_cons, List.map_nil, List.length_cons, List.length_nil, Nat.zero_add, Nat.reduceAdd, Nat.reduceLT, true_and, and_true, Option.some.injEq, exists_eq_left', exists_eq_left, exists_and_left, Sl.ol.injEq, Sl.v.injEq, Sl.os.injEq, D.int.injEq, D.bl.injEq, D.tup.injEq, D.lst.injEq, D.ref.injEq, Ob.lst.injEq, List.cons.injEq, decide_eq_true_eq, Bool.not_eq_true', decide_eq_false_iff_not, bne_iff_ne, ne_eq, if_true, if_false, Bool.false_eq_true, Bool.true_eq_false, reduceIte, Bool.not_true, Bool.not_false, decide_true, decide_false, not_true_eq_false, not_false_eq_true, ex2, ex3, lim0, lim1, lim2, lim3, lim4, List.cons_append, List.nil_append, List.map, List.replicate, calls_fn, okx_ok, retE_ret, retE_nx, retE_brk, retE_exc, isNon_bl, isNon_str, isNon_tup, isNon_lst, wpN_exc, trn_exc, frzE, wipeE, XQ, wpH, r_tup, r_lst, D.str.injEq, Option.isSome_none, Option.isSome_some, Int.cast_ofNat_Int, Int.reduceEq, Int.reduceLT, Int.reduceLE, Int.reduceAdd, Int.reduceSub, Int.reduceMul, Int.reducePow, Int.reduceToNat, tryQ_exc, tryQ_nx, tryQ_ret, tryQM_exc, tryQM_nx, tryQM_ret, suQ_nx, suQ_ret, noX_nil, noX_v, noX_ol, noX_os, noX_xv, noX_none, hot_sub, hot_gl, xv_inj, ex_xv, ex_xv2, okx_ex, excE_exc, excE_ret, excE_nx, calls_sub, calls_exn, id_eq, stepT_nx, stepT_cnt, stepT_ret, lim5, lim6, lim7, lim8, lim9, lim10, lim11, lim12, lim13, lim14, lim15, lim16, lim17, lim18, lim19, lim20, lim21, lim22, lim23, lim24, lim25, lim26, lim27, lim28, lim29, lim30, lim31, lim32])
local macro_rules | `(tactic| walk_at "st") => `(tactic| first | refine b_consG (by rfl) ?_ | refine b_frzW ?_ | refine b_nilW ?_)
/-! _law_is, _law_nested, _law_int; checks of things of any kind -/
theorem gl_lst {k : Nat} : (L.pg.calls k).gl 1 = some (.ty "list") := by rfl
theorem gl_bool {k : Nat} : (L.pg.calls k).gl 2 = some (.ty "bool") := by rfl
theorem gl_tup {k : Nat} : (L.pg.calls k).gl 0 = some (.ty "tuple") := by rfl
theorem all_true : ∀ n : Nat, blsOf (List.replicate n (.bl true)) = some (List.replicate n true)
  | 0 => rfl
  | n + 1 => by
    show (blsOf (List.replicate n (.bl true))).map _ = _
    rw [all_true n]
    rfl
theorem b_allT {n : Nat} : biD .all [.lst (List.replicate n (.bl true))] = some (.bl true) := by
  rw [b_all, all_true]
  show some (D.bl _) = _
  congr 2
  rw [List.all_eq_true]
  intro x hx
  exact List.eq_of_mem_replicate hx
mutual
/-- plain data -/
def dat : D → Bool
  | .non => true
  | .bl _ => true
  | .int _ => true
  | .str x => PyData.canLay0 (.str x)
  | .tup xs => dats xs
  | .lst xs => dats xs
  | .dic _ => false
  | .set _ => false
  | .ins _ _ => false
  | .exc _ _ => false
  | .ref _ => false
  | .ty _ => false
  | .glo _ => false
  | .clo _ _ => false
  | .scr _ => false
def dats : List D → Bool
  | [] => true
  | x :: xs => dat x && dats xs
end
theorem dats_all : ∀ {xs : List D}, dats xs = xs.all dat
  | [] => rfl
  | x :: xs => by rw [dats, List.all_cons, dats_all (xs := xs)]
mutual
/-- the most items of a sequence in it -/
def D.wid : D → Nat
  | .tup xs => max xs.length (D.wids xs)
  | .lst xs => max xs.length (D.wids xs)
  | _ => 0
def D.wids : List D → Nat
  | [] => 0
  | x :: xs => max (D.wid x) (D.wids xs)
end
theorem dats_of {xs : List D} (h : ∀ x ∈ xs, dat x = true) : dats xs = true := by rw [dats_all]; exact List.all_eq_true.mpr h
theorem dats_mem {xs : List D} (h : dats xs = true) {x : D} (hx : x ∈ xs) : dat x = true := by rw [dats_all] at h; exact List.all_eq_true.mp h x hx
mutual
theorem dat_th : ∀ {d : D}, dat d = true → d.th = true
  | .non, _ => rfl
  | .bl _, _ => rfl
  | .int _, _ => rfl
  | .str x, h => by simpa [dat, D.th] using h
  | .tup xs, h => by simp only [dat] at h; simp only [D.th]; exact dats_th h
  | .lst xs, h => by simp only [dat] at h; simp only [D.th]; exact dats_th h
theorem dats_th : ∀ {d : List D}, dats d = true → D.ths d = true
  | [], _ => rfl
  | x :: xs, h => by
    simp only [dats, Bool.and_eq_true] at h
    simp only [D.ths, dat_th h.1, dats_th h.2]
    rfl
end
theorem zip_self : ∀ {xs : List D}, zipD xs xs = xs.map fun x => .tup [x, x]
  | [] => rfl
  | x :: xs => by simp [zipD, zip_self (xs := xs)]
theorem deps_mem {x : D} : ∀ {xs : List D}, x ∈ xs → x.dep ≤ D.deps xs
  | y :: ys, h => by
    simp only [D.deps]
    rcases List.mem_cons.mp h with rfl | h
    · omega
    · have := deps_mem h; omega
theorem all_repT {xs : List D} : (xs.map fun x => D.tup [x, x]).filterMap (fun _ => some (D.bl true)) = List.replicate xs.length (.bl true) := by
  induction xs with
  | nil => rfl
  | cons x xs ih => simp only [List.map_cons, List.filterMap_cons, ih]; rfl
mutual
theorem dat_okq : ∀ {d : D}, dat d = true → d.okq = true
  | .non, _ => rfl
  | .bl _, _ => rfl
  | .int _, _ => rfl
  | .str x, h => by simpa [dat, D.okq] using h
  | .tup xs, h => by simp only [dat] at h; simp only [D.okq]; exact dats_okq h
  | .lst xs, h => by simp only [dat] at h; simp only [D.okq]; exact dats_okq h
theorem dats_okq : ∀ {d : List D}, dats d = true → D.okqs d = true
  | [], _ => rfl
  | x :: xs, h => by
    simp only [dats, Bool.and_eq_true] at h
    simp only [D.okqs, dat_okq h.1, dats_okq h.2]
    rfl
end
mutual
theorem beq_self : ∀ {d : D}, dat d = true → D.beq d d = true
  | .non, _ => rfl
  | .bl b, _ => by simp [D.beq]
  | .int _, _ => by simp [D.beq]
  | .str x, h => by simp [D.beq]
  | .tup xs, h => by simp only [dat] at h; simp only [D.beq]; exact beqs_self h
  | .lst xs, h => by simp only [dat] at h; simp only [D.beq]; exact beqs_self h
theorem beqs_self : ∀ {d : List D}, dats d = true → D.beqs d d = true
  | [], _ => rfl
  | x :: xs, h => by
    simp only [dats, Bool.and_eq_true] at h
    simp only [D.beqs, beq_self h.1, beqs_self h.2]
    rfl
end
theorem c_eq_self {d : D} (h : dat d = true) (hd : d.dep ≤ 64) : cmpD .eq d d = some true := by
  show (if d.okq && d.okq && decide (d.dep ≤ 64) && decide (d.dep ≤ 64) then some (D.beq d d) else if d.emp && d.emp then some true else none) = _
  rw [dat_okq h, beq_self h]
  simp [hd]
theorem c_ne_self {d : D} (h : dat d = true) (hd : d.dep ≤ 64) : cmpD .ne d d = some false := by
  show (if d.okq && d.okq && decide (d.dep ≤ 64) && decide (d.dep ≤ 64) then some (!D.beq d d) else none) = _
  rw [dat_okq h, beq_self h]
  simp [hd]
theorem mem_wid {x : D} : ∀ {xs : List D}, x ∈ xs → D.wid x ≤ D.wids xs
  | y :: ys, h => by
    simp only [D.wids]
    rcases List.mem_cons.mp h with rfl | h
    · omega
    · have := mem_wid h; omega
theorem drf_th {S : Sh} {d : D} (h : d.th = true) : drf S d = d := by
  cases d <;> first | rfl | (simp [D.th] at h; done)
/-- a thing is like itself -/
theorem is_eq : ∀ (n : Nat) (d : D), n ≤ 64 → dat d = true → d.dep ≤ n → D.wid d ≤ 500000 → ∀ (k : Nat) (S : Sh), callAt L.pg (k + n + 1) 0 [d, d] S = .ok (.bl true) S := by
  intro n
  induction n with
  | zero =>
    intro d h64 hd hn _ k S
    have th := dat_th hd
    have i1 := isi_tl th
    have i2 := isi_bool th
    have i3 := c_eq_self hd (by omega)
    have i4 := drf_th (S := S) th
    have hs : isK "tuple" d = false ∧ isK "list" d = false := by
      cases d <;> first | exact ⟨rfl, rfl⟩ | (simp [D.dep] at hn; done)
    refine fn_E (fn := f__law_is) rfl rfl ?_
    unfold f__law_is b__law_is
    (repeat (first | walk_at "st" | walk_at "ev" | simp only [gl_lst, gl_tup, gl_bool, i1, i2, i3, i4, hs.1, hs.2, Bool.or_false, beq_self_eq_true]))
  | succ n ih =>
    intro d h64 hd hn hw k S
    by_cases hs : isK "tuple" d = true ∨ isK "list" d = true
    · have seq : ∃ xs, (d = .tup xs ∨ d = .lst xs) ∧ dats xs = true ∧ D.deps xs ≤ n ∧ xs.length ≤ 500000 ∧ D.wids xs ≤ 500000 := by
        rcases hs with h | h
        · obtain ⟨xs, rfl⟩ := isK_tup.mp h
          simp only [dat, D.dep, D.wid] at hd hn hw
          exact ⟨xs, .inl rfl, hd, by omega, by omega, by omega⟩
        · obtain ⟨xs, rfl⟩ := isK_lst.mp h
          simp only [dat, D.dep, D.wid] at hd hn hw
          exact ⟨xs, .inr rfl, hd, by omega, by omega, by omega⟩
      obtain ⟨xs, hx, hds, hdp, hl, hwd⟩ := seq
      have th := dat_th hd
      have i1 := isi_tl th
      have i5 := isi_tuple th
      have comp : compL (compF (L.pg.calls (k + (n + 1))) (.call 0 (.cons (.v 2) (.cons (.v 3) .nil))) ((Tg.n 2).t (Tg.n 3)) .no [2, 3] [some (.v d), some (.v d), none, none]) (zipD xs xs) [] S = .ok (List.replicate xs.length (.bl true)) S := by
        rw [zip_self, compL_E (g := fun _ => some (.bl true)) (by rw [List.length_map]; unfold LIM; omega) fun x hx => ?_, all_repT]
        obtain ⟨y, hy, rfl⟩ := List.mem_map.mp hx
        have e := ih y (by omega) (dats_mem hds hy) (Nat.le_trans (deps_mem hy) hdp) (Nat.le_trans (mem_wid hy) hwd) k S
        rw [Nat.add_assoc] at e
        refine compF_W ?_
        (repeat (first | walk_at "ev" | simp only [e]))
      refine fn_E (fn := f__law_is) rfl rfl ?_
      unfold f__law_is b__law_is
      rcases hx with rfl | rfl
      · (repeat (first | walk_at "st" | walk_at "ev" | simp only [gl_lst, gl_tup, gl_bool, i1, i5, isK_TT, isK_TL, Bool.or_false, Bool.or_true, beq_self_eq_true, comp, b_allT]))
      · (repeat (first | walk_at "st" | walk_at "ev" | simp only [gl_lst, gl_tup, gl_bool, i1, i5, isK_LT, isK_LL, Bool.or_false, Bool.or_true, beq_self_eq_true, comp, b_allT]))
    · have h0 : d.dep ≤ 0 := by
        cases d <;> first | (simp [D.dep]; done) | exact absurd (.inl rfl) hs | exact absurd (.inr rfl) hs
      have th := dat_th hd
      have i1 := isi_tl th
      have i2 := isi_bool th
      have i3 := c_eq_self hd (by omega)
      have i4 := drf_th (S := S) th
      have hs : isK "tuple" d = false ∧ isK "list" d = false := by
        constructor
        · simpa using fun h => hs (.inl h)
        · simpa using fun h => hs (.inr h)
      refine fn_E (fn := f__law_is) rfl rfl ?_
      unfold f__law_is b__law_is
      (repeat (first | walk_at "st" | walk_at "ev" | simp only [gl_lst, gl_tup, gl_bool, i1, i2, i3, i4, hs.1, hs.2, Bool.or_false, beq_self_eq_true]))
/-- a thing, then another one -/
theorem is_refl {d : D} {n : Nat} (k : Nat) (hk : n + 1 ≤ k) (h64 : n ≤ 64) (hd : dat d = true) (hn : d.dep ≤ n) (hw : D.wid d ≤ 500000) (S : Sh) : callAt L.pg k 0 [d, d] S = .ok (.bl true) S := by
  obtain ⟨j, rfl⟩ : ∃ j, k = j + n + 1 := ⟨k - (n + 1), by omega⟩
  exact is_eq n d h64 hd hn hw j S
end Qv.Law
set_option Elab.async false
set_option linter.all false
set_option maxRecDepth 100000
set_option maxHeartbeats 8000000
namespace Qv.Law
open Qv PySem
local macro_rules | `(tactic| walk_at "ev") => `(tactic| simp only [wpS, wpT, wpE, wpO, wpEs, wpAs, wpL, wpC, wpI, wpG, wpPar, wpSE, brwW, slotV, slotA, List.getElem?_cons_zero, List.getElem?_cons_succ, List.set_cons_zero, List.set_cons_succ, drf_int, drf_bl, drf_non, drf_str, drf_tup, drf_lst, drf_scr, drf_set, drf_ty, drf_ins, drf_glo, drf_0, ixL0, ixL1, ixL2, ixL3, ixL4, ixT0, ixT1, ixT2, ixAt0, ixAt1, ixAt2, ixAt3, ixAt4, tru_bl, tru_int, tru_tup, tru_lst, c_eq_int, c_ne_int, c_lt, c_le, c_gt, c_ge, c_in2, c_inL, c_inT, c_ninT, c_eq_bl, c_ne_bl, b_len_l, b_len_t, b_len_s, b_abs, b_int, b_tup_l, b_tup_t, b_max, b_min, o_add, o_sub, o_mul, o_fdiv, o_mod, o_pow, o_catT, o_catL, o_repT, o_repL, o_repL2, s_tupX, s_lstX, s_scrX, q_tup, q_lst, qi_tup, qi_lst, qi_scr, at_ins, isNon_int, isNon_non, wpN_nx, wpN_ret, wpN_brk, wpN_cnt, trn_nx, trn_cnt, trn_brk, trn_ret, raiseD_0, raiseD_1, List.map_cons, List.map_nil, List.length_cons, List.length_nil, Nat.zero_add, Nat.reduceAdd, Nat.reduceLT, true_and, and_true, Option.some.injEq, exists_eq_left', exists_eq_left, exists_and_left, Sl.ol.injEq, Sl.v.injEq, Sl.os.injEq, D.int.injEq, D.bl.injEq, D.tup.injEq, D.lst.injEq, D.ref.injEq, Ob.lst.injEq, List.cons.injEq, decide_eq_true_eq, Bool.not_eq_true', decide_eq_false_iff_not, bne_iff_ne, ne_eq, if_true, if_false, Bool.false_eq_true, Bool.true_eq_false, reduceIte, Bool.not_true, Bool.not_false, decide_true, decide_false, not_true_eq_false, not_false_eq_true, ex2, ex3, lim0, lim1, lim2, lim3, lim4, List.cons_append, List.nil_append, List.map, List.replicate, calls_fn, okx_ok, retE_ret, retE_nx, retE_brk, retE_exc, isNon_bl, isNon_str, isNon_tup, isNon_lst, wpN_exc, trn_exc, frzE, wipeE, XQ, wpH, r_tup, r_lst, D.str.injEq, Option.isSome_none, Option.isSome_some, Int.cast_ofNat_Int, Int.reduceEq, Int.reduceLT, Int.reduceLE, Int.reduceAdd, Int.reduceSub, Int.reduceMul, Int.reducePow, Int.reduceToNat, tryQ_exc, tryQ_nx, tryQ_ret, tryQM_exc, tryQM_nx, tryQM_ret, suQ_nx, suQ_ret, noX_nil, noX_v, noX_ol, noX_os, noX_xv, noX_none, hot_sub, hot_gl, xv_inj, ex_xv, ex_xv2, okx_ex, excE_exc, excE_ret, excE_nx, calls_sub, calls_exn, id_eq, stepT_nx, stepT_cnt, stepT_ret, lim5, lim6, lim7, lim8, lim9, lim10, lim11, lim12, lim13, lim14, lim15, lim16, lim17, lim18, lim19, lim20, lim21, lim22, lim23, lim24, lim25, lim26, lim27, lim28, lim29, lim30, lim31, lim32])
local macro_rules | `(tactic| walk_at "st") => `(tactic| first | refine b_consG (by rfl) ?_ | refine b_frzW ?_ | refine b_nilW ?_)
theorem drwE {k : Nat} {R S : Sh} (h : HS R S) {many : Int} (h1 : 0 < many) (h2 : many < 1073741824) : Ok (callAt L.pg (k + 1) 2 [.ref 0, .int many] S) fun d S' => NatB many d ∧ HS R S' := drw (C := L.pg.calls (k + 1)) (k := k) rfl h h1 h2
theorem anyE {k : Nat} {R S : Sh} (h : HS R S) {xs : List D} (h1 : xs ≠ []) (h2 : xs.length < 1000000) : Ok (callAt L.pg (k + 2) 3 [.ref 0, .lst xs] S) fun d S' => d ∈ xs ∧ HS R S' := any_ok (C := L.pg.calls (k + 2)) (k := k) rfl h h1 h2
theorem rngD_at {a b : Int} {i : Nat} {d : D} (e : (rngD a b)[i]? = some d) : d = .int (a + i) ∧ a + i < b := by
  unfold rngD at e
  rw [List.getElem?_map] at e
  obtain ⟨n, h, rfl⟩ := Option.map_eq_some_iff.mp e
  have h1 := List.getElem?_eq_some_iff.mp h
  obtain ⟨h1, h2⟩ := h1
  rw [List.length_range] at h1
  rw [List.getElem_range] at h2
  subst h2
  exact ⟨rfl, by omega⟩
theorem stepL_inl {σ : Type} {f : σ → D → σ} : ∀ {xs : List D} {s : σ}, stepL (fun s x => .inl (f s x)) s xs = .inl (xs.foldl f s)
  | [], _ => rfl
  | x :: xs, s => by simp only [stepL, List.foldl_cons]; exact stepL_inl
/-! nested things -/
theorem a_ok : PyData.canLay0 (.str (Str.ofString "a")) = true := by decide +kernel
theorem ties_ok : PyData.canLay0 (.str (Str.ofString "ties")) = true := by decide +kernel
def Nst (i : Nat) (d : D) : Prop := dat d = true ∧ d.dep ≤ i + 1 ∧ D.wid d ≤ 1
theorem Nst.tup {i : Nat} {d : D} (h : Nst i d) : Nst (i + 1) (.tup [d]) := ⟨by simp [dat, dats, h.1], by have := h.2.1; simp only [D.dep, D.deps]; omega, by have := h.2.2; simp only [D.wid, D.wids, List.length_cons, List.length_nil]; omega⟩
theorem Nst.lst {i : Nat} {d : D} (h : Nst i d) : Nst (i + 1) (.lst [d]) := ⟨by simp [dat, dats, h.1], by have := h.2.1; simp only [D.dep, D.deps]; omega, by have := h.2.2; simp only [D.wid, D.wids, List.length_cons, List.length_nil]; omega⟩
def NestE (d : D) (E : En) : Prop := ∃ x2, E = [some (.v (.ref 0)), some (.v d), x2]
def nstep (s x : D) : D := match x with
  | .int i => if i % 5 = 4 then .lst [s] else .tup [s]
  | _ => s
theorem nested_ok {k : Nat} {R S : Sh} (h : HS R S) : Ok (callAt L.pg (k + 3) 1 [.ref 0] S) fun d S' => Nst 36 d ∧ HS R S' := by
  refine fn_W (fn := f__law_nested) rfl rfl ?_
  unfold f__law_nested b__law_nested
  refine b_consW ?_
  (repeat (first | walk_at "ev"))
  refine (anyE h (by simp) (by simp)).mono fun d S1 ⟨hd, hS⟩ => ?_
  have hN : Nst 0 d := by
    simp only [List.mem_cons, List.not_mem_nil, or_false] at hd
    rcases hd with rfl | rfl | rfl | rfl
    · exact ⟨rfl, by decide, by decide⟩
    · exact ⟨rfl, by decide, by decide⟩
    · exact ⟨a_ok, by decide, by decide⟩
    · exact ⟨rfl, by decide, by decide⟩
  (repeat (first | walk_at "ev"))
  refine b_forS (fun s x => .inl (nstep s x)) NestE (fun i s => Nst i s) (xs := rngD 0 36) (s0 := d) rfl ⟨_, rfl⟩ hN (fun i x s E hx hs ⟨x2, hE⟩ => ?_) (fun d E' h => ?_) (fun s E' h ⟨x2, hE⟩ hs => ?_)
  · subst hE
    obtain ⟨rfl, hlt⟩ := rngD_at hx
    (repeat (first | walk_at "ev"))
    refine b_consW ?_
    (repeat (first | walk_at "ev"))
    have e : nstep s (.int (0 + (i : Int))) = if (0 + (i : Int)) % 5 = 4 then .lst [s] else .tup [s] := rfl
    rw [e]
    split
    · (repeat (first | walk_at "st" | walk_at "ev"))
      exact ⟨_, rfl, ⟨_, rfl⟩, hs.lst⟩
    · (repeat (first | walk_at "st" | walk_at "ev"))
      exact ⟨_, rfl, ⟨_, rfl⟩, hs.tup⟩
  · rw [stepL_inl] at h
    cases h
  · subst hE
    (repeat (first | walk_at "st" | walk_at "ev"))
    exact ⟨hs, hS⟩
/-! the things -/
def Thg (d : D) : Prop := (dat d = true ∧ d.dep ≤ 37 ∧ D.wid d ≤ 500000) ∨ d = .dic []
theorem is_thg {d : D} (h : Thg d) (k : Nat) (S : Sh) : callAt L.pg (k + 40) 0 [d, d] S = .ok (.bl true) S := by
  rcases h with ⟨h1, h2, h3⟩ | rfl
  · exact is_refl (n := 37) (k + 40) (by omega) (by omega) h1 h2 h3 S
  · have i3 : cmpD .eq (.dic []) (.dic []) = some true := rfl
    refine fn_E (fn := f__law_is) rfl rfl ?_
    unfold f__law_is b__law_is
    have i0 : drf S (.dic []) = .dic [] := rfl
    have i1 : biD .isi [.dic [], .tup [.ty "tuple", .ty "list"]] = some (.bl false) := by rfl
    have i2 : biD .isi [.dic [], .ty "bool"] = some (.bl false) := by rfl
    (repeat (first | walk_at "st" | walk_at "ev" | simp only [gl_lst, gl_tup, gl_bool, i0, i1, i2, i3]))
    simp
/-! the classes -/
def MADE : List D := [.exc 3 [(4, .int 0)], .exc 5 [(6, .int 0)], .exc 7 [(8, .int 0)], .exc 9 [(6, .int 0)], .exc 10 [(11, .int 0)], .exc 12 [(13, .int 0)], .exc 14 [(15, .int 0)], .exc 17 [], .exc 18 [], .exc 19 [], .exc 20 [], .exc 21 [], .exc 22 [], .exc 23 [], .exc 24 [], .exc 25 [], .exc 26 [], .exc 27 [], .exc 28 [], .exc 29 [], .exc 30 [], .exc 16 [(13, .int 0)], .exc 31 [], .exc 32 []]
def flagsAt (i : Nat) : List D := (List.range 24).map fun j => .bl (decide (i = j))
def LawE (ns : List Int) (things : List D) (d : D) (x6 x7 x8 x9 : Option Sl) : En := [some (.v (.scr ns)), some (.v (.ref 0)), some (.v (.lst things)), some (.v d), some (.v (.lst [d, d, d, d, d, d, d, d])), some (.v (.lst MADE)), x6, x7, x8, x9]
def LawI (ns : List Int) (things : List D) (d : D) (i : Nat) (E : En) (S : Sh) : Prop := ∃ x6 x7 x8 x9, E = LawE ns things d x6 x7 x8 x9
def LawM (ns : List Int) (things : List D) (d : D) (f : Fl) (E : En) (S : Sh) : Prop := f = .nx ∧ LawI ns things d 24 E S
def bodyB : ISs := .cons (.asg (.n 8) (.l (.disp (.cons (.xiv (.v 7) 3) (.cons (.xiv (.v 7) 5) (.cons (.xiv (.v 7) 7) (.cons (.xiv (.v 7) 9) .nil))))))) (.cons (.asg (.n 8) (.bin .add (.v 8) (.l (.disp (.cons (.xiv (.v 7) 10) (.cons (.xiv (.v 7) 12) (.cons (.xiv (.v 7) 14) .nil))))))) (.cons (.asg (.n 8) (.bin .add (.v 8) (.l (.disp (.cons (.xiv (.v 7) 17) (.cons (.xiv (.v 7) 18) (.cons (.xiv (.v 7) 19) .nil))))))) (.cons (.asg (.n 8) (.bin .add (.v 8) (.l (.disp (.cons (.xiv (.v 7) 20) (.cons (.xiv (.v 7) 21) (.cons (.xiv (.v 7) 22) .nil))))))) (.cons (.asg (.n 8) (.bin .add (.v 8) (.l (.disp (.cons (.xiv (.v 7) 23) (.cons (.xiv (.v 7) 24) (.cons (.xiv (.v 7) 25) .nil))))))) (.cons (.asg (.n 8) (.bin .add (.v 8) (.l (.disp (.cons (.xiv (.v 7) 26) (.cons (.xiv (.v 7) 27) (.cons (.xiv (.v 7) 28) .nil))))))) (.cons (.asg (.n 8) (.bin .add (.v 8) (.l (.disp (.cons (.xiv (.v 7) 29) (.cons (.xiv (.v 7) 30) (.cons (.xiv (.v 7) 16) .nil))))))) (.cons (.asg (.n 8) (.bin .add (.v 8) (.l (.disp (.cons (.xiv (.v 7) 31) (.cons (.xiv (.v 7) 32) .nil)))))) (.cons (.ite (.or (.cmp .ne (.cnt (.v 8) true) (.c (.int 1))) (.or (.not (.ix (.v 8) (.v 6))) (.or (.not (.xiv (.v 7) 34)) (.not (.xiv (.v 7) 33))))) (.cons (.ret (.c (.bl false))) .nil) .nil) .nil))))))))
theorem body_ok (k : Nat) (ns : List Int) (things : List D) (d : D) (x8 x9 : Option Sl) (S : Sh) : ∀ (i : Nat) (x : D), MADE[i]? = some x →
    exB (L.pg.calls k) bodyB (LawE ns things d (some (.v (.int i))) (some (.v x)) x8 x9) S = .ok (.nx, LawE ns things d (some (.v (.int i))) (some (.v x)) (some (.v (.lst (flagsAt i)))) x9) S
  | 0, _, h => by cases h; kernel_rfl
  | 1, _, h => by cases h; kernel_rfl
  | 2, _, h => by cases h; kernel_rfl
  | 3, _, h => by cases h; kernel_rfl
  | 4, _, h => by cases h; kernel_rfl
  | 5, _, h => by cases h; kernel_rfl
  | 6, _, h => by cases h; kernel_rfl
  | 7, _, h => by cases h; kernel_rfl
  | 8, _, h => by cases h; kernel_rfl
  | 9, _, h => by cases h; kernel_rfl
  | 10, _, h => by cases h; kernel_rfl
  | 11, _, h => by cases h; kernel_rfl
  | 12, _, h => by cases h; kernel_rfl
  | 13, _, h => by cases h; kernel_rfl
  | 14, _, h => by cases h; kernel_rfl
  | 15, _, h => by cases h; kernel_rfl
  | 16, _, h => by cases h; kernel_rfl
  | 17, _, h => by cases h; kernel_rfl
  | 18, _, h => by cases h; kernel_rfl
  | 19, _, h => by cases h; kernel_rfl
  | 20, _, h => by cases h; kernel_rfl
  | 21, _, h => by cases h; kernel_rfl
  | 22, _, h => by cases h; kernel_rfl
  | 23, _, h => by cases h; kernel_rfl
  | n + 24, x, h => by exfalso; have := (List.getElem?_eq_some_iff.mp h).1; simp [MADE] at this; omega
end Qv.Law
set_option Elab.async false
set_option linter.all false
set_option maxRecDepth 100000
set_option maxHeartbeats 1000000
namespace Qv.Law
open Qv PySem
local macro_rules | `(tactic| walk_at "ev") => `(tactic| simp only [wpS, wpT, wpE, wpO, wpEs, wpAs, wpL, wpC, wpI, wpG, wpPar, wpSE, brwW, slotV, slotA, List.getElem?_cons_zero, List.getElem?_cons_succ, List.set_cons_zero, List.set_cons_succ, drf_int, drf_bl, drf_non, drf_str, drf_tup, drf_lst, drf_scr, drf_set, drf_ty, drf_ins, drf_glo, drf_0, ixL0, ixL1, ixL2, ixL3, ixL4, ixT0, ixT1, ixT2, ixAt0, ixAt1, ixAt2, ixAt3, ixAt4, tru_bl, tru_int, tru_tup, tru_lst, c_eq_int, c_ne_int, c_lt, c_le, c_gt, c_ge, c_in2, c_inL, c_inT, c_ninT, c_eq_bl, c_ne_bl, b_len_l, b_len_t, b_len_s, b_abs, b_int, b_tup_l, b_tup_t, b_max, b_min, o_add, o_sub, o_mul, o_fdiv, o_mod, o_pow, o_catT, o_catL, o_repT, o_repL, o_repL2, s_tupX, s_lstX, s_scrX, q_tup, q_lst, qi_tup, qi_lst, qi_scr, at_ins, isNon_int, isNon_non, wpN_nx, wpN_ret, wpN_brk, wpN_cnt, trn_nx, trn_cnt, trn_brk, trn_ret, raiseD_0, raiseD_1, List.map_cons, List.map_nil, List.length_cons, List.length_nil, Nat.zero_add, Nat.reduceAdd, Nat.reduceLT, true_and, and_true, Option.some.injEq, exists_eq_left', exists_eq_left, exists_and_left, Sl.ol.injEq, Sl.v.injEq, Sl.os.injEq, D.int.injEq, D.bl.injEq, D.tup.injEq, D.lst.injEq, D.ref.injEq, Ob.lst.injEq, List.cons.injEq, decide_eq_true_eq, Bool.not_eq_true', decide_eq_false_iff_not, bne_iff_ne, ne_eq, if_true, if_false, Bool.false_eq_true, Bool.true_eq_false, reduceIte, Bool.not_true, Bool.not_false, decide_true, decide_false, not_true_eq_false, not_false_eq_true, ex2, ex3, lim0, lim1, lim2, lim3, lim4, List.cons_append, List.nil_append, List.map, List.replicate, calls_fn, okx_ok, retE_ret, retE_nx, retE_brk, retE_exc, isNon_bl, isNon_str, isNon_tup, isNon_lst, wpN_exc, trn_exc, frzE, wipeE, XQ, wpH, r_tup, r_lst, D.str.injEq, Option.isSome_none, Option.isSome_some, Int.cast_ofNat_Int, Int.reduceEq, Int.reduceLT, Int.reduceLE, Int.reduceAdd, Int.reduceSub, Int.reduceMul, Int.reducePow, Int.reduceToNat, tryQ_exc, tryQ_nx, tryQ_ret, tryQM_exc, tryQM_nx, tryQM_ret, suQ_nx, suQ_ret, noX_nil, noX_v, noX_ol, noX_os, noX_xv, noX_none, hot_sub, hot_gl, xv_inj, ex_xv, ex_xv2, okx_ex, excE_exc, excE_ret, excE_nx, calls_sub, calls_exn, id_eq, stepT_nx, stepT_cnt, stepT_ret, lim5, lim6, lim7, lim8, lim9, lim10, lim11, lim12, lim13, lim14, lim15, lim16, lim17, lim18, lim19, lim20, lim21, lim22, lim23, lim24, lim25, lim26, lim27, lim28, lim29, lim30, lim31, lim32])
local macro_rules | `(tactic| walk_at "st") => `(tactic| first | refine b_consG (by rfl) ?_ | refine b_frzW ?_ | refine b_nilW ?_)
theorem enum_at : ∀ {l : List D} {k i : Nat}, (enumD k l)[i]? = (l[i]?).map fun x => .tup [.int ((k + i : Nat) : Int), x]
  | [], k, i => by simp [enumD]
  | x :: r, k, 0 => by simp [enumD]
  | x :: r, k, i + 1 => by
    simp only [enumD, List.getElem?_cons_succ]
    rw [enum_at (l := r)]
    congr 1
    funext x
    rw [show k + 1 + i = k + (i + 1) by omega]
theorem enum_len : ∀ {l : List D} {k : Nat}, (enumD k l).length = l.length
  | [], k => rfl
  | x :: r, k => by simp only [enumD, List.length_cons]; rw [enum_len (l := r)]
theorem rest_ok (k : Nat) (ns : List Int) (things : List D) (d : D) (S : Sh) (QQ : Fl → En → Sh → Prop) (hq : ∀ E S, QQ (.ret (.bl true)) E S) : wpB (L.pg.calls (k + 49)) (.cons (.for (.t (.n 6) (.n 7)) (.enum (.v 5)) bodyB) (.cons (.ret (.xiv (.exv 34 .nil) 33)) .nil)) (LawE ns things d none none none none) S QQ := by
  have x34 : L.pg.exn 34 = some [] := by rfl
  have y : L.pg.sub 34 33 = some true := by rfl
  refine b_consR (LawM ns things d) ?_ ?_
  · unfold LawE
    (repeat (first | walk_at "ev"))
    refine for_W (I := LawI ns things d) _ ⟨_, _, _, _, rfl⟩ (fun i x E S hx ⟨x6, x7, x8, x9, hE⟩ => ?_) (fun E S h => ⟨rfl, h⟩)
    subst hE
    rw [enum_at] at hx
    obtain ⟨y, hy, rfl⟩ := Option.map_eq_some_iff.mp hx
    unfold LawE
    (repeat (first | walk_at "ev"))
    have b := body_ok (k + 49) ns things d x8 x9 S i y hy
    unfold LawE at b
    unfold wpB
    show Ok (exB (L.pg.calls (k + 49)) bodyB _ S) _
    rw [b]
    exact ⟨⟨_, _, _, _, rfl⟩⟩
  · rintro f E S ⟨rfl, x6, x7, x8, x9, rfl⟩
    rw [wpN_nx]
    unfold LawE
    (repeat (first | walk_at "st" | walk_at "ev" | simp only [x34, y]))
    exact ⟨34, [], rfl, true, y, hq _ _⟩
end Qv.Law
set_option Elab.async false
set_option linter.all false
set_option maxRecDepth 100000
set_option maxHeartbeats 4000000
namespace Qv.Law
open Qv PySem
local macro_rules | `(tactic| walk_at "ev") => `(tactic| simp only [wpS, wpT, wpE, wpO, wpEs, wpAs, wpL, wpC, wpI, wpG, wpPar, wpSE, brwW, slotV, slotA, List.getElem?_cons_zero, List.getElem?_cons_succ, List.set_cons_zero, List.set_cons_succ, drf_int, drf_bl, drf_non, drf_str, drf_tup, drf_lst, drf_scr, drf_set, drf_ty, drf_ins, drf_glo, drf_0, ixL0, ixL1, ixL2, ixL3, ixL4, ixT0, ixT1, ixT2, ixAt0, ixAt1, ixAt2, ixAt3, ixAt4, tru_bl, tru_int, tru_tup, tru_lst, c_eq_int, c_ne_int, c_lt, c_le, c_gt, c_ge, c_in2, c_inL, c_inT, c_ninT, c_eq_bl, c_ne_bl, b_len_l, b_len_t, b_len_s, b_abs, b_int, b_tup_l, b_tup_t, b_max, b_min, o_add, o_sub, o_mul, o_fdiv, o_mod, o_pow, o_catT, o_catL, o_repT, o_repL, o_repL2, s_tupX, s_lstX, s_scrX, q_tup, q_lst, qi_tup, qi_lst, qi_scr, at_ins, isNon_int, isNon_non, wpN_nx, wpN_ret, wpN_brk, wpN_cnt, trn_nx, trn_cnt, trn_brk, trn_ret, raiseD_0, raiseD_1, List.map_cons, List.map_nil, List.length_cons, List.length_nil, Nat.zero_add, Nat.reduceAdd, Nat.reduceLT, true_and, and_true, Option.some.injEq, exists_eq_left', exists_eq_left, exists_and_left, Sl.ol.injEq, Sl.v.injEq, Sl.os.injEq, D.int.injEq, D.bl.injEq, D.tup.injEq, D.lst.injEq, D.ref.injEq, Ob.lst.injEq, List.cons.injEq, decide_eq_true_eq, Bool.not_eq_true', decide_eq_false_iff_not, bne_iff_ne, ne_eq, if_true, if_false, Bool.false_eq_true, Bool.true_eq_false, reduceIte, Bool.not_true, Bool.not_false, decide_true, decide_false, not_true_eq_false, not_false_eq_true, ex2, ex3, lim0, lim1, lim2, lim3, lim4, List.cons_append, List.nil_append, List.map, List.replicate, calls_fn, okx_ok, retE_ret, retE_nx, retE_brk, retE_exc, isNon_bl, isNon_str, isNon_tup, isNon_lst, wpN_exc, trn_exc, frzE, wipeE, XQ, wpH, r_tup, r_lst, D.str.injEq, Option.isSome_none, Option.isSome_some, Int.cast_ofNat_Int, Int.reduceEq, Int.reduceLT, Int.reduceLE, Int.reduceAdd, Int.reduceSub, Int.reduceMul, Int.reducePow, Int.reduceToNat, tryQ_exc, tryQ_nx, tryQ_ret, tryQM_exc, tryQM_nx, tryQM_ret, suQ_nx, suQ_ret, noX_nil, noX_v, noX_ol, noX_os, noX_xv, noX_none, hot_sub, hot_gl, xv_inj, ex_xv, ex_xv2, okx_ex, excE_exc, excE_ret, excE_nx, calls_sub, calls_exn, id_eq, stepT_nx, stepT_cnt, stepT_ret, lim5, lim6, lim7, lim8, lim9, lim10, lim11, lim12, lim13, lim14, lim15, lim16, lim17, lim18, lim19, lim20, lim21, lim22, lim23, lim24, lim25, lim26, lim27, lim28, lim29, lim30, lim31, lim32])
local macro_rules | `(tactic| walk_at "st") => `(tactic| first | refine b_consG (by rfl) ?_ | refine b_frzW ?_ | refine b_nilW ?_)
theorem made_ok (k : Nat) (ns : List Int) (things : List D) (d : D) (S : Sh) : exB (L.pg.calls k) (.cons (.asg (.n 5) (.l (.disp (.cons (.exv 3 (.cons (.c (.int 0)) .nil)) (.cons (.exv 5 (.cons (.c (.int 0)) .nil)) (.cons (.exv 7 (.cons (.c (.int 0)) .nil)) (.cons (.exv 9 (.cons (.c (.int 0)) .nil)) (.cons (.exv 10 (.cons (.c (.int 0)) .nil)) (.cons (.exv 12 (.cons (.c (.int 0)) .nil)) (.cons (.exv 14 (.cons (.c (.int 0)) .nil)) (.cons (.exv 17 .nil) (.cons (.exv 18 .nil) .nil)))))))))))) (.cons (.asg (.n 5) (.bin .add (.v 5) (.l (.disp (.cons (.exv 19 .nil) (.cons (.exv 20 .nil) (.cons (.exv 21 .nil) (.cons (.exv 22 .nil) (.cons (.exv 23 .nil) (.cons (.exv 24 .nil) (.cons (.exv 25 .nil) (.cons (.exv 26 .nil) (.cons (.exv 27 .nil) .nil))))))))))))) (.cons (.asg (.n 5) (.bin .add (.v 5) (.l (.disp (.cons (.exv 28 .nil) (.cons (.exv 29 .nil) (.cons (.exv 30 .nil) (.cons (.exv 16 (.cons (.c (.int 0)) .nil)) (.cons (.exv 31 .nil) (.cons (.exv 32 .nil) .nil)))))))))) (.cons (.for (.t (.n 6) (.n 7)) (.enum (.v 5)) (.cons (.asg (.n 8) (.l (.disp (.cons (.xiv (.v 7) 3) (.cons (.xiv (.v 7) 5) (.cons (.xiv (.v 7) 7) (.cons (.xiv (.v 7) 9) .nil))))))) (.cons (.asg (.n 8) (.bin .add (.v 8) (.l (.disp (.cons (.xiv (.v 7) 10) (.cons (.xiv (.v 7) 12) (.cons (.xiv (.v 7) 14) .nil))))))) (.cons (.asg (.n 8) (.bin .add (.v 8) (.l (.disp (.cons (.xiv (.v 7) 17) (.cons (.xiv (.v 7) 18) (.cons (.xiv (.v 7) 19) .nil))))))) (.cons (.asg (.n 8) (.bin .add (.v 8) (.l (.disp (.cons (.xiv (.v 7) 20) (.cons (.xiv (.v 7) 21) (.cons (.xiv (.v 7) 22) .nil))))))) (.cons (.asg (.n 8) (.bin .add (.v 8) (.l (.disp (.cons (.xiv (.v 7) 23) (.cons (.xiv (.v 7) 24) (.cons (.xiv (.v 7) 25) .nil))))))) (.cons (.asg (.n 8) (.bin .add (.v 8) (.l (.disp (.cons (.xiv (.v 7) 26) (.cons (.xiv (.v 7) 27) (.cons (.xiv (.v 7) 28) .nil))))))) (.cons (.asg (.n 8) (.bin .add (.v 8) (.l (.disp (.cons (.xiv (.v 7) 29) (.cons (.xiv (.v 7) 30) (.cons (.xiv (.v 7) 16) .nil))))))) (.cons (.asg (.n 8) (.bin .add (.v 8) (.l (.disp (.cons (.xiv (.v 7) 31) (.cons (.xiv (.v 7) 32) .nil)))))) (.cons (.ite (.or (.cmp .ne (.cnt (.v 8) true) (.c (.int 1))) (.or (.not (.ix (.v 8) (.v 6))) (.or (.not (.xiv (.v 7) 34)) (.not (.xiv (.v 7) 33))))) (.cons (.ret (.c (.bl false))) .nil) .nil) .nil)))))))))) (.cons (.ret (.xiv (.exv 34 .nil) 33)) .nil))))) [some (Sl.v (D.scr ns)), some (Sl.v (D.ref 0)), some (Sl.v (D.lst things)), some (Sl.v d), some (Sl.v (D.lst [d, d, d, d, d, d, d, d])), none, none, none, none, none] S = exB (L.pg.calls k) (.cons (.for (.t (.n 6) (.n 7)) (.enum (.v 5)) (.cons (.asg (.n 8) (.l (.disp (.cons (.xiv (.v 7) 3) (.cons (.xiv (.v 7) 5) (.cons (.xiv (.v 7) 7) (.cons (.xiv (.v 7) 9) .nil))))))) (.cons (.asg (.n 8) (.bin .add (.v 8) (.l (.disp (.cons (.xiv (.v 7) 10) (.cons (.xiv (.v 7) 12) (.cons (.xiv (.v 7) 14) .nil))))))) (.cons (.asg (.n 8) (.bin .add (.v 8) (.l (.disp (.cons (.xiv (.v 7) 17) (.cons (.xiv (.v 7) 18) (.cons (.xiv (.v 7) 19) .nil))))))) (.cons (.asg (.n 8) (.bin .add (.v 8) (.l (.disp (.cons (.xiv (.v 7) 20) (.cons (.xiv (.v 7) 21) (.cons (.xiv (.v 7) 22) .nil))))))) (.cons (.asg (.n 8) (.bin .add (.v 8) (.l (.disp (.cons (.xiv (.v 7) 23) (.cons (.xiv (.v 7) 24) (.cons (.xiv (.v 7) 25) .nil))))))) (.cons (.asg (.n 8) (.bin .add (.v 8) (.l (.disp (.cons (.xiv (.v 7) 26) (.cons (.xiv (.v 7) 27) (.cons (.xiv (.v 7) 28) .nil))))))) (.cons (.asg (.n 8) (.bin .add (.v 8) (.l (.disp (.cons (.xiv (.v 7) 29) (.cons (.xiv (.v 7) 30) (.cons (.xiv (.v 7) 16) .nil))))))) (.cons (.asg (.n 8) (.bin .add (.v 8) (.l (.disp (.cons (.xiv (.v 7) 31) (.cons (.xiv (.v 7) 32) .nil)))))) (.cons (.ite (.or (.cmp .ne (.cnt (.v 8) true) (.c (.int 1))) (.or (.not (.ix (.v 8) (.v 6))) (.or (.not (.xiv (.v 7) 34)) (.not (.xiv (.v 7) 33))))) (.cons (.ret (.c (.bl false))) .nil) .nil) .nil)))))))))) (.cons (.ret (.xiv (.exv 34 .nil) 33)) .nil)) (LawE ns things d none none none none) S := by
  kernel_rfl
theorem law_ok (k : Nat) (ns : List Int) : Ok (callAt L.pg (k + 50) 5 [.scr ns] []) fun d _ => d = .bl true := by
  have x3 : L.pg.exn 3 = some [4] := by rfl
  have x5 : L.pg.exn 5 = some [6] := by rfl
  have x7 : L.pg.exn 7 = some [8] := by rfl
  have x9 : L.pg.exn 9 = some [6] := by rfl
  have x10 : L.pg.exn 10 = some [11] := by rfl
  have x12 : L.pg.exn 12 = some [13] := by rfl
  have x14 : L.pg.exn 14 = some [15] := by rfl
  have x16 : L.pg.exn 16 = some [13] := by rfl
  have y : L.pg.sub 34 33 = some true := by rfl
  refine fn_W (fn := f_law) rfl rfl ?_
  unfold f_law b_law
  refine b_consW ?_
  (repeat (first | walk_at "ev"))
  refine (hand_ok (k + 48) ns).mono fun d S ⟨e, hS⟩ => ?_
  subst e
  (repeat (first | walk_at "ev"))
  refine b_consW ?_
  (repeat (first | walk_at "ev"))
  refine ⟨by decide, ?_⟩
  refine (nested_ok (k := k + 46) hS).mono fun nd S1 ⟨hn, hS⟩ => ?_
  (repeat (first | walk_at "ev"))
  refine b_consW ?_
  (repeat (first | walk_at "ev"))
  refine (anyE (k := k + 47) hS (by simp) (by simp)).mono fun d S2 ⟨hd, hS⟩ => ?_
  generalize hth : [D.non, .int 0, .int 7, .str (Str.ofString "ties"), .tup [.int 3, .int 1], .lst [.int 1], .dic [], .int 1000000000000000000000000000000000000000, .bl true, nd] = things at *
  have ht : Thg d := by
    rw [← hth] at hd
    simp only [List.mem_cons, List.not_mem_nil, or_false] at hd
    rcases hd with rfl | rfl | rfl | rfl | rfl | rfl | rfl | rfl | rfl | rfl
    · exact .inl ⟨rfl, by decide, by decide⟩
    · exact .inl ⟨rfl, by decide, by decide⟩
    · exact .inl ⟨rfl, by decide, by decide⟩
    · exact .inl ⟨ties_ok, by decide, by decide⟩
    · exact .inl ⟨rfl, by decide, by decide⟩
    · exact .inl ⟨rfl, by decide, by decide⟩
    · exact .inr rfl
    · exact .inl ⟨rfl, by decide, by decide⟩
    · exact .inl ⟨rfl, by decide, by decide⟩
    · exact .inl ⟨hn.1, by have := hn.2.1; omega, by have := hn.2.2; omega⟩
  have e1 := is_thg ht (k + 9) S2
  have b8 : biD .all [.lst [.bl true, .bl true, .bl true, .bl true, .bl true, .bl true, .bl true, .bl true]] = some (.bl true) := rfl
  have comp : compL (compF (L.pg.calls (k + 49)) (.call 0 (.cons (.v 9) (.cons (.v 3) .nil))) (Tg.n 9) .no [9] [some (Sl.v (D.scr ns)), some (Sl.v (D.ref 0)), some (Sl.v (D.lst things)), some (Sl.v d), some (Sl.v (D.lst [d, d, d, d, d, d, d, d])), none, none, none, none, none]) [d, d, d, d, d, d, d, d] [] S2 = .ok (List.replicate 8 (.bl true)) S2 := by
    rw [compL_E (g := fun _ => some (.bl true)) (by unfold LIM; simp) fun x hx => ?_]
    · rfl
    · have : x = d := by simpa using hx
      subst this
      refine compF_W ?_
      (repeat (first | walk_at "ev" | simp only [e1]))
  refine b_consW ?_
  (repeat (first | walk_at "ev" | simp only [x3, x5, x7, x9, x10]))
  refine b_consW ?_
  (repeat (first | walk_at "ev" | simp only [x12, x14, x16]))
  refine b_consW ?_
  (repeat (first | walk_at "ev" | simp only [comp, b8]))
  refine b_nilW ?_
  rw [wpN_nx]
  unfold wpB
  rw [made_ok]
  have h := rest_ok k ns things d S2 (fun f _ S => match f with
    | .nx => (D.non = .bl true)
    | .ret d => (d = .bl true)
    | _ => False) (fun _ _ => rfl)
  unfold wpB at h
  refine h.mono fun r S q => ?_
  obtain ⟨f, E1⟩ := r
  cases f <;> first | exact q | exact q.elim
theorem pure_law (ns : List Int) (_ : ns.length ≤ 63) : ∃ S, callAt L.pg 60 5 [.scr ns] [] = .ok (.bl true) S := by
  obtain ⟨d, S, e, rfl⟩ := Ok.ex (law_ok 10 ns)
  exact ⟨S, e⟩
end Qv.Law
set_option Elab.async false
set_option linter.all false
set_option maxRecDepth 100000
set_option maxHeartbeats 0
namespace Qv.Law
open PySem PySem.Spec PyProof.Rows L2
abbrev R : PySem.W.OpenRow := PySem.W.OpenLaw.row PySem.Challenge.rw_staletags_k00_errors_of_the_package
def loose0 : List PySem.Str := [(Str.ofString "TagError"), (Str.ofString "BadWeb"), (Str.ofString "NoRow"), (Str.ofString "TooMany"), (Str.ofString "BadFoe"), (Str.ofString "NotKept"), (Str.ofString "BadProgram"), (Str.ofString "BadText"), (Str.ofString "NoRoom"), (Str.ofString "NoNumber"), (Str.ofString "NoTags"), (Str.ofString "NoDeed"), (Str.ofString "TooFew"), (Str.ofString "NotFew"), (Str.ofString "NoSlip"), (Str.ofString "NotRight"), (Str.ofString "NotFree"), (Str.ofString "Full"), (Str.ofString "NoGiving"), (Str.ofString "NoNear"), (Str.ofString "NoPast"), (Str.ofString "NoText"), (Str.ofString "NoWeaving"), (Str.ofString "NoHands"), (Str.ofString "NoWay"), (Str.ofString "_law_hand"), (Str.ofString "_law_draw"), (Str.ofString "_law_any"), (Str.ofString "_law_is"), (Str.ofString "_law_nested")]
def loose : List PySem.Str := loose0
abbrev hk : PySem.W.Hook := Qv.hookX 5 L.fa L.fnD L.fx
def ob (s : PySem.W.SharedT) : He.AlD × Bool := Qv.obsX 5 L.fa L.fnD L.fx (HandSHeadRun.getT s)
theorem ob_eq (s : PySem.W.SharedT) : ob s = hk.obs s.abs := Qv.obsX_eq (HandSHeadRun.getT_eq s)
theorem run (w : World) : HandSHeadRun.RunEq R (PySem.W.view R.prog [32]) hk ob 30000 loose w := by
  intro os
  kernel_rfl
end Qv.Law
open PySem PySem.W PySem.Calls PyProof.Rows
theorem Qv.Law.head (pure : ∀ ns : List Int, ns.length ≤ 63 → ∃ S, Qv.callAt Qv.Law.L.pg 60 5 [.scr ns] [] = .ok (.bl true) S) : PySem.Challenge.rw_staletags_k00_errors_of_the_package.Holds := by
  w_on; o_law
  refine HandSHeadRun.head_any (r := OpenLaw.row PySem.Challenge.rw_staletags_k00_errors_of_the_package) (q := view (OpenLaw.row PySem.Challenge.rw_staletags_k00_errors_of_the_package).prog [32]) (H := Qv.Law.hk) (ob := Qv.Law.ob) (M := 30000) (loose := Qv.Law.loose) (d := HandSHeadRun.topDef (OpenLaw.row PySem.Challenge.rw_staletags_k00_errors_of_the_package).prog 32) (kwd := []) Qv.Law.ob_eq
    (by kernel_rfl) (fun s => by kernel_rfl) Qv.Law.run (by kernel_rfl) (by kernel_rfl) (by kernel_rfl) (by rfl) (by first | assumption | decide +kernel) (by decide +kernel) ⟨rfl, rfl, rfl, rfl, rfl, by decide +kernel⟩ ?hw ?hc
  case hw => w_witness2
  case hc =>
    refine Qv.walk_ofW (l := PySem.Challenge.rw_staletags_k00_errors_of_the_package) (n := 63) (k := 2 * 60 + 1) (x := "_law_script") rfl (by decide) (by kernel_rfl) ⟨rfl, by decide, by decide⟩ ?F
    intro w mg fa h Y G hmg0
    obtain ⟨K, KX, c, cx⟩ := Y
    have hmg : mg ("law" : PySem.Str) = some (.ref fa) := by
      have e : (HandSHeadRun.topDef (OpenLaw.row PySem.Challenge.rw_staletags_k00_errors_of_the_package).prog 32).name = ("law" : PySem.Str) := by kernel_rfl
      rw [← e]
      exact hmg0
    exact Qv.Lw.walk Qv.Law.L Qv.Law.all_ok Qv.Law.chk_ok Qv.Law.chx_ok (ix := 5) (d := Qv.Law.d_law) rfl rfl rfl pure KX G hmg c cx rfl (by decide +kernel)
theorem PySem.Challenge.cw_staletags_k00_errors_of_the_package_holds : PySem.Challenge.rw_staletags_k00_errors_of_the_package.Holds := by
  exact Qv.Law.head Qv.Law.pure_law
