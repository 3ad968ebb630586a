import PyProof.Rows.All
import Wide.All
import OpenK.AllK
import Wide.FinOn
import HandS.Base
import HandS.Call
import HandS.List
import HandS.Comp
import HandS.Ends
import HandS.Iter
import HandS.Strs
import HandS.TupMul
import HandS.TupAny
import HandS.TupLe
import HandS.SortInts
import HandS.IsInst
import HandS.ExcOwn
import HandS.Flow
import KE.GoesEnum
import HandS.SetFor
import HandS.Style
import HandS.Defaults
import HandS.Head0
import HandS.Head1
import HandS.Head2
import HandS.HeadEnd
import HandS.HeadHook1
import HandS.HeadHook2
import HandS.Words
import KE.KStateDown
import Lean
import PySem.Challenge.RW_staletags_k04_whole_looks_of_the_first_f
set_option Elab.async false
set_option linter.all false
set_option maxRecDepth 100000
set_option maxHeartbeats 4000000
/-! Data values, the relation to the hand layer's heap. -/
namespace Qv
open PySem PySem.Spec PyProof.Rows L2

/-- a value as data -/
inductive D where
  | non | bl (b : Bool) | int (i : Int) | str (x : Str)
  | tup (xs : List D) | lst (xs : List D) | dic (kvs : List (D × D)) | set (xs : List Int)
  | ins (c : Nat) (fs : List (Nat × D)) | exc (c : Nat) (fs : List (Nat × D))
  | ref (l : Nat) | ty (n : String) | glo (g : Nat) | clo (f : Nat) (cs : List D) | scr (ns : List Int)
  deriving Inhabited

/-- a shared object -/
inductive Ob where
  | lst (xs : List D) | ins (c : Nat) (fs : List (Nat × D)) | dead
  deriving Inhabited
abbrev Sh := List Ob

/-- the law's names -/
structure Tb where
  nm : Nat → Str
  ad : Nat → Addr
  cl : Nat → Prop
  w : World
  /-- the module's own lists -/
  kl : Addr → List V → Prop

/-- what is known of the real heap: the objects that never change again, the shared objects' addresses -/
structure Wd where
  G : Hp
  m : List Addr

section
variable (T : Tb)
mutual
inductive Rep (W : Wd) : D → V → Prop
  | non : Rep W .non .non
  | bl (b : Bool) : Rep W (.bl b) (.bl b)
  | int (i : Int) : Rep W (.int i) (.int i)
  | str (x : Str) : Rep W (.str x) (.str x)
  | tup {xs : List D} {vs : List V} {a : Addr} : W.G a = some (.tup vs) → Reps W xs vs → Rep W (.tup xs) (.ref a)
  | lst {xs : List D} {vs : List V} {a : Addr} : W.G a = some (.lst vs) → Reps W xs vs → Rep W (.lst xs) (.ref a)
  | dic0 {a : Addr} : W.G a = some (.dK []) → Rep W (.dic []) (.ref a)
  | set {xs : List Int} {S : Int → Bool} {a : Addr} : W.G a = some (SetO T.w a S xs.length) → (∀ i, S i = decide (i ∈ xs)) → xs.Nodup → Rep W (.set xs) (.ref a)
  | ins {c : Nat} {fs : List (Nat × D)} {fv : List (Str × V)} {a dx : Addr} : T.cl c → W.G a = some (.ins (T.ad c) dx fv) → W.G dx = some (.own a) → RepF W fs fv → Rep W (.ins c fs) (.ref a)
  | ref {l : Nat} {a : Addr} : W.m[l]? = some a → Rep W (.ref l) (.ref a)
  | ty (n : String) : Rep W (.ty n) (.ty n)
  | glo (g : Nat) : Rep W (.glo g) (.ref (T.ad g))
  | scr {ns : List Int} {a : Addr} : (T.kl a (ns.map V.int) ∨ ∃ o, W.G a = some (.frz o (.lst (ns.map V.int)))) → Rep W (.scr ns) (.ref a)
inductive Reps (W : Wd) : List D → List V → Prop
  | nil : Reps W [] []
  | cons {d : D} {v : V} {ds : List D} {vs : List V} : Rep W d v → Reps W ds vs → Reps W (d :: ds) (v :: vs)
inductive RepF (W : Wd) : List (Nat × D) → List (Str × V) → Prop
  | nil : RepF W [] []
  | cons {f : Nat} {d : D} {v : V} {fs : List (Nat × D)} {fv : List (Str × V)} : Rep W d v → RepF W fs fv → RepF W ((f, d) :: fs) ((T.nm f, v) :: fv)
end
end

/-- more is known -/
structure Wd.Le (W W' : Wd) : Prop where
  g : ∀ a o, W.G a = some o → W'.G a = some o
  m : ∀ (l : Nat) (a : Addr), W.m[l]? = some a → W'.m[l]? = some a
theorem Wd.Le.refl (W : Wd) : W.Le W := ⟨fun _ _ h => h, fun _ _ h => h⟩
theorem Wd.Le.trans {A B C : Wd} (h : A.Le B) (k : B.Le C) : A.Le C := ⟨fun a o e => k.g a o (h.g a o e), fun l a e => k.m l a (h.m l a e)⟩

section
variable {T : Tb}
mutual
theorem Rep.mono {W W' : Wd} (h : W.Le W') : ∀ {d : D} {v : V}, Rep T W d v → Rep T W' d v
  | _, _, .non => .non
  | _, _, .bl b => .bl b
  | _, _, .int i => .int i
  | _, _, .str x => .str x
  | _, _, .tup e r => .tup (h.g _ _ e) (Reps.mono h r)
  | _, _, .lst e r => .lst (h.g _ _ e) (Reps.mono h r)
  | _, _, .dic0 e => .dic0 (h.g _ _ e)
  | _, _, .set e a b => .set (h.g _ _ e) a b
  | _, _, .ins c e e2 r => .ins c (h.g _ _ e) (h.g _ _ e2) (RepF.mono h r)
  | _, _, .ref e => .ref (h.m _ _ e)
  | _, _, .ty n => .ty n
  | _, _, .glo g => .glo g
  | _, _, .scr e => .scr (e.imp id fun ⟨o, q⟩ => ⟨o, h.g _ _ q⟩)
theorem Reps.mono {W W' : Wd} (h : W.Le W') : ∀ {d : List D} {v : List V}, Reps T W d v → Reps T W' d v
  | _, _, .nil => .nil
  | _, _, .cons a b => .cons (Rep.mono h a) (Reps.mono h b)
theorem RepF.mono {W W' : Wd} (h : W.Le W') : ∀ {d : List (Nat × D)} {v : List (Str × V)}, RepF T W d v → RepF T W' d v
  | _, _, .nil => .nil
  | _, _, .cons a b => .cons (Rep.mono h a) (RepF.mono h b)
end
theorem Reps.length {W : Wd} : ∀ {ds : List D} {vs : List V}, Reps T W ds vs → ds.length = vs.length
  | _, _, .nil => rfl
  | _, _, .cons _ b => by simp [Reps.length b]
theorem Reps.append {W : Wd} : ∀ {a b : List D} {u v : List V}, Reps T W a u → Reps T W b v → Reps T W (a ++ b) (u ++ v)
  | _, _, _, _, .nil, h => h
  | _, _, _, _, .cons x r, h => .cons x (Reps.append r h)
theorem Reps.get {W : Wd} : ∀ {ds : List D} {vs : List V} {i : Nat} {d : D}, Reps T W ds vs → ds[i]? = some d → ∃ v, vs[i]? = some v ∧ Rep T W d v
  | _, _, _, _, .nil, e => by simp at e
  | _, _, 0, _, .cons r _, e => by simp at e; subst e; exact ⟨_, rfl, r⟩
  | _, _, i + 1, d, .cons _ t, e => by
    obtain ⟨v, h1, h2⟩ := Reps.get (i := i) (d := d) t (by simpa using e)
    exact ⟨v, by simpa using h1, h2⟩
theorem Reps.get' {W : Wd} : ∀ {ds : List D} {vs : List V} {i : Nat} {v : V}, Reps T W ds vs → vs[i]? = some v → ∃ d, ds[i]? = some d ∧ Rep T W d v
  | _, _, _, _, .nil, e => by simp at e
  | _, _, 0, _, .cons r _, e => by simp at e; subst e; exact ⟨_, rfl, r⟩
  | _, _, i + 1, v, .cons _ t, e => by
    obtain ⟨d, h1, h2⟩ := Reps.get' (i := i) (v := v) t (by simpa using e)
    exact ⟨d, by simpa using h1, h2⟩
theorem Reps.set {W : Wd} {d : D} {v : V} (r : Rep T W d v) : ∀ {ds : List D} {vs : List V} (i : Nat), Reps T W ds vs → Reps T W (ds.set i d) (vs.set i v)
  | _, _, _, .nil => .nil
  | _, _, 0, .cons _ t => .cons r t
  | _, _, i + 1, .cons q t => .cons q (Reps.set r i t)
theorem Reps.take {W : Wd} : ∀ {ds : List D} {vs : List V} (n : Nat), Reps T W ds vs → Reps T W (ds.take n) (vs.take n)
  | _, _, 0, _ => .nil
  | _, _, _ + 1, .nil => .nil
  | _, _, n + 1, .cons r t => .cons r (Reps.take n t)
theorem Reps.drop {W : Wd} : ∀ {ds : List D} {vs : List V} (n : Nat), Reps T W ds vs → Reps T W (ds.drop n) (vs.drop n)
  | _, _, 0, r => r
  | _, _, _ + 1, .nil => .nil
  | _, _, n + 1, .cons _ t => Reps.drop n t
theorem Reps.rep {W : Wd} {ds : List D} {vs : List V} (h : Reps T W ds vs) : ∀ k : Nat, Reps T W (List.replicate k ds).flatten (List.replicate k vs).flatten
  | 0 => .nil
  | k + 1 => by
    rw [List.replicate_succ, List.replicate_succ, List.flatten_cons, List.flatten_cons]
    exact h.append (Reps.rep h k)
theorem RepF.look {W : Wd} {f : Nat} {d : D} (inj : ∀ i j, T.nm i = T.nm j → i = j) : ∀ {fs : List (Nat × D)} {fv : List (Str × V)}, RepF T W fs fv → fs.lookup f = some d → ∃ v, fv.lookup (T.nm f) = some v ∧ Rep T W d v
  | _, _, .nil, e => by simp at e
  | _, _, .cons (f := g) r t, e => by
    simp only [List.lookup] at e ⊢
    by_cases h : f = g
    · subst h
      simp only [beq_self_eq_true] at e ⊢
      cases e
      exact ⟨_, rfl, r⟩
    · have h1 : (f == g) = false := by simpa using h
      have h2 : (T.nm f == T.nm g) = false := by simpa using fun q => h (inj _ _ q)
      simp only [h1] at e
      simp only [h2]
      exact RepF.look inj t e
theorem RepF.none {W : Wd} {f : Nat} (inj : ∀ i j, T.nm i = T.nm j → i = j) : ∀ {fs : List (Nat × D)} {fv : List (Str × V)}, RepF T W fs fv → fs.lookup f = none → fv.lookup (T.nm f) = none
  | _, _, .nil, _ => rfl
  | _, _, .cons (f := g) r t, e => by
    simp only [List.lookup] at e ⊢
    by_cases h : f = g
    · subst h
      simp at e
    · have h1 : (f == g) = false := by simpa using h
      have h2 : (T.nm f == T.nm g) = false := by simpa using fun q => h (inj _ _ q)
      simp only [h1] at e
      simp only [h2]
      exact RepF.none inj t e
end

/-! ### one step of the real machine: what may have changed -/
structure Stp (W : Wd) (H : Hp) (W' : Wd) (H' : Hp) : Prop where
  le : W.Le W'
  keep : ∀ a o, H a = some o → a ∉ W.m → H' a = some o
  newG : ∀ a o, W'.G a = some o → W.G a = some o ∨ H a = none ∨ a ∈ W.m
  newM : ∀ a, a ∈ W'.m → a ∈ W.m ∨ H a = none
  there : ∀ a, a ∈ W.m → H' a ≠ none
theorem Stp.refl {W : Wd} {H : Hp} (h : ∀ a, a ∈ W.m → H a ≠ none) : Stp W H W H := ⟨.refl W, fun _ _ h _ => h, fun _ _ h => .inl h, fun _ h => .inl h, h⟩
theorem Stp.trans {W1 W2 W3 : Wd} {H1 H2 H3 : Hp} (h : Stp W1 H1 W2 H2) (k : Stp W2 H2 W3 H3) : Stp W1 H1 W3 H3 := by
  have old : ∀ a, H2 a = none → H1 a = none ∨ a ∈ W1.m := fun a e => by
    cases q : H1 a with
    | none => exact .inl rfl
    | some o =>
      by_cases hm : a ∈ W1.m
      · exact .inr hm
      · rw [h.keep a o q hm] at e; cases e
  refine ⟨h.le.trans k.le, fun a o e n => ?_, fun a o e => ?_, fun a e => ?_, fun a e => ?_⟩
  · refine k.keep a o (h.keep a o e n) fun z => ?_
    rcases h.newM a z with q | q
    · exact n q
    · rw [q] at e; cases e
  · rcases k.newG a o e with q | q | q
    · exact h.newG a o q
    · exact .inr (old a q)
    · rcases h.newM a q with z | z
      · exact .inr (.inr z)
      · exact .inr (.inl z)
  · rcases k.newM a e with q | q
    · exact h.newM a q
    · rcases old a q with z | z
      · exact .inr z
      · exact .inl z
  · obtain ⟨l, e'⟩ := List.getElem?_of_mem e
    exact k.there a (List.mem_of_getElem? (h.le.m l a e'))

/-! ### the shared objects -/
def ORep (T : Tb) (W : Wd) (H : Hp) (a : Addr) : Ob → Prop
  | .lst xs => ∃ vs, H a = some (.lst vs) ∧ Reps T W xs vs
  | .ins c fs => ∃ dx fv, T.cl c ∧ H a = some (.ins (T.ad c) dx fv) ∧ W.G dx = some (.own a) ∧ RepF T W fs fv
  | .dead => H a ≠ none
structure SRel (T : Tb) (W : Wd) (S : Sh) (H : Hp) : Prop where
  sub : ∀ a o, W.G a = some o → H a = some o
  len : W.m.length = S.length
  nd : W.m.Nodup
  apart : ∀ a, a ∈ W.m → W.G a = none
  obs : ∀ (l : Nat) (a : Addr) (o : Ob), W.m[l]? = some a → S[l]? = some o → ORep T W H a o
theorem ORep.there {T : Tb} {W : Wd} {H : Hp} {a : Addr} {o : Ob} (h : ORep T W H a o) : H a ≠ none := by
  cases o with
  | lst xs => obtain ⟨vs, e, _⟩ := h; rw [e]; simp
  | ins c fs => obtain ⟨dx, fv, _, e, _⟩ := h; rw [e]; simp
  | dead => exact h
theorem SRel.there {T : Tb} {W : Wd} {S : Sh} {H : Hp} (r : SRel T W S H) (a : Addr) (h : a ∈ W.m) : H a ≠ none := by
  obtain ⟨l, e⟩ := List.getElem?_of_mem h
  have hl : l < S.length := by rw [← r.len]; exact (List.getElem?_eq_some_iff.mp e).1
  exact (r.obs l a _ e (List.getElem?_eq_getElem hl)).there
theorem SRel.stp {T : Tb} {W : Wd} {S : Sh} {H : Hp} (r : SRel T W S H) : Stp W H W H := Stp.refl r.there
theorem SRel.nonG {T : Tb} {W : Wd} {S : Sh} {H : Hp} (r : SRel T W S H) {a : Addr} (h : H a = none) : W.G a = none := by
  cases q : W.G a with
  | none => rfl
  | some o => have := r.sub a o q; rw [h] at this; cases this
theorem SRel.nonM {T : Tb} {W : Wd} {S : Sh} {H : Hp} (r : SRel T W S H) {a : Addr} (h : H a = none) : a ∉ W.m := fun z => r.there a z h

theorem ne_mem {a b : Addr} {l : List Addr} (n : a ∉ l) (h : b ∈ l) : b ≠ a := fun z => n (z ▸ h)
/-- what is known, with one more object -/
def Wd.add (W : Wd) (a : Addr) (o : HO) : Wd := ⟨upd W.G a o, W.m⟩
theorem Wd.le_add {W : Wd} {a : Addr} {o : HO} (h : W.G a = none) : W.Le (W.add a o) :=
  ⟨fun b u e => by show upd W.G a o b = _; rw [upd_ne (ne_of_none e h)]; exact e, fun _ _ e => e⟩
section
variable {T : Tb} {W : Wd} {S : Sh} {H : Hp} {a : Addr} {o : HO}
/-- the shared objects, over a heap in which they stand as they stood -/
theorem ORep.stay {T : Tb} {W W' : Wd} {H H' : Hp} {a : Addr} {o : Ob} (h : ORep T W H a o) (le : W.Le W') (k : ∀ u, H a = some u → H' a = some u) : ORep T W' H' a o := by
  cases o with
  | lst xs => obtain ⟨vs, e, r⟩ := h; exact ⟨vs, k _ e, r.mono le⟩
  | ins c fs => obtain ⟨dx, fv, hc, e, d, r⟩ := h; exact ⟨dx, fv, hc, k _ e, le.g _ _ d, r.mono le⟩
  | dead =>
    intro z
    cases q : H a with
    | none => exact h q
    | some u => rw [k u q] at z; cases z
/-- a new object is laid that will never change -/
theorem SRel.laid (r : SRel T W S H) (h : H a = none) : SRel T (W.add a o) S (upd H a o) ∧ Stp W H (W.add a o) (upd H a o) := by
  have g := r.nonG h
  have le := Wd.le_add (o := o) g
  have nm := r.nonM h
  refine ⟨⟨fun b u e => ?_, r.len, r.nd, fun b hb => ?_, fun l b u e1 e2 => ?_⟩, ⟨le, fun b u e _ => ?_, fun b u e => ?_, fun b hb => .inl hb, fun b hb => ?_⟩⟩
  · by_cases hb : b = a
    · subst hb
      have e' : upd W.G b o b = some u := e
      rw [upd_same] at e' ⊢; exact e'
    · have e' : upd W.G a o b = some u := e
      rw [upd_ne hb] at e' ⊢
      exact r.sub b u e'
  · show upd W.G a o b = none
    rw [upd_ne (ne_mem nm hb)]
    exact r.apart b hb
  · refine (r.obs l b u e1 e2).stay le fun v q => ?_
    rw [upd_ne (ne_of_none q h)]; exact q
  · rw [upd_ne (ne_of_none e h)]; exact e
  · by_cases hb : b = a
    · subst hb; exact .inr (.inl h)
    · have e' : upd W.G a o b = some u := e
      rw [upd_ne hb] at e'; exact .inl e'
  · rw [upd_ne (ne_mem nm hb)]
    exact r.there b hb
/-- a new object is laid that belongs to whoever made it -/
theorem SRel.fresh (r : SRel T W S H) (h : H a = none) : SRel T W S (upd H a o) ∧ Stp W H W (upd H a o) := by
  have nm := r.nonM h
  refine ⟨⟨fun b u e => ?_, r.len, r.nd, r.apart, fun l b u e1 e2 => ?_⟩, ⟨.refl W, fun b u e _ => ?_, fun b u e => .inl e, fun b hb => .inl hb, fun b hb => ?_⟩⟩
  · have e' := r.sub b u e
    rw [upd_ne (ne_of_none e' h)]; exact e'
  · refine (r.obs l b u e1 e2).stay (.refl W) fun v q => ?_
    rw [upd_ne (ne_of_none q h)]; exact q
  · rw [upd_ne (ne_of_none e h)]; exact e
  · rw [upd_ne (ne_mem nm hb)]
    exact r.there b hb
/-- an object of one's own is changed (it is neither known nor shared) -/
theorem SRel.ownSet (r : SRel T W S H) (g : W.G a = none) (nm : a ∉ W.m) : SRel T W S (upd H a o) := by
  refine ⟨fun b u e => ?_, r.len, r.nd, r.apart, fun l b u e1 e2 => ?_⟩
  · rw [upd_ne (ne_of_none e g)]; exact r.sub b u e
  · refine (r.obs l b u e1 e2).stay (.refl W) fun v q => ?_
    rw [upd_ne (ne_mem nm (List.mem_of_getElem? e1))]; exact q
/-- an object of one's own becomes known -/
theorem SRel.freeze (r : SRel T W S H) (h : H a = some o) (g : W.G a = none) (nm : a ∉ W.m) : SRel T (W.add a o) S H := by
  have le := Wd.le_add (o := o) g
  refine ⟨fun b u e => ?_, r.len, r.nd, fun b hb => ?_, fun l b u e1 e2 => (r.obs l b u e1 e2).stay le fun _ q => q⟩
  · by_cases hb : b = a
    · subst hb
      have e' : upd W.G b o b = some u := e
      rw [upd_same] at e'; rw [← e']; exact h
    · have e' : upd W.G a o b = some u := e
      rw [upd_ne hb] at e'; exact r.sub b u e'
  · show upd W.G a o b = none
    rw [upd_ne (ne_mem nm hb)]; exact r.apart b hb
/-- an object of one's own becomes shared -/
theorem SRel.share {ob : Ob} (r : SRel T W S H) (h : ORep T W H a ob) (g : W.G a = none) (nm : a ∉ W.m) : SRel T ⟨W.G, W.m ++ [a]⟩ (S ++ [ob]) H ∧ W.Le ⟨W.G, W.m ++ [a]⟩ := by
  have le : W.Le ⟨W.G, W.m ++ [a]⟩ := ⟨fun _ _ e => e, fun l b e => by
    show (W.m ++ [a])[l]? = some b
    rw [List.getElem?_append_left (List.getElem?_eq_some_iff.mp e).1]; exact e⟩
  refine ⟨⟨r.sub, by simp [r.len], ?_, fun b hb => ?_, fun l b u e1 e2 => ?_⟩, le⟩
  · rw [List.nodup_append]
    exact ⟨r.nd, by simp, fun x hx y hy => by simp at hy; subst hy; exact fun z => nm (z ▸ hx)⟩
  · have hb' : b ∈ W.m ++ [a] := hb
    rcases List.mem_append.mp hb' with z | z
    · exact r.apart b z
    · simp at z; subst z; exact g
  · have e1' : (W.m ++ [a])[l]? = some b := e1
    by_cases hl : l < W.m.length
    · rw [List.getElem?_append_left hl] at e1'
      rw [List.getElem?_append_left (by rw [← r.len]; exact hl)] at e2
      exact (r.obs l b u e1' e2).stay le fun _ q => q
    · rw [List.getElem?_append_right (Nat.le_of_not_lt hl)] at e1'
      rw [List.getElem?_append_right (by rw [← r.len]; exact Nat.le_of_not_lt hl), ← r.len] at e2
      have hz : l - W.m.length = 0 := by
        have := (List.getElem?_eq_some_iff.mp e1').1
        simp at this; omega
      rw [hz] at e1' e2
      simp at e1' e2
      subst e1' e2
      exact h.stay le fun _ q => q
/-- a shared object is changed -/
theorem SRel.setAt {l : Nat} {ob : Ob} {u : HO} (r : SRel T W S H) (hl : W.m[l]? = some a) (h : ORep T W (upd H a u) a ob) : SRel T W (S.set l ob) (upd H a u) ∧ Stp W H W (upd H a u) := by
  have hm := List.mem_of_getElem? hl
  have g := r.apart a hm
  refine ⟨⟨fun b v e => ?_, by simp [r.len], r.nd, r.apart, fun k b v e1 e2 => ?_⟩, ⟨.refl W, fun b v e n => ?_, fun b v e => .inl e, fun b hb => .inl hb, fun b hb => ?_⟩⟩
  · rw [upd_ne (ne_of_none e g)]; exact r.sub b v e
  · by_cases hk : k = l
    · subst hk
      rw [hl] at e1; cases e1
      rw [List.getElem?_set_self (by rw [← r.len]; exact (List.getElem?_eq_some_iff.mp hl).1)] at e2
      cases e2
      exact h
    · rw [List.getElem?_set_ne (Ne.symm hk)] at e2
      have hne : b ≠ a := fun z => by
        subst z
        have h1 := (List.getElem?_eq_some_iff.mp e1)
        have h2 := (List.getElem?_eq_some_iff.mp hl)
        exact hk ((List.getElem_inj r.nd).mp (h1.2.trans h2.2.symm))
      refine (r.obs k b v e1 e2).stay (.refl W) fun w q => ?_
      rw [upd_ne hne]; exact q
  · rw [upd_ne (Ne.symm (ne_mem n hm))]; exact e
  · by_cases hb' : b = a
    · subst hb'; rw [upd_same]; simp
    · rw [upd_ne hb']; exact r.there b hb
end

/-! ### a frame's slots -/
inductive Sl where
  | v (d : D) | ol (xs : List D) | os (xs : List Int)
abbrev En := List (Option Sl)
def SlRep (T : Tb) (H0 : Hp) (W : Wd) (H : Hp) : Sl → Option (Option V) → Prop
  | .v d, x => ∃ v, x = some (some v) ∧ Rep T W d v
  | .ol xs, x => ∃ a vs, x = some (some (.ref a)) ∧ H a = some (.lst vs) ∧ Reps T W xs vs ∧ W.G a = none ∧ a ∉ W.m ∧ H0 a = none
  | .os xs, x => ∃ a S, x = some (some (.ref a)) ∧ H a = some (SetO T.w a S xs.length) ∧ (∀ i, S i = decide (i ∈ xs)) ∧ xs.Nodup ∧ W.G a = none ∧ a ∉ W.m ∧ H0 a = none
def Sl.own : Sl → Bool
  | .v _ => false
  | _ => true
structure FRel (T : Tb) (H0 : Hp) (W : Wd) (E : En) (σ : L2.St) (H : Hp) : Prop where
  len : E.length = σ.length
  at_ : ∀ (i : Nat) (s : Sl), E[i]? = some (some s) → SlRep T H0 W H s σ[i]?
  sep : ∀ (i j : Nat) (s t : Sl) (a : Addr), E[i]? = some (some s) → E[j]? = some (some t) → s.own = true → t.own = true → σ[i]? = some (some (.ref a)) → σ[j]? = some (some (.ref a)) → i = j
theorem SlRep.stp {T : Tb} {H0 : Hp} {W W' : Wd} {H H' : Hp} {s : Sl} {x : Option (Option V)} (st : Stp W H W' H') (h : SlRep T H0 W H s x) : SlRep T H0 W' H' s x := by
  cases s with
  | v d => obtain ⟨v, e, r⟩ := h; exact ⟨v, e, r.mono st.le⟩
  | ol xs =>
    obtain ⟨a, vs, e, q, r, g, nm, z⟩ := h
    refine ⟨a, vs, e, st.keep a _ q nm, r.mono st.le, ?_, fun c => ?_, z⟩
    · cases k : W'.G a with
      | none => rfl
      | some o =>
        rcases st.newG a o k with c | c | c
        · rw [g] at c; cases c
        · rw [q] at c; cases c
        · exact absurd c nm
    · rcases st.newM a c with c | c
      · exact nm c
      · rw [q] at c; cases c
  | os xs =>
    obtain ⟨a, S, e, q, r1, r2, g, nm, z⟩ := h
    refine ⟨a, S, e, st.keep a _ q nm, r1, r2, ?_, fun c => ?_, z⟩
    · cases k : W'.G a with
      | none => rfl
      | some o =>
        rcases st.newG a o k with c | c | c
        · rw [g] at c; cases c
        · rw [q] at c; cases c
        · exact absurd c nm
    · rcases st.newM a c with c | c
      · exact nm c
      · rw [q] at c; cases c
theorem FRel.stp {T : Tb} {H0 : Hp} {W W' : Wd} {E : En} {σ : L2.St} {H H' : Hp} (h : FRel T H0 W E σ H) (st : Stp W H W' H') : FRel T H0 W' E σ H' :=
  ⟨h.len, fun i s e => (h.at_ i s e).stp st, h.sep⟩
/-- a plain value is stored -/
theorem FRel.setV {T : Tb} {H0 : Hp} {W : Wd} {E : En} {σ : L2.St} {H : Hp} {d : D} {v : V} (h : FRel T H0 W E σ H) (i : Nat) (r : Rep T W d v) : FRel T H0 W (E.set i (some (.v d))) (σ.set i (some v)) H := by
  refine ⟨by simp [h.len], fun j s e => ?_, fun j k s t a e1 e2 o1 o2 q1 q2 => ?_⟩
  · by_cases hj : i = j
    · subst hj
      have hi : i < E.length := by have := (List.getElem?_eq_some_iff.mp e).1; simpa using this
      rw [List.getElem?_set_self hi] at e
      cases e
      exact ⟨v, List.getElem?_set_self (by rw [← h.len]; exact hi), r⟩
    · rw [List.getElem?_set_ne hj] at e
      rw [List.getElem?_set_ne hj]
      exact h.at_ j s e
  · have ne : ∀ {j : Nat} {s : Sl}, (E.set i (some (.v d)))[j]? = some (some s) → s.own = true → i ≠ j := fun {j s} e o z => by
      subst z
      have hi : i < E.length := by have := (List.getElem?_eq_some_iff.mp e).1; simpa using this
      rw [List.getElem?_set_self hi] at e
      cases e; cases o
    have n1 := ne e1 o1
    have n2 := ne e2 o2
    rw [List.getElem?_set_ne n1] at e1 q1
    rw [List.getElem?_set_ne n2] at e2 q2
    exact h.sep j k s t a e1 e2 o1 o2 q1 q2
end Qv
set_option Elab.async false
set_option linter.all false
set_option maxRecDepth 100000
set_option maxHeartbeats 4000000
/-! The small language of defs and what it computes. -/
namespace Qv
open PySem

inductive BinO where
  | add | sub | mul | fdiv | mod | pow
  deriving DecidableEq
inductive CmpO where
  | eq | ne | lt | le | gt | ge | inn | nin
  deriving DecidableEq
inductive BI where
  | len | abs | int | sum | all | any | max1 | min1 | max2 | min2 | isi | tuple
  deriving DecidableEq
inductive Tg where
  | n (i : Nat) | t (a b : Tg) | t3 (a b c : Tg)
inductive Res (α : Type) where
  | ok (a : α) (S : Sh) | ex (x : D) (S : Sh) | bad

mutual
inductive IE where
  | c (d : D)
  | g (n : Nat)
  | v (i : Nat)
  | tup (es : IEs)
  | l (le : LE)
  | sh (le : LE)
  | bin (o : BinO) (a b : IE)
  | neg (a : IE)
  | cmp (o : CmpO) (a b : IE)
  | cmpc (o1 o2 : CmpO) (a b c : IE)
  | isn (a : IE)
  | nnn (a : IE)
  | not (a : IE)
  | and (a b : IE)
  | or (a b : IE)
  | ife (t a b : IE)
  | call (f : Nat) (es : IEs)
  | mk (c : Nat) (es : IEs)
  | bi (b : BI) (es : IEs)
  | ix (a b : IE)
  | sl (a : IE) (lo hi : IO)
  | at (a : IE) (f : Nat)
  | st (a : IE)
inductive IO where
  | no | ye (e : IE)
inductive IEs where
  | nil | cons (e : IE) (es : IEs)
inductive LE where
  | disp (es : IEs)
  | comp (elt : IE) (tg : Tg) (it : II) (cond : IO) (vs : List Nat)
  | list (a : IE)
  | sorted (a : IE)
  | rep (a n : IE)
inductive II where
  | seq (a : IE) | rng1 (a : IE) | rng2 (a b : IE) | enum (a : IE) | zip (a b : IE)
end
inductive SE where
  | set (a : IE) | emp

mutual
inductive IS where
  | asg (tg : Tg) (e : IE)
  | par (is : List Nat) (es : IEs)
  | own (i : Nat) (le : LE)
  | owns (i : Nat) (se : SE)
  | aug (i : Nat) (o : BinO) (e : IE)
  | app (i : Nat) (e : IE)
  | ext (i : Nat) (e : IE)
  | add (i : Nat) (e : IE)
  | sti (i : Nat) (ix e : IE)
  | sts (o ix e : IE)
  | sat (o : IE) (f : Nat) (e : IE)
  | expr (e : IE) | ret (e : IE) | retn | pas | brk | cnt
  | ite (t : IE) (a b : ISs)
  | for (tg : Tg) (it : II) (b : ISs)
  | whl (t : IE) (b : ISs)
  | raise (x : Str)
inductive ISs where
  | nil | cons (s : IS) (b : ISs) | frz (i : Nat) (b : ISs)
end

/-! ### values -/
def LIM : Nat := 1000000
def Res.bind {α β : Type} : Res α → (α → Sh → Res β) → Res β
  | .ok a S, k => k a S
  | .ex x S, _ => .ex x S
  | .bad, _ => .bad
def lift {α : Type} : Option α → Sh → Res α
  | some d, S => .ok d S
  | none, _ => .bad
def drf (S : Sh) : D → D
  | .ref l => (match S[l]? with
    | some (.lst xs) => .lst xs
    | _ => .ref l)
  | d => d
def seqD : D → Option (List D)
  | .tup xs => some xs
  | .lst xs => some xs
  | _ => none
mutual
def D.beq : D → D → Bool
  | .non, .non => true
  | .bl a, .bl b => a == b
  | .bl a, .int j => (if a then 1 else 0) == j
  | .int i, .bl b => i == (if b then 1 else 0)
  | .int i, .int j => i == j
  | .str x, .str y => x == y
  | .lst xs, .lst ys => D.beqs xs ys
  | .tup xs, .tup ys => D.beqs xs ys
  | _, _ => false
def D.beqs : List D → List D → Bool
  | [], [] => true
  | x :: xs, y :: ys => D.beq x y && D.beqs xs ys
  | _, _ => false
end
mutual
/-- == of it is told, and how deep it is -/
def D.okq : D → Bool
  | .non => true
  | .bl _ => true
  | .int _ => true
  | .str x => PyData.canLay0 (.str x)
  | .lst xs => D.okqs xs
  | .tup xs => D.okqs xs
  | _ => false
def D.okqs : List D → Bool
  | [] => true
  | x :: xs => D.okq x && D.okqs xs
end
mutual
def D.dep : D → Nat
  | .lst xs => D.deps xs + 1
  | .tup xs => D.deps xs + 1
  | _ => 0
def D.deps : List D → Nat
  | [] => 0
  | x :: xs => max (D.dep x) (D.deps xs)
end
def D.flat : D → Bool
  | .non => true
  | .bl _ => true
  | .int _ => true
  | .str _ => true
  | _ => false
def mulOk (i j : Int) : Prop := (-(2 ^ 64) < i ∧ i < 2 ^ 64) ∨ (-(2 ^ 64) < j ∧ j < 2 ^ 64)
instance (i j : Int) : Decidable (mulOk i j) := by unfold mulOk; infer_instance
def binD : BinO → D → D → Option D
  | .add, .int i, .int j => some (.int (i + j))
  | .sub, .int i, .int j => some (.int (i - j))
  | .mul, .int i, .int j => if mulOk i j then some (.int (i * j)) else none
  | .fdiv, .int i, .int j => if 0 < j ∧ j < 1073741824 then some (.int (i / j)) else none
  | .mod, .int i, .int j => if 0 < j then some (.int (i % j)) else none
  | .pow, .int i, .int j => if 0 ≤ j ∧ j ≤ 1000000 ∧ i.natAbs < 2 ^ 64 then some (.int (i ^ j.toNat)) else none
  | .add, .tup xs, .tup ys => if xs.length + ys.length ≤ LIM then some (.tup (xs ++ ys)) else none
  | .add, .lst xs, .lst ys => if xs.length + ys.length ≤ LIM then some (.lst (xs ++ ys)) else none
  | .mul, .tup xs, .int k => if 1 ≤ k ∧ k ≤ 1000 ∧ xs ≠ [] ∧ xs.length ≤ 1000 then some (.tup (List.replicate k.toNat xs).flatten) else none
  | .mul, .lst xs, .int k => if 0 ≤ k ∧ k ≤ 1000 ∧ xs.length ≤ 1000 then some (.lst (List.replicate k.toNat xs).flatten) else none
  | _, _, _ => none
instance (xs : List D) : Decidable (xs = []) := by cases xs <;> first | exact isTrue rfl | exact isFalse (fun h => nomatch h)
/-- an index, from the front or from behind -/
def ixAt (n : Nat) (i : Int) : Option Nat := if 0 ≤ i then (if i < n then some i.toNat else none) else if -(n : Int) ≤ i then some (i + n).toNat else none
def intsOf : List D → Option (List Int)
  | [] => some []
  | .int i :: r => (intsOf r).map (i :: ·)
  | _ => none
def blsOf : List D → Option (List Bool)
  | [] => some []
  | .bl i :: r => (blsOf r).map (i :: ·)
  | _ => none
def lexI : List Int → List Int → Bool
  | [], _ => true
  | _ :: _, [] => false
  | x :: xs, y :: ys => if x = y then lexI xs ys else decide (x < y)
def cmpD : CmpO → D → D → Option Bool
  | .eq, x, y => if x.okq && y.okq && decide (x.dep ≤ 64) && decide (y.dep ≤ 64) then some (D.beq x y) else none
  | .ne, x, y => if x.okq && y.okq && decide (x.dep ≤ 64) && decide (y.dep ≤ 64) then some (!D.beq x y) else none
  | .lt, .int i, .int j => some (decide (i < j))
  | .le, .int i, .int j => some (decide (i ≤ j))
  | .gt, .int i, .int j => some (decide (j < i))
  | .ge, .int i, .int j => some (decide (j ≤ i))
  | .le, .tup xs, .tup ys => (match intsOf xs, intsOf ys with
    | some a, some b => some (lexI a b)
    | _, _ => none)
  | .inn, .int i, .set xs => some (decide (i ∈ xs))
  | .nin, .int i, .set xs => some (!decide (i ∈ xs))
  | .inn, x, y => (match seqD y with
    | some ys => if x.flat && ys.all D.flat then some (ys.any fun z => D.beq z x) else none
    | none => none)
  | .nin, x, y => (match seqD y with
    | some ys => if x.flat && ys.all D.flat then some (!ys.any fun z => D.beq z x) else none
    | none => none)
  | _, _, _ => none
def truD : D → Option Bool
  | .non => some false
  | .bl b => some b
  | .int i => some (i != 0)
  | .tup xs => some (!xs.isEmpty)
  | .lst xs => some (!xs.isEmpty)
  | _ => none
/-- the built-in class of a value -/
def kindD : D → Option String
  | .non => some "NoneType"
  | .bl _ => some "bool"
  | .int _ => some "int"
  | .str _ => some "str"
  | .tup _ => some "tuple"
  | .lst _ => some "list"
  | .dic _ => some "dict"
  | _ => none
def isiK (k n : String) : Option Bool :=
  if n = "int" then some (k = "int" || k = "bool") else if n = "bool" then some (k = "bool") else if n = "str" then some (k = "str")
  else if n = "tuple" then some (k = "tuple") else if n = "list" then some (k = "list") else if n = "dict" then some (k = "dict") else none
def foldMax : Int → List Int → Int
  | a, [] => a
  | a, x :: xs => foldMax (if x > a then x else a) xs
def foldMin : Int → List Int → Int
  | a, [] => a
  | a, x :: xs => foldMin (if x < a then x else a) xs
def biD : BI → List D → Option D
  | .len, [.tup xs] => some (.int xs.length)
  | .len, [.lst xs] => some (.int xs.length)
  | .len, [.scr ns] => some (.int ns.length)
  | .len, [.str x] => if x.length ≤ LIM then some (.int x.length) else none
  | .abs, [.int i] => some (.int (if i < 0 then -i else i))
  | .int, [.int i] => some (.int i)
  | .int, [.bl b] => some (.int (if b then 1 else 0))
  | .sum, [.lst xs] => (intsOf xs).map fun l => .int l.sum
  | .all, [.lst xs] => (blsOf xs).map fun l => .bl (l.all id)
  | .any, [.lst xs] => (blsOf xs).map fun l => .bl (l.any id)
  | .max2, [.int i, .int j] => some (.int (if j > i then j else i))
  | .min2, [.int i, .int j] => some (.int (if j < i then j else i))
  | .isi, [d, .ty n] => (match kindD d with
    | some k => (isiK k n).map .bl
    | none => none)
  | .tuple, [.lst xs] => some (.tup xs)
  | .tuple, [.tup xs] => some (.tup xs)
  | _, _ => none
def sIxO (n d : Nat) : Option Int → Nat
  | none => d
  | some v => if v < 0 then (v + (n : Int)).toNat else min v.toNat n
def cutD (xs : List D) (lo hi : Option Int) : List D := (xs.drop (sIxO xs.length 0 lo)).take (sIxO xs.length xs.length hi - sIxO xs.length 0 lo)
def seqI : D → Option (List D)
  | .scr ns => some (ns.map .int)
  | d => seqD d
def slD : D → Option Int → Option Int → Option D
  | .tup xs, lo, hi => some (.tup (cutD xs lo hi))
  | .lst xs, lo, hi => some (.lst (cutD xs lo hi))
  | .scr ns, lo, hi => some (.lst (cutD (ns.map .int) lo hi))
  | _, _, _ => none
def ixD : D → D → Option D
  | .tup xs, .int i => (ixAt xs.length i).bind fun j => xs[j]?
  | .lst xs, .int i => (ixAt xs.length i).bind fun j => xs[j]?
  | _, _ => none
def insI (x : Int) : List Int → List Int
  | [] => [x]
  | y :: r => if x ≤ y then x :: y :: r else y :: insI x r
def sortI : List Int → List Int
  | [] => []
  | x :: r => insI x (sortI r)
def addS (xs : List Int) (x : Int) : List Int := if x ∈ xs then xs else xs ++ [x]
def rngD (a b : Int) : List D := (List.range (b - a).toNat).map fun (i : Nat) => D.int (a + i)
def enumD : Nat → List D → List D
  | _, [] => []
  | n, x :: r => .tup [.int n, x] :: enumD (n + 1) r
def zipD : List D → List D → List D
  | x :: xs, y :: ys => .tup [x, y] :: zipD xs ys
  | _, _ => []
def setOf (d : D) : Option (List Int) := ((seqD d).bind intsOf).bind fun l => if l.length < 4000 then some (l.foldl addS []) else none
def wipeE (E : En) : List Nat → En
  | [] => E
  | v :: vs => (wipeE E vs).set v none
def asgT : Tg → D → En → Option En
  | .n i, d, E => if i < E.length then some (E.set i (some (.v d))) else none
  | .t a b, .tup [x, y], E => (asgT a x E).bind (asgT b y)
  | .t3 a b c, .tup [x, y, z], E => ((asgT a x E).bind (asgT b y)).bind (asgT c z)
  | _, _, _ => none
def atD (S : Sh) (f : Nat) : D → Option D
  | .ins _ fs => fs.lookup f
  | .ref l => (match S[l]? with
    | some (.ins _ fs) => fs.lookup f
    | _ => none)
  | _ => none

structure Calls where
  fn : Nat → List D → Sh → Res D
  new : Nat → List D → Sh → Res D
  gl : Nat → Option D

def compL (f : D → Sh → Res (Option D)) : List D → List D → Sh → Res (List D)
  | [], acc, S => .ok acc S
  | x :: xs, acc, S => (f x S).bind fun o S1 => match o with
    | none => compL f xs acc S1
    | some y => if acc.length < LIM then compL f xs (acc ++ [y]) S1 else .bad
def slotA (E : En) (i : Nat) : Option D := match E[i]? with
  | some (some (.v d)) => some d
  | some (some (.ol xs)) => some (.lst xs)
  | some (some (.os xs)) => some (.set xs)
  | _ => none
def slotV (E : En) (i : Nat) : Option D := match E[i]? with
  | some (some (.v d)) => some d
  | _ => none
def noEx {α : Type} : Res α → Res α
  | .ok a S => .ok a S
  | _ => .bad

/-- an argument that a built-in only looks at: a list of one's own may stand there -/
def brw : IE → En → Sh → Res D → Res D
  | .v i, E, S, _ => lift (slotA E i) S
  | _, _, _, r => r
def tst (e : IE) (E : En) (S : Sh) (r : Res D) : Res Bool := (brw e E S r).bind fun x S => lift (truD (drf S x)) S

mutual
def ev (C : Calls) : IE → En → Sh → Res D
  | .c d, _, S => .ok d S
  | .g n, _, S => lift (C.gl n) S
  | .v i, E, S => lift (slotV E i) S
  | .tup es, E, S => (evs C es E S).bind fun ds S => if ds.length ≤ LIM then .ok (.tup ds) S else .bad
  | .l le, E, S => (evL C le E S).bind fun ds S => .ok (.lst ds) S
  | .sh le, E, S => (evL C le E S).bind fun ds S => .ok (.ref S.length) (S ++ [.lst ds])
  | .bin o a b, E, S => (brw a E S (ev C a E S)).bind fun x S => (brw b E S (ev C b E S)).bind fun y S => lift (binD o (drf S x) (drf S y)) S
  | .neg a, E, S => (ev C a E S).bind fun x S => match x with
    | .int i => .ok (.int (-i)) S
    | _ => .bad
  | .cmp o a b, E, S => (brw a E S (ev C a E S)).bind fun x S => (brw b E S (ev C b E S)).bind fun y S => (lift (cmpD o (drf S x) (drf S y)) S).bind fun b S => .ok (.bl b) S
  | .cmpc o1 o2 a b c, E, S => (ev C a E S).bind fun x S => (ev C b E S).bind fun y S => (lift (cmpD o1 (drf S x) (drf S y)) S).bind fun t S => match t with
    | true => (ev C c E S).bind fun z S => (lift (cmpD o2 (drf S y) (drf S z)) S).bind fun b S => .ok (.bl b) S
    | false => .ok (.bl false) S
  | .isn a, E, S => (ev C a E S).bind fun x S => match x with
    | .non => .ok (.bl true) S
    | _ => .ok (.bl false) S
  | .nnn a, E, S => (ev C a E S).bind fun x S => match x with
    | .non => .ok (.bl false) S
    | _ => .ok (.bl true) S
  | .not a, E, S => (tst a E S (ev C a E S)).bind fun t S => .ok (.bl (!t)) S
  | .and a b, E, S => (ev C a E S).bind fun x S => match truD (drf S x) with
    | some true => ev C b E S
    | some false => .ok x S
    | none => .bad
  | .or a b, E, S => (ev C a E S).bind fun x S => match truD (drf S x) with
    | some true => .ok x S
    | some false => ev C b E S
    | none => .bad
  | .ife t a b, E, S => (tst t E S (ev C t E S)).bind fun t S => match t with
    | true => ev C a E S
    | false => ev C b E S
  | .call f es, E, S => (evs C es E S).bind fun ds S => C.fn f ds S
  | .mk c es, E, S => (evs C es E S).bind fun ds S => C.new c ds S
  | .bi b es, E, S => (evAs C es E S).bind fun ds S => lift (biD b (ds.map (drf S))) S
  | .ix a b, E, S => (brw a E S (ev C a E S)).bind fun x S => (ev C b E S).bind fun y S => lift (ixD (drf S x) y) S
  | .sl a lo hi, E, S => (brw a E S (ev C a E S)).bind fun x S => (evO C lo E S).bind fun l S => (evO C hi E S).bind fun h S => lift (slD (drf S x) l h) S
  | .at a f, E, S => (ev C a E S).bind fun x S => lift (atD S f x) S
  | .st a, E, S => (brw a E S (ev C a E S)).bind fun x S => (lift (setOf (drf S x)) S).bind fun l S => .ok (.set l) S
def evO (C : Calls) : IO → En → Sh → Res (Option Int)
  | .no, _, S => .ok none S
  | .ye e, E, S => (ev C e E S).bind fun x S => match x with
    | .int i => .ok (some i) S
    | _ => .bad
def evs (C : Calls) : IEs → En → Sh → Res (List D)
  | .nil, _, S => .ok [] S
  | .cons e es, E, S => (ev C e E S).bind fun x S => (evs C es E S).bind fun xs S => .ok (x :: xs) S
def evAs (C : Calls) : IEs → En → Sh → Res (List D)
  | .nil, _, S => .ok [] S
  | .cons e es, E, S => (brw e E S (ev C e E S)).bind fun x S => (evAs C es E S).bind fun xs S => .ok (x :: xs) S
def evL (C : Calls) : LE → En → Sh → Res (List D)
  | .disp es, E, S => (evs C es E S).bind fun ds S => if ds.length ≤ LIM then .ok ds S else .bad
  | .comp elt tg it cond vs, E, S => (evI C it E S).bind fun xs S => noEx (compL (fun x S => match asgT tg x (wipeE E vs) with
    | none => .bad
    | some E1 => (evC C cond E1 S).bind fun t S => match t with
      | true => (ev C elt E1 S).bind fun y S => .ok (some y) S
      | false => .ok none S) xs [] S)
  | .list a, E, S => (brw a E S (ev C a E S)).bind fun x S => lift (seqD (drf S x)) S
  | .sorted a, E, S => (brw a E S (ev C a E S)).bind fun x S => match drf S x with
    | .lst xs => (lift (intsOf xs) S).bind fun l S => .ok ((sortI l).map .int) S
    | .set xs => if xs.length < 64 then .ok ((sortI xs).map .int) S else .bad
    | _ => .bad
  | .rep a n, E, S => (brw a E S (ev C a E S)).bind fun x S => (ev C n E S).bind fun y S => match binD .mul (drf S x) y with
    | some (.lst xs) => .ok xs S
    | _ => .bad
def evC (C : Calls) : IO → En → Sh → Res Bool
  | .no, _, S => .ok true S
  | .ye e, E, S => tst e E S (ev C e E S)
def evI (C : Calls) : II → En → Sh → Res (List D)
  | .seq a, E, S => (ev C a E S).bind fun x S => lift (seqI x) S
  | .rng1 a, E, S => (ev C a E S).bind fun x S => match x with
    | .int n => if -(LIM : Int) ≤ n ∧ n ≤ LIM then .ok (rngD 0 n) S else .bad
    | _ => .bad
  | .rng2 a b, E, S => (ev C a E S).bind fun x S => (ev C b E S).bind fun y S => match x, y with
    | .int i, .int j => if -(LIM : Int) ≤ i ∧ i ≤ LIM ∧ -(LIM : Int) ≤ j ∧ j ≤ LIM then .ok (rngD i j) S else .bad
    | _, _ => .bad
  | .enum a, E, S => (ev C a E S).bind fun x S => match seqD x with
    | some xs => .ok (enumD 0 xs) S
    | none => .bad
  | .zip a b, E, S => (ev C a E S).bind fun x S => (ev C b E S).bind fun y S => match seqD x, seqD y with
    | some xs, some ys => .ok (zipD xs ys) S
    | _, _ => .bad
end

/-! ### statements -/
inductive Fl where
  | nx | brk | cnt | ret (d : D) | exc (x : D)
/-- an expression's end, in a statement: what it raises leaves at these slots -/
def Res.bindS {α : Type} (r : Res α) (E : En) (k : α → Sh → Res (Fl × En)) : Res (Fl × En) := match r with
  | .ok a S => k a S
  | .ex x S => .ok (.exc x, E) S
  | .bad => .bad
def forL (f : D → En → Sh → Res (Fl × En)) : List D → En → Sh → Res (Fl × En)
  | [], E, S => .ok (.nx, E) S
  | x :: xs, E, S => (f x E S).bind fun r S1 => match r with
    | (.nx, E1) => forL f xs E1 S1
    | (.cnt, E1) => forL f xs E1 S1
    | (.brk, E1) => .ok (.nx, E1) S1
    | r => .ok r S1
def whlL (t : En → Sh → Res Bool) (f : En → Sh → Res (Fl × En)) : Nat → En → Sh → Res (Fl × En)
  | 0, _, _ => .bad
  | n + 1, E, S => (t E S).bindS E fun b S1 => match b with
    | false => .ok (.nx, E) S1
    | true => (f E S1).bind fun r S2 => match r with
      | (.nx, E1) => whlL t f n E1 S2
      | (.cnt, E1) => whlL t f n E1 S2
      | (.brk, E1) => .ok (.nx, E1) S2
      | r => .ok r S2
def WFU : Nat := 1000000
def setSl (E : En) (i : Nat) (s : Sl) : Option En := if i < E.length then some (E.set i (some s)) else none
def nxt (E : Option En) (S : Sh) : Res (Fl × En) := match E with
  | some E => .ok (.nx, E) S
  | none => .bad
def putF (f : Nat) (d : D) : List (Nat × D) → List (Nat × D)
  | [] => [(f, d)]
  | (g, x) :: r => if g = f then (g, d) :: r else (g, x) :: putF f d r
def setPar : List Nat → List D → En → Option En
  | [], [], E => some E
  | i :: is, d :: ds, E => (setSl E i (.v d)).bind (setPar is ds)
  | _, _, _ => none
def evSE (C : Calls) : SE → En → Sh → Res (List Int)
  | .emp, _, S => .ok [] S
  | .set a, E, S => (brw a E S (ev C a E S)).bind fun x S => lift (setOf (drf S x)) S
def augD (o : BinO) : D → D → Option D
  | .int i, .int j => (match o with
    | .pow => none
    | _ => binD o (.int i) (.int j))
  | _, _ => none
mutual
def exS (C : Calls) : IS → En → Sh → Res (Fl × En)
  | .asg tg e, E, S => (ev C e E S).bindS E fun d S => nxt (asgT tg d E) S
  | .par is es, E, S => (evs C es E S).bindS E fun ds S => if ds.length ≤ LIM then nxt (setPar is ds E) S else .bad
  | .own i le, E, S => (evL C le E S).bindS E fun ds S => nxt (setSl E i (.ol ds)) S
  | .owns i se, E, S => (evSE C se E S).bindS E fun l S => nxt (setSl E i (.os l)) S
  | .aug i o e, E, S => (match E[i]? with
    | some (some (.v x)) => (ev C e E S).bindS E fun y S => (lift (augD o x y) S).bindS E fun z S => nxt (setSl E i (.v z)) S
    | _ => .bad)
  | .app i e, E, S => (match E[i]? with
    | some (some (.ol xs)) => (ev C e E S).bindS E fun d S => if xs.length < LIM then nxt (setSl E i (.ol (xs ++ [d]))) S else .bad
    | _ => .bad)
  | .ext i e, E, S => (match E[i]? with
    | some (some (.ol xs)) => (brw e E S (ev C e E S)).bindS E fun d S => (match drf S d with
      | .lst ys => if xs.length + ys.length ≤ LIM then nxt (setSl E i (.ol (xs ++ ys))) S else .bad
      | _ => .bad)
    | _ => .bad)
  | .add i e, E, S => (match E[i]? with
    | some (some (.os xs)) => (ev C e E S).bindS E fun d S => (match d with
      | .int x => if xs.length < 4000 then nxt (setSl E i (.os (addS xs x))) S else .bad
      | _ => .bad)
    | _ => .bad)
  | .sti i ix e, E, S => (match E[i]? with
    | some (some (.ol xs)) => (ev C e E S).bindS E fun d S => (ev C ix E S).bindS E fun k S => (match k with
      | .int j => (match ixAt xs.length j with
        | some n => nxt (setSl E i (.ol (xs.set n d))) S
        | none => .bad)
      | _ => .bad)
    | _ => .bad)
  | .sts o ix e, E, S => (ev C e E S).bindS E fun d S => (ev C o E S).bindS E fun x S => (ev C ix E S).bindS E fun k S => match x, k with
    | .ref l, .int j => (match S[l]? with
      | some (.lst xs) => (match ixAt xs.length j with
        | some n => .ok (.nx, E) (S.set l (.lst (xs.set n d)))
        | none => .bad)
      | _ => .bad)
    | _, _ => .bad
  | .sat o f e, E, S => (ev C e E S).bindS E fun d S => (ev C o E S).bindS E fun x S => match x with
    | .ref l => (match S[l]? with
      | some (.ins c fs) => if fs.length < 900 then .ok (.nx, E) (S.set l (.ins c (putF f d fs))) else .bad
      | _ => .bad)
    | _ => .bad
  | .expr e, E, S => (ev C e E S).bindS E fun _ S => .ok (.nx, E) S
  | .ret e, E, S => (ev C e E S).bindS E fun d S => .ok (.ret d, E) S
  | .retn, E, S => .ok (.ret .non, E) S
  | .pas, E, S => .ok (.nx, E) S
  | .brk, E, S => .ok (.brk, E) S
  | .cnt, E, S => .ok (.cnt, E) S
  | .ite t a b, E, S => (tst t E S (ev C t E S)).bindS E fun t S => match t with
    | true => exB C a E S
    | false => exB C b E S
  | .for tg it b, E, S => (evI C it E S).bindS E fun xs S => forL (fun x E S => match asgT tg x E with
    | none => .bad
    | some E1 => exB C b E1 S) xs E S
  | .whl t b, E, S => whlL (fun E S => tst t E S (ev C t E S)) (exB C b) WFU E S
  | .raise _, _, _ => .bad
def exB (C : Calls) : ISs → En → Sh → Res (Fl × En)
  | .nil, E, S => .ok (.nx, E) S
  | .cons s b, E, S => (exS C s E S).bind fun r S => match r with
    | (.nx, E1) => exB C b E1 S
    | r => .ok r S
  | .frz i b, E, S => (match E[i]? with
    | some (some (.ol xs)) => exB C b (E.set i (some (.v (.lst xs)))) S
    | some (some (.os xs)) => exB C b (E.set i (some (.v (.set xs)))) S
    | _ => exB C b E S)
end

/-! ### defs -/
structure Fn where
  ps : Nat
  n : Nat
  body : ISs
mutual
/-- no shared object from number n on stands in it -/
def D.low (n : Nat) : D → Bool
  | .tup xs => D.lows n xs
  | .lst xs => D.lows n xs
  | .ins _ fs => D.lowF n fs
  | .ref l => decide (l < n)
  | .non => true
  | .bl _ => true
  | .int _ => true
  | .str _ => true
  | .dic [] => true
  | .set _ => true
  | .ty _ => true
  | .glo _ => true
  | .scr _ => true
  | _ => false
def D.lows (n : Nat) : List D → Bool
  | [] => true
  | x :: xs => D.low n x && D.lows n xs
def D.lowF (n : Nat) : List (Nat × D) → Bool
  | [] => true
  | (_, x) :: xs => D.low n x && D.lowF n xs
end
def Ob.low (n : Nat) : Ob → Bool
  | .lst xs => D.lows n xs
  | .ins _ fs => D.lowF n fs
  | .dead => true
structure Pg where
  fns : List Fn
  /-- a class: its __init__ -/
  ini : Nat → Option Nat
  gl : Nat → Option D
def runF (C : Calls) (f : Fn) (ds : List D) (S : Sh) : Res D :=
  if ds.length = f.ps then (match exB C f.body (ds.map (fun d => some (.v d)) ++ List.replicate (f.n - f.ps) none) S with
    | .ok (.nx, _) S => .ok .non S
    | .ok (.ret d, _) S => .ok d S
    | .ok (.exc x, _) S => .ex x S
    | _ => .bad)
  else .bad
def mkK (c n : Nat) (r : D) (S1 : Sh) : Res D := match r, S1[n]? with
  | .non, some (.ins c' fs) => if c' = c ∧ S1.length = n + 1 ∧ D.lowF n fs = true ∧ (S1.take n).all (Ob.low n) = true then .ok (.ins c fs) (S1.take n) else .bad
  | _, _ => .bad
def mkI (fn : Nat → List D → Sh → Res D) (ini : Nat → Option Nat) (c : Nat) (ds : List D) (S : Sh) : Res D :=
  match ini c with
  | none => .bad
  | some f => (fn f (.ref S.length :: ds) (S ++ [.ins c []])).bind (mkK c S.length)
def callAt (P : Pg) : Nat → Nat → List D → Sh → Res D
  | 0, _, _, _ => .bad
  | k + 1, f, ds, S => match P.fns[f]? with
    | none => .bad
    | some fn => runF ⟨callAt P k, mkI (callAt P k) P.ini, P.gl⟩ fn ds S
def Pg.calls (P : Pg) (k : Nat) : Calls := ⟨callAt P k, mkI (callAt P k) P.ini, P.gl⟩
end Qv
set_option Elab.async false
set_option linter.all false
set_option maxRecDepth 100000
set_option maxHeartbeats 4000000
/-! What the evaluator says of the real machine: the frame, values, operators. -/
namespace Qv
open PySem PySem.Spec PyProof.Rows L2

theorem sl64 : sizeLine = 16777216 := sizeLine_eq
def XRep (T : Tb) (W : Wd) (x : D) (cls : Value) (d : Option Addr) : Prop := match x with
  | .exc c fs => cls = .ref (T.ad c) ∧ ((fs = [] ∧ d = none) ∨ ∃ dx fv, d = some dx ∧ W.G dx = some (.xd fv) ∧ RepF T W fs fv)
  | _ => False
abbrev WXh := Value → Option Addr → Hp → Prop
def Resp {α β : Type} (T : Tb) (R : Wd → Hp → α → β → Prop) (Wx : WXh) (W : Wd) (H : Hp) (Q : β → Hp → Prop) : Res α → Prop
  | .ok a S => ∀ W' H' b, Stp W H W' H' → SRel T W' S H' → R W' H' a b → Q b H'
  | .ex x S => ∀ W' H' c d, Stp W H W' H' → SRel T W' S H' → XRep T W' x c d → Wx c d H'
  | .bad => False
section
variable {α β γ δ : Type} {T : Tb} {R : Wd → Hp → α → β → Prop} {R2 : Wd → Hp → γ → δ → Prop} {Wx : WXh} {W W' : Wd} {H H' : Hp} {Q : δ → Hp → Prop} {S : Sh}
theorem Resp.shift {r : Res γ} (st : Stp W H W' H') (h : Resp T R2 Wx W H Q r) : Resp T R2 Wx W' H' Q r := by
  cases r with
  | ok a S => exact fun W2 H2 b s2 => h W2 H2 b (st.trans s2)
  | ex x S => exact fun W2 H2 c d s2 => h W2 H2 c d (st.trans s2)
  | bad => exact h
theorem Resp.seq {r : Res α} {k : α → Sh → Res γ} (h : Resp T R2 Wx W H Q (r.bind k)) :
    Resp T R Wx W H (fun b H1 => ∃ a S1 W1, r = .ok a S1 ∧ Stp W H W1 H1 ∧ SRel T W1 S1 H1 ∧ R W1 H1 a b ∧ Resp T R2 Wx W1 H1 Q (k a S1)) r := by
  cases r with
  | ok a S => exact fun W1 H1 b st sr rr => ⟨a, S, W1, rfl, st, sr, rr, Resp.shift st h⟩
  | ex x S => exact h
  | bad => exact h
theorem Resp.lift {α' : Type} {o : Option α'} {k : α' → Sh → Res γ} (h : Resp T R2 Wx W H Q ((lift o S).bind k)) : ∃ a, o = some a ∧ Resp T R2 Wx W H Q (k a S) := by
  cases o with
  | none => exact h.elim
  | some a => exact ⟨a, rfl, h⟩
theorem Resp.lift1 {o : Option γ} (h : Resp T R2 Wx W H Q (Qv.lift o S)) : ∃ a, o = some a ∧ Resp T R2 Wx W H Q (.ok a S) := by
  cases o with
  | none => exact h.elim
  | some a => exact ⟨a, rfl, h⟩
end
abbrev RD (T : Tb) : Wd → Hp → D → V → Prop := fun W _ d v => Rep T W d v
abbrev RDs (T : Tb) : Wd → Hp → List D → List V → Prop := fun W _ d v => Reps T W d v
/-- a list (a set) as it stands -/
def View (T : Tb) (W : Wd) (H : Hp) : D → V → Prop
  | .lst xs, v => ∃ a vs, v = .ref a ∧ H a = some (.lst vs) ∧ Reps T W xs vs
  | .set xs, v => ∃ a S, v = .ref a ∧ H a = some (SetO T.w a S xs.length) ∧ (∀ i, S i = decide (i ∈ xs)) ∧ xs.Nodup
  | d, v => Rep T W d v
/-- an argument that is only looked at -/
def RA (T : Tb) : Wd → Hp → D → V → Prop := fun W H d v => Rep T W d v ∨ (View T W H d v ∧ ∃ a, v = .ref a ∧ a ∉ W.m)
def RAs (T : Tb) (W : Wd) (H : Hp) : List D → List V → Prop := Paired (RA T W H)
/-- a new list of one's own; Hs: the heap ahead -/
def RL (T : Tb) (Hs : Hp) : Wd → Hp → List D → V → Prop := fun W H xs v => ∃ a vs, v = .ref a ∧ H a = some (.lst vs) ∧ Reps T W xs vs ∧ W.G a = none ∧ a ∉ W.m ∧ Hs a = none

theorem Rep.view {T : Tb} {W : Wd} {S : Sh} {H : Hp} {d : D} {v : V} (sr : SRel T W S H) (h : Rep T W d v) : View T W H (drf S d) v := by
  cases h with
  | non => exact .non
  | bl b => exact .bl b
  | int i => exact .int i
  | str x => exact .str x
  | tup e r => exact .tup e r
  | lst e r => exact ⟨_, _, rfl, sr.sub _ _ e, r⟩
  | dic0 e => exact .dic0 e
  | set e a b => exact ⟨_, _, rfl, sr.sub _ _ e, a, b⟩
  | ins c e e2 r => exact .ins c e e2 r
  | @ref l a e =>
    have hl : l < S.length := by rw [← sr.len]; exact (List.getElem?_eq_some_iff.mp e).1
    have o := sr.obs l a _ e (List.getElem?_eq_getElem hl)
    show View T W H (match S[l]? with
      | some (.lst xs) => .lst xs
      | _ => .ref l) _
    rw [List.getElem?_eq_getElem hl]
    cases q : S[l] with
    | lst xs => rw [q] at o; obtain ⟨vs, e1, r⟩ := o; exact ⟨a, vs, rfl, e1, r⟩
    | ins c fs => exact Rep.ref e
    | dead => exact Rep.ref e
  | ty n => exact .ty n
  | glo g => exact .glo g
  | scr e => exact .scr e
theorem drf_view {S : Sh} {T : Tb} {W : Wd} {H : Hp} {d : D} {v : V} (sr : SRel T W S H) (h : View T W H d v) : View T W H (drf S d) v := by
  cases d with
  | ref l =>
    have h' : Rep T W (.ref l) v := h
    exact h'.view sr
  | _ => exact h
theorem RA.view {T : Tb} {W : Wd} {S : Sh} {H : Hp} {d : D} {v : V} (sr : SRel T W S H) (h : RA T W H d v) : View T W H (drf S d) v := by
  rcases h with h | ⟨h, _⟩
  · exact h.view sr
  · exact drf_view sr h
theorem View.stp {T : Tb} {W W' : Wd} {H H' : Hp} {d : D} {a : Addr} (st : Stp W H W' H') (h : View T W H d (.ref a)) (nm : a ∉ W.m) : View T W' H' d (.ref a) := by
  cases d with
  | lst xs =>
    obtain ⟨b, vs, e, q, r⟩ := h
    cases e
    exact ⟨a, vs, rfl, st.keep _ _ q nm, r.mono st.le⟩
  | set xs =>
    obtain ⟨b, S, e, q, r1, r2⟩ := h
    cases e
    exact ⟨a, S, rfl, st.keep _ _ q nm, r1, r2⟩
  | _ => exact Rep.mono st.le (show Rep T W _ _ from h)
theorem View.there {T : Tb} {W : Wd} {S : Sh} {H : Hp} {d : D} {a : Addr} (sr : SRel T W S H) (h : View T W H d (.ref a)) (nm : a ∉ W.m) : H a ≠ none ∨ (∃ g, d = .glo g) ∨ ∃ ns, d = .scr ns := by
  cases d with
  | lst xs => obtain ⟨b, vs, e, q, r⟩ := h; cases e; exact .inl (by rw [q]; simp)
  | set xs => obtain ⟨b, vs, e, q, r⟩ := h; cases e; exact .inl (by rw [q]; simp)
  | glo g => exact .inr (.inl ⟨g, rfl⟩)
  | scr ns => exact .inr (.inr ⟨ns, rfl⟩)
  | tup xs => cases (show Rep T W _ _ from h) with | tup e r => exact .inl (by rw [sr.sub _ _ e]; simp)
  | dic kvs => cases (show Rep T W _ _ from h) with | dic0 e => exact .inl (by rw [sr.sub _ _ e]; simp)
  | ins c fs => cases (show Rep T W _ _ from h) with | ins _ e _ r => exact .inl (by rw [sr.sub _ _ e]; simp)
  | ref l => cases (show Rep T W _ _ from h) with | ref e => exact absurd (List.mem_of_getElem? e) nm
  | _ => cases (show Rep T W _ _ from h)
theorem RA.stp {T : Tb} {W W' : Wd} {S : Sh} {H H' : Hp} {d : D} {v : V} (sr : SRel T W S H) (st : Stp W H W' H') (h : RA T W H d v) : RA T W' H' d v := by
  rcases h with h | ⟨h, a, rfl, nm⟩
  · exact .inl (h.mono st.le)
  · rcases h.there sr nm with q | ⟨g, rfl⟩ | ⟨g, rfl⟩
    · refine .inr ⟨h.stp st nm, a, rfl, fun z => ?_⟩
      rcases st.newM a z with c | c
      · exact nm c
      · exact q c
    · exact .inl (Rep.mono st.le (show Rep T W _ _ from h))
    · exact .inl (Rep.mono st.le (show Rep T W _ _ from h))
theorem RAs.stp {T : Tb} {W W' : Wd} {S : Sh} {H H' : Hp} (sr : SRel T W S H) (st : Stp W H W' H') : ∀ {ds : List D} {vs : List V}, RAs T W H ds vs → RAs T W' H' ds vs
  | _, _, .nil => .nil
  | _, _, .cons a b => .cons (RA.stp sr st a) (RAs.stp sr st b)
theorem RAs.views {T : Tb} {W : Wd} {S : Sh} {H : Hp} (sr : SRel T W S H) : ∀ {ds : List D} {vs : List V}, RAs T W H ds vs → Paired (View T W H) (ds.map (drf S)) vs
  | _, _, .nil => .nil
  | _, _, .cons a b => .cons (RA.view sr a) (RAs.views sr b)

/-! ### sequences -/
theorem View.seq {T : Tb} {W : Wd} {S : Sh} {H : Hp} {K : PySem.W.Frag} {d : D} {v : V} {xs : List D} (sr : SRel T W S H) (h : View T W H d v) (e : seqD d = some xs) :
    ∃ a vs, v = .ref a ∧ Reps T W xs vs ∧ (SqL K H a vs ∨ SqT K H a vs) := by
  cases d with
  | tup ys => cases e; cases (show Rep T W _ _ from h) with | tup e r => exact ⟨_, _, rfl, r, .inr (SqT.of (sr.sub _ _ e))⟩
  | lst ys => cases e; obtain ⟨a, vs, e, q, r⟩ := h; exact ⟨a, vs, e, r, .inl (SqL.of q)⟩
  | _ => cases e
theorem intsOf_reps {T : Tb} {W : Wd} : ∀ {ds : List D} {vs : List V} {ns : List Int}, Reps T W ds vs → intsOf ds = some ns → vs = ns.map V.int ∧ ds = ns.map D.int
  | _, _, ns, .nil, e => by cases e; exact ⟨rfl, rfl⟩
  | .int i :: r, _, ns, .cons a b, e => by
    cases a
    simp only [intsOf, Option.map_eq_some_iff] at e
    obtain ⟨m, e1, rfl⟩ := e
    obtain ⟨h1, h2⟩ := intsOf_reps b e1
    exact ⟨by rw [h1]; rfl, by rw [h2]; rfl⟩
  | .non :: _, _, _, _, e => nomatch e
  | .bl _ :: _, _, _, _, e => nomatch e
  | .str _ :: _, _, _, _, e => nomatch e
  | .tup _ :: _, _, _, _, e => nomatch e
  | .lst _ :: _, _, _, _, e => nomatch e
  | .dic _ :: _, _, _, _, e => nomatch e
  | .set _ :: _, _, _, _, e => nomatch e
  | .ins _ _ :: _, _, _, _, e => nomatch e
  | .exc _ _ :: _, _, _, _, e => nomatch e
  | .ref _ :: _, _, _, _, e => nomatch e
  | .ty _ :: _, _, _, _, e => nomatch e
  | .glo _ :: _, _, _, _, e => nomatch e
  | .clo _ _ :: _, _, _, _, e => nomatch e
  | .scr _ :: _, _, _, _, e => nomatch e
theorem blsOf_reps {T : Tb} {W : Wd} : ∀ {ds : List D} {vs : List V} {ns : List Bool}, Reps T W ds vs → blsOf ds = some ns → vs = ns.map V.bl
  | _, _, ns, .nil, e => by cases e; rfl
  | .bl i :: r, _, ns, .cons a b, e => by
    cases a
    simp only [blsOf, Option.map_eq_some_iff] at e
    obtain ⟨m, e1, rfl⟩ := e
    rw [blsOf_reps b e1]; rfl
  | .non :: _, _, _, _, e => nomatch e
  | .int _ :: _, _, _, _, e => nomatch e
  | .str _ :: _, _, _, _, e => nomatch e
  | .tup _ :: _, _, _, _, e => nomatch e
  | .lst _ :: _, _, _, _, e => nomatch e
  | .dic _ :: _, _, _, _, e => nomatch e
  | .set _ :: _, _, _, _, e => nomatch e
  | .ins _ _ :: _, _, _, _, e => nomatch e
  | .exc _ _ :: _, _, _, _, e => nomatch e
  | .ref _ :: _, _, _, _, e => nomatch e
  | .ty _ :: _, _, _, _, e => nomatch e
  | .glo _ :: _, _, _, _, e => nomatch e
  | .clo _ _ :: _, _, _, _, e => nomatch e
  | .scr _ :: _, _, _, _, e => nomatch e
theorem reps_ints {T : Tb} {W : Wd} : ∀ ns : List Int, Reps T W (ns.map D.int) (ns.map V.int)
  | [] => .nil
  | n :: r => .cons (.int n) (reps_ints r)

/-! ### data of any depth, for == -/
mutual
def toPy : D → PyData
  | .non => .none
  | .bl b => .bool b
  | .int i => .int i
  | .str x => .str x
  | .lst xs => .list (toPys xs)
  | .tup xs => .tuple (toPys xs)
  | _ => .none
def toPys : List D → List PyData
  | [] => []
  | x :: xs => toPy x :: toPys xs
end
mutual
theorem toPy_lay : ∀ d : D, d.okq = true → (toPy d).canLay0 = true
  | .lst xs, h => by simp only [toPy, PyData.canLay0]; exact toPys_lay xs h
  | .tup xs, h => by simp only [toPy, PyData.canLay0]; exact toPys_lay xs h
  | .non, _ => rfl
  | .bl _, _ => rfl
  | .int _, _ => rfl
  | .str _, h => h
theorem toPys_lay : ∀ d : List D, D.okqs d = true → PyData.canLayAll0 (toPys d) = true
  | [], _ => rfl
  | x :: xs, h => by
    simp only [D.okqs, Bool.and_eq_true] at h
    simp only [toPys, PyData.canLayAll0, toPy_lay x h.1, toPys_lay xs h.2]; rfl
end
mutual
theorem toPy_dep : ∀ d : D, (toPy d).depth = d.dep
  | .lst xs => by simp only [toPy, PyData.depth, D.dep, toPys_dep xs]
  | .tup xs => by simp only [toPy, PyData.depth, D.dep, toPys_dep xs]
  | .non => rfl
  | .bl _ => rfl
  | .int _ => rfl
  | .str _ => rfl
  | .dic _ => rfl
  | .set _ => rfl
  | .ins _ _ => rfl
  | .exc _ _ => rfl
  | .ref _ => rfl
  | .ty _ => rfl
  | .glo _ => rfl
  | .clo _ _ => rfl
  | .scr _ => rfl
theorem toPys_dep : ∀ d : List D, PyData.depthAll (toPys d) = D.deps d
  | [] => rfl
  | x :: xs => by simp only [toPys, PyData.depthAll, D.deps, toPy_dep x, toPys_dep xs]
end
theorem toPy_shaped {d : D} (h : d.dep ≤ 64) (ok : d.okq = true) : SeqAt.shaped (toPy d) = true := by
  unfold SeqAt.shaped
  rw [toPy_lay d ok, toPy_dep]
  simp [h]
mutual
theorem toPy_eqv : ∀ x y : D, x.okq = true → y.okq = true → PyData.eqv (toPy x) (toPy y) = D.beq x y
  | .non, y, _, h => by cases y <;> first | rfl | cases h
  | .bl a, y, _, h => by cases y <;> first | rfl | cases h
  | .int i, y, _, h => by cases y <;> first | rfl | cases h
  | .str i, y, _, h => by cases y <;> first | rfl | cases h
  | .lst xs, .lst ys, a, b => by simp only [toPy, PyData.eqv, D.beq]; exact toPys_eqv xs ys a b
  | .tup xs, .tup ys, a, b => by simp only [toPy, PyData.eqv, D.beq]; exact toPys_eqv xs ys a b
  | .lst xs, .non, _, _ => rfl
  | .lst xs, .bl _, _, _ => rfl
  | .lst xs, .int _, _, _ => rfl
  | .lst xs, .str _, _, _ => rfl
  | .lst xs, .tup _, _, _ => rfl
  | .tup xs, .non, _, _ => rfl
  | .tup xs, .bl _, _, _ => rfl
  | .tup xs, .int _, _, _ => rfl
  | .tup xs, .str _, _, _ => rfl
  | .tup xs, .lst _, _, _ => rfl
theorem toPys_eqv : ∀ x y : List D, D.okqs x = true → D.okqs y = true → PyData.eqvAll (toPys x) (toPys y) = D.beqs x y
  | [], [], _, _ => rfl
  | [], _ :: _, _, _ => rfl
  | _ :: _, [], _, _ => rfl
  | x :: xs, y :: ys, a, b => by
    simp only [D.okqs, Bool.and_eq_true] at a b
    simp only [toPys, PyData.eqvAll, D.beqs, toPy_eqv x y a.1 b.1, toPys_eqv xs ys a.2 b.2]
end
mutual
theorem Rep.dp {T : Tb} {W : Wd} {S : Sh} {H : Hp} {K : PySem.W.Frag} (sr : SRel T W S H) : ∀ (d : D) {v : V}, d.okq = true → Rep T W d v → Dp K H v (toPy d)
  | .non, _, _, h => by cases h; exact .non
  | .bl b, _, _, h => by cases h; exact .bl b
  | .int i, _, _, h => by cases h; exact .int i
  | .str x, _, _, h => by cases h; exact .str x
  | .lst xs, _, a, h => by cases h with | lst e r => exact .lst (SqL.of (sr.sub _ _ e)) (Reps.dp sr xs a r)
  | .tup xs, _, a, h => by cases h with | tup e r => exact .tup (SqT.of (sr.sub _ _ e)) (Reps.dp sr xs a r)
theorem Reps.dp {T : Tb} {W : Wd} {S : Sh} {H : Hp} {K : PySem.W.Frag} (sr : SRel T W S H) : ∀ (d : List D) {v : List V}, D.okqs d = true → Reps T W d v → DpAll K H v (toPys d)
  | [], _, _, h => by cases h; exact .nil
  | x :: xs, _, a, h => by
    simp only [D.okqs, Bool.and_eq_true] at a
    cases h with | cons r1 r2 => exact .cons (Rep.dp sr x a.1 r1) (Reps.dp sr xs a.2 r2)
end
theorem View.dp {T : Tb} {W : Wd} {S : Sh} {H : Hp} {K : PySem.W.Frag} (sr : SRel T W S H) {d : D} {v : V} (a : d.okq = true) (h : View T W H d v) : Dp K H v (toPy d) := by
  cases d with
  | lst xs => obtain ⟨b, vs, rfl, e, r⟩ := h; exact .lst (SqL.of e) (Reps.dp sr xs a r)
  | set xs => cases a
  | _ => exact Rep.dp sr _ a (show Rep T W _ _ from h)
/-- flat things -/
theorem Rep.flatV {T : Tb} {W : Wd} {d : D} {v : V} (h : d.flat = true) (r : Rep T W d v) : flatV v = true := by
  cases r <;> first | rfl | cases h
theorem View.rep {T : Tb} {W : Wd} {H : Hp} {d : D} {v : V} (h : d.flat = true) (r : View T W H d v) : Rep T W d v := by
  cases d <;> first | exact r | cases h
theorem flats {T : Tb} {W : Wd} : ∀ {ds : List D} {vs : List V}, Reps T W ds vs → ds.all D.flat = true → vs.all flatV = true
  | _, _, .nil, _ => rfl
  | d :: ds, v :: vs, .cons a b, h => by
    simp only [List.all_cons, Bool.and_eq_true] at h ⊢
    exact ⟨Rep.flatV h.1 a, flats b h.2⟩
theorem beq_eqV {T : Tb} {W : Wd} {x y : D} {v u : V} (hx : x.flat = true) (hy : y.flat = true) (rx : Rep T W x v) (ry : Rep T W y u) : eqV v u = D.beq x y := by
  cases rx <;> first | cases hx | skip
  all_goals (cases ry <;> first | cases hy | skip)
  all_goals first | rfl | simp [eqV, D.beq]
theorem inV_any {T : Tb} {W : Wd} {x : D} {v : V} (hx : x.flat = true) (rx : Rep T W x v) : ∀ {ds : List D} {vs : List V}, Reps T W ds vs → ds.all D.flat = true → inV v vs = ds.any fun z => D.beq z x
  | _, _, .nil, _ => rfl
  | d :: ds, u :: vs, .cons a b, h => by
    simp only [List.all_cons, Bool.and_eq_true] at h
    have ih := inV_any hx rx b h.2
    unfold inV at ih ⊢
    simp only [List.any_cons, ih, beq_eqV h.1 hx a rx]
end Qv
set_option Elab.async false
set_option linter.all false
set_option maxRecDepth 100000
set_option maxHeartbeats 4000000
/-! Operators. -/
namespace Qv
open PySem PySem.Spec PyProof.Rows L2

def opOf : BinO → Operator
  | .add => .Add | .sub => .Sub | .mul => .Mult | .fdiv => .FloorDiv | .mod => .Mod | .pow => .Pow
def cmOf : CmpO → CmpOp
  | .eq => .Eq | .ne => .NotEq | .lt => .Lt | .le => .LtE | .gt => .Gt | .ge => .GtE | .inn => .In | .nin => .NotIn
theorem tuple_mul1 (l : Addr) (items : Array Value) (n : Nat) (dd : Option Addr) (sl : Array (Option Value)) (u : Tok) :
    Meets (Builtin.«tuple.__mul__» ⟨[.ref l, .int 1 u], []⟩) (fun _ R s => s.heap.get? l = some { cls := .type "tuple", dict := dd, data := .seq items n, slots := sl } ∧
      R (.ok (.ret (Value.ref l))) s) :=
  .of_wp fun prog w A R s h => by
    obtain ⟨hp, g, d, tk, os⟩ := s
    obtain ⟨hl, h⟩ := h
    have f1 := AutoSeq1.idx_int
    wp_walk using wpAny_loadPart' hl
    exact ⟨_, rfl, h⟩
theorem op_one {X : Cx} : OpR X (binaryOp .Mult) (fun x y H Q => ∃ l xs, x = .ref l ∧ y = .int 1 ∧ SqT X.K H l xs ∧ Q (.ref l) H) := by
  intro pins s σ H x y v u Q I rx ry h
  obtain ⟨l, xs, rfl, rfl, hT, q⟩ := h
  cases rx
  obtain ⟨t, rfl⟩ := ry
  obtain ⟨its, r, ⟨⟨cls, dd, data, sl⟩, ho, hc, n, hd⟩, hs⟩ := I.tuple hT
  simp only at hc hd
  subst hc hd
  refine wpAny_binaryOp_repeat_ref (T := "tuple") (U := "int") (by decide) ⟨_, ho, rfl⟩ (fun s' => typeIs_int s' 1 t) noFill_tuple_mul F.fills_int_mul F.slot_int_rmul repeat_tuple F.slot_int_index.lookup
    (call_meets F.slot_int_rmul (typeIs_int s 1 t) F.entry_int_rmul (F.args_int_rmul_2 _ _) (int_rmul_tuple 1 t l its.toArray n dd sl)
      ⟨ho, rfl, ⟨_, ho, rfl⟩, call_meets F.slot_tuple_mul ⟨_, ho, rfl⟩ F.entry_tuple_mul (F.args_tuple_mul_2 _ _) (tuple_mul1 l its.toArray n dd sl t) ⟨ho, ?_⟩⟩)
  exact ⟨.ref l, H, I, rfl, q⟩
section
variable {X : Cx} {T : Tb} {W : Wd} {S : Sh} {H : Hp} {pins : List (Addr × Obj)} {σ : L2.St} {s : Shared}
theorem newTup (sr : SRel T W S H) {xs : List D} {vs : List V} (r : Reps T W xs vs) {p : Addr} (hp : H p = none) :
    Stp W H (W.add p (.tup vs)) (upd H p (.tup vs)) ∧ SRel T (W.add p (.tup vs)) S (upd H p (.tup vs)) ∧ Rep T (W.add p (.tup vs)) (.tup xs) (.ref p) := by
  obtain ⟨h1, h2⟩ := sr.laid (o := .tup vs) hp
  exact ⟨h2, h1, .tup (show upd W.G p _ p = _ from upd_same) (r.mono h2.le)⟩
theorem newLst (sr : SRel T W S H) {xs : List D} {vs : List V} (r : Reps T W xs vs) {p : Addr} (hp : H p = none) :
    Stp W H (W.add p (.lst vs)) (upd H p (.lst vs)) ∧ SRel T (W.add p (.lst vs)) S (upd H p (.lst vs)) ∧ Rep T (W.add p (.lst vs)) (.lst xs) (.ref p) := by
  obtain ⟨h1, h2⟩ := sr.laid (o := .lst vs) hp
  exact ⟨h2, h1, .lst (show upd W.G p _ p = _ from upd_same) (r.mono h2.le)⟩
theorem View.int {i : Int} {v : V} (h : View T W H (.int i) v) : v = .int i := by cases (show Rep T W _ _ from h); rfl
theorem View.tup {xs : List D} {v : V} (h : View T W H (.tup xs) v) : ∃ a vs, v = .ref a ∧ W.G a = some (.tup vs) ∧ Reps T W xs vs := by
  cases (show Rep T W _ _ from h) with | tup e r => exact ⟨_, _, rfl, e, r⟩
theorem Reps.nil_iff {xs : List D} {vs : List V} (r : Reps T W xs vs) : vs = [] ↔ xs = [] := by cases r <;> simp
theorem flat_len {α : Type} (k : Nat) (xs : List α) : (List.replicate k xs).flatten.length = k * xs.length := by simp
theorem flat_one {α : Type} (xs : List α) : (List.replicate 1 xs).flatten = xs := by simp

theorem bin_ok (I : Inv X pins σ H s) (sr : SRel T W S H) {o : BinO} {x y z : D} (e : binD o x y = some z) {vx vy : V} {ux uy : Value} (rx : View T W H x vx) (ry : View T W H y vy) (hx : RelV vx ux) (hy : RelV vy uy) {Q : VK}
    (hq : ∀ W' H' v, Stp W H W' H' → SRel T W' S H' → Rep T W' z v → Q v H') : wpAny (model X.prog X.w) X.A (binaryOp (opOf o) ux uy) (EP X pins σ Q) X.xe s := by
  have hL := sl64
  have hint : ∀ j : Int, z = .int j → Q (.int j) H := fun j q => hq W H _ sr.stp sr (q ▸ .int j)
  unfold binD at e
  split at e
  · obtain rfl := rx.int; obtain rfl := ry.int; cases e
    exact op_add pins s σ H _ _ _ _ Q I hx hy ⟨_, _, rfl, rfl, hint _ rfl⟩
  · obtain rfl := rx.int; obtain rfl := ry.int; cases e
    exact op_sub pins s σ H _ _ _ _ Q I hx hy ⟨_, _, rfl, rfl, hint _ rfl⟩
  · split at e <;> cases e
    rename_i c
    obtain rfl := rx.int; obtain rfl := ry.int
    exact op_mul pins s σ H _ _ _ _ Q I hx hy ⟨_, _, rfl, rfl, c, hint _ rfl⟩
  · split at e <;> cases e
    rename_i c
    obtain rfl := rx.int; obtain rfl := ry.int
    exact op_fdiv pins s σ H _ _ _ _ Q I hx hy ⟨_, _, rfl, rfl, c, hint _ rfl⟩
  · split at e <;> cases e
    rename_i c
    obtain rfl := rx.int; obtain rfl := ry.int
    exact op_mod pins s σ H _ _ _ _ Q I hx hy ⟨_, _, rfl, rfl, c, hint _ rfl⟩
  · split at e <;> cases e
    rename_i c
    obtain rfl := rx.int; obtain rfl := ry.int
    exact op_pow pins s σ H _ _ _ _ Q I hx hy ⟨_, _, rfl, rfl, c, hint _ rfl⟩
  · split at e <;> cases e
    rename_i c
    obtain ⟨a, vs, rfl, ga, ra⟩ := rx.tup
    obtain ⟨b, us, rfl, gb, rb⟩ := ry.tup
    unfold LIM at c
    refine op_catA pins s σ H _ _ _ _ Q I hx hy ⟨a, b, vs, us, rfl, rfl, SqT.of (sr.sub _ _ ga), SqT.of (sr.sub _ _ gb), by rw [← ra.length, ← rb.length]; omega, fun h => ?_, fun h1 h2 => ?_, fun _ _ p hp => ?_⟩
    · have := ra.nil_iff.mp h
      subst this
      exact hq W H _ sr.stp sr (.tup gb rb)
    · have := rb.nil_iff.mp h2
      subst this
      rw [List.append_nil] at hq
      exact hq W H _ sr.stp sr (.tup ga ra)
    · obtain ⟨h1, h2, h3⟩ := newTup sr (ra.append rb) hp
      exact hq _ _ _ h1 h2 h3
  · split at e <;> cases e
    rename_i c
    obtain ⟨a, vs, rfl, ga, ra⟩ := rx
    obtain ⟨b, us, rfl, gb, rb⟩ := ry
    unfold LIM at c
    refine op_cat pins s σ H _ _ _ _ Q I hx hy ⟨a, b, vs, us, rfl, rfl, ga, gb, by rw [← ra.length, ← rb.length]; omega, fun p hp => ?_⟩
    obtain ⟨h1, h2, h3⟩ := newLst sr (ra.append rb) hp
    exact hq _ _ _ h1 h2 h3
  · split at e <;> cases e
    rename_i k c
    obtain ⟨c1, c2, c3, c4⟩ := c
    obtain ⟨a, vs, rfl, ga, ra⟩ := rx.tup
    obtain rfl := ry.int
    have hne : vs ≠ [] := fun q => c3 (ra.nil_iff.mp q)
    by_cases h1 : k = 1
    · subst h1
      refine op_one pins s σ H _ _ _ _ Q I hx hy ⟨a, vs, rfl, rfl, SqT.of (sr.sub _ _ ga), hq W H _ sr.stp sr ?_⟩
      rw [show (1 : Int).toNat = 1 from rfl, flat_one]
      exact .tup ga ra
    · refine op_repT pins s σ H _ _ _ _ Q I hx hy ⟨a, k, vs, rfl, rfl, SqT.of (sr.sub _ _ ga), hne, by omega, c2, by rw [← ra.length]; exact c4, fun p hp => ?_⟩
      obtain ⟨h1, h2, h3⟩ := newTup sr (ra.rep k.toNat) hp
      exact hq _ _ _ h1 h2 h3
  · split at e <;> cases e
    rename_i k c
    obtain ⟨c1, c2, c3⟩ := c
    obtain ⟨a, vs, rfl, ga, ra⟩ := rx
    obtain rfl := ry.int
    have hl := ra.length
    refine op_rep pins s σ H _ _ _ _ Q I hx hy ⟨a, k, vs, rfl, rfl, ga, by omega, by omega, ?_, fun p hp => ?_⟩
    · have a1 : vs.length * k.toNat ≤ 1000 * 1000 := Nat.mul_le_mul (by omega) (by omega)
      omega
    · obtain ⟨h1, h2, h3⟩ := newLst sr (ra.rep k.toNat) hp
      exact hq _ _ _ h1 h2 h3
  · cases e

theorem lexAt_shift (e r : Nat → Bool) (z : Bool) : ∀ (k i : Nat), Ob.lexAt e r z (i + 1) k = Ob.lexAt (fun j => e (j + 1)) (fun j => r (j + 1)) z i k
  | 0, _ => rfl
  | k + 1, i => by
    rw [Ob.lexAt_succ, Ob.lexAt_succ, lexAt_shift e r z k (i + 1)]
theorem lexI_at : ∀ (ns ms : List Int), Ob.lexAt (fun j => decide (ns.getD j 0 = ms.getD j 0)) (fun j => decide (ns.getD j 0 ≤ ms.getD j 0)) (decide (ns.length ≤ ms.length)) 0 (min ns.length ms.length) = lexI ns ms
  | [], ms => by simp [Ob.lexAt_zero, lexI]
  | x :: xs, [] => by simp [Ob.lexAt_zero, lexI]
  | x :: xs, y :: ys => by
    have ih := lexI_at xs ys
    have hm : min (x :: xs).length (y :: ys).length = min xs.length ys.length + 1 := by simp only [List.length_cons]; omega
    rw [hm, Ob.lexAt_succ, lexAt_shift]
    have hz : decide ((x :: xs).length ≤ (y :: ys).length) = decide (xs.length ≤ ys.length) := by simp
    rw [hz]
    simp only [List.getD_cons_succ, List.getD_cons_zero]
    rw [ih]
    simp only [lexI, decide_eq_true_eq]
    by_cases h : x = y
    · rw [if_pos h, if_pos h]
    · rw [if_neg h, if_neg h]
      rw [decide_eq_decide]
      omega
theorem cmp_ok (I : Inv X pins σ H s) (hw : T.w = X.w) (hc : X.A.units + 64 < cLine) (sr : SRel T W S H) {o : CmpO} {x y : D} {b : Bool} (e : cmpD o x y = some b) {vx vy : V} {ux uy : Value} (rx : View T W H x vx) (ry : View T W H y vy) (hx : RelV vx ux) (hy : RelV vy uy) {Q : VK}
    (hq : Q (.bl b) H) : wpAny (model X.prog X.w) X.A (compareOp (cmOf o) ux uy) (EP X pins σ Q) X.xe s := by
  unfold cmpD at e
  split at e
  · split at e <;> cases e
    rename_i c
    simp only [Bool.and_eq_true, decide_eq_true_eq] at c
    obtain ⟨⟨⟨c1, c2⟩, c3⟩, c4⟩ := c
    refine op_eqD hc pins s σ H _ _ _ _ Q I hx hy ⟨_, _, View.dp sr c1 rx, View.dp sr c2 ry, toPy_shaped c3 c1, toPy_shaped c4 c2, ?_⟩
    rw [toPy_eqv _ _ c1 c2]; exact hq
  · split at e <;> cases e
    rename_i c
    simp only [Bool.and_eq_true, decide_eq_true_eq] at c
    obtain ⟨⟨⟨c1, c2⟩, c3⟩, c4⟩ := c
    refine op_neD hc pins s σ H _ _ _ _ Q I hx hy ⟨_, _, View.dp sr c1 rx, View.dp sr c2 ry, toPy_shaped c3 c1, toPy_shaped c4 c2, ?_⟩
    rw [toPy_eqv _ _ c1 c2]; exact hq
  · obtain rfl := rx.int; obtain rfl := ry.int; cases e
    exact op_lt pins s σ H _ _ _ _ Q I hx hy ⟨_, _, rfl, rfl, hq⟩
  · obtain rfl := rx.int; obtain rfl := ry.int; cases e
    exact op_le pins s σ H _ _ _ _ Q I hx hy ⟨_, _, rfl, rfl, hq⟩
  · obtain rfl := rx.int; obtain rfl := ry.int; cases e
    exact op_gt pins s σ H _ _ _ _ Q I hx hy ⟨_, _, rfl, rfl, hq⟩
  · obtain rfl := rx.int; obtain rfl := ry.int; cases e
    exact op_ge pins s σ H _ _ _ _ Q I hx hy ⟨_, _, rfl, rfl, hq⟩
  · split at e
    · rename_i a1 a2 e1 e2
      cases e
      obtain ⟨a, vs, rfl, ga, ra⟩ := rx.tup
      obtain ⟨b, us, rfl, gb, rb⟩ := ry.tup
      obtain ⟨rfl, _⟩ := intsOf_reps ra e1
      obtain ⟨rfl, _⟩ := intsOf_reps rb e2
      refine op_leT (by omega) pins s σ H _ _ _ _ Q I hx hy ⟨a, b, a1, a2, rfl, rfl, SqT.of (sr.sub _ _ ga), SqT.of (sr.sub _ _ gb), ?_⟩
      rw [lexI_at]; exact hq
    · cases e
  · obtain rfl := rx.int
    obtain ⟨a, SS, rfl, ha, hS, _⟩ := ry
    rw [hw] at ha
    rw [← hS] at e
    cases e
    exact or_sin pins s σ H _ _ _ _ Q I hx hy ⟨_, a, SS, _, rfl, rfl, ha, hq⟩
  · obtain rfl := rx.int
    obtain ⟨a, SS, rfl, ha, hS, _⟩ := ry
    rw [hw] at ha
    rw [← hS] at e
    cases e
    exact or_snotin pins s σ H _ _ _ _ Q I hx hy ⟨_, a, SS, _, rfl, rfl, ha, hq⟩
  · split at e
    · rename_i ys ey
      split at e <;> cases e
      rename_i c
      simp only [Bool.and_eq_true] at c
      have rx' := rx.rep c.1
      obtain ⟨a, vs, rfl, rs, sq⟩ := ry.seq (K := X.K) sr ey
      refine op_in_seq pins s σ H _ _ _ _ Q I hx hy ⟨a, vs, rfl, sq, rx'.flatV c.1, flats rs c.2, ?_⟩
      rw [inV_any c.1 rx' rs c.2]; exact hq
    · cases e
  · split at e
    · rename_i ys ey
      split at e <;> cases e
      rename_i c
      simp only [Bool.and_eq_true] at c
      have rx' := rx.rep c.1
      obtain ⟨a, vs, rfl, rs, sq⟩ := ry.seq (K := X.K) sr ey
      refine op_notIn_seq pins s σ H _ _ _ _ Q I hx hy ⟨a, vs, rfl, sq, rx'.flatV c.1, flats rs c.2, ?_⟩
      rw [inV_any c.1 rx' rs c.2]; exact hq
    · cases e
  · cases e
theorem ixAt_ixN (n : Nat) (i : Int) : ixAt n i = ixN n i := rfl
theorem ix_ok (I : Inv X pins σ H s) (sr : SRel T W S H) {x y z : D} (e : ixD x y = some z) {vx vy : V} {ux uy : Value} (rx : View T W H x vx) (ry : Rep T W y vy) (hx : RelV vx ux) (hy : RelV vy uy) {value slice : Expr} {Q : VK}
    (hs : subscripted slice false ux uy = operate [ux, uy] (getItem ux uy)) (hq : ∀ v, Rep T W z v → Q v H) : wpAny (model X.prog X.w) X.A (subscriptTail value slice ux uy) (EP X pins σ Q) X.xe s := by
  have atok : ∀ {xs : List D} {vs : List V} {i : Int}, Reps T W xs vs → ((ixAt xs.length i).bind fun j => xs[j]?) = some z → ∃ v, atI vs i = some v ∧ Rep T W z v := fun {xs vs i} r q => by
    rw [Option.bind_eq_some_iff] at q
    obtain ⟨j, q1, q2⟩ := q
    obtain ⟨v, e1, e2⟩ := r.get q2
    refine ⟨v, ?_, e2⟩
    unfold atI
    rw [← r.length, ← ixAt_ixN, q1]; exact e1
  unfold ixD at e
  split at e
  · obtain ⟨a, vs, rfl, ga, ra⟩ := rx.tup
    cases ry
    obtain ⟨v, h1, h2⟩ := atok ra e
    exact ix_tup value slice pins s σ H _ _ _ _ Q I hx hy ⟨a, vs, _, v, rfl, rfl, SqT.of (sr.sub _ _ ga), h1, hq v h2⟩ hs
  · obtain ⟨a, vs, rfl, ga, ra⟩ := rx
    cases ry
    obtain ⟨v, h1, h2⟩ := atok ra e
    exact ix_list value slice pins s σ H _ _ _ _ Q I hx hy ⟨a, vs, _, v, rfl, rfl, SqL.of ga, h1, hq v h2⟩ hs
  · cases e
theorem sIxO_eq (n d : Nat) (o : Option Int) : sIxO n d o = HT.sIx n d o := by
  cases o <;> rfl
theorem cut_eq {xs : List D} {vs : List V} {lo hi : Option Int} (r : Reps T W xs vs) : Reps T W (cutD xs lo hi) (cutV vs lo hi) := by
  unfold cutD cutV
  rw [sIxO_eq, sIxO_eq, r.length]
  exact (r.drop _).take _
/-- the script, as the kit's rules have it -/
theorem scr_sq {K : PySem.W.Frag} (hk : ∀ a vs, T.kl a vs → ∀ H, SqL K H a vs) (sr : SRel T W S H) {ns : List Int} {v : V} (h : Rep T W (.scr ns) v) : ∃ a, v = .ref a ∧ SqL K H a (ns.map V.int) := by
  cases h with
  | scr e =>
    rcases e with e | ⟨o, e⟩
    · exact ⟨_, rfl, hk _ _ e H⟩
    · exact ⟨_, rfl, .inl (.inr ⟨o, sr.sub _ _ e⟩)⟩
theorem sl_ok (hk : ∀ a vs, T.kl a vs → ∀ H, SqL X.K H a vs) : SlR X (fun x lo hi H Q => ∃ W S d z, SRel T W S H ∧ View T W H d x ∧ slD d lo hi = some z ∧ ∀ W' H' v, Stp W H W' H' → SRel T W' S H' → Rep T W' z v → Q v H') := by
  intro pins s σ H x v vl vu lo hi sl Q I rx hs pl pu h
  obtain ⟨W, S, d, z, sr, vw, e, hq⟩ := h
  unfold slD at e
  split at e
  · obtain ⟨a, vs, rfl, ga, ra⟩ := vw.tup
    cases e
    refine sl_tupA pins s σ H _ v vl vu lo hi sl Q I rx hs pl pu ⟨a, vs, rfl, SqT.of (sr.sub _ _ ga), fun hw => ?_, fun _ p hp => ?_⟩
    · refine hq W H _ sr.stp sr ?_
      have e2 : cutV vs lo hi = vs := by
        unfold cutV
        rw [hw.1, hw.2]; simp
      have := cut_eq (lo := lo) (hi := hi) ra
      rw [e2] at this
      exact .tup ga this
    · obtain ⟨h1, h2, h3⟩ := newTup sr (cut_eq (lo := lo) (hi := hi) ra) hp
      exact hq _ _ _ h1 h2 h3
  · obtain ⟨a, vs, rfl, ga, ra⟩ := vw
    cases e
    refine sl_list pins s σ H _ v vl vu lo hi sl Q I rx hs pl pu ⟨a, vs, rfl, SqL.of ga, fun p hp => ?_⟩
    obtain ⟨h1, h2, h3⟩ := newLst sr (cut_eq (lo := lo) (hi := hi) ra) hp
    exact hq _ _ _ h1 h2 h3
  · obtain ⟨a, rfl, q⟩ := scr_sq (K := X.K) hk sr (show Rep T W _ _ from vw)
    cases e
    refine sl_list pins s σ H _ v vl vu lo hi sl Q I rx hs pl pu ⟨a, _, rfl, q, fun p hp => ?_⟩
    obtain ⟨h1, h2, h3⟩ := newLst sr (cut_eq (lo := lo) (hi := hi) (reps_ints (T := T) (W := W) _)) hp
    exact hq _ _ _ h1 h2 h3
  · cases e
theorem tru_V {K : PySem.W.Frag} (sr : SRel T W S H) {x : D} {b : Bool} (e : truD x = some b) {vx : V} (rx : View T W H x vx) : TruV K vx H b := by
  have emp : ∀ {xs : List D} {vs : List V}, Reps T W xs vs → (!xs.isEmpty) = !vs.isEmpty := fun r => by cases r <;> rfl
  cases x with
  | non => cases e; cases (show Rep T W _ _ from rx); rfl
  | bl b => cases e; cases (show Rep T W _ _ from rx); rfl
  | int i => cases e; cases (show Rep T W _ _ from rx); rfl
  | tup xs => cases e; obtain ⟨a, vs, rfl, ga, ra⟩ := rx.tup; exact .inr (.inl ⟨vs, SqT.of (sr.sub _ _ ga), emp ra⟩)
  | lst xs => cases e; obtain ⟨a, vs, rfl, ga, ra⟩ := rx; exact .inl ⟨vs, SqL.of ga, emp ra⟩
  | _ => cases e
end
end Qv
set_option Elab.async false
set_option linter.all false
set_option maxRecDepth 100000
set_option maxHeartbeats 4000000
/-! Built-ins by value. -/
namespace Qv
open PySem PySem.Spec PyProof.Rows L2

def biV : BI → Value
  | .len => .builtin "len" | .abs => .builtin "abs" | .int => .type "int" | .sum => .builtin "sum" | .all => .builtin "all" | .any => .builtin "any"
  | .max1 => .builtin "max" | .min1 => .builtin "min" | .max2 => .builtin "max" | .min2 => .builtin "min" | .isi => .builtin "isinstance" | .tuple => .type "tuple"
def rBI (T : Tb) (b : BI) : List V → Hp → VK → Prop := fun vs H Q => ∃ W S ds z, SRel T W S H ∧ Paired (View T W H) ds vs ∧ biD b ds = some z ∧ ∀ W' H' v, Stp W H W' H' → SRel T W' S H' → Rep T W' z v → Q v H'
section
variable {X : Cx} {T : Tb} {W : Wd} {S : Sh} {H : Hp} {pins : List (Addr × Obj)} {σ : L2.St} {s : Shared}
theorem kit_builtin {K : PySem.W.Frag} {k n : String} {b : Bool} (hk : k = "NoneType" ∨ k = "bool" ∨ k = "int" ∨ k = "str" ∨ k = "tuple" ∨ k = "list" ∨ k = "dict") (e : isiK k n = some b) : PySem.W.kitOne K (.type k) (.type n) = some b := by
  unfold isiK at e
  repeat' (split at e)
  all_goals (first | (rename_i hn; subst hn) | skip)
  all_goals (first | cases e | skip)
  all_goals rcases hk with rfl | rfl | rfl | rfl | rfl | rfl | rfl
  all_goals first | rfl | kernel_rfl
theorem View.ty {d : D} {v : V} {k : String} (sr : SRel T W S H) (h : View T W H d v) (e : kindD d = some k) {K : PySem.W.Frag} :
    TyOf K H v (.type k) ∧ (k = "NoneType" ∨ k = "bool" ∨ k = "int" ∨ k = "str" ∨ k = "tuple" ∨ k = "list" ∨ k = "dict") := by
  cases d with
  | non => cases e; cases (show Rep T W _ _ from h); exact ⟨.non, by simp⟩
  | bl b => cases e; cases (show Rep T W _ _ from h); exact ⟨.bl b, by simp⟩
  | int i => cases e; cases (show Rep T W _ _ from h); exact ⟨.int i, by simp⟩
  | str x => cases e; cases (show Rep T W _ _ from h); exact ⟨.str x, by simp⟩
  | tup xs => cases e; obtain ⟨a, vs, rfl, ga, ra⟩ := h.tup; exact ⟨.tup (sr.sub _ _ ga), by simp⟩
  | lst xs => cases e; obtain ⟨a, vs, rfl, ga, ra⟩ := h; exact ⟨.lst ga, by simp⟩
  | dic kvs => cases e; cases (show Rep T W _ _ from h) with | dic0 g => exact ⟨.dK (sr.sub _ _ g), by simp⟩
  | _ => cases e
theorem Paired.one {α β : Type} {F : α → β → Prop} {a : α} {l : List β} (h : Paired F [a] l) : ∃ b, l = [b] ∧ F a b := by
  cases h with | cons r t => cases t; exact ⟨_, rfl, r⟩
theorem Paired.two {α β : Type} {F : α → β → Prop} {a c : α} {l : List β} (h : Paired F [a, c] l) : ∃ b d, l = [b, d] ∧ F a b ∧ F c d := by
  cases h with | cons r t => cases t with | cons r2 t2 => cases t2; exact ⟨_, _, rfl, r, r2⟩
theorem bi_ok (hk : ∀ a vs, T.kl a vs → ∀ H, SqL X.K H a vs) (hc : X.calm = true) (b : BI) : CallR X (biV b) (rBI T b) := by
  have hL := sl64
  intro pins s σ H vs us Q I r h
  obtain ⟨W, S, ds, z, sr, pv, e, hq⟩ := h
  have hint : ∀ j : Int, z = .int j → Q (.int j) H := fun j q => hq W H _ sr.stp sr (q ▸ .int j)
  have hbl : ∀ j : Bool, z = .bl j → Q (.bl j) H := fun j q => hq W H _ sr.stp sr (q ▸ .bl j)
  unfold biD at e
  split at e
  · obtain ⟨v, rfl, hv⟩ := Paired.one pv
    obtain ⟨a, xs, rfl, ga, ra⟩ := hv.tup
    cases e
    exact call_len_seq pins s σ H _ us Q I r ⟨a, xs, rfl, .inr (SqT.of (sr.sub _ _ ga)), by rw [← ra.length]; exact hint _ rfl⟩
  · obtain ⟨v, rfl, hv⟩ := Paired.one pv
    obtain ⟨a, xs, rfl, ga, ra⟩ := hv
    cases e
    exact call_len_seq pins s σ H _ us Q I r ⟨a, xs, rfl, .inl (SqL.of ga), by rw [← ra.length]; exact hint _ rfl⟩
  · obtain ⟨v, rfl, hv⟩ := Paired.one pv
    obtain ⟨a, rfl, q⟩ := scr_sq (K := X.K) hk sr (show Rep T W _ _ from hv)
    cases e
    exact call_len_seq pins s σ H _ us Q I r ⟨a, _, rfl, .inl q, by rw [List.length_map]; exact hint _ rfl⟩
  · obtain ⟨v, rfl, hv⟩ := Paired.one pv
    split at e <;> cases e
    rename_i c
    unfold LIM at c
    cases (show Rep T W _ _ from hv)
    exact call_len_str pins s σ H _ us Q I r ⟨_, rfl, by omega, hint _ rfl⟩
  · obtain ⟨v, rfl, hv⟩ := Paired.one pv
    obtain rfl := hv.int
    cases e
    exact call_abs pins s σ H _ us Q I r ⟨_, rfl, hint _ rfl⟩
  · obtain ⟨v, rfl, hv⟩ := Paired.one pv
    obtain rfl := hv.int
    cases e
    exact call_int1 pins s σ H _ us Q I r (.inl ⟨_, rfl, hint _ rfl⟩)
  · obtain ⟨v, rfl, hv⟩ := Paired.one pv
    cases (show Rep T W _ _ from hv)
    cases e
    exact call_int1 pins s σ H _ us Q I r (.inr ⟨_, rfl, hint _ rfl⟩)
  · obtain ⟨v, rfl, hv⟩ := Paired.one pv
    obtain ⟨a, xs, rfl, ga, ra⟩ := hv
    rw [Option.map_eq_some_iff] at e
    obtain ⟨ns, e1, rfl⟩ := e
    obtain ⟨rfl, _⟩ := intsOf_reps ra e1
    exact cr_sum hc pins s σ H _ us Q I r ⟨a, ns, rfl, SqL.of ga, hint _ rfl⟩
  · obtain ⟨v, rfl, hv⟩ := Paired.one pv
    obtain ⟨a, xs, rfl, ga, ra⟩ := hv
    rw [Option.map_eq_some_iff] at e
    obtain ⟨ns, e1, rfl⟩ := e
    obtain rfl := blsOf_reps ra e1
    exact cr_all hc pins s σ H _ us Q I r ⟨a, ns, rfl, SqL.of ga, hbl _ rfl⟩
  · obtain ⟨v, rfl, hv⟩ := Paired.one pv
    obtain ⟨a, xs, rfl, ga, ra⟩ := hv
    rw [Option.map_eq_some_iff] at e
    obtain ⟨ns, e1, rfl⟩ := e
    obtain rfl := blsOf_reps ra e1
    exact cr_any hc pins s σ H _ us Q I r ⟨a, ns, rfl, SqL.of ga, hbl _ rfl⟩
  · obtain ⟨v, u, rfl, hv, hu⟩ := Paired.two pv
    obtain rfl := hv.int; obtain rfl := hu.int
    cases e
    exact call_max2 hc pins s σ H _ us Q I r ⟨_, _, rfl, hint _ rfl⟩
  · obtain ⟨v, u, rfl, hv, hu⟩ := Paired.two pv
    obtain rfl := hv.int; obtain rfl := hu.int
    cases e
    exact call_min2 hc pins s σ H _ us Q I r ⟨_, _, rfl, hint _ rfl⟩
  · obtain ⟨v, u, rfl, hv, hu⟩ := Paired.two pv
    cases (show Rep T W _ _ from hu)
    split at e
    · rename_i k ek
      rw [Option.map_eq_some_iff] at e
      obtain ⟨b, e1, rfl⟩ := e
      obtain ⟨ty, hk⟩ := hv.ty sr ek (K := X.K)
      cases r with
      | cons r1 r2 =>
        cases r2 with
        | cons r3 r4 =>
          cases r4
          cases r3
          exact isinst_ok I r1 ty (kit_builtin hk e1) fun tk => ⟨.bl b, H, I.tok _, rfl, hbl _ rfl⟩
    · cases e
  · obtain ⟨v, rfl, hv⟩ := Paired.one pv
    obtain ⟨a, xs, rfl, ga, ra⟩ := hv
    cases e
    refine call_tuple_of pins s σ H _ us Q I r ⟨a, xs, rfl, .inl ⟨SqL.of ga, fun p hp => ?_⟩⟩
    obtain ⟨h1, h2, h3⟩ := newTup sr ra hp
    exact hq _ _ _ h1 h2 h3
  · obtain ⟨v, rfl, hv⟩ := Paired.one pv
    obtain ⟨a, xs, rfl, ga, ra⟩ := hv.tup
    cases e
    exact call_tuple_of pins s σ H _ us Q I r ⟨a, xs, rfl, .inr ⟨SqT.of (sr.sub _ _ ga), hq W H _ sr.stp sr (.tup ga ra)⟩⟩
  · cases e
end
end Qv
set_option Elab.async false
set_option linter.all false
set_option maxRecDepth 100000
set_option maxHeartbeats 4000000
/-! The checker: this tree of the model is this tree of the small language. -/
namespace Qv
open PySem PySem.Spec PyProof.Rows L2

/-- the law's tables, for the checker -/
structure Ck where
  nm : Nat → Str
  fn : Nat → Option Str
  cls : Nat → Bool
  fld : Nat → Bool

def visB (sc : Scope) (x : Str) : Bool := match sc.names.lookup x with
  | some .local => true
  | some .cell => true
  | some .free => true
  | _ => false
def glB (sc : Scope) (x : Str) : Bool := match sc.names.lookup x with
  | some .globalImplicit => true
  | _ => false
/-- a name that may be stored: a local one, or a cell that the block itself made -/
def locB (sc : Scope) (fnb : Str → Bool) (x : Str) : Bool := match sc.names.lookup x with
  | some .local => true
  | some .cell => fnb x
  | _ => false
def okName (x : Str) : Bool := !(x == ("__debug__" : Str)) && !(x == ("__classdict__" : Str))
def constB : D → Const → Bool
  | .non, .none => true
  | .bl a, .bool b => a == b
  | .int i, .int j => decide (i = j)
  | .str x, .str y => decide (x = y)
  | _, _ => false
/-- an expression of the forms that are served -/
def plainX : PySem.Expr → Bool
  | .BoolOp .. | .BinOp .. | .UnaryOp .. | .IfExp .. | .ListComp .. | .Compare .. | .Call .. | .Constant .. | .Attribute .. | .Subscript .. | .Name .. | .List .. | .Tuple .. => true
  | _ => false
def biN : BI → Str
  | .len => "len" | .abs => "abs" | .int => "int" | .sum => "sum" | .all => "all" | .any => "any"
  | .max1 => "max" | .min1 => "min" | .max2 => "max" | .min2 => "min" | .isi => "isinstance" | .tuple => "tuple"
def bnames : List Str := ["len", "abs", "int", "sum", "all", "any", "max", "min", "isinstance", "tuple", "list", "sorted", "range", "enumerate", "set", "zip", "str", "repr", "bool", "dict"]
def tgSlots : Tg → List Nat
  | .n i => [i]
  | .t a b => tgSlots a ++ tgSlots b
  | .t3 a b c => tgSlots a ++ tgSlots b ++ tgSlots c
def okTg (N : List Str) (sc : Scope) (fnb : Str → Bool) : Tg → PySem.Expr → Bool
  | .n i, .Name x _ => decide (N[i]? = some x) && locB sc fnb x && okName x
  | .t a b, .Tuple [x, y] _ _ => okTg N sc fnb a x && okTg N sc fnb b y
  | .t3 a b c, .Tuple [x, y, z] _ _ => okTg N sc fnb a x && okTg N sc fnb b y && okTg N sc fnb c z
  | _, _ => false
def nst : PySem.Expr → Bool
  | .Starred .. => false
  | _ => true
def nca : PySem.Expr → Bool
  | .Call .. => false
  | _ => true
theorem nca_base {o : PySem.Expr} {attr : Str} {env : Env} {whole : Sem Value} (h : nca o = true) : attributeBase o attr env whole = whole := by
  cases o <;> first | rfl | cases h
def isTup : PySem.Expr → Bool
  | .Tuple .. => true
  | _ => false
def ownOf (N : List Str) (vs : List Nat) : List (Str × Nat) := vs.map fun i => ((N[i]?).getD Str.empty, i)
/-- the scope that a comprehension's block runs in -/
abbrev inner (scope sc : Scope) : Scope := relS scope sc
abbrev innerF (scope : Scope) : Str → Bool := fun x => scope.names.lookup x == some .cell

section
variable (Q : Ck) (N : List Str)
mutual
def okE (sc : Scope) : IE → PySem.Expr → Bool
  | .c d, e => (match e with
    | .Constant k _ _ => constB d k
    | _ => false)
  | .g n, e => (match e with
    | .Name x _ => decide (x = Q.nm n) && glB sc x && okName x
    | _ => false)
  | .v i, e => (match e with
    | .Name x _ => decide (N[i]? = some x) && visB sc x && okName x
    | _ => false)
  | .tup es, e => (match e with
    | .Tuple xs _ _ => okEs sc es xs
    | _ => false)
  | .l le, e => okL sc le e
  | .sh le, e => okL sc le e
  | .bin o a b, e => (match e with
    | .BinOp l op r _ => decide (op = opOf o) && okE sc a l && okE sc b r
    | _ => false)
  | .neg a, e => (match e with
    | .UnaryOp op x _ => decide (op = .USub) && okE sc a x
    | _ => false)
  | .cmp o a b, e => (match e with
    | .Compare l [op] [r] _ => decide (op = cmOf o) && okE sc a l && okE sc b r
    | _ => false)
  | .cmpc o1 o2 a b c, e => (match e with
    | .Compare l [p1, p2] [r, s] _ => decide (p1 = cmOf o1) && decide (p2 = cmOf o2) && okE sc a l && okE sc b r && okE sc c s
    | _ => false)
  | .isn a, e => (match e with
    | .Compare l [.Is] [.Constant .none _ _] _ => okE sc a l
    | _ => false)
  | .nnn a, e => (match e with
    | .Compare l [.IsNot] [.Constant .none _ _] _ => okE sc a l
    | _ => false)
  | .not a, e => (match e with
    | .UnaryOp op x _ => decide (op = .Not) && okE sc a x
    | _ => false)
  | .and a b, e => (match e with
    | .BoolOp .And [x, y] _ => okE sc a x && okE sc b y
    | .BoolOp .And (x :: y :: z :: r) p => okE sc a x && okE sc b (.BoolOp .And (y :: z :: r) p)
    | _ => false)
  | .or a b, e => (match e with
    | .BoolOp .Or [x, y] _ => okE sc a x && okE sc b y
    | .BoolOp .Or (x :: y :: z :: r) p => okE sc a x && okE sc b (.BoolOp .Or (y :: z :: r) p)
    | _ => false)
  | .ife t a b, e => (match e with
    | .IfExp x y z _ => okE sc t x && okE sc a y && okE sc b z
    | _ => false)
  | .call f es, e => (match e with
    | .Call (.Name x _) xs [] _ => decide (Q.fn f = some x) && glB sc x && okName x && okEs sc es xs
    | _ => false)
  | .mk c es, e => (match e with
    | .Call (.Name x _) xs [] _ => Q.cls c && decide (x = Q.nm c) && glB sc x && okName x && okEs sc es xs
    | _ => false)
  | .bi b es, e => (match e with
    | .Call (.Name x _) (y :: xs) [] _ => decide (x = biN b) && glB sc x && okEs sc es (y :: xs)
    | _ => false)
  | .ix a b, e => (match e with
    | .Subscript x y _ => okE sc a x && okE sc b y
    | _ => false)
  | .sl a lo hi, e => (match e with
    | .Subscript x (.Slice l h none _) _ => okE sc a x && okO sc lo l && okO sc hi h
    | _ => false)
  | .at a f, e => (match e with
    | .Attribute x n _ => nca x && decide (n = Q.nm f) && Q.fld f && okE sc a x
    | _ => false)
  | .st a, e => (match e with
    | .Call (.Name x _) [y] [] _ => decide (x = Str.ofString "set") && glB sc x && okE sc a y
    | _ => false)
def okO (sc : Scope) : IO → Option PySem.Expr → Bool
  | .no, e => (match e with
    | none => true
    | _ => false)
  | .ye a, e => (match e with
    | some x => okE sc a x
    | _ => false)
def okEs (sc : Scope) : IEs → List PySem.Expr → Bool
  | .nil, e => (match e with
    | [] => true
    | _ => false)
  | .cons a es, e => (match e with
    | x :: xs => okE sc a x && okEs sc es xs
    | _ => false)
def okL (sc : Scope) : LE → PySem.Expr → Bool
  | .disp es, e => (match e with
    | .List xs _ => okEs sc es xs
    | _ => false)
  | .comp elt tg it cond vs, e => (match e with
    | .ListComp x [⟨t, i, ifs, a⟩] scope _ => decide (a = 0) && blkC N sc scope (ownOf N vs) && decide ((ownOf N vs).map (·.2) = vs) && (tgSlots tg).all (fun i => vs.contains i)
        && okTg N (inner scope sc) (innerF scope) tg t && okI sc it t i && okC (inner scope sc) cond ifs && okE (inner scope sc) elt x
    | _ => false)
  | .list a, e => (match e with
    | .Call (.Name x _) [y] [] _ => decide (x = Str.ofString "list") && glB sc x && okE sc a y
    | _ => false)
  | .sorted a, e => (match e with
    | .Call (.Name x _) [y] [] _ => decide (x = Str.ofString "sorted") && glB sc x && okE sc a y
    | _ => false)
  | .rep a n, e => (match e with
    | .BinOp l op r _ => decide (op = .Mult) && okE sc a l && okE sc n r
    | _ => false)
def okC (sc : Scope) : IO → List PySem.Expr → Bool
  | .no, e => (match e with
    | [] => true
    | _ => false)
  | .ye a, e => (match e with
    | [x] => okE sc a x
    | _ => false)
def okI (sc : Scope) : II → PySem.Expr → PySem.Expr → Bool
  | .seq a, _, e => okE sc a e
  | .rng1 a, _, e => (match e with
    | .Call (.Name x _) [y] [] _ => decide (x = Str.ofString "range") && glB sc x && okE sc a y
    | _ => false)
  | .rng2 a b, _, e => (match e with
    | .Call (.Name x _) [y, z] [] _ => decide (x = Str.ofString "range") && glB sc x && okE sc a y && okE sc b z
    | _ => false)
  | .enum a, t, e => (match e with
    | .Call (.Name x _) [y] [] _ => isTup t && decide (x = Str.ofString "enumerate") && glB sc x && okE sc a y
    | _ => false)
  | .zip a b, t, e => (match e with
    | .Call (.Name x _) [y, z] [] _ => isTup t && decide (x = Str.ofString "zip") && glB sc x && okE sc a y && okE sc b z
    | _ => false)
end
end

/-! ### forms -/
theorem plain_ns {e : PySem.Expr} (h : plainX e = true) : nst e = true := by cases e <;> first | rfl | cases h
theorem star_of {e : PySem.Expr} {es : List PySem.Expr} {env : Env} (h : nst e = true) : starEach (e :: es) env = (false, eval e env) :: starEach es env := by
  cases e <;> first | rfl | cases h
section
variable {Q : Ck} {N : List Str} {sc : Scope}
mutual
theorem okE_plain : ∀ (i : IE) (e : PySem.Expr), okE Q N sc i e = true → plainX e = true
  | .c d, e, h => by unfold okE at h; split at h <;> first | rfl | cases h
  | .g n, e, h => by unfold okE at h; split at h <;> first | rfl | cases h
  | .v i, e, h => by unfold okE at h; split at h <;> first | rfl | cases h
  | .tup es, e, h => by unfold okE at h; split at h <;> first | rfl | cases h
  | .l le, e, h => by unfold okE at h; exact okL_plain le e h
  | .sh le, e, h => by unfold okE at h; exact okL_plain le e h
  | .bin o a b, e, h => by unfold okE at h; split at h <;> first | rfl | cases h
  | .neg a, e, h => by unfold okE at h; split at h <;> first | rfl | cases h
  | .cmp o a b, e, h => by unfold okE at h; split at h <;> first | rfl | cases h
  | .cmpc o1 o2 a b c, e, h => by unfold okE at h; split at h <;> first | rfl | cases h
  | .isn a, e, h => by unfold okE at h; split at h <;> first | rfl | cases h
  | .nnn a, e, h => by unfold okE at h; split at h <;> first | rfl | cases h
  | .not a, e, h => by unfold okE at h; split at h <;> first | rfl | cases h
  | .and a b, e, h => by unfold okE at h; split at h <;> first | rfl | cases h
  | .or a b, e, h => by unfold okE at h; split at h <;> first | rfl | cases h
  | .ife t a b, e, h => by unfold okE at h; split at h <;> first | rfl | cases h
  | .call f es, e, h => by unfold okE at h; split at h <;> first | rfl | cases h
  | .mk c es, e, h => by unfold okE at h; split at h <;> first | rfl | cases h
  | .bi b es, e, h => by unfold okE at h; split at h <;> first | rfl | cases h
  | .ix a b, e, h => by unfold okE at h; split at h <;> first | rfl | cases h
  | .sl a lo hi, e, h => by unfold okE at h; split at h <;> first | rfl | cases h
  | .at a f, e, h => by unfold okE at h; split at h <;> first | rfl | cases h
  | .st a, e, h => by unfold okE at h; split at h <;> first | rfl | cases h
theorem okL_plain : ∀ (i : LE) (e : PySem.Expr), okL Q N sc i e = true → plainX e = true
  | .disp es, e, h => by unfold okL at h; split at h <;> first | rfl | cases h
  | .comp _ _ _ _ _, e, h => by unfold okL at h; split at h <;> first | rfl | cases h
  | .list a, e, h => by unfold okL at h; split at h <;> first | rfl | cases h
  | .sorted a, e, h => by unfold okL at h; split at h <;> first | rfl | cases h
  | .rep a n, e, h => by unfold okL at h; split at h <;> first | rfl | cases h
end
end
theorem plain_folded {e : PySem.Expr} {env : Env} (h : plainX e = true) (x : Value) : foldedSetIterable e env x = pure x := by
  cases e <;> first | rfl | cases h
theorem plain_mark {e : PySem.Expr} (op : CmpOp) (h : plainX e = true) : behindInMarks op e = false := by
  cases e <;> first | rfl | cases h
theorem plain_ix {e : PySem.Expr} (h : plainX e = true) : PlainIx e := by
  cases e <;> first | exact fun _ _ => rfl | cases h
/-- no and, or, not, .. if .., comparison at its top -/
def valX : PySem.Expr → Bool
  | .BoolOp .. | .IfExp .. | .Compare .. => false
  | .UnaryOp .Not _ _ => false
  | _ => true
theorem val_true {e : PySem.Expr} {env : Env} (h : valX e = true) : ∀ whole, isTrue e env whole = (do let v ← whole; standAt e.pos; holding [v] (truthy v)) := by
  intro whole
  cases e with
  | UnaryOp op a p => cases op <;> first | rfl | cases h
  | BoolOp _ _ _ => cases h
  | IfExp _ _ _ _ => cases h
  | Compare _ _ _ _ => cases h
  | _ => rfl
theorem star_plain : ∀ {es : List PySem.Expr} {env : Env} {pos : Pos}, (∀ e ∈ es, nst e = true) → (backTo pos (starEach es env)).any (·.1) = false
  | [], _, _, _ => rfl
  | e :: es, env, pos, h => by
    have ih := star_plain (es := es) (env := env) (pos := pos) fun x hx => h x (List.mem_cons_of_mem _ hx)
    rw [star_of (h e List.mem_cons_self)]
    unfold backTo at ih ⊢
    simpa using ih
theorem okEs_ns {Q : Ck} {N : List Str} {sc : Scope} : ∀ {is : IEs} {es : List PySem.Expr}, okEs Q N sc is es = true → ∀ e ∈ es, nst e = true
  | .nil, [], _, _, h => nomatch h
  | .nil, _ :: _, h, _, _ => by unfold okEs at h; cases h
  | .cons a is, [], h, _, _ => by unfold okEs at h; cases h
  | .cons a is, x :: xs, h, e, he => by
    unfold okEs at h
    simp only [Bool.and_eq_true] at h
    rcases List.mem_cons.mp he with rfl | he
    · exact plain_ns (okE_plain a _ h.1)
    · exact okEs_ns h.2 e he
end Qv
set_option Elab.async false
set_option linter.all false
set_option maxRecDepth 100000
set_option maxHeartbeats 4000000
/-! The judgements, over the hand layer's. -/
namespace Qv
open PySem PySem.Spec PyProof.Rows L2

abbrev wxs (Wx : WX) (σ : L2.St) : WXh := fun c d H' => Wx c d σ H'
def tR {α β : Type} (T : Tb) (H0 : Hp) (Wx : WX) (R : Wd → Hp → α → β → Prop) (f : En → Sh → Res α) : L2.St → Hp → (β → Hp → Prop) → Prop := fun σ H Q =>
  ∃ W E S, SRel T W S H ∧ FRel T H0 W E σ H ∧ Resp T R (wxs Wx σ) W H Q (f E S)
abbrev tD (T : Tb) (H0 : Hp) (Wx : WX) (f : En → Sh → Res D) : TE := tR T H0 Wx (RD T) f
abbrev tA (T : Tb) (H0 : Hp) (Wx : WX) (f : En → Sh → Res D) : TE := tR T H0 Wx (RA T) f
abbrev tT (T : Tb) (H0 : Hp) (Wx : WX) (f : En → Sh → Res Bool) : TT := tR T H0 Wx (fun _ _ a b => a = b) f
abbrev tDs (T : Tb) (H0 : Hp) (Wx : WX) (f : En → Sh → Res (List D)) : TA := tR T H0 Wx (RDs T) f
abbrev tAs (T : Tb) (H0 : Hp) (Wx : WX) (f : En → Sh → Res (List D)) : TA := tR T H0 Wx (RAs T) f
section
variable {α β γ δ : Type} {T : Tb} {R R' : Wd → Hp → α → β → Prop} {R2 : Wd → Hp → γ → δ → Prop} {Wx Wx' : WXh} {W : Wd} {H : Hp} {Q Q' : β → Hp → Prop} {S : Sh}
theorem Resp.imp {r : Res α} (h : Resp T R Wx W H Q r) (k : ∀ b H', Q b H' → Q' b H') : Resp T R Wx W H Q' r := by
  cases r with
  | ok a S => exact fun W' H' b s1 s2 s3 => k _ _ (h W' H' b s1 s2 s3)
  | ex x S => exact h
  | bad => exact h
/-- the end of a chain: the value is there -/
theorem Resp.at {a : α} (h : Resp T R Wx W H Q (.ok a S)) (sr : SRel T W S H) {b : β} (r : R W H a b) : Q b H := h W H b sr.stp sr r
theorem Resp.nobad (h : Resp T R Wx W H Q (.bad : Res α)) {P : Prop} : P := False.elim h
end
section
variable {X : Cx} {e : PySem.Expr}
theorem PE.imp {t t' : TE} (h : PE X e t) (k : ∀ σ H Q, t' σ H Q → t σ H Q) : PE X e t' := ⟨fun pins s σ H Q I hw => h.run pins s σ H Q I (k _ _ _ hw)⟩
theorem PT.imp {t t' : TT} (h : PT X e t) (k : ∀ σ H Q, t' σ H Q → t σ H Q) : PT X e t' := ⟨fun pins s σ H Q I hw => h.run pins s σ H Q I (k _ _ _ hw)⟩
theorem PW.imp {t t' : TT} (h : PW X e t) (k : ∀ σ H Q, t' σ H Q → t σ H Q) : PW X e t' := ⟨fun wh pins s σ H Q I hw => h.run wh pins s σ H Q I (k _ _ _ hw)⟩
theorem PA.imp {es : List PySem.Expr} {t t' : TA} (h : PA X es t) (k : ∀ σ H Q, t' σ H Q → t σ H Q) : PA X es t' := ⟨fun ps pins s σ H Q I hw => h.run ps pins s σ H Q I (k _ _ _ hw)⟩
end

/-- a def's promise: it gives what m gives -/
def spD (T : Tb) (m : List D → Sh → Res D) : Sp := fun vs H Q E => ∃ W S ds, SRel T W S H ∧ Reps T W ds vs ∧ Resp T (RD T) E W H Q (m ds S)
/-- what of the real program the evaluator's tables say -/
structure SOk (P : Program) (w : World) (K : PySem.W.Frag) (mg : Str → Option Value) (base : Heap) (T : Tb) (Q : Ck) (C : Calls) (k : Nat) : Prop where
  tw : T.w = w
  kl : ∀ a vs, T.kl a vs → ∀ H, SqL K H a vs
  nm : T.nm = Q.nm
  inj : ∀ i j, T.nm i = T.nm j → i = j
  bn : ∀ x, x ∈ bnames → mg x = none
  gl : ∀ n d, C.gl n = some d → ∃ u v, (mg (T.nm n) = some u ∨ (mg (T.nm n) = none ∧ T.nm n ≠ "__name__" ∧ bootBuiltins (T.nm n) = some u)) ∧ RelV v u ∧ ∀ W, Rep T W d v
  fn : ∀ f x, Q.fn f = some x → ∃ fa fd ps, mg x = some (.ref fa) ∧ PySem.W.keepIn K (.ref fa) = true ∧ Binds K fd ps [] ∧ FnOk P w K mg base (L2.CX P w) (2 * k) fa fd ps (spD T (C.fn f))
  new : ∀ c, Q.cls c = true → T.cl c ∧ ∃ ini f fa fd ps, C.new = mkI C.fn ini ∧ ini c = some f ∧ mg (T.nm c) = some (.ref (T.ad c)) ∧ Mk K (T.ad c) fa ∧ Binds K fd ps [] ∧ FnOk P w K mg base (L2.CX P w) (2 * k) fa fd ps (spD T (C.fn f))
  at_ : ∀ c f, T.cl c → Q.fld f = true → Cls K (T.ad c) ∧ NoAttr K (T.ad c) (T.nm f)
/-- where one stands -/
structure Gd (T : Tb) (Q : Ck) (N : List Str) (C : Calls) (k : Nat) (X : Cx) (sc : Scope) (fnb : Str → Bool) (Wx : WX) : Prop where
  st : SOk X.prog X.w X.K X.mg X.base T Q C k
  N : X.N = N
  nd : X.N.Nodup
  sc : X.env.scope = sc
  fnb : ∀ x, fnb x = true → X.fn x = true
  calm : X.calm = true
  room : Room (2 * k + 1) X.A
  tk : Takes X Wx
section
variable {T : Tb} {Q : Ck} {N : List Str} {C : Calls} {k : Nat} {X : Cx} {sc : Scope} {fnb : Str → Bool} {Wx : WX} {H0 : Hp}
theorem Gd.units (g : Gd T Q N C k X sc fnb Wx) : X.A.units + 64 < cLine := g.room.units
theorem visB_ok {x : Str} (g : Gd T Q N C k X sc fnb Wx) (h : visB sc x = true) : Vis X.env.scope x := by
  unfold visB at h
  rw [← g.sc] at h
  split at h <;> first | exact .inl ‹_› | exact .inr (.inl ‹_›) | exact .inr (.inr ‹_›) | cases h
theorem glB_ok {x : Str} (g : Gd T Q N C k X sc fnb Wx) (h : glB sc x = true) : Gl X x := by
  unfold glB at h
  rw [← g.sc] at h
  split at h <;> first | assumption | cases h
theorem locB_ok {x : Str} (g : Gd T Q N C k X sc fnb Wx) (h : locB sc fnb x = true) : Loc X.env.scope x ∧ (X.fn x = true ∨ X.env.scope.names.lookup x = some .local) := by
  unfold locB at h
  rw [← g.sc] at h
  split at h
  · exact ⟨.inl ‹_›, .inr ‹_›⟩
  · exact ⟨.inr ‹_›, .inl (g.fnb x h)⟩
  · cases h
theorem okName_ok {x : Str} (h : okName x = true) : (x == ("__debug__" : Str)) = false ∧ (x == ("__classdict__" : Str)) = false := by
  unfold okName at h
  simp only [Bool.and_eq_true, Bool.not_eq_true'] at h
  exact h
theorem biN_mem (b : BI) : biN b ∈ bnames := by cases b <;> decide +kernel
theorem bn_name : ∀ x, x ∈ bnames → x ≠ "__name__" := by decide +kernel
theorem bn_dbg : ∀ x, x ∈ bnames → (x == ("__debug__" : Str)) = false := by decide +kernel
theorem biN_boot (b : BI) : bootBuiltins (biN b) = some (biV b) := by cases b <;> decide +kernel

/-! ### names, constants -/
theorem s_c {d : D} {x : PySem.Expr} (h : okE Q N sc (.c d) x = true) : PE X x (tD T H0 Wx (ev C (.c d))) := by
  unfold okE at h
  split at h
  · rename_i kk j p
    unfold constB at h
    split at h
    · exact PE.imp pe_non fun σ H Q ⟨W, E, S, sr, fr, h⟩ => h.at sr .non
    · rename_i a b
      obtain rfl : a = b := by simpa using h
      exact PE.imp pe_bl fun σ H Q ⟨W, E, S, sr, fr, h⟩ => h.at sr (.bl a)
    · rename_i a b
      obtain rfl : a = b := by simpa using h
      exact PE.imp pe_int fun σ H Q ⟨W, E, S, sr, fr, h⟩ => h.at sr (.int a)
    · rename_i a b
      obtain rfl : a = b := by simpa using h
      exact PE.imp pe_str fun σ H Q ⟨W, E, S, sr, fr, h⟩ => h.at sr (.str a)
    · cases h
  · cases h
theorem s_g (g : Gd T Q N C k X sc fnb Wx) {n : Nat} {x : PySem.Expr} (h : okE Q N sc (.g n) x = true) : PE X x (tD T H0 Wx (ev C (.g n))) := by
  unfold okE at h
  split at h
  · rename_i y p
    simp only [Bool.and_eq_true, decide_eq_true_eq] at h
    obtain ⟨⟨h1, h2⟩, h3⟩ := h
    refine ⟨fun pins s σ H Qr I ⟨W, E, S, sr, fr, h⟩ => ?_⟩
    unfold ev at h
    obtain ⟨d, e, h⟩ := h.lift1
    obtain ⟨u, v, m1, m2, m3⟩ := g.st.gl n d e
    rw [g.st.nm, ← h1] at m1
    rcases m1 with m1 | ⟨m0, mn, m1⟩
    · exact ld_glob I (glB_ok g h2) m1 ⟨v, H, I, m2, h.at sr (m3 W)⟩ (okName_ok h3).1
    · exact ld_blt I (glB_ok g h2) m0 m1 ⟨v, H, I, m2, h.at sr (m3 W)⟩ mn (okName_ok h3).1
  · cases h
theorem s_v (g : Gd T Q N C k X sc fnb Wx) {i : Nat} {x : PySem.Expr} (h : okE Q N sc (.v i) x = true) : PE X x (tVar i) := by
  unfold okE at h
  split at h
  · rename_i y p
    simp only [Bool.and_eq_true, decide_eq_true_eq] at h
    obtain ⟨⟨h1, h2⟩, h3⟩ := h
    exact pe_var (by rw [g.N]; exact h1) (visB_ok g h2) (okName_ok h3).1 (okName_ok h3).2
  · cases h
theorem tVar_D {i : Nat} {σ : L2.St} {H : Hp} {Qr : VK} (h : tD T H0 Wx (ev C (.v i)) σ H Qr) : tVar i σ H Qr := by
  obtain ⟨W, E, S, sr, fr, h⟩ := h
  unfold ev at h
  obtain ⟨d, e, h⟩ := h.lift1
  unfold slotV at e
  split at e
  · rename_i q
    cases e
    obtain ⟨v, e1, e2⟩ := fr.at_ i _ q
    exact ⟨v, e1, h.at sr e2⟩
  · cases e
theorem tVar_A {i : Nat} {σ : L2.St} {H : Hp} {Qr : VK} (h : tA T H0 Wx (fun E S => brw (.v i) E S (ev C (.v i) E S)) σ H Qr) : tVar i σ H Qr := by
  obtain ⟨W, E, S, sr, fr, h⟩ := h
  unfold brw at h
  obtain ⟨d, e, h⟩ := h.lift1
  unfold slotA at e
  split at e
  · rename_i q
    cases e
    obtain ⟨v, e1, e2⟩ := fr.at_ i _ q
    exact ⟨v, e1, h.at sr (.inl e2)⟩
  · rename_i q
    cases e
    obtain ⟨a, vs, e1, e2, e3, e4, e5, e6⟩ := fr.at_ i _ q
    exact ⟨_, e1, h.at sr (.inr ⟨⟨a, vs, rfl, e2, e3⟩, a, rfl, e5⟩)⟩
  · rename_i q
    cases e
    obtain ⟨a, SS, e1, e2, e3, e4, e5, e6, e7⟩ := fr.at_ i _ q
    exact ⟨_, e1, h.at sr (.inr ⟨⟨a, SS, rfl, e2, e3, e4⟩, a, rfl, e6⟩)⟩
  · cases e
/-- an argument that is only looked at -/
theorem PE.borrow (g : Gd T Q N C k X sc fnb Wx) {i : IE} {x : PySem.Expr} (ok : okE Q N sc i x = true) (h : PE X x (tD T H0 Wx (ev C i))) : PE X x (tA T H0 Wx fun E S => brw i E S (ev C i E S)) := by
  have other : (∀ E S r, brw i E S r = r) → PE X x (tA T H0 Wx fun E S => brw i E S (ev C i E S)) := fun q =>
    PE.imp h fun σ H Qr ⟨W, E, S, sr, fr, z⟩ => by
      have z : Resp T (RA T) (wxs Wx σ) W H Qr (brw i E S (ev C i E S)) := z
      rw [q] at z
      refine ⟨W, E, S, sr, fr, ?_⟩
      cases r : ev C i E S with
      | ok d S1 => rw [r] at z; exact fun W' H' v s1 s2 s3 => z W' H' v s1 s2 (.inl s3)
      | ex a b => rw [r] at z; exact z
      | bad => rw [r] at z; exact z
  cases i with
  | v j => exact PE.imp (s_v g ok) fun σ H Qr z => tVar_A z
  | _ => exact other fun _ _ _ => rfl
/-- a list of arguments, each read -/
theorem pa_cons' {e : PySem.Expr} {es : List PySem.Expr} {te : TE} {t : TA} (hs : nst e = true) (ha : PE X e te) (hr : PA X es t) : PA X (e :: es) (tCons te t) := pa_cons ha hr (star_of hs)
end
end Qv
set_option Elab.async false
set_option linter.all false
set_option maxRecDepth 100000
set_option maxHeartbeats 4000000
/-! The constructs of expressions, one by one. -/
namespace Qv
open PySem PySem.Spec PyProof.Rows L2
section
variable {T : Tb} {Q : Ck} {N : List Str} {C : Calls} {k : Nat} {X : Cx} {sc : Scope} {fnb : Str → Bool} {Wx : WX} {H0 : Hp}

/-- the value of a part, then more -/
theorem tR.then {α β γ δ : Type} {R : Wd → Hp → α → β → Prop} {R2 : Wd → Hp → γ → δ → Prop} {f : En → Sh → Res α} {r : Res α} {kk : α → Sh → Res γ} {W : Wd} {E : En} {S : Sh} {σ : L2.St} {H : Hp} {Qr : δ → Hp → Prop} {P : β → Hp → Prop}
    (sr : SRel T W S H) (fr : FRel T H0 W E σ H) (hr : f E S = r) (h : Resp T R2 (wxs Wx σ) W H Qr (r.bind kk))
    (hk : ∀ b H1 a S1 W1, r = .ok a S1 → Stp W H W1 H1 → SRel T W1 S1 H1 → FRel T H0 W1 E σ H1 → R W1 H1 a b → Resp T R2 (wxs Wx σ) W1 H1 Qr (kk a S1) → P b H1) : tR T H0 Wx R f σ H P := by
  subst hr
  exact ⟨W, E, S, sr, fr, (h.seq).imp fun b H1 ⟨a, S1, W1, e, st, sr1, ra, h1⟩ => hk b H1 a S1 W1 e st sr1 (fr.stp st) ra h1⟩
theorem tD.then {γ δ : Type} {R2 : Wd → Hp → γ → δ → Prop} {i : IE} {kk : D → Sh → Res γ} {W : Wd} {E : En} {S : Sh} {σ : L2.St} {H : Hp} {Qr : δ → Hp → Prop} {P : V → Hp → Prop}
    (sr : SRel T W S H) (fr : FRel T H0 W E σ H) (h : Resp T R2 (wxs Wx σ) W H Qr ((ev C i E S).bind kk))
    (hk : ∀ v H1 d S1 W1, Stp W H W1 H1 → SRel T W1 S1 H1 → FRel T H0 W1 E σ H1 → Rep T W1 d v → Resp T R2 (wxs Wx σ) W1 H1 Qr (kk d S1) → P v H1) : tD T H0 Wx (ev C i) σ H P :=
  tR.then sr fr rfl h fun b H1 a S1 W1 _ => hk b H1 a S1 W1
theorem tA.then {γ δ : Type} {R2 : Wd → Hp → γ → δ → Prop} {i : IE} {kk : D → Sh → Res γ} {W : Wd} {E : En} {S : Sh} {σ : L2.St} {H : Hp} {Qr : δ → Hp → Prop} {P : V → Hp → Prop}
    (sr : SRel T W S H) (fr : FRel T H0 W E σ H) (h : Resp T R2 (wxs Wx σ) W H Qr ((brw i E S (ev C i E S)).bind kk))
    (hk : ∀ v H1 d S1 W1, Stp W H W1 H1 → SRel T W1 S1 H1 → FRel T H0 W1 E σ H1 → RA T W1 H1 d v → Resp T R2 (wxs Wx σ) W1 H1 Qr (kk d S1) → P v H1) : tA T H0 Wx (fun E S => brw i E S (ev C i E S)) σ H P :=
  tR.then sr fr rfl h fun b H1 a S1 W1 _ => hk b H1 a S1 W1

theorem Res.bind_assoc {α β γ : Type} (r : Res α) (f : α → Sh → Res β) (g : β → Sh → Res γ) : (r.bind f).bind g = r.bind fun a S => (f a S).bind g := by cases r <;> rfl
/-! ### argument lists -/
theorem pa_nilD : PA X [] (tDs T H0 Wx (evs C .nil)) := PA.imp pa_nil fun σ H Qr ⟨W, E, S, sr, fr, h⟩ => h.at sr .nil
theorem pa_consD {a : IE} {es : IEs} {x : PySem.Expr} {xs : List PySem.Expr} (hs : nst x = true) (ha : PE X x (tD T H0 Wx (ev C a))) (hr : PA X xs (tDs T H0 Wx (evs C es))) : PA X (x :: xs) (tDs T H0 Wx (evs C (.cons a es))) :=
  PA.imp (pa_cons' hs ha hr) fun σ H Qr ⟨W, E, S, sr, fr, h⟩ => by
    have h : Resp T (RDs T) (wxs Wx σ) W H Qr ((ev C a E S).bind fun x S => (evs C es E S).bind fun xs S => .ok (x :: xs) S) := h
    refine tD.then sr fr h fun v H1 d S1 W1 st1 sr1 fr1 r1 h1 => ?_
    refine tR.then sr1 fr1 rfl h1 fun vs H2 ds S2 W2 _ st2 sr2 fr2 r2 h2 => ?_
    exact h2.at sr2 (.cons (r1.mono st2.le) r2)
theorem pa_nilA : PA X [] (tAs T H0 Wx (evAs C .nil)) := PA.imp pa_nil fun σ H Qr ⟨W, E, S, sr, fr, h⟩ => h.at sr .nil
theorem pa_consA {a : IE} {es : IEs} {x : PySem.Expr} {xs : List PySem.Expr} (hs : nst x = true) (ha : PE X x (tA T H0 Wx fun E S => brw a E S (ev C a E S))) (hr : PA X xs (tAs T H0 Wx (evAs C es))) : PA X (x :: xs) (tAs T H0 Wx (evAs C (.cons a es))) :=
  PA.imp (pa_cons' hs ha hr) fun σ H Qr ⟨W, E, S, sr, fr, h⟩ => by
    have h : Resp T (RAs T) (wxs Wx σ) W H Qr ((brw a E S (ev C a E S)).bind fun x S => (evAs C es E S).bind fun xs S => .ok (x :: xs) S) := h
    refine tA.then sr fr h fun v H1 d S1 W1 st1 sr1 fr1 r1 h1 => ?_
    refine tR.then sr1 fr1 rfl h1 fun vs H2 ds S2 W2 _ st2 sr2 fr2 r2 h2 => ?_
    exact h2.at sr2 (.cons (RA.stp sr1 st2 r1) r2)

/-! ### displays -/
theorem s_tup {es : IEs} {xs : List PySem.Expr} {x1 : Nat} {p : Pos} (ha : PA X xs (tDs T H0 Wx (evs C es))) : PE X (.Tuple xs x1 p) (tD T H0 Wx (ev C (.tup es))) :=
  PE.imp (pe_tup ha) fun σ H Qr ⟨W, E, S, sr, fr, h⟩ => by
    have h : Resp T (RD T) (wxs Wx σ) W H Qr ((evs C es E S).bind fun ds S => if ds.length ≤ LIM then .ok (.tup ds) S else .bad) := h
    refine tR.then sr fr rfl h fun vs H1 ds S1 W1 _ st1 sr1 fr1 r1 h1 => ?_
    split at h1
    · rename_i c
      refine ⟨by rw [← r1.length]; have := sl64; unfold LIM at c; omega, fun q hq => ?_⟩
      obtain ⟨a1, a2, a3⟩ := newTup sr1 r1 hq
      exact h1 _ _ _ a1 a2 a3
    · exact h1.nobad
/-- a new list, that belongs to whoever made it -/
def PL (X : Cx) (T : Tb) (H0 : Hp) (Wx : WX) (x : PySem.Expr) (f : En → Sh → Res (List D)) : Prop :=
  PE X x fun σ H Qr => ∃ W E S, SRel T W S H ∧ FRel T H0 W E σ H ∧ Resp T (RL T H) (wxs Wx σ) W H Qr (f E S)
theorem RL.own {T : Tb} {Hs : Hp} {W : Wd} {S : Sh} {H : Hp} {xs : List D} {vs : List V} {p : Addr} (sr : SRel T W S H) (r : Reps T W xs vs) (hp : H p = none) (hs : Hs p = none) :
    Stp W H W (upd H p (.lst vs)) ∧ SRel T W S (upd H p (.lst vs)) ∧ RL T Hs W (upd H p (.lst vs)) xs (.ref p) := by
  obtain ⟨h1, h2⟩ := sr.fresh (o := .lst vs) hp
  exact ⟨h2, h1, p, vs, rfl, upd_same, r, sr.nonG hp, sr.nonM hp, hs⟩
/-- what was new ahead is new -/
theorem Stp.back {W W' : Wd} {S : Sh} {H H' : Hp} {T : Tb} (sr : SRel T W S H) (st : Stp W H W' H') {p : Addr} (h : H' p = none) : H p = none := by
  cases q : H p with
  | none => rfl
  | some o =>
    by_cases hm : p ∈ W.m
    · exact absurd h (st.there p hm)
    · rw [st.keep p o q hm] at h; cases h
theorem l_disp {es : IEs} {xs : List PySem.Expr} {p : Pos} (ha : PA X xs (tDs T H0 Wx (evs C es))) : PL X T H0 Wx (.List xs p) (evL C (.disp es)) :=
  PE.imp (pe_lst ha) fun σ H Qr ⟨W, E, S, sr, fr, h⟩ => by
    have h : Resp T (RL T H) (wxs Wx σ) W H Qr ((evs C es E S).bind fun ds S => if ds.length ≤ LIM then .ok ds S else .bad) := h
    refine tR.then sr fr rfl h fun vs H1 ds S1 W1 _ st1 sr1 fr1 r1 h1 => ?_
    split at h1
    · rename_i c
      refine ⟨by rw [← r1.length]; have := sl64; unfold LIM at c; omega, fun q hq => ?_⟩
      obtain ⟨a1, a2, a3⟩ := RL.own sr1 r1 hq (st1.back sr hq)
      exact h1 _ _ _ a1 a2 a3
    · exact h1.nobad
/-- a list of one's own becomes known, over the heap ahead in which it was not -/
theorem Stp.know {W W1 : Wd} {S1 : Sh} {H H1 : Hp} {T : Tb} {a : Addr} {o : HO} (st : Stp W H W1 H1) (sr1 : SRel T W1 S1 H1) (e1 : H1 a = some o) (e3 : W1.G a = none) (e4 : a ∉ W1.m) (e5 : H a = none) : Stp W H (W1.add a o) H1 := by
  have le := Wd.le_add (o := o) e3
  refine ⟨st.le.trans le, st.keep, fun b u q => ?_, st.newM, st.there⟩
  by_cases hb : b = a
  · subst hb; exact .inr (.inl e5)
  · have q' : upd W1.G a o b = some u := q
    rw [upd_ne hb] at q'
    exact st.newG b u q'
/-- a new list, never changed -/
theorem s_l {le : LE} {x : PySem.Expr} (h : PL X T H0 Wx x (evL C le)) : PE X x (tD T H0 Wx (ev C (.l le))) :=
  PE.imp h fun σ H Qr ⟨W, E, S, sr, fr, z⟩ => by
    have z : Resp T (RD T) (wxs Wx σ) W H Qr ((evL C le E S).bind fun ds S => .ok (.lst ds) S) := z
    refine ⟨W, E, S, sr, fr, ?_⟩
    cases q : evL C le E S with
    | ok ds S1 =>
      rw [q] at z
      intro W1 H1 v st1 sr1 r1
      obtain ⟨a, vs, rfl, e1, e2, e3, e4, e5⟩ := r1
      exact z (W1.add a (.lst vs)) H1 (.ref a) (st1.know sr1 e1 e3 e4 e5) (sr1.freeze e1 e3 e4) (.lst (show upd W1.G a _ a = _ from upd_same) (e2.mono (Wd.le_add e3)))
    | ex a b => rw [q] at z; exact z
    | bad => rw [q] at z; exact z
/-- a new shared list -/
theorem s_sh {le : LE} {x : PySem.Expr} (h : PL X T H0 Wx x (evL C le)) : PE X x (tD T H0 Wx (ev C (.sh le))) :=
  PE.imp h fun σ H Qr ⟨W, E, S, sr, fr, z⟩ => by
    have z : Resp T (RD T) (wxs Wx σ) W H Qr ((evL C le E S).bind fun ds S => .ok (.ref S.length) (S ++ [.lst ds])) := z
    refine ⟨W, E, S, sr, fr, ?_⟩
    cases q : evL C le E S with
    | ok ds S1 =>
      rw [q] at z
      intro W1 H1 v st1 sr1 r1
      obtain ⟨a, vs, rfl, e1, e2, e3, e4, e5⟩ := r1
      obtain ⟨f1, f2⟩ := sr1.share (ob := .lst ds) ⟨vs, e1, e2⟩ e3 e4
      refine z _ H1 (.ref a) ⟨st1.le.trans f2, st1.keep, st1.newG, fun b hb => ?_, st1.there⟩ f1 (.ref ?_)
      · have hb' : b ∈ W1.m ++ [a] := hb
        rcases List.mem_append.mp hb' with c | c
        · exact st1.newM b c
        · simp at c; subst c; exact .inr e5
      · show (W1.m ++ [a])[S1.length]? = some a
        rw [← sr1.len]; simp
    | ex a b => rw [q] at z; exact z
    | bad => rw [q] at z; exact z

/-! ### operators -/
theorem op_bin (g : Gd T Q N C k X sc fnb Wx) (o : BinO) : OpR X (binaryOp (opOf o)) (fun x y H Qr => ∃ W S dx dy z, SRel T W S H ∧ View T W H dx x ∧ View T W H dy y ∧ binD o dx dy = some z ∧ ∀ W' H' v, Stp W H W' H' → SRel T W' S H' → Rep T W' z v → Qr v H') := by
  intro pins s σ H x y v u Qr I rx ry ⟨W, S, dx, dy, z, sr, h1, h2, e, hq⟩
  exact bin_ok I sr e h1 h2 rx ry hq
theorem s_bin (g : Gd T Q N C k X sc fnb Wx) {o : BinO} {a b : IE} {l r : PySem.Expr} {p : Pos} (ha : PE X l (tA T H0 Wx fun E S => brw a E S (ev C a E S))) (hb : PE X r (tA T H0 Wx fun E S => brw b E S (ev C b E S))) :
    PE X (.BinOp l (opOf o) r p) (tD T H0 Wx (ev C (.bin o a b))) :=
  PE.imp (pe_op (op_bin g o) ha hb) fun σ H Qr ⟨W, E, S, sr, fr, h⟩ => by
    have h : Resp T (RD T) (wxs Wx σ) W H Qr ((brw a E S (ev C a E S)).bind fun x S => (brw b E S (ev C b E S)).bind fun y S => lift (binD o (drf S x) (drf S y)) S) := h
    refine tA.then sr fr h fun v H1 d S1 W1 st1 sr1 fr1 r1 h1 => ?_
    refine tA.then sr1 fr1 h1 fun u H2 d2 S2 W2 st2 sr2 fr2 r2 h2 => ?_
    obtain ⟨z, e, h2⟩ := h2.lift1
    exact ⟨W2, S2, _, _, z, sr2, (RA.stp sr1 st2 r1).view sr2, r2.view sr2, e, fun W' H' v' s1 s2 s3 => h2 W' H' v' s1 s2 s3⟩
theorem op_cmp (g : Gd T Q N C k X sc fnb Wx) (o : CmpO) : OpR X (compareOp (cmOf o)) (fun x y H Qr => ∃ W S dx dy b, SRel T W S H ∧ View T W H dx x ∧ View T W H dy y ∧ cmpD o dx dy = some b ∧ Qr (.bl b) H) := by
  intro pins s σ H x y v u Qr I rx ry ⟨W, S, dx, dy, b, sr, h1, h2, e, hq⟩
  exact cmp_ok I g.st.tw g.units sr e h1 h2 rx ry hq
theorem s_cmp (g : Gd T Q N C k X sc fnb Wx) {o : CmpO} {a b : IE} {l r : PySem.Expr} {p : Pos} (hm : plainX r = true) (ha : PE X l (tA T H0 Wx fun E S => brw a E S (ev C a E S))) (hb : PE X r (tA T H0 Wx fun E S => brw b E S (ev C b E S))) :
    PE X (.Compare l [cmOf o] [r] p) (tD T H0 Wx (ev C (.cmp o a b))) :=
  PE.imp (pe_cmpR (op_cmp g o) ha hb (plain_mark _ hm)) fun σ H Qr ⟨W, E, S, sr, fr, h⟩ => by
    have h : Resp T (RD T) (wxs Wx σ) W H Qr ((brw a E S (ev C a E S)).bind fun x S => (brw b E S (ev C b E S)).bind fun y S => (lift (cmpD o (drf S x) (drf S y)) S).bind fun b S => .ok (.bl b) S) := h
    refine tA.then sr fr h fun v H1 d S1 W1 st1 sr1 fr1 r1 h1 => ?_
    refine tA.then sr1 fr1 h1 fun u H2 d2 S2 W2 st2 sr2 fr2 r2 h2 => ?_
    obtain ⟨z, e, h2⟩ := h2.lift
    exact ⟨W2, S2, _, _, z, sr2, (RA.stp sr1 st2 r1).view sr2, r2.view sr2, e, h2.at sr2 (.bl z)⟩
/-- the same as a test -/
theorem t_cmp (g : Gd T Q N C k X sc fnb Wx) {o : CmpO} {a b : IE} {l r : PySem.Expr} {p : Pos} (hm : plainX r = true) (ha : PE X l (tA T H0 Wx fun E S => brw a E S (ev C a E S))) (hb : PE X r (tA T H0 Wx fun E S => brw b E S (ev C b E S))) :
    PT X (.Compare l [cmOf o] [r] p) (tT T H0 Wx fun E S => tst (.cmp o a b) E S (ev C (.cmp o a b) E S)) :=
  PT.imp (pt_cmpR (op_cmp g o) ha hb (plain_mark _ hm)) fun σ H Qr ⟨W, E, S, sr, fr, h⟩ => by
    have h : Resp T (fun _ _ a b => a = b) (wxs Wx σ) W H Qr (((brw a E S (ev C a E S)).bind fun x S => (brw b E S (ev C b E S)).bind fun y S => (lift (cmpD o (drf S x) (drf S y)) S).bind fun b S => .ok (.bl b) S).bind fun x S => lift (truD (drf S x)) S) := h
    rw [Res.bind_assoc] at h
    refine tA.then sr fr h fun v H1 d S1 W1 st1 sr1 fr1 r1 h1 => ?_
    rw [Res.bind_assoc] at h1
    refine tA.then sr1 fr1 h1 fun u H2 d2 S2 W2 st2 sr2 fr2 r2 h2 => ?_
    rw [Res.bind_assoc] at h2
    obtain ⟨z, e, h2⟩ := h2.lift
    exact ⟨W2, S2, _, _, z, sr2, (RA.stp sr1 st2 r1).view sr2, r2.view sr2, e, z, rfl, (show Resp T (fun _ _ a b => a = b) (wxs Wx σ) W2 H2 Qr (.ok z S2) from h2).at sr2 rfl⟩

/-! ### truth -/
theorem tst_bind {i : IE} {E : En} {S : Sh} {r : Res D} (h : ∀ j, i ≠ .v j) : tst i E S r = r.bind fun x S => lift (truD (drf S x)) S := by
  unfold tst
  cases i <;> first | rfl | exact absurd rfl (h _)
/-- a value's truth -/
theorem t_val {i : IE} {e : PySem.Expr} (hv : valX e = true) (ha : PE X e (tA T H0 Wx fun E S => brw i E S (ev C i E S))) : PT X e (tT T H0 Wx fun E S => tst i E S (ev C i E S)) :=
  PT.imp (pt_truth ha (val_true hv)) fun σ H Qr ⟨W, E, S, sr, fr, h⟩ => by
    have h : Resp T (fun _ _ a b => a = b) (wxs Wx σ) W H Qr ((brw i E S (ev C i E S)).bind fun x S => lift (truD (drf S x)) S) := h
    refine tA.then sr fr h fun v H1 d S1 W1 st1 sr1 fr1 r1 h1 => ?_
    obtain ⟨b, e, h1⟩ := h1.lift1
    exact ⟨b, tru_V sr1 e (r1.view sr1), h1.at sr1 rfl⟩
abbrev TTe (T : Tb) (H0 : Hp) (Wx : WX) (C : Calls) (i : IE) : TT := tT T H0 Wx fun E S => tst i E S (ev C i E S)
abbrev TAe (T : Tb) (H0 : Hp) (Wx : WX) (C : Calls) (i : IE) : TE := tA T H0 Wx fun E S => brw i E S (ev C i E S)
abbrev TDe (T : Tb) (H0 : Hp) (Wx : WX) (C : Calls) (i : IE) : TE := tD T H0 Wx (ev C i)
abbrev EqB : Wd → Hp → Bool → Bool → Prop := fun _ _ a b => a = b
theorem s_not {a : IE} {x : PySem.Expr} {p : Pos} (ha : PE X x (TAe T H0 Wx C a)) : PE X (.UnaryOp .Not x p) (TDe T H0 Wx C (.not a)) :=
  PE.imp (pe_notT ha) fun σ H Qr ⟨W, E, S, sr, fr, h⟩ => by
    have h : Resp T (RD T) (wxs Wx σ) W H Qr (((brw a E S (ev C a E S)).bind fun x S => lift (truD (drf S x)) S).bind fun t S => .ok (.bl (!t)) S) := h
    rw [Res.bind_assoc] at h
    refine tA.then sr fr h fun v H1 d S1 W1 st1 sr1 fr1 r1 h1 => ?_
    obtain ⟨b, e, h1⟩ := h1.lift
    exact ⟨b, tru_V sr1 e (r1.view sr1), h1.at sr1 (.bl _)⟩
theorem t_not {a : IE} {x : PySem.Expr} {p : Pos} (ha : PT X x (TTe T H0 Wx C a)) : PT X (.UnaryOp .Not x p) (TTe T H0 Wx C (.not a)) :=
  PT.imp (pt_not ha) fun σ H Qr ⟨W, E, S, sr, fr, h⟩ => by
    have h : Resp T EqB (wxs Wx σ) W H Qr (((tst a E S (ev C a E S)).bind fun t S => .ok (.bl (!t)) S).bind fun x S => lift (truD (drf S x)) S) := h
    rw [Res.bind_assoc] at h
    refine tR.then sr fr rfl h fun b H1 t S1 W1 _ st1 sr1 fr1 r1 h1 => ?_
    subst r1
    exact (show Resp T EqB (wxs Wx σ) W1 H1 Qr (.ok (!t) S1) from h1).at sr1 rfl
theorem slotA_of {E : En} {j : Nat} {d : D} (h : slotV E j = some d) : slotA E j = some d := by
  unfold slotV at h
  unfold slotA
  split at h
  · rename_i z; cases h; rw [z]
  · cases h
theorem brw_of {i : IE} {E : En} {S : Sh} {r : Res D} (e : ev C i E S = r) (nb : r ≠ .bad) : brw i E S (ev C i E S) = r := by
  cases i with
  | v j =>
    unfold ev at e
    show lift (slotA E j) S = r
    cases q : slotV E j with
    | none => rw [q] at e; exact absurd e.symm nb
    | some x => rw [q] at e; rw [slotA_of q]; exact e
  | _ => exact e
theorem Resp.of_bad {α γ δ : Type} {R2 : Wd → Hp → γ → δ → Prop} {W : Wd} {H : Hp} {Wh : WXh} {Qr : δ → Hp → Prop} {kk : α → Sh → Res γ} {r : Res α} (h : Resp T R2 Wh W H Qr (r.bind kk)) : r ≠ .bad := fun e => by
  subst e; exact h
/-- the truth of what is left of a chain of and -/
theorem bind_tst {i : IE} {E : En} {S : Sh} {W : Wd} {H : Hp} {Wh : WXh} {Qr : Bool → Hp → Prop} (h : Resp T EqB Wh W H Qr ((ev C i E S).bind fun x S => lift (truD (drf S x)) S)) : Resp T EqB Wh W H Qr (tst i E S (ev C i E S)) := by
  unfold tst
  rw [brw_of rfl h.of_bad]
  exact h
theorem bind_and {a b : IE} {E : En} {S : Sh} {W : Wd} {σ : L2.St} {H : Hp} {Qr : Bool → Hp → Prop} (h : Resp T EqB (wxs Wx σ) W H Qr (tst (.and a b) E S (ev C (.and a b) E S))) :
    Resp T EqB (wxs Wx σ) W H Qr ((tst a E S (ev C a E S)).bind fun t S => if t = true then tst b E S (ev C b E S) else .ok false S) := by
  have h1 : Resp T EqB (wxs Wx σ) W H Qr (((ev C a E S).bind fun x S => match truD (drf S x) with
    | some true => ev C b E S
    | some false => .ok x S
    | none => .bad).bind fun x S => lift (truD (drf S x)) S) := h
  clear h
  rw [Res.bind_assoc] at h1
  have nb := h1.of_bad
  unfold tst
  rw [Res.bind_assoc, brw_of rfl nb]
  revert h1
  cases ev C a E S with
  | ok d S1 =>
    intro h1
    have h2 : Resp T EqB (wxs Wx σ) W H Qr ((match truD (drf S1 d) with
      | some true => ev C b E S1
      | some false => .ok d S1
      | none => .bad).bind fun x S => lift (truD (drf S x)) S) := h1
    clear h1
    show Resp T EqB (wxs Wx σ) W H Qr ((lift (truD (drf S1 d)) S1).bind _)
    cases z : truD (drf S1 d) with
    | none => rw [z] at h2; exact h2
    | some t =>
      rw [z] at h2
      cases t with
      | true => exact bind_tst h2
      | false =>
        have h3 : Resp T EqB (wxs Wx σ) W H Qr (lift (truD (drf S1 d)) S1) := h2
        rw [z] at h3
        exact h3
  | ex x S1 => intro h1; exact h1
  | bad => intro h1; exact h1
theorem bind_or {a b : IE} {E : En} {S : Sh} {W : Wd} {σ : L2.St} {H : Hp} {Qr : Bool → Hp → Prop} (h : Resp T EqB (wxs Wx σ) W H Qr (tst (.or a b) E S (ev C (.or a b) E S))) :
    Resp T EqB (wxs Wx σ) W H Qr ((tst a E S (ev C a E S)).bind fun t S => if t = true then .ok true S else tst b E S (ev C b E S)) := by
  have h1 : Resp T EqB (wxs Wx σ) W H Qr (((ev C a E S).bind fun x S => match truD (drf S x) with
    | some true => .ok x S
    | some false => ev C b E S
    | none => .bad).bind fun x S => lift (truD (drf S x)) S) := h
  clear h
  rw [Res.bind_assoc] at h1
  have nb := h1.of_bad
  unfold tst
  rw [Res.bind_assoc, brw_of rfl nb]
  revert h1
  cases ev C a E S with
  | ok d S1 =>
    intro h1
    have h2 : Resp T EqB (wxs Wx σ) W H Qr ((match truD (drf S1 d) with
      | some true => (Res.ok d S1 : Res D)
      | some false => ev C b E S1
      | none => .bad).bind fun x S => lift (truD (drf S x)) S) := h1
    clear h1
    show Resp T EqB (wxs Wx σ) W H Qr ((lift (truD (drf S1 d)) S1).bind _)
    cases z : truD (drf S1 d) with
    | none => rw [z] at h2; exact h2
    | some t =>
      rw [z] at h2
      cases t with
      | false => exact bind_tst h2
      | true =>
        have h3 : Resp T EqB (wxs Wx σ) W H Qr (lift (truD (drf S1 d)) S1) := h2
        rw [z] at h3
        exact h3
  | ex x S1 => intro h1; exact h1
  | bad => intro h1; exact h1
theorem w_and {a b : IE} {x y : PySem.Expr} {r : List PySem.Expr} {p : Pos} (ha : PT X x (TTe T H0 Wx C a)) (hb : PW X (.BoolOp .And (y :: r) p) (TTe T H0 Wx C b)) : PW X (.BoolOp .And (x :: y :: r) p) (TTe T H0 Wx C (.and a b)) :=
  PW.imp (pw_and ha hb) fun σ H Qr ⟨W, E, S, sr, fr, h⟩ => by
    refine tR.then sr fr rfl (bind_and h) fun t H1 t' S1 W1 _ st1 sr1 fr1 r1 h1 => ?_
    subst r1
    cases t' with
    | true => exact ⟨W1, E, S1, sr1, fr1, h1⟩
    | false => exact (show Resp T EqB (wxs Wx σ) W1 H1 Qr (.ok false S1) from h1).at sr1 rfl
theorem w_or {a b : IE} {x y : PySem.Expr} {r : List PySem.Expr} {p : Pos} (ha : PT X x (TTe T H0 Wx C a)) (hb : PW X (.BoolOp .Or (y :: r) p) (TTe T H0 Wx C b)) : PW X (.BoolOp .Or (x :: y :: r) p) (TTe T H0 Wx C (.or a b)) :=
  PW.imp (pw_or ha hb) fun σ H Qr ⟨W, E, S, sr, fr, h⟩ => by
    refine tR.then sr fr rfl (bind_or h) fun t H1 t' S1 W1 _ st1 sr1 fr1 r1 h1 => ?_
    subst r1
    cases t' with
    | false => exact ⟨W1, E, S1, sr1, fr1, h1⟩
    | true => exact (show Resp T EqB (wxs Wx σ) W1 H1 Qr (.ok true S1) from h1).at sr1 rfl
theorem s_and {a b : IE} {x : PySem.Expr} {y : PySem.Expr} {r : List PySem.Expr} {p : Pos} (ha : PE X x (TDe T H0 Wx C a)) (hb : PE X (.BoolOp .And (y :: r) p) (TDe T H0 Wx C b)) : PE X (.BoolOp .And (x :: y :: r) p) (TDe T H0 Wx C (.and a b)) :=
  PE.imp (pe_andT ha hb) fun σ H Qr ⟨W, E, S, sr, fr, h⟩ => by
    refine tD.then sr fr (show Resp T (RD T) (wxs Wx σ) W H Qr ((ev C a E S).bind fun x S => match truD (drf S x) with
      | some true => ev C b E S
      | some false => .ok x S
      | none => .bad) from h) fun v H1 d S1 W1 st1 sr1 fr1 r1 h1 => ?_
    cases z : truD (drf S1 d) with
    | none => rw [z] at h1; exact h1.nobad
    | some t =>
      rw [z] at h1
      refine ⟨t, tru_V sr1 z (r1.view sr1), ?_⟩
      cases t with
      | true => exact ⟨W1, E, S1, sr1, fr1, h1⟩
      | false => exact (show Resp T (RD T) (wxs Wx σ) W1 H1 Qr (.ok d S1) from h1).at sr1 r1
theorem s_or {a b : IE} {x : PySem.Expr} {y : PySem.Expr} {r : List PySem.Expr} {p : Pos} (ha : PE X x (TDe T H0 Wx C a)) (hb : PE X (.BoolOp .Or (y :: r) p) (TDe T H0 Wx C b)) : PE X (.BoolOp .Or (x :: y :: r) p) (TDe T H0 Wx C (.or a b)) :=
  PE.imp (pe_orT ha hb) fun σ H Qr ⟨W, E, S, sr, fr, h⟩ => by
    refine tD.then sr fr (show Resp T (RD T) (wxs Wx σ) W H Qr ((ev C a E S).bind fun x S => match truD (drf S x) with
      | some true => .ok x S
      | some false => ev C b E S
      | none => .bad) from h) fun v H1 d S1 W1 st1 sr1 fr1 r1 h1 => ?_
    cases z : truD (drf S1 d) with
    | none => rw [z] at h1; exact h1.nobad
    | some t =>
      rw [z] at h1
      refine ⟨t, tru_V sr1 z (r1.view sr1), ?_⟩
      cases t with
      | false => exact ⟨W1, E, S1, sr1, fr1, h1⟩
      | true => exact (show Resp T (RD T) (wxs Wx σ) W1 H1 Qr (.ok d S1) from h1).at sr1 r1
theorem s_ife {t a b : IE} {x y z : PySem.Expr} {p : Pos} (ht : PT X x (TTe T H0 Wx C t)) (ha : PE X y (TDe T H0 Wx C a)) (hb : PE X z (TDe T H0 Wx C b)) : PE X (.IfExp x y z p) (TDe T H0 Wx C (.ife t a b)) :=
  PE.imp (pe_ifExp ht ha hb) fun σ H Qr ⟨W, E, S, sr, fr, h⟩ => by
    refine tR.then sr fr rfl (show Resp T (RD T) (wxs Wx σ) W H Qr ((tst t E S (ev C t E S)).bind fun t S => match t with
      | true => ev C a E S
      | false => ev C b E S) from h) fun v H1 d S1 W1 _ st1 sr1 fr1 r1 h1 => ?_
    subst r1
    cases d with
    | true => exact ⟨W1, E, S1, sr1, fr1, h1⟩
    | false => exact ⟨W1, E, S1, sr1, fr1, h1⟩
end
end Qv
set_option Elab.async false
set_option linter.all false
set_option maxRecDepth 100000
set_option maxHeartbeats 4000000
/-! The constructs of expressions: the rest. -/
namespace Qv
open PySem PySem.Spec PyProof.Rows L2
section
variable {T : Tb} {Q : Ck} {N : List Str} {C : Calls} {k : Nat} {X : Cx} {sc : Scope} {fnb : Str → Bool} {Wx : WX} {H0 : Hp}

theorem s_neg {a : IE} {x : PySem.Expr} {p : Pos} (ha : PE X x (TDe T H0 Wx C a)) : PE X (.UnaryOp .USub x p) (TDe T H0 Wx C (.neg a)) :=
  PE.imp (pe_un un_neg ha) fun σ H Qr ⟨W, E, S, sr, fr, h⟩ => by
    refine tD.then sr fr (show Resp T (RD T) (wxs Wx σ) W H Qr ((ev C a E S).bind fun x S => match x with
      | .int i => .ok (.int (-i)) S
      | _ => .bad) from h) fun v H1 d S1 W1 st1 sr1 fr1 r1 h1 => ?_
    cases d with
    | int i =>
      cases r1
      exact ⟨i, rfl, (show Resp T (RD T) (wxs Wx σ) W1 H1 Qr (.ok (.int (-i)) S1) from h1).at sr1 (.int _)⟩
    | _ => exact h1.nobad
theorem s_isn {a : IE} {x : PySem.Expr} {j : Nat} {p p' : Pos} (ha : PE X x (TDe T H0 Wx C a)) : PE X (.Compare x [.Is] [.Constant .none j p'] p) (TDe T H0 Wx C (.isn a)) :=
  PE.imp (pe_cmp (pc_isN ha)) fun σ H Qr ⟨W, E, S, sr, fr, h⟩ => by
    refine tD.then sr fr (show Resp T (RD T) (wxs Wx σ) W H Qr ((ev C a E S).bind fun x S => match x with
      | .non => .ok (.bl true) S
      | _ => .ok (.bl false) S) from h) fun v H1 d S1 W1 st1 sr1 fr1 r1 h1 => ?_
    cases r1 with
    | non => exact (show Resp T (RD T) (wxs Wx σ) W1 H1 Qr (.ok (.bl true) S1) from h1).at sr1 (.bl _)
    | _ => exact (show Resp T (RD T) (wxs Wx σ) W1 H1 Qr (.ok (.bl false) S1) from h1).at sr1 (.bl _)
theorem s_nnn {a : IE} {x : PySem.Expr} {j : Nat} {p p' : Pos} (ha : PE X x (TDe T H0 Wx C a)) : PE X (.Compare x [.IsNot] [.Constant .none j p'] p) (TDe T H0 Wx C (.nnn a)) :=
  PE.imp (pe_cmp (pc_notN ha)) fun σ H Qr ⟨W, E, S, sr, fr, h⟩ => by
    refine tD.then sr fr (show Resp T (RD T) (wxs Wx σ) W H Qr ((ev C a E S).bind fun x S => match x with
      | .non => .ok (.bl false) S
      | _ => .ok (.bl true) S) from h) fun v H1 d S1 W1 st1 sr1 fr1 r1 h1 => ?_
    cases r1 with
    | non => exact (show Resp T (RD T) (wxs Wx σ) W1 H1 Qr (.ok (.bl false) S1) from h1).at sr1 (.bl _)
    | _ => exact (show Resp T (RD T) (wxs Wx σ) W1 H1 Qr (.ok (.bl true) S1) from h1).at sr1 (.bl _)
/-- these two, as tests -/
theorem t_isn {a : IE} {x : PySem.Expr} {j : Nat} {p p' : Pos} (ha : PE X x (TDe T H0 Wx C a)) : PT X (.Compare x [.Is] [.Constant .none j p'] p) (TTe T H0 Wx C (.isn a)) :=
  PT.imp (pt_cmp (pc_isN ha)) fun σ H Qr ⟨W, E, S, sr, fr, h⟩ => by
    have h : Resp T EqB (wxs Wx σ) W H Qr (((ev C a E S).bind fun x S => match x with
      | .non => .ok (.bl true) S
      | _ => .ok (.bl false) S).bind fun x S => lift (truD (drf S x)) S) := h
    rw [Res.bind_assoc] at h
    refine tD.then sr fr h fun v H1 d S1 W1 st1 sr1 fr1 r1 h1 => ?_
    cases r1 with
    | non => exact ⟨true, rfl, (show Resp T EqB (wxs Wx σ) W1 H1 Qr (.ok true S1) from h1).at sr1 rfl⟩
    | _ => exact ⟨false, rfl, (show Resp T EqB (wxs Wx σ) W1 H1 Qr (.ok false S1) from h1).at sr1 rfl⟩
theorem t_nnn {a : IE} {x : PySem.Expr} {j : Nat} {p p' : Pos} (ha : PE X x (TDe T H0 Wx C a)) : PT X (.Compare x [.IsNot] [.Constant .none j p'] p) (TTe T H0 Wx C (.nnn a)) :=
  PT.imp (pt_cmp (pc_notN ha)) fun σ H Qr ⟨W, E, S, sr, fr, h⟩ => by
    have h : Resp T EqB (wxs Wx σ) W H Qr (((ev C a E S).bind fun x S => match x with
      | .non => .ok (.bl false) S
      | _ => .ok (.bl true) S).bind fun x S => lift (truD (drf S x)) S) := h
    rw [Res.bind_assoc] at h
    refine tD.then sr fr h fun v H1 d S1 W1 st1 sr1 fr1 r1 h1 => ?_
    cases r1 with
    | non => exact ⟨false, rfl, (show Resp T EqB (wxs Wx σ) W1 H1 Qr (.ok false S1) from h1).at sr1 rfl⟩
    | _ => exact ⟨true, rfl, (show Resp T EqB (wxs Wx σ) W1 H1 Qr (.ok true S1) from h1).at sr1 rfl⟩
/-- x <= y < z -/
abbrev rCmp (T : Tb) (o : CmpO) : R2 := fun x y H Qr => ∃ W S dx dy b, SRel T W S H ∧ View T W H dx x ∧ View T W H dy y ∧ cmpD o dx dy = some b ∧ Qr (.bl b) H
theorem chain_ok {o1 o2 : CmpO} {a b c : IE} {W : Wd} {E : En} {S : Sh} {σ : L2.St} {H : Hp} (sr : SRel T W S H) (fr : FRel T H0 W E σ H)
    {γ δ : Type} {R2 : Wd → Hp → γ → δ → Prop} {Qr : δ → Hp → Prop} {P : V → Hp → Prop} {fin : Bool → Sh → Res γ}
    (h : Resp T R2 (wxs Wx σ) W H Qr ((ev C (.cmpc o1 o2 a b c) E S).bind fun d S => match d with
      | D.bl t => fin t S
      | _ => .bad)) (hP : ∀ W' H' S' bb, SRel T W' S' H' → Resp T R2 (wxs Wx σ) W' H' Qr (fin bb S') → P (.bl bb) H') :
    tChain (rCmp T o1) (rCmp T o2) (TDe T H0 Wx C a) (TDe T H0 Wx C b) (TDe T H0 Wx C c) σ H P := by
  have h : Resp T R2 (wxs Wx σ) W H Qr (((ev C a E S).bind fun x S => (ev C b E S).bind fun y S => (lift (cmpD o1 (drf S x) (drf S y)) S).bind fun t S => match t with
    | true => (ev C c E S).bind fun z S => (lift (cmpD o2 (drf S y) (drf S z)) S).bind fun b S => Res.ok (D.bl b) S
    | false => Res.ok (D.bl false) S).bind fun d S => match d with
      | D.bl t => fin t S
      | _ => .bad) := h
  rw [Res.bind_assoc] at h
  refine tD.then sr fr h fun v H1 d S1 W1 st1 sr1 fr1 r1 h1 => ?_
  rw [Res.bind_assoc] at h1
  refine tD.then sr1 fr1 h1 fun u H2 d2 S2 W2 st2 sr2 fr2 r2 h2 => ?_
  rw [Res.bind_assoc] at h2
  obtain ⟨bb, e, h2⟩ := h2.lift
  refine ⟨W2, S2, _, _, bb, sr2, (r1.mono st2.le).view sr2, r2.view sr2, e, bb, rfl, ?_⟩
  cases bb with
  | false => exact hP W2 H2 S2 false sr2 h2
  | true =>
    have h2 : Resp T R2 (wxs Wx σ) W2 H2 Qr (((ev C c E S2).bind fun z S => (lift (cmpD o2 (drf S d2) (drf S z)) S).bind fun b S => Res.ok (D.bl b) S).bind fun d S => match d with
      | D.bl t => fin t S
      | _ => .bad) := h2
    rw [Res.bind_assoc] at h2
    refine tD.then sr2 fr2 h2 fun z H3 d3 S3 W3 st3 sr3 fr3 r3 h3 => ?_
    rw [Res.bind_assoc] at h3
    obtain ⟨b3, e3, h3⟩ := h3.lift
    exact ⟨W3, S3, _, _, b3, sr3, (r2.mono st3.le).view sr3, r3.view sr3, e3, hP W3 H3 S3 b3 sr3 h3⟩
theorem cmpc_bl {o1 o2 : CmpO} {a b c : IE} {E : En} {S S' : Sh} {d : D} (h : ev C (.cmpc o1 o2 a b c) E S = .ok d S') : ∃ t, d = .bl t := by
  have h : ((ev C a E S).bind fun x S => (ev C b E S).bind fun y S => (lift (cmpD o1 (drf S x) (drf S y)) S).bind fun t S => match t with
    | true => (ev C c E S).bind fun z S => (lift (cmpD o2 (drf S y) (drf S z)) S).bind fun b S => .ok (.bl b) S
    | false => .ok (.bl false) S) = .ok d S' := h
  cases q1 : ev C a E S with
  | ok x S1 =>
    rw [q1] at h
    replace h : ((ev C b E S1).bind fun y S => (lift (cmpD o1 (drf S x) (drf S y)) S).bind fun t S => match t with
      | true => (ev C c E S).bind fun z S => (lift (cmpD o2 (drf S y) (drf S z)) S).bind fun b S => .ok (.bl b) S
      | false => .ok (.bl false) S) = .ok d S' := h
    cases q2 : ev C b E S1 with
    | ok y S2 =>
      rw [q2] at h
      replace h : ((lift (cmpD o1 (drf S2 x) (drf S2 y)) S2).bind fun t S => match t with
        | true => (ev C c E S).bind fun z S => (lift (cmpD o2 (drf S y) (drf S z)) S).bind fun b S => .ok (.bl b) S
        | false => .ok (.bl false) S) = .ok d S' := h
      cases q3 : cmpD o1 (drf S2 x) (drf S2 y) with
      | none => rw [q3] at h; cases h
      | some t =>
        rw [q3] at h
        cases t with
        | false => cases (show Res.ok (.bl false) S2 = Res.ok d S' from h); exact ⟨_, rfl⟩
        | true =>
          replace h : ((ev C c E S2).bind fun z S => (lift (cmpD o2 (drf S y) (drf S z)) S).bind fun b S => .ok (.bl b) S) = .ok d S' := h
          cases q4 : ev C c E S2 with
          | ok z S3 =>
            rw [q4] at h
            replace h : ((lift (cmpD o2 (drf S3 y) (drf S3 z)) S3).bind fun b S => .ok (.bl b) S) = .ok d S' := h
            cases q5 : cmpD o2 (drf S3 y) (drf S3 z) with
            | none => rw [q5] at h; cases h
            | some t => rw [q5] at h; cases (show Res.ok (.bl t) S3 = Res.ok d S' from h); exact ⟨_, rfl⟩
          | ex _ _ => rw [q4] at h; cases h
          | bad => rw [q4] at h; cases h
    | ex _ _ => rw [q2] at h; cases h
    | bad => rw [q2] at h; cases h
  | ex _ _ => rw [q1] at h; cases h
  | bad => rw [q1] at h; cases h
theorem s_cmpc (g : Gd T Q N C k X sc fnb Wx) {o1 o2 : CmpO} {a b c : IE} {x y z : PySem.Expr} {p : Pos} (hm : plainX z = true) (ha : PE X x (TDe T H0 Wx C a)) (hb : PE X y (TDe T H0 Wx C b)) (hc : PE X z (TDe T H0 Wx C c)) :
    PE X (.Compare x [cmOf o1, cmOf o2] [y, z] p) (TDe T H0 Wx C (.cmpc o1 o2 a b c)) :=
  PE.imp (pe_chain (op_cmp g o1) (op_cmp g o2) ha hb hc (plain_mark _ hm)) fun σ H Qr ⟨W, E, S, sr, fr, h⟩ => by
    refine chain_ok (R2 := RD T) (Qr := Qr) (fin := fun b S => .ok (.bl b) S) sr fr ?_ fun W' H' S' bb sr' h' => (show Resp T (RD T) (wxs Wx σ) W' H' Qr (.ok (.bl bb) S') from h').at sr' (.bl bb)
    cases q : ev C (.cmpc o1 o2 a b c) E S with
    | ok d S1 => rw [q] at h; obtain ⟨t, rfl⟩ := cmpc_bl q; exact h
    | ex _ _ => rw [q] at h; exact h
    | bad => rw [q] at h; exact h
theorem t_cmpc (g : Gd T Q N C k X sc fnb Wx) {o1 o2 : CmpO} {a b c : IE} {x y z : PySem.Expr} {p : Pos} (hm : plainX z = true) (ha : PE X x (TDe T H0 Wx C a)) (hb : PE X y (TDe T H0 Wx C b)) (hc : PE X z (TDe T H0 Wx C c)) :
    PT X (.Compare x [cmOf o1, cmOf o2] [y, z] p) (TTe T H0 Wx C (.cmpc o1 o2 a b c)) :=
  PT.imp (pt_chain (op_cmp g o1) (op_cmp g o2) ha hb hc (plain_mark _ hm)) fun σ H Qr ⟨W, E, S, sr, fr, h⟩ => by
    refine chain_ok (R2 := EqB) (Qr := Qr) (fin := fun b S => .ok b S) sr fr ?_ fun W' H' S' bb sr' h' => ⟨bb, rfl, (show Resp T EqB (wxs Wx σ) W' H' Qr (.ok bb S') from h').at sr' rfl⟩
    have h : Resp T EqB (wxs Wx σ) W H Qr ((ev C (.cmpc o1 o2 a b c) E S).bind fun x S => lift (truD (drf S x)) S) := h
    cases q : ev C (.cmpc o1 o2 a b c) E S with
    | ok d S1 => rw [q] at h; obtain ⟨t, rfl⟩ := cmpc_bl q; exact h
    | ex _ _ => rw [q] at h; exact h
    | bad => rw [q] at h; exact h

/-! ### subscripts, slices, fields -/
theorem ix_all : IxR X (fun x y H Qr => ∃ W S dx dy z, SRel T W S H ∧ View T W H dx x ∧ Rep T W dy y ∧ ixD dx dy = some z ∧ ∀ v, Rep T W z v → Qr v H) := by
  intro value slice pins s σ H x y v u Qr I rx ry ⟨W, S, dx, dy, z, sr, h1, h2, e, hq⟩ hs
  exact ix_ok I sr e h1 h2 rx ry hs hq
theorem s_ix {a b : IE} {x y : PySem.Expr} {p : Pos} (hp : plainX y = true) (ha : PE X x (TAe T H0 Wx C a)) (hb : PE X y (TDe T H0 Wx C b)) : PE X (.Subscript x y p) (TDe T H0 Wx C (.ix a b)) :=
  PE.imp (pe_ix ix_all ha hb (plain_ix hp)) fun σ H Qr ⟨W, E, S, sr, fr, h⟩ => by
    refine tA.then sr fr (show Resp T (RD T) (wxs Wx σ) W H Qr ((brw a E S (ev C a E S)).bind fun x S => (ev C b E S).bind fun y S => lift (ixD (drf S x) y) S) from h) fun v H1 d S1 W1 st1 sr1 fr1 r1 h1 => ?_
    refine tD.then sr1 fr1 h1 fun u H2 d2 S2 W2 st2 sr2 fr2 r2 h2 => ?_
    obtain ⟨z, e, h2⟩ := h2.lift1
    exact ⟨W2, S2, _, _, z, sr2, (RA.stp sr1 st2 r1).view sr2, r2, e, fun v' r => h2.at sr2 r⟩
/-- a part of a slice -/
def tO (T : Tb) (H0 : Hp) (Wx : WX) (C : Calls) (o : IO) : TO := tR T H0 Wx (fun _ _ (a : Option Int) b => a = b) (evO C o)
theorem o_no : PO X none (tO T H0 Wx C .no) := by
  refine ⟨fun pins s σ H Qr I ⟨W, E, S, sr, fr, h⟩ => ?_⟩
  exact po_none.run pins s σ H Qr I (h.at sr rfl)
theorem o_ye {a : IE} {x : PySem.Expr} (ha : PE X x (TDe T H0 Wx C a)) : PO X (some x) (tO T H0 Wx C (.ye a)) := by
  refine ⟨fun pins s σ H Qr I ⟨W, E, S, sr, fr, h⟩ => ?_⟩
  refine (po_some ha).run pins s σ H Qr I ?_
  refine tD.then sr fr (show Resp T (fun _ _ (a : Option Int) b => a = b) (wxs Wx σ) W H Qr ((ev C a E S).bind fun x S => match x with
    | .int i => .ok (some i) S
    | _ => .bad) from h) fun v H1 d S1 W1 st1 sr1 fr1 r1 h1 => ?_
  cases d with
  | int i =>
    cases r1
    exact ⟨i, rfl, (show Resp T (fun _ _ (a : Option Int) b => a = b) (wxs Wx σ) W1 H1 Qr (.ok (some i) S1) from h1).at sr1 rfl⟩
  | _ => exact h1.nobad
theorem s_sl (g : Gd T Q N C k X sc fnb Wx) {a : IE} {lo hi : IO} {x : PySem.Expr} {l h : Option PySem.Expr} {p p2 : Pos} (ha : PE X x (TAe T H0 Wx C a)) (hl : PO X l (tO T H0 Wx C lo)) (hh : PO X h (tO T H0 Wx C hi)) : PE X (.Subscript x (.Slice l h none p2) p) (TDe T H0 Wx C (.sl a lo hi)) :=
  PE.imp (pe_slice (sl_ok (T := T) g.st.kl) ha hl hh) fun σ H Qr ⟨W, E, S, sr, fr, h⟩ => by
    refine tA.then sr fr (show Resp T (RD T) (wxs Wx σ) W H Qr ((brw a E S (ev C a E S)).bind fun x S => (evO C lo E S).bind fun l S => (evO C hi E S).bind fun h S => lift (slD (drf S x) l h) S) from h) fun v H1 d S1 W1 st1 sr1 fr1 r1 h1 => ?_
    refine tR.then sr1 fr1 rfl h1 fun u H2 d2 S2 W2 _ st2 sr2 fr2 r2 h2 => ?_
    refine tR.then sr2 fr2 rfl h2 fun u3 H3 d3 S3 W3 _ st3 sr3 fr3 r3 h3 => ?_
    subst r2 r3
    obtain ⟨z, e, h3⟩ := h3.lift1
    exact ⟨W3, S3, _, z, sr3, (RA.stp sr1 (st2.trans st3) r1).view sr3, e, fun W' H' v' s1 s2 s3 => h3 W' H' v' s1 s2 s3⟩
theorem s_at (g : Gd T Q N C k X sc fnb Wx) {a : IE} {f : Nat} {x : PySem.Expr} {p : Pos} (hn : nca x = true) (hf : Q.fld f = true) (ha : PE X x (TDe T H0 Wx C a)) : PE X (.Attribute x (Q.nm f) p) (TDe T H0 Wx C (.at a f)) :=
  PE.imp (pe_fld ha (nca_base hn)) fun σ H Qr ⟨W, E, S, sr, fr, h⟩ => by
    refine tD.then sr fr (show Resp T (RD T) (wxs Wx σ) W H Qr ((ev C a E S).bind fun x S => lift (atD S f x) S) from h) fun v H1 d S1 W1 st1 sr1 fr1 r1 h1 => ?_
    obtain ⟨z, e, h2⟩ := h1.lift1
    rw [← g.st.nm]
    unfold atD at e
    split at e
    · cases r1 with
      | ins hc e1 e2 rf =>
        obtain ⟨c1, c2⟩ := g.st.at_ _ f hc hf
        obtain ⟨u, q1, q2⟩ := rf.look g.st.inj e
        exact ⟨_, _, _, _, u, rfl, sr1.sub _ _ e1, c1, c2, q1, Resp.at (R := RD T) h2 sr1 q2⟩
    · split at e
      · rename_i q
        cases r1 with
        | ref e1 =>
          obtain ⟨dx, fv, hc, o1, o2, rf⟩ := sr1.obs _ _ _ e1 q
          obtain ⟨c1, c2⟩ := g.st.at_ _ f hc hf
          obtain ⟨u, q1, q2⟩ := rf.look g.st.inj e
          exact ⟨_, _, _, _, u, rfl, o1, c1, c2, q1, Resp.at (R := RD T) h2 sr1 q2⟩
      · cases e
    · cases e
/-! ### built-ins -/
theorem s_bi (g : Gd T Q N C k X sc fnb Wx) {b : BI} {es : IEs} {y : PySem.Expr} {xs : List PySem.Expr} {p p' : Pos} (hg : glB sc (biN b) = true) (hs : ∀ e ∈ y :: xs, nst e = true) (ha : PA X (y :: xs) (tAs T H0 Wx (evAs C es))) :
    PE X (.Call (.Name (biN b) p') (y :: xs) [] p) (TDe T H0 Wx C (.bi b es)) := by
  have hm := g.st.bn _ (biN_mem b)
  have call : PE X (.Call (.Name (biN b) p') (y :: xs) [] p) (tCB (rBI T b) (tAs T H0 Wx (evAs C es))) := by
    have st := star_of (env := X.env) (es := xs) (hs y List.mem_cons_self)
    have sp := star_plain (env := X.env) (pos := p) fun e he => hs e (List.mem_cons_of_mem _ he)
    have c := bi_ok (T := T) g.st.kl g.calm b
    have bo := biN_boot b
    have nn := bn_name _ (biN_mem b)
    have nd := bn_dbg _ (biN_mem b)
    cases b <;> first
      | exact pe_callB c (glB_ok g hg) hm bo ha nn nd st sp
      | exact pe_callTy c (glB_ok g hg) hm bo ha nn nd st sp
  refine PE.imp call fun σ H Qr ⟨W, E, S, sr, fr, h⟩ => ?_
  refine tR.then sr fr rfl (show Resp T (RD T) (wxs Wx σ) W H Qr ((evAs C es E S).bind fun ds S => lift (biD b (ds.map (drf S))) S) from h) fun vs H1 ds S1 W1 _ st1 sr1 fr1 r1 h1 => ?_
  obtain ⟨z, e, h1⟩ := h1.lift1
  exact ⟨W1, S1, _, z, sr1, RAs.views sr1 r1, e, fun W' H' v' s1 s2 s3 => h1 W' H' v' s1 s2 s3⟩
end
end Qv
set_option Elab.async false
set_option linter.all false
set_option maxRecDepth 100000
set_option maxHeartbeats 4000000
/-! Calls, instances. -/
namespace Qv
open PySem PySem.Spec PyProof.Rows L2

/-! ### the last shared object is given up -/
section
variable {T : Tb} {W W' : Wd} {n : Nat}
mutual
theorem Rep.lower (hg : ∀ a o, W.G a = some o → W'.G a = some o) (hm : ∀ (l : Nat) (a : Addr), l < n → W.m[l]? = some a → W'.m[l]? = some a) : ∀ {d : D} {v : V}, D.low n d = true → Rep T W d v → Rep T W' d v
  | _, _, _, .non => .non
  | _, _, _, .bl b => .bl b
  | _, _, _, .int i => .int i
  | _, _, _, .str x => .str x
  | _, _, h, .tup e r => .tup (hg _ _ e) (Reps.lower hg hm (by unfold D.low at h; exact h) r)
  | _, _, h, .lst e r => .lst (hg _ _ e) (Reps.lower hg hm (by unfold D.low at h; exact h) r)
  | _, _, _, .dic0 e => .dic0 (hg _ _ e)
  | _, _, _, .set e a b => .set (hg _ _ e) a b
  | _, _, h, .ins c e e2 r => .ins c (hg _ _ e) (hg _ _ e2) (RepF.lower hg hm (by unfold D.low at h; exact h) r)
  | _, _, h, .ref e => .ref (hm _ _ (by unfold D.low at h; exact of_decide_eq_true h) e)
  | _, _, _, .ty n => .ty n
  | _, _, _, .glo g => .glo g
  | _, _, _, .scr e => .scr (e.imp id fun ⟨o, q⟩ => ⟨o, hg _ _ q⟩)
theorem Reps.lower (hg : ∀ a o, W.G a = some o → W'.G a = some o) (hm : ∀ (l : Nat) (a : Addr), l < n → W.m[l]? = some a → W'.m[l]? = some a) : ∀ {d : List D} {v : List V}, D.lows n d = true → Reps T W d v → Reps T W' d v
  | _, _, _, .nil => .nil
  | _, _, h, .cons a b => by
    unfold D.lows at h
    simp only [Bool.and_eq_true] at h
    exact .cons (Rep.lower hg hm h.1 a) (Reps.lower hg hm h.2 b)
theorem RepF.lower (hg : ∀ a o, W.G a = some o → W'.G a = some o) (hm : ∀ (l : Nat) (a : Addr), l < n → W.m[l]? = some a → W'.m[l]? = some a) : ∀ {d : List (Nat × D)} {v : List (Str × V)}, D.lowF n d = true → RepF T W d v → RepF T W' d v
  | _, _, _, .nil => .nil
  | _, _, h, .cons a b => by
    unfold D.lowF at h
    simp only [Bool.and_eq_true] at h
    exact .cons (Rep.lower hg hm h.1 a) (RepF.lower hg hm h.2 b)
end
theorem ORep.lower {H : Hp} {a : Addr} {o : Ob} (hg : ∀ a o, W.G a = some o → W'.G a = some o) (hm : ∀ (l : Nat) (a : Addr), l < n → W.m[l]? = some a → W'.m[l]? = some a) (h : Ob.low n o = true) (r : ORep T W H a o) : ORep T W' H a o := by
  cases o with
  | lst xs => obtain ⟨vs, e, r⟩ := r; exact ⟨vs, e, Reps.lower hg hm h r⟩
  | ins c fs => obtain ⟨dx, fv, hc, e, d, r⟩ := r; exact ⟨dx, fv, hc, e, hg _ _ d, RepF.lower hg hm h r⟩
  | dead => exact r
end
section
variable {T : Tb} {W : Wd} {S : Sh} {H : Hp} {a : Addr} {o : HO}
/-- a new object is laid that all share -/
theorem SRel.newShare {ob : Ob} (r : SRel T W S H) (h : H a = none) (ho : ORep T W (upd H a o) a ob) : SRel T ⟨W.G, W.m ++ [a]⟩ (S ++ [ob]) (upd H a o) ∧ Stp W H ⟨W.G, W.m ++ [a]⟩ (upd H a o) := by
  obtain ⟨r1, s1⟩ := r.fresh (o := o) h
  obtain ⟨r2, le⟩ := r1.share (ob := ob) ho (r.nonG h) (r.nonM h)
  refine ⟨r2, ⟨le, s1.keep, s1.newG, fun b hb => ?_, s1.there⟩⟩
  have hb' : b ∈ W.m ++ [a] := hb
  rcases List.mem_append.mp hb' with c | c
  · exact .inl c
  · simp at c; subst c; exact .inr h
/-- the last shared object, an instance, is given up: it will never change again -/
theorem SRel.pop {W0 : Wd} {H0 : Hp} {c : Nat} {fs : List (Nat × D)} {n : Nat} (hW : W0.m.length = n) (h0 : H0 a = none) (st : Stp W0 H0 W H) (sr : SRel T W S H) (hl : S.length = n + 1) (ha : W.m[n]? = some a) (hs : S[n]? = some (.ins c fs))
    (lf : D.lowF n fs = true) (ls : (S.take n).all (Ob.low n) = true) : ∃ W', Stp W0 H0 W' H ∧ SRel T W' (S.take n) H ∧ Rep T W' (.ins c fs) (.ref a) := by
  obtain ⟨dx, fv, hc, e, d, rf⟩ := sr.obs n a _ ha hs
  have hm : a ∈ W.m := List.mem_of_getElem? ha
  have g := sr.apart a hm
  have hlen : W.m.length = n + 1 := by rw [sr.len, hl]
  have hg : ∀ b u, W.G b = some u → upd W.G a (HO.ins (T.ad c) dx fv) b = some u := fun b u q => by
    rw [upd_ne (ne_of_none q g)]; exact q
  have hm2 : ∀ (l : Nat) (b : Addr), l < n → W.m[l]? = some b → (W.m.take n)[l]? = some b := fun l b hl e => by
    rw [List.getElem?_take_of_lt hl]; exact e
  have nin : a ∉ W.m.take n := fun z => by
    obtain ⟨l, e1⟩ := List.getElem?_of_mem z
    have hl1 : l < n := by
      have := (List.getElem?_eq_some_iff.mp e1).1
      rw [List.length_take] at this; omega
    rw [List.getElem?_take_of_lt hl1] at e1
    have h1 := List.getElem?_eq_some_iff.mp e1
    have h2 := List.getElem?_eq_some_iff.mp ha
    have := (List.getElem_inj sr.nd).mp (h1.2.trans h2.2.symm)
    omega
  refine ⟨⟨upd W.G a (.ins (T.ad c) dx fv), W.m.take n⟩, ⟨⟨fun b u q => hg b u (st.le.g b u q), fun l b q => ?_⟩, st.keep, fun b u q => ?_, fun b q => ?_, st.there⟩, ⟨fun b u q => ?_, ?_, ?_, fun b q => ?_, fun l b o e1 e2 => ?_⟩, ?_⟩
  · exact hm2 l b (by rw [← hW]; exact (List.getElem?_eq_some_iff.mp q).1) (st.le.m l b q)
  · by_cases hb : b = a
    · subst hb; exact .inr (.inl h0)
    · have q' : upd W.G a (HO.ins (T.ad c) dx fv) b = some u := q
      rw [upd_ne hb] at q'
      exact st.newG b u q'
  · exact st.newM b (List.mem_of_mem_take q)
  · by_cases hb : b = a
    · subst hb
      have q' : upd W.G b (HO.ins (T.ad c) dx fv) b = some u := q
      rw [upd_same] at q'; rw [← q']; exact e
    · have q' : upd W.G a (HO.ins (T.ad c) dx fv) b = some u := q
      rw [upd_ne hb] at q'
      exact sr.sub b u q'
  · show (W.m.take n).length = (S.take n).length
    rw [List.length_take, List.length_take, sr.len]
  · exact sr.nd.sublist (List.take_sublist _ _)
  · show upd W.G a _ b = none
    rw [upd_ne (ne_mem nin q)]
    exact sr.apart b (List.mem_of_mem_take q)
  · have e1' : (W.m.take n)[l]? = some b := e1
    have hl1 : l < n := by
      have := (List.getElem?_eq_some_iff.mp e1').1
      rw [List.length_take] at this; omega
    have lo : Ob.low n o = true := List.all_eq_true.mp ls o (List.mem_of_getElem? e2)
    rw [List.getElem?_take_of_lt hl1] at e1' e2
    exact (sr.obs l b o e1' e2).lower hg hm2 lo
  · exact .ins hc (show upd W.G a _ a = _ from upd_same) (hg _ _ d) (RepF.lower hg hm2 lf rf)
end
section
variable {T : Tb} {Q : Ck} {N : List Str} {C : Calls} {k : Nat} {X : Cx} {sc : Scope} {fnb : Str → Bool} {Wx : WX} {H0 : Hp}
theorem t_ife {t a b : IE} {x y z : PySem.Expr} {p : Pos} (ht : PT X x (TTe T H0 Wx C t)) (ha : PT X y (TTe T H0 Wx C a)) (hb : PT X z (TTe T H0 Wx C b)) : PT X (.IfExp x y z p) (TTe T H0 Wx C (.ife t a b)) := by
  refine ⟨fun pins s σ H Qr I ⟨W, E, S, sr, fr, h⟩ => ?_⟩
  have h : Resp T EqB (wxs Wx σ) W H Qr (((tst t E S (ev C t E S)).bind fun t S => match t with
      | true => ev C a E S
      | false => ev C b E S).bind fun x S => lift (truD (drf S x)) S) := h
  rw [Res.bind_assoc] at h
  refine isTrue_IfExp (thn (ht.run pins s σ H (fun d H1 => if d = true then TTe T H0 Wx C a σ H1 Qr else TTe T H0 Wx C b σ H1 Qr) I ?_) fun d s1 ⟨H1, I1, q1⟩ => ?_)
  · refine tR.then sr fr rfl h fun v H1 d S1 W1 _ st1 sr1 fr1 r1 h1 => ?_
    subst r1
    cases d with
    | true => exact ⟨W1, E, S1, sr1, fr1, bind_tst h1⟩
    | false => exact ⟨W1, E, S1, sr1, fr1, bind_tst h1⟩
  · cases d with
    | true => exact ha.run pins s1 σ H1 Qr I1 q1
    | false => exact hb.run pins s1 σ H1 Qr I1 q1
theorem s_call (g : Gd T Q N C k X sc fnb Wx) {f : Nat} {es : IEs} {x : Str} {xs : List PySem.Expr} {p p' : Pos} (hf : Q.fn f = some x) (hgl : glB sc x = true) (hn : okName x = true) (hs : ∀ e ∈ xs, nst e = true) (hz : xs = [] → es = .nil)
    (ha : PA X xs (tDs T H0 Wx (evs C es))) : PE X (.Call (.Name x p') xs [] p) (TDe T H0 Wx C (.call f es)) := by
  obtain ⟨fa, fd, ps, hm, hk, hb, F⟩ := g.st.fn f x hf
  refine ⟨fun pins s σ H Qr I ⟨W, E, S, sr, fr, h⟩ => ?_⟩
  have h : Resp T (RD T) (wxs Wx σ) W H Qr ((evs C es E S).bind fun ds S => C.fn f ds S) := h
  refine wpAny_Call_Name_kw (ld_glob I (glB_ok g hgl) hm ?_ (okName_ok hn).1)
  have rm : Room (2 * k) X.A := g.room.mono (Nat.le_succ _)
  cases xs with
  | nil =>
    obtain rfl := hz rfl
    exact PySem.W.callWith_K0 I.kIn hk (run_fnS (E := WE Wx) (us := []) F rm hb (passAt g.tk σ) I .nil ⟨W, S, [], sr, .nil, h⟩)
  | cons y ys =>
    refine PySem.W.callWith_K (h₀ := X.base) I.ok.mod.kin hk (thn (ha.run p pins s σ H (fun vs H1 => spD T (C.fn f) vs H1 Qr (WE Wx σ)) I ?_) fun us s1 ⟨vs, H1, I1, r, q⟩ => ⟨I1.kIn, ?_⟩) (star_of (hs y List.mem_cons_self)) (star_plain fun e he => hs e (List.mem_cons_of_mem _ he))
    · exact tR.then sr fr rfl h fun vs H1 ds S1 W1 _ st1 sr1 fr1 r1 h1 => ⟨W1, S1, ds, sr1, r1, h1⟩
    · exact run_fnS (E := WE Wx) F rm hb (passAt g.tk σ) I1 r q
theorem run_makeS {CX : CXT} {f Cc : Addr} {fd : FuncData} {ps : List Str} {sp : Sp} {E : L2.St → XK} {pins : List (Addr × Obj)} {σ : L2.St} {H : Hp} {s : Shared} {Qr : VK} {us : List Value} {vs : List V} (M : Mk X.K Cc f) (F : FnOk X.prog X.w X.K X.mg X.base CX k f fd ps sp) (hr : Room (k + 1) X.A) (hb : Binds X.K fd ps [])
    (hx : PassesAt CX X σ (E σ)) (I : Inv X pins σ H s) (r : Vals vs us)
    (h : ∀ x dx, H x = none → H dx = none → dx ≠ x → sp (.ref x :: vs) (upd (upd H dx (.own x)) x (.ins Cc dx [])) (fun v H2 => v = .non ∧ Qr (.ref x) H2) (E σ)) :
    wpAny (model X.prog X.w) X.A (call (.ref Cc) us) (EP X pins σ Qr) X.xe s := by
  have hq := h (s.heap.objs.size + 1) s.heap.objs.size (I.hok.fresh (Nat.le_succ _)) (I.hok.fresh (Nat.le_refl _)) (Nat.ne_of_lt (Nat.lt_succ_self _))
  have I2 := Inv.made (C := Cc) I
  have r2 : Vals (V.ref (s.heap.objs.size + 1) :: vs) (Value.ref (s.heap.objs.size + 1) :: us) := .cons rfl r
  have hl : (Value.ref (s.heap.objs.size + 1) :: us ++ []).length = ps.length := by
    have e := r2.length
    rw [F.len _ _ _ _ hq] at e
    rw [List.append_nil]; exact e.symm
  have b := hb _ (Value.ref (s.heap.objs.size + 1) :: us) I2.kIn hl
  rw [List.append_nil] at b
  refine wpAny_call (make_map (f := f) I.kIn M.makes M.init (beq_iff_eq.mp M.fn) (codeAny_mono (F.run _ X.stack _ _ ⟨Value.ref (s.heap.objs.size + 1) :: us, []⟩ (Value.ref (s.heap.objs.size + 1) :: us) _ _ (E σ) (hr.make Cc us [])
    (I2.env0.make Cc us []) b r2 hq) fun r s' hq' => ?_))
  cases r with
  | error e => exact hx pins _ _ e s' I2 hq'
  | ok fl =>
    cases fl with
    | ret u =>
      obtain ⟨v, H', I3, rv, ev, q3⟩ := I2.after hq'
      subst ev
      exact ⟨rv, ⟨V.ref (s.heap.objs.size + 1), H', I3, rfl, q3⟩⟩
    | next => exact False.elim hq'
    | brk => exact False.elim hq'
    | cont => exact False.elim hq'
/-- the wish of a making, from the wish of the small language's -/
theorem mk_wish {W : Wd} {S : Sh} {H : Hp} {σ : L2.St} {ini : Nat → Option Nat} {c f : Nat} {ds : List D} {vs : List V} {Qr : VK} (fnm : Nat → List D → Sh → Res D) (e : ini c = some f) (hc : T.cl c) (sr : SRel T W S H) (r : Reps T W ds vs)
    (h : Resp T (RD T) (wxs Wx σ) W H Qr (mkI fnm ini c ds S)) : ∀ x dx, H x = none → H dx = none → dx ≠ x → spD T (fnm f) (.ref x :: vs) (upd (upd H dx (.own x)) x (.ins (T.ad c) dx [])) (fun v H2 => v = .non ∧ Qr (.ref x) H2) (WE Wx σ) := by
  intro x dx hx hdx ne
  unfold mkI at h
  rw [e] at h
  obtain ⟨r1, s1⟩ := sr.laid (o := HO.own x) hdx
  have hx1 : upd H dx (HO.own x) x = none := by rw [upd_ne (Ne.symm ne)]; exact hx
  obtain ⟨r2, s2⟩ := r1.newShare (a := x) (o := .ins (T.ad c) dx []) (ob := .ins c []) hx1 ⟨dx, [], hc, upd_same, show upd W.G dx _ dx = _ from upd_same, .nil⟩
  have st := s1.trans s2
  refine ⟨_, S ++ [.ins c []], .ref S.length :: ds, r2, .cons (.ref (l := S.length) ?_) (r.mono st.le), ?_⟩
  · show (W.m ++ [x])[S.length]? = some x
    rw [← sr.len]; simp
  · revert h
    show Resp T (RD T) (wxs Wx σ) W H Qr ((fnm f (.ref S.length :: ds) (S ++ [.ins c []])).bind _) → _
    cases q : fnm f (.ref S.length :: ds) (S ++ [.ins c []]) with
    | bad => exact fun h => h
    | ex a b => exact fun h => Resp.shift (r := Res.ex a b) st h
    | ok d S1 =>
      intro h W' H' v s3 sr3 rd
      replace h : Resp T (RD T) (wxs Wx σ) W H Qr (mkK c S.length d S1) := h
      unfold mkK at h
      split at h
      · rename_i c' fs eS
        split at h
        · rename_i hh
          obtain ⟨rfl, h1, h2, h3⟩ := hh
          cases rd
          refine ⟨rfl, ?_⟩
          have hm : W'.m[S.length]? = some x := s3.le.m _ _ (by show (W.m ++ [x])[S.length]? = some x; rw [← sr.len]; simp)
          obtain ⟨W3, st3, sr4, r4⟩ := SRel.pop (n := S.length) sr.len hx (st.trans s3) sr3 h1 hm eS h2 h3
          exact h W3 H' (.ref x) st3 sr4 r4
        · exact h.elim
      · exact h.elim
theorem s_mk (g : Gd T Q N C k X sc fnb Wx) {c : Nat} {es : IEs} {xs : List PySem.Expr} {p p' : Pos} (hc : Q.cls c = true) (hgl : glB sc (Q.nm c) = true) (hn : okName (Q.nm c) = true) (hs : ∀ e ∈ xs, nst e = true) (hz : xs = [] → es = .nil)
    (ha : PA X xs (tDs T H0 Wx (evs C es))) : PE X (.Call (.Name (Q.nm c) p') xs [] p) (TDe T H0 Wx C (.mk c es)) := by
  obtain ⟨hcl, ini, f, fa, fd, ps, hnew, hini, hm, M, hb, F⟩ := g.st.new c hc
  refine ⟨fun pins s σ H Qr I ⟨W, E, S, sr, fr, h⟩ => ?_⟩
  have h : Resp T (RD T) (wxs Wx σ) W H Qr ((evs C es E S).bind fun ds S => C.new c ds S) := h
  rw [hnew] at h
  rw [g.st.nm] at hm
  refine wpAny_Call_Name_kw (ld_glob I (glB_ok g hgl) hm ?_ (okName_ok hn).1)
  cases xs with
  | nil =>
    obtain rfl := hz rfl
    exact PySem.W.callWith_K0 I.kIn M.kp (run_makeS (E := WE Wx) (us := []) M F g.room hb (passAt g.tk σ) I .nil (mk_wish C.fn hini hcl sr .nil h))
  | cons y ys =>
    refine PySem.W.callWith_K (h₀ := X.base) I.ok.mod.kin M.kp (thn (ha.run p pins s σ H (fun vs H1 => ∃ W S ds, SRel T W S H1 ∧ Reps T W ds vs ∧ Resp T (RD T) (wxs Wx σ) W H1 Qr (mkI C.fn ini c ds S)) I ?_) fun us s1 ⟨vs, H1, I1, r, W1, S1, ds, sr1, r1, q⟩ => ⟨I1.kIn, ?_⟩) (star_of (hs y List.mem_cons_self)) (star_plain fun e he => hs e (List.mem_cons_of_mem _ he))
    · exact tR.then sr fr rfl h fun vs H1 ds S1 W1 _ st1 sr1 fr1 r1 h1 => ⟨W1, S1, ds, sr1, r1, h1⟩
    · exact run_makeS (E := WE Wx) M F g.room hb (passAt g.tk σ) I1 r (mk_wish C.fn hini hcl sr1 r1 q)
end
end Qv
set_option Elab.async false
set_option linter.all false
set_option maxRecDepth 100000
set_option maxHeartbeats 4000000
/-! enumerate and zip over lists and tuples. -/
namespace Qv
open PySem PySem.Spec PyProof.Rows L2

def SqB (b : Bool) (K : PySem.W.Frag) (H : Hp) (a : Addr) (xs : List V) : Prop := match b with
  | true => SqL K H a xs
  | false => SqT K H a xs
def IterB (b : Bool) (h : Heap) (it a : Addr) (i : Nat) : Prop := match b with
  | true => h.IsListIter it a i
  | false => h.IsTupleIter it a i
def SeqB (b : Bool) (h : Heap) (a : Addr) (items : Array Value) : Prop := match b with
  | true => h.IsList a items
  | false => h.IsTuple a items
def itB (b : Bool) (a : Addr) : Obj := match b with
  | true => { cls := .type "list_iterator", data := .fields #[.ref a, .int 0 0] }
  | false => { cls := .type "tuple_iterator", data := .fields #[.ref a, .int 0 0] }
theorem draws_b {prog : Program} {w : World} {A : Around} (b : Bool) (hh : A.handled = none) (it a : Addr) (hne : a ≠ it) (items : Array Value) :
    Draws prog w A it [it, a] items.size (fun i v => items[i]? = some v) (fun i h => IterB b h it a i ∧ SeqB b h a items) := by
  cases b
  · exact Draws.tuple hh it a hne items
  · exact Draws.list hh it a hne items
theorem begins_b (b : Bool) (a : Addr) (items : Array Value) : Begins (.ref a) (itB b a) fun h => SeqB b h a items := by
  cases b
  · exact begins_tuple a items
  · exact begins_list a items
theorem iterB_new {b : Bool} {h : Heap} {it a : Addr} (e : h.get? it = some (itB b a)) : IterB b h it a 0 := by
  cases b
  · exact ⟨_, e, rfl, rfl⟩
  · exact ⟨_, e, rfl, rfl⟩
theorem IterB.obj {b : Bool} {h : Heap} {it a : Addr} {i : Nat} (x : IterB b h it a i) : ∃ o, h.get? it = some o ∧ ∀ v, o.data ≠ .cell v := by
  cases b <;> (obtain ⟨o, e, _, d⟩ := x; exact ⟨o, e, fun v q => by rw [d] at q; cases q⟩)
theorem IterB.at {b : Bool} {h h' : Heap} {it a : Addr} {i : Nat} (x : IterB b h it a i) (k : ∀ o, h.get? it = some o → h'.get? it = some o) : IterB b h' it a i := by
  cases b <;> (obtain ⟨o, e, r⟩ := x; exact ⟨o, k o e, r⟩)
theorem SeqB.obj {b : Bool} {h : Heap} {a : Addr} {items : Array Value} (x : SeqB b h a items) : ∃ o n, h.get? a = some o ∧ o.data = .seq items n := by
  cases b <;> (obtain ⟨o, e, _, n, d⟩ := x; exact ⟨o, n, e, d⟩)
theorem IterB.ne {b : Bool} {h : Heap} {it a : Addr} {i : Nat} {items : Array Value} (x : IterB b h it a i) (y : SeqB b h a items) : a ≠ it := by
  rintro rfl
  obtain ⟨o2, n, e2, d2⟩ := y.obj
  cases b <;> (obtain ⟨o, e, _, d⟩ := x; rw [e] at e2; cases e2; rw [d] at d2; cases d2)
section
variable {X : Cx} {pins : List (Addr × Obj)} {σ : L2.St} {H : Hp} {s : Shared} {b : Bool} {a : Addr} {xs ys : List V}
theorem inv_seqB (I : Inv X pins σ H s) (h : SqB b X.K H a xs) : ∃ its : List Value, Vals xs its ∧ SeqB b s.heap a its.toArray ∧ xs.length ≤ sizeLine := by
  cases b
  · obtain ⟨its, r, p, z⟩ := I.tuple h
    exact ⟨its, r, p, z⟩
  · obtain ⟨its, r, p, z⟩ := I.list h
    exact ⟨its, r, p.isList, z⟩
theorem inv_injB (I : Inv X pins σ H s) (h : SqB b X.K H a xs) (h' : SqB b X.K H a ys) : xs = ys := by
  cases b
  · exact I.tuple_inj h h'
  · exact I.list_inj h h'
end
set_option maxHeartbeats 4000000 in
theorem meets_enumerate_new1 {v : Value} {o : Obj} {H : Heap → Prop} (B : Begins v o H) :
    Meets (Builtin.«enumerate.__new__» ⟨[.type "enumerate", v], []⟩) (fun _ R s => H s.heap ∧
      R (.ok (.ret (.ref (s.heap.push o).objs.size))) { s with heap := (s.heap.push o).push { cls := .type "enumerate", data := .fields #[.none, .bool false, .ref s.heap.objs.size, rawInt 0, .none, .none] } }) :=
  .of_wp fun prog w A R s h => by
    obtain ⟨hp, g, d, tk, os⟩ := s; obtain ⟨h1, h⟩ := h
    have hsub := sub_enumerate
    have q1 : ∀ {A' : Around} {E : Value → Shared → Prop} {Q : Value → Shared → Prop}, Q (.ref hp.objs.size) ⟨hp.push o, g, d, tk, os⟩ → wpAny (model prog w) A' (pyIter v) Q E ⟨hp, g, d, tk, os⟩ :=
      fun q => B.iter prog w _ _ ⟨hp, g, d, tk, os⟩ _ h1 q
    wp_walk using q1
    refine wpAny_stack_any fun st => wpAny_pure ?_
    split
    · rename_i c _ _ _ _ _
      cases (c == Value.type "enumerate")
      · wp_walk using q1
        exact ⟨_, rfl, h⟩
      · wp_walk using q1
        exact ⟨_, rfl, h⟩
    · wp_walk using q1
      exact ⟨_, rfl, h⟩
section
variable {prog : Program} {w : World} {A : Around} {E : Value → Shared → Prop} {s : Shared}
theorem enum_begins1 {v : Value} {o : Obj} {H : Heap → Prop} {Q : Value → Shared → Prop} (B : Begins v o H) (h1 : H s.heap)
    (h : ∀ h', IsEnum h' (s.heap.objs.size + 1) s.heap.objs.size 0 .none → h'.get? s.heap.objs.size = some o → h'.objs.size = s.heap.objs.size + 2 →
      (∀ b o, s.heap.get? b = some o → h'.get? b = some o) → Q (.ref (s.heap.objs.size + 1)) { s with heap := h' }) :
    wpAny (model prog w) A (call (.type "enumerate") [v]) Q E s := by
  refine callType_new F.called_enumerate (by decide) (F.typeCall_enumerate_1 _) (F.newCall_enumerate_1 _) (fun obj => F.args_object_init_2 obj _) F.entry_enumerate_new
    (meets_enumerate_new1 B) ⟨h1, ?_⟩
  have hz : (s.heap.push o).objs.size = s.heap.objs.size + 1 := Heap.size_push ..
  show _ ∧ _
  rw [hz]
  have he : IsEnum ((s.heap.push o).push { cls := .type "enumerate", data := .fields #[.none, .bool false, .ref s.heap.objs.size, rawInt 0, .none, .none] }) (s.heap.objs.size + 1) s.heap.objs.size 0 .none := by
    have := Heap.get?_push_size (s.heap.push o) (o := { cls := .type "enumerate", data := .fields #[.none, .bool false, .ref s.heap.objs.size, rawInt 0, .none, .none] }) rfl
    rw [hz] at this; exact this
  refine ⟨⟨_, he, rfl⟩, h _ he (Heap.get?_push_of_some _ (Heap.get?_push_size _ B.free)) (by rw [Heap.size_push, hz]) fun b o x => Heap.get?_push_of_some _ (Heap.get?_push_of_some _ x)⟩
end
/-- enumerate of the list (the tuple) at a, each item in a new pair -/
def IteB (b : Bool) (K : PySem.W.Frag) (a : Addr) : It :=
  ⟨fun i H => ∃ (xs : List V) (x : V), SqB b K H a xs ∧ xs[i]? = some x, fun i H v H' => ∃ T x, v = .ref T ∧ H T = none ∧ H' = upd H T (.tup [.int (i : Nat), x]) ∧ ∀ xs, SqB b K H a xs → xs[i]? = some x, fun i H => ∃ xs : List V, SqB b K H a xs ∧ xs.length = i⟩
theorem turn_enumB {P : Program} {w : World} {K : PySem.W.Frag} {elts : List PySem.Expr} {kk : Nat} {tpos : Pos} (b : Bool) (a e it : Addr) :
    Turn P w K (.Tuple elts kk tpos) (IteB b K a) [e, it] e (fun i h => (∃ old, IsEnum h e it ((i : Nat) : Int) old) ∧ IterB b h it a i ∧ e ≠ it) where
  mem := by simp
  obj := fun i h st c hb => by
    obtain ⟨⟨old, he⟩, hi, _⟩ := st
    have e' : c = e ∨ c = it := by simpa using hb
    rcases e' with z | z
    · rw [z]; exact ⟨_, he, fun v q => nomatch q⟩
    · rw [z]; exact hi.obj
  keep := fun i h h' st k => let ⟨⟨old, he⟩, hi, hne⟩ := st; ⟨⟨old, k e (by simp) _ he⟩, hi.at fun o q => k it (by simp) o q, hne⟩
  item := by
    intro X hP hw hK hc i pins s σ H E I hf st hg
    subst hP hw hK
    obtain ⟨⟨old, he⟩, hit, hne⟩ := st
    obtain ⟨xs, x, hq, hx⟩ := hg
    obtain ⟨its, rv, p, hz⟩ := inv_seqB I hq
    obtain ⟨u, hu, ru⟩ := rv.get hx
    have hel : e < s.heap.objs.size := Heap.lt_size he
    have hil : it < s.heap.objs.size := by obtain ⟨_, q, _⟩ := hit.obj; exact Heap.lt_size q
    have hea : e ≠ a := by
      rintro rfl
      obtain ⟨o2, n2, e2, d2⟩ := p.obj
      rw [he] at e2; cases e2; cases d2
    have hlt : i < its.toArray.size := by
      have := (List.getElem?_eq_some_iff.mp hu).1
      simpa using this
    refine wpAny_pyNext_enum_itemD (draws_b (A := X.A.in1) b (I.ok.hd hc) it a (hit.ne p) its.toArray) he ⟨hit, p⟩ hlt hne (by simp [hne, hea]) fun y h' tk hy ho hst' hT hsz hk => ?_
    obtain rfl : u = y := by
      have hy : its.toArray[i]? = some y := hy
      rw [show its.toArray[i]? = its[i]? by simp, hu] at hy
      exact Option.some.inj hy
    have hit' := hst'.1
    refine ⟨_, rfl, wpAny_letOwnedTupleGo_enum (s := { s with heap := h', toks := tk + 1 }) ho fun h'' he' sb => ?_⟩
    have hT2 : h''.get? s.heap.objs.size = some { cls := .type "tuple", data := .seq #[.int i tk, u] } := (sb.2 _ (Nat.ne_of_gt hel)).trans hT
    have new : ObjOk X.prog X.w (upd H s.heap.objs.size (.tup [.int (i : Nat), x])) h'' s.heap.objs.size (.tup [.int (i : Nat), x]) :=
      ⟨by show 2 ≤ sizeLine; decide, [.int i tk, u], .cons ⟨_, rfl⟩ (.cons ru .nil), ⟨_, hT2, rfl, _, rfl⟩⟩
    have I1 : Inv X pins σ (upd H s.heap.objs.size (.tup [.int (i : Nat), x])) { s with heap := h'', toks := tk + 1 } :=
      I.turnedNew (ch := [e, it]) (fun b ob hb q => (sb.2 b (fun z => hb (by simp [z]))).trans (hk b ob (fun z => hb (by simp [z])) (fun z => hb (by simp [z])) q)) hf (Nat.le_refl _) new
    refine ⟨.ref s.heap.objs.size, _, I1, rfl, ⟨_, x, rfl, I.hok.fresh (Nat.le_refl _), rfl, fun ys hy => by rw [inv_injB I hy hq]; exact hx⟩, ⟨⟨u, ?_⟩, hit'.at fun o q => (sb.2 it (Ne.symm hne)).trans q, hne⟩, fun b hb => ?_⟩
    · have e1 : ((i + 1 : Nat) : Int) = (i : Int) + 1 := by omega
      rw [e1]; exact he'
    · have hb' : b < s.heap.objs.size := by
        have e' : b = e ∨ b = it := by simpa using hb
        rcases e' with z | z
        · rw [z]; exact hel
        · rw [z]; exact hil
      rw [upd_ne (Nat.ne_of_lt hb')]
      exact (hf b hb).1
  done := by
    intro X hP hw hK hc i pins s σ H E I hf st hg
    subst hP hw hK
    obtain ⟨⟨old, he⟩, hit, hne⟩ := st
    obtain ⟨xs, hq, hx⟩ := hg
    obtain ⟨its, rv, p, hz⟩ := inv_seqB I hq
    have hl := rv.length
    have hi : i = its.toArray.size := by simp; omega
    refine wpAny_pyNext_enum_endD (draws_b (A := X.A.in1) b (I.ok.hd hc) it a (hit.ne p) its.toArray) he ⟨hi ▸ hit, p⟩ fun h' eb => ⟨rfl, ?_⟩
    obtain ⟨f0, f1, f2, f3, f4, f5⟩ := hf it (by simp)
    exact I.turned (t' := s.toks) (fun b o hb q => eb b o hb q) f0 f1 f3 f4 f5
  self := fun A i s Q E st h => let ⟨⟨_, he⟩, _⟩ := st; wpAny_pyIter_enum he h
def iEnumB (K : PySem.W.Frag) (ta : TA) : TI := fun σ H R => ta σ H fun vs H1 => ∃ b a xs, vs = [.ref a] ∧ SqB b K H1 a xs ∧ R (IteB b K a) H1
theorem pi_enumB {X : Cx} {e : PySem.Expr} {ta : TA} {p pos tpos : Pos} {elts : List PySem.Expr} {kk : Nat} (hg : Gl X "enumerate") (hm : X.mg "enumerate" = none) (ha : PA X [e] ta) (hs : starEach [e] X.env = [(false, eval e X.env)]) :
    PI X (.Tuple elts kk tpos) (.Call (.Name "enumerate" p) [e] [] pos) (iEnumB X.K ta) := by
  refine ⟨fun pins s σ H R I h => ?_⟩
  refine Call_ (ld_blt I hg hm boot_enumerate (PyProof.Rows.callWith_type1 (thn (ha.run pos pins s σ H _ I h) fun us s1 ⟨vs, H1, I1, r1, q1⟩ => ?_) hs rfl))
  obtain ⟨b, a, xs, ex, hq, q⟩ := q1
  subst ex
  cases r1 with
  | cons r rr =>
    cases rr
    cases r
    obtain ⟨its, rv, p', hz⟩ := inv_seqB I1 hq
    refine enum_begins1 (begins_b b a its.toArray) p' fun h' he hit hsz hk => wpAny_pyIter_enum he ?_
    have I2 : Inv X pins σ H1 { s1 with heap := h' } := I1.kept (t' := s1.toks) hk
    refine ⟨s1.heap.objs.size + 1, [s1.heap.objs.size + 1, s1.heap.objs.size], _, _, H1, rfl, I2, turn_enumB b a (s1.heap.objs.size + 1) s1.heap.objs.size, ⟨⟨.none, he⟩, iterB_new hit, Nat.succ_ne_self _⟩, fun b hb => ?_, q⟩
    have e' : b = s1.heap.objs.size + 1 ∨ b = s1.heap.objs.size := by simpa using hb
    have hle : s1.heap.objs.size ≤ b := by
      rcases e' with z | z
      · rw [z]; exact Nat.le_add_right _ _
      · rw [z]; exact Nat.le_refl _
    exact I1.fpOk hle (I1.hok.fresh hle)
/-- the two sequences, the items in new pairs -/
def ItzB (b1 b2 : Bool) (K : PySem.W.Frag) (a b : Addr) : It :=
  ⟨fun i H => ∃ (xs ys : List V) (x y : V), SqB b1 K H a xs ∧ SqB b2 K H b ys ∧ xs[i]? = some x ∧ ys[i]? = some y,
    fun i H v H' => ∃ T x y, v = .ref T ∧ H T = none ∧ H' = upd H T (.tup [x, y]) ∧ (∀ xs, SqB b1 K H a xs → xs[i]? = some x) ∧ ∀ ys, SqB b2 K H b ys → ys[i]? = some y,
    fun i H => ∃ xs ys : List V, SqB b1 K H a xs ∧ SqB b2 K H b ys ∧ i ≤ xs.length ∧ i ≤ ys.length ∧ (i = xs.length ∨ i = ys.length)⟩
structure ZApart (z TI TO i1 i2 : Addr) : Prop where
  a : TI ≠ z
  b : TO ≠ z
  c : TI ≠ TO
  d : TI ≠ i1
  e : TI ≠ i2
  f : z ≠ i1
  g : z ≠ i2
  h : TO ≠ i1
  i : TO ≠ i2
  j : i1 ≠ i2
theorem zsep {h : Heap} {z TI TO i1 i2 a b : Addr} {b1 b2 : Bool} {i : Nat} {xs ys : Array Value} {v1 v2 : Value} {a0 : Value} (D : ZApart z TI TO i1 i2) (hz : IsZip h z TI TO a0) (hTO : IsTupOf2 h TO v1 v2) (hx : SeqB b1 h a xs) (hy : SeqB b2 h b ys) (i1h : IterB b1 h i1 a i) (i2h : IterB b2 h i2 b i) (na : a ≠ TO) (nb : b ≠ TO) :
    ZipSep2 z TI TO i1 i2 [i1, a] [i2, b] := by
  have nz : ∀ {bb : Bool} {c : Addr} {cs : Array Value}, SeqB bb h c cs → z ≠ c := fun {bb c cs} q e => by
    subst e
    obtain ⟨o, n, e1, d⟩ := q.obj
    rw [hz] at e1; cases e1; cases d
  have ni : ∀ {bb bc : Bool} {c it c2 : Addr} {cs : Array Value}, SeqB bb h c cs → IterB bc h it c2 i → it ≠ c := fun {bb bc c it c2 cs} q r e => by
    subst e
    obtain ⟨o, n, e1, d⟩ := q.obj
    cases bc <;> (obtain ⟨o2, e2, _, d2⟩ := r; rw [e1] at e2; cases e2; rw [d] at d2; cases d2)
  exact { TIz := D.a, TOz := D.b, TITO := D.c, TIi1 := D.d, mem1 := by simp, zf1 := by simp [D.f, nz hx], Tf1 := by simp [D.h, Ne.symm na], TIi2 := D.e, mem2 := by simp, zf2 := by simp [D.g, nz hy], Tf2 := by simp [D.i, Ne.symm nb],
          sep1_2 := by simp [D.j, ni hy i1h], sep2_1 := by simp [Ne.symm D.j, ni hx i2h] }
theorem turn_zipB {P : Program} {w : World} {K : PySem.W.Frag} {elts : List PySem.Expr} {kk : Nat} {tpos : Pos} {b1 b2 : Bool} {a b z TI TO i1 i2 : Addr} (D : ZApart z TI TO i1 i2) (na : a ≠ TO) (nb : b ≠ TO) :
    Turn P w K (.Tuple elts kk tpos) (ItzB b1 b2 K a b) [z, TI, TO, i1, i2] z (fun i h => IsZip h z TI TO .none ∧ IsTupOf2 h TI (.ref i1) (.ref i2) ∧ (∃ x y, IsTupOf2 h TO x y) ∧ IterB b1 h i1 a i ∧ IterB b2 h i2 b i) where
  mem := by simp
  obj := fun i h st c hc => by
    obtain ⟨hz, hTI, ⟨x, y, hTO⟩, h1, h2⟩ := st
    have e' : c = z ∨ c = TI ∨ c = TO ∨ c = i1 ∨ c = i2 := by simpa using hc
    rcases e' with q | q | q | q | q
    · rw [q]; exact ⟨_, hz, fun v q => nomatch q⟩
    · rw [q]; exact ⟨_, hTI, fun v q => nomatch q⟩
    · rw [q]; exact ⟨_, hTO, fun v q => nomatch q⟩
    · rw [q]; exact h1.obj
    · rw [q]; exact h2.obj
  keep := fun i h h' st k => by
    obtain ⟨hz, hTI, ⟨x, y, hTO⟩, h1, h2⟩ := st
    exact ⟨k z (by simp) _ hz, k TI (by simp) _ hTI, ⟨x, y, k TO (by simp) _ hTO⟩, h1.at fun o q => k i1 (by simp) o q, h2.at fun o q => k i2 (by simp) o q⟩
  item := by
    intro X hP hw hK hc i pins s σ H E I hf st hg
    subst hP hw hK
    obtain ⟨hz, hTI, ⟨x0, y0, hTO⟩, h1, h2⟩ := st
    obtain ⟨xs, ys, x, y, hqx, hqy, hx, hy⟩ := hg
    obtain ⟨its, rv, p, _⟩ := inv_seqB I hqx
    obtain ⟨its2, rv2, p2, _⟩ := inv_seqB I hqy
    obtain ⟨u, hu, ru⟩ := rv.get hx
    obtain ⟨u2, hu2, ru2⟩ := rv2.get hy
    have hzl : z < s.heap.objs.size := Heap.lt_size hz
    have l1 : i < its.toArray.size := by simpa using (List.getElem?_eq_some_iff.mp hu).1
    have l2 : i < its2.toArray.size := by simpa using (List.getElem?_eq_some_iff.mp hu2).1
    refine wpAny_pyNext_zipD2_item (zsep D hz hTO p p2 h1 h2 na nb) (draws_b (A := X.A.in1) b1 (I.ok.hd hc) i1 a (h1.ne p) its.toArray) (draws_b (A := X.A.in1) b2 (I.ok.hd hc) i2 b (h2.ne p2) its2.toArray) hz hTI hTO ⟨h1, p⟩ ⟨h2, p2⟩ l1 l2 fun y1 y2 h' tk g1 g2 z' TO' st1 st2 hT hsz hk => ?_
    obtain rfl : u = y1 := by
      have hy : its.toArray[i]? = some y1 := g1
      rw [show its.toArray[i]? = its[i]? by simp, hu] at hy
      exact Option.some.inj hy
    obtain rfl : u2 = y2 := by
      have hy : its2.toArray[i]? = some y2 := g2
      rw [show its2.toArray[i]? = its2[i]? by simp, hu2] at hy
      exact Option.some.inj hy
    have h1' := st1.1
    have h2' := st2.1
    refine ⟨_, rfl, wpAny_letOwnedTupleGo_zip (s := { s with heap := h', toks := tk }) z' fun h'' z'' sb => ?_⟩
    have hT2 : h''.get? s.heap.objs.size = some { cls := .type "tuple", data := .seq #[u, u2] } := (sb.2 _ (Nat.ne_of_gt hzl)).trans hT
    have new : ObjOk X.prog X.w (upd H s.heap.objs.size (.tup [x, y])) h'' s.heap.objs.size (.tup [x, y]) :=
      ⟨by show 2 ≤ sizeLine; decide, [u, u2], .cons ru (.cons ru2 .nil), ⟨_, hT2, rfl, _, rfl⟩⟩
    have I1 : Inv X pins σ (upd H s.heap.objs.size (.tup [x, y])) { s with heap := h'', toks := tk } :=
      I.turnedNew (ch := [z, TI, TO, i1, i2]) (fun c o hb q => (sb.2 c (fun q' => hb (by simp [q']))).trans (hk c o (fun q' => hb (by simp [q'])) (fun q' => hb (by simp [q'])) (fun q' => hb (by simp [q'])) (fun q' => hb (by simp [q'])) q)) hf (Nat.le_refl _) new
    refine ⟨.ref s.heap.objs.size, _, I1, rfl, ⟨_, x, y, rfl, I.hok.fresh (Nat.le_refl _), rfl, fun l hl => by rw [inv_injB I hl hqx]; exact hx, fun l hl => by rw [inv_injB I hl hqy]; exact hy⟩, ⟨z'', ?_, ⟨u, u2, ?_⟩, ?_, ?_⟩, fun c hcm => ?_⟩
    · exact (sb.2 _ D.a).trans (hk _ _ D.a D.c D.d D.e hTI)
    · exact (sb.2 _ D.b).trans TO'
    · exact h1'.at fun o q => (sb.2 _ (Ne.symm D.f)).trans q
    · exact h2'.at fun o q => (sb.2 _ (Ne.symm D.g)).trans q
    · have hlt : c < s.heap.objs.size := by
        have e' : c = z ∨ c = TI ∨ c = TO ∨ c = i1 ∨ c = i2 := by simpa using hcm
        rcases e' with q | q | q | q | q
        · rw [q]; exact hzl
        · rw [q]; exact Heap.lt_size hTI
        · rw [q]; exact Heap.lt_size hTO
        · rw [q]; obtain ⟨_, e1, _⟩ := h1.obj; exact Heap.lt_size e1
        · rw [q]; obtain ⟨_, e2, _⟩ := h2.obj; exact Heap.lt_size e2
      rw [upd_ne (Nat.ne_of_lt hlt)]
      exact (hf c hcm).1
  done := by
    intro X hP hw hK hc i pins s σ H E I hf st hg
    subst hP hw hK
    obtain ⟨hz, hTI, ⟨x0, y0, hTO⟩, h1, h2⟩ := st
    obtain ⟨xs, ys, hqx, hqy, le1, le2, hend⟩ := hg
    obtain ⟨its, rv, p, _⟩ := inv_seqB I hqx
    obtain ⟨its2, rv2, p2, _⟩ := inv_seqB I hqy
    have l1 := rv.length
    have l2 := rv2.length
    exact wpAny_pyNext_zipD2_end (zsep D hz hTO p p2 h1 h2 na nb) (draws_b (A := X.A.in1) b1 (I.ok.hd hc) i1 a (h1.ne p) its.toArray) (draws_b (A := X.A.in1) b2 (I.ok.hd hc) i2 b (h2.ne p2) its2.toArray) hz hTI hTO ⟨h1, p⟩ ⟨h2, p2⟩ (by simp; omega) (by simp; omega) (by simp; omega) fun h' tk hk => ⟨rfl, I.turnedL (t' := tk) (ch := [z, TI, TO, i1, i2]) (fun c o hb q =>
      hk c o (fun q' => hb (by simp [q'])) (fun q' => hb (by simp [q'])) (fun q' => hb (by simp [q'])) (fun q' => hb (by simp [q'])) q) hf⟩
  self := fun A i s Q E st h => wpAny_pyIter_zip st.1 h
def iZipB (K : PySem.W.Frag) (ta : TA) : TI := fun σ H R => ta σ H fun vs H1 => ∃ b1 b2 a b xs ys, vs = [.ref a, .ref b] ∧ SqB b1 K H1 a xs ∧ SqB b2 K H1 b ys ∧ R (ItzB b1 b2 K a b) H1
theorem pi_zipB {X : Cx} {e e2 : PySem.Expr} {ta : TA} {p pos tpos : Pos} {elts : List PySem.Expr} {kk : Nat} (hg : Gl X "zip") (hm : X.mg "zip" = none) (ha : PA X [e, e2] ta)
    (hs : starEach [e, e2] X.env = (false, eval e X.env) :: starEach [e2] X.env) (hpl : (backTo pos (starEach [e2] X.env)).any (·.1) = false) :
    PI X (.Tuple elts kk tpos) (.Call (.Name "zip" p) [e, e2] [] pos) (iZipB X.K ta) := by
  refine ⟨fun pins s σ H R I h => ?_⟩
  refine Call_ (ld_blt I hg hm PyProof.Rows.boot_zip (PyProof.Rows.callWith_type1 (thn (ha.run pos pins s σ H _ I h) fun us s1 ⟨vs, H1, I1, r1, q1⟩ => ?_) hs hpl))
  obtain ⟨b1, b2, a, b, xs, ys, ex, hqx, hqy, q⟩ := q1
  subst ex
  cases r1 with
  | cons r rr =>
    cases rr with
    | cons r' rr =>
      cases rr
      cases r
      cases r'
      obtain ⟨its, rv, p1, _⟩ := inv_seqB I1 hqx
      obtain ⟨its2, rv2, p2, _⟩ := inv_seqB I1 hqy
      have la : a < s1.heap.objs.size := by obtain ⟨_, _, e, _⟩ := p1.obj; exact Heap.lt_size e
      have lb : b < s1.heap.objs.size := by obtain ⟨_, _, e, _⟩ := p2.obj; exact Heap.lt_size e
      refine zip_begins2 (begins_b b1 a its.toArray) (begins_b b2 b its2.toArray) p1 p2 fun h' hz hTI hTO h1 h2 hsz hk => wpAny_pyIter_zip hz ?_
      have I2 : Inv X pins σ H1 { s1 with heap := h' } := I1.kept (t' := s1.toks) hk
      have zap : ∀ N : Nat, ZApart (N + 4) (N + 2) (N + 3) N (N + 1) := fun N => ⟨(by omega : N + 2 ≠ N + 4), (by omega : N + 3 ≠ N + 4), (by omega : N + 2 ≠ N + 3), (by omega : N + 2 ≠ N), (by omega : N + 2 ≠ N + 1), (by omega : N + 4 ≠ N), (by omega : N + 4 ≠ N + 1), (by omega : N + 3 ≠ N), (by omega : N + 3 ≠ N + 1), (by omega : N ≠ N + 1)⟩
      have far : ∀ {c : Addr}, c < s1.heap.objs.size → c ≠ s1.heap.objs.size + 3 := fun {c} h => Nat.ne_of_lt (Nat.lt_of_lt_of_le h (Nat.le_add_right _ _))
      refine ⟨s1.heap.objs.size + 4, [s1.heap.objs.size + 4, s1.heap.objs.size + 2, s1.heap.objs.size + 3, s1.heap.objs.size, s1.heap.objs.size + 1], _, _, H1, rfl, I2, turn_zipB (zap s1.heap.objs.size) (far la) (far lb), ⟨hz, hTI, ⟨_, _, hTO⟩, iterB_new h1, iterB_new h2⟩, fun c hcm => ?_, q⟩
      have e' : c = s1.heap.objs.size + 4 ∨ c = s1.heap.objs.size + 2 ∨ c = s1.heap.objs.size + 3 ∨ c = s1.heap.objs.size ∨ c = s1.heap.objs.size + 1 := by simpa using hcm
      have hle : s1.heap.objs.size ≤ c := by
        rcases e' with z | z | z | z | z
        · rw [z]; exact Nat.le_add_right _ _
        · rw [z]; exact Nat.le_add_right _ _
        · rw [z]; exact Nat.le_add_right _ _
        · rw [z]; exact Nat.le_refl _
        · rw [z]; exact Nat.le_add_right _ _
      exact I1.fpOk hle (I1.hok.fresh hle)
end Qv
set_option Elab.async false
set_option linter.all false
set_option maxRecDepth 100000
set_option maxHeartbeats 4000000
/-! Targets, what a loop walks. -/
namespace Qv
open PySem PySem.Spec PyProof.Rows L2

/-! ### slots forgotten -/
theorem FRel.clear {T : Tb} {H0 : Hp} {W : Wd} {E : En} {σ : L2.St} {H : Hp} (h : FRel T H0 W E σ H) (i : Nat) : FRel T H0 W (E.set i none) (σ.set i none) H := by
  have ne : ∀ {j : Nat} {s : Sl}, (E.set i none)[j]? = some (some s) → i ≠ j := fun {j s} e z => by
    subst z
    have hi : i < E.length := by have := (List.getElem?_eq_some_iff.mp e).1; simpa using this
    rw [List.getElem?_set_self hi] at e
    cases e
  refine ⟨by simp [h.len], fun j s e => ?_, fun j k s t a e1 e2 o1 o2 q1 q2 => ?_⟩
  · have n := ne e
    rw [List.getElem?_set_ne n] at e ⊢
    exact h.at_ j s e
  · have n1 := ne e1
    have n2 := ne e2
    rw [List.getElem?_set_ne n1] at e1 q1
    rw [List.getElem?_set_ne n2] at e2 q2
    exact h.sep j k s t a e1 e2 o1 o2 q1 q2
theorem FRel.wipe {T : Tb} {H0 : Hp} {W : Wd} {E : En} {σ : L2.St} {H : Hp} (h : FRel T H0 W E σ H) : ∀ vs : List Nat, FRel T H0 W (wipeE E vs) (L2.wipe σ vs) H
  | [] => h
  | v :: vs => (FRel.wipe h vs).clear v
theorem wipe_in {σ : L2.St} {i : Nat} {x : Option V} : ∀ {vs : List Nat}, i ∈ vs → L2.wipe (σ.set i x) vs = L2.wipe σ vs
  | v :: vs, h => by
    unfold L2.wipe
    by_cases hv : i = v
    · subst hv
      by_cases hm : i ∈ vs
      · rw [wipe_in hm]
      · have out : ∀ {us : List Nat}, i ∉ us → L2.wipe (σ.set i x) us = (L2.wipe σ us).set i x := fun {us} => by
          induction us with
          | nil => intro _; rfl
          | cons u us ih =>
            intro hu
            simp only [List.mem_cons, not_or] at hu
            unfold L2.wipe
            rw [ih hu.2, List.set_comm _ _ hu.1]
        rw [out hm, List.set_set]
    · rcases List.mem_cons.mp h with z | z
      · exact absurd z hv
      · rw [wipe_in z]
section
variable {T : Tb} {Q : Ck} {N : List Str} {C : Calls} {k : Nat} {X : Cx} {sc : Scope} {fnb : Str → Bool} {Wx : WX} {H0 : Hp}

/-! ### targets -/
def tG (T : Tb) (H0 : Hp) (tg : Tg) : TG := fun v σ H Qr => ∃ W E S d E', SRel T W S H ∧ FRel T H0 W E σ H ∧ Rep T W d v ∧ asgT tg d E = some E' ∧
  ∀ σ', FRel T H0 W E' σ' H → (∀ vs, (∀ i ∈ tgSlots tg, i ∈ vs) → L2.wipe σ' vs = L2.wipe σ vs) → Qr σ' H
theorem PG.imp {x : PySem.Expr} {t t' : TG} (h : PG X x t) (k : ∀ v σ H Q, t' v σ H Q → t v σ H Q) : PG X x t' := ⟨fun pins s σ H v u Q I r hw => h.run pins s σ H v u Q I r (k _ _ _ _ hw)⟩
theorem okTg_n {i : Nat} {x : PySem.Expr} (h : okTg N sc fnb (.n i) x = true) : ∃ y p, x = .Name y p ∧ N[i]? = some y ∧ locB sc fnb y = true ∧ okName y = true := by
  cases x with
  | Name y p =>
    simp only [okTg, Bool.and_eq_true, decide_eq_true_eq] at h
    exact ⟨y, p, rfl, h.1.1, h.1.2, h.2⟩
  | _ => simp [okTg] at h
theorem okTg_t {a b : Tg} {e : PySem.Expr} (h : okTg N sc fnb (.t a b) e = true) : ∃ x y x1 p, e = .Tuple [x, y] x1 p ∧ okTg N sc fnb a x = true ∧ okTg N sc fnb b y = true := by
  cases e with
  | Tuple xs x1 p =>
    rcases xs with _ | ⟨x, _ | ⟨y, _ | ⟨z, r⟩⟩⟩
    · simp [okTg] at h
    · simp [okTg] at h
    · simp only [okTg, Bool.and_eq_true] at h
      exact ⟨x, y, x1, p, rfl, h.1, h.2⟩
    · simp [okTg] at h
  | _ => simp [okTg] at h
theorem okTg_t3 {a b c : Tg} {e : PySem.Expr} (h : okTg N sc fnb (.t3 a b c) e = true) : ∃ x y z x1 p, e = .Tuple [x, y, z] x1 p ∧ okTg N sc fnb a x = true ∧ okTg N sc fnb b y = true ∧ okTg N sc fnb c z = true := by
  cases e with
  | Tuple xs x1 p =>
    rcases xs with _ | ⟨x, _ | ⟨y, _ | ⟨z, _ | ⟨u, r⟩⟩⟩⟩
    · simp [okTg] at h
    · simp [okTg] at h
    · simp [okTg] at h
    · simp only [okTg, Bool.and_eq_true] at h
      exact ⟨x, y, z, x1, p, rfl, h.1.1, h.1.2, h.2⟩
    · simp [okTg] at h
  | _ => simp [okTg] at h
theorem asgT_n {i : Nat} {d : D} {E E' : En} (h : asgT (.n i) d E = some E') : E' = E.set i (some (.v d)) := by
  simp only [asgT] at h
  split at h <;> cases h
  rfl
theorem asgT_t {a b : Tg} {d : D} {E E' : En} (h : asgT (.t a b) d E = some E') : ∃ x y E1, d = .tup [x, y] ∧ asgT a x E = some E1 ∧ asgT b y E1 = some E' := by
  cases d with
  | tup xs =>
    rcases xs with _ | ⟨x, _ | ⟨y, _ | ⟨z, r⟩⟩⟩
    · simp [asgT] at h
    · simp [asgT] at h
    · simp only [asgT, Option.bind_eq_some_iff] at h
      obtain ⟨E1, h1, h2⟩ := h
      exact ⟨x, y, E1, rfl, h1, h2⟩
    · simp [asgT] at h
  | _ => simp [asgT] at h
theorem asgT_t3 {a b c : Tg} {d : D} {E E' : En} (h : asgT (.t3 a b c) d E = some E') : ∃ x y z E1 E2, d = .tup [x, y, z] ∧ asgT a x E = some E1 ∧ asgT b y E1 = some E2 ∧ asgT c z E2 = some E' := by
  cases d with
  | tup xs =>
    rcases xs with _ | ⟨x, _ | ⟨y, _ | ⟨z, _ | ⟨u, r⟩⟩⟩⟩
    · simp [asgT] at h
    · simp [asgT] at h
    · simp [asgT] at h
    · simp only [asgT, Option.bind_eq_some_iff] at h
      obtain ⟨E2, ⟨E1, h1, h2⟩, h3⟩ := h
      exact ⟨x, y, z, E1, E2, rfl, h1, h2, h3⟩
    · simp [asgT] at h
  | _ => simp [asgT] at h
theorem okTg_ns : ∀ (tg : Tg) (x : PySem.Expr), okTg N sc fnb tg x = true → nst x = true
  | .n i, x, h => by obtain ⟨_, _, rfl, _⟩ := okTg_n h; rfl
  | .t a b, x, h => by obtain ⟨_, _, _, _, rfl, _⟩ := okTg_t h; rfl
  | .t3 a b c, x, h => by obtain ⟨_, _, _, _, _, rfl, _⟩ := okTg_t3 h; rfl
theorem asg_each {x : PySem.Expr} {xs : List PySem.Expr} {env : Env} (h : nst x = true) : assignEach (x :: xs) env = (false, assign x env) :: assignEach xs env := by
  cases x <;> first | rfl | cases h
theorem asgT_len : ∀ (tg : Tg) {d : D} {E E' : En}, asgT tg d E = some E' → E'.length = E.length
  | .n i, d, E, E', h => by rw [asgT_n h]; simp
  | .t a b, d, E, E', h => by
    obtain ⟨x, y, E1, _, h1, h2⟩ := asgT_t h
    rw [asgT_len b h2, asgT_len a h1]
  | .t3 a b c, d, E, E', h => by
    obtain ⟨x, y, z, E1, E2, _, h1, h2, h3⟩ := asgT_t3 h
    rw [asgT_len c h3, asgT_len b h2, asgT_len a h1]
theorem s_tg (g : Gd T Q N C k X sc fnb Wx) : ∀ (tg : Tg) (x : PySem.Expr), okTg N sc fnb tg x = true → PG X x (tG T H0 tg)
  | .n i, x, h => by
    obtain ⟨y, p, rfl, h1, h2, h3⟩ := okTg_n h
    obtain ⟨l1, l2⟩ := locB_ok g h2
    refine PG.imp (pg_name g.nd (by rw [g.N]; exact h1) l1 l2) fun v σ H Qr ⟨W, E, S, d, E', sr, fr, r, e, hq⟩ => ?_
    obtain rfl := asgT_n e
    exact hq _ (fr.setV _ r) fun vs hv => wipe_in (hv _ (by simp [tgSlots]))
  | .t a b, x, h => by
    obtain ⟨x, y, x1, p, rfl, ha, hb⟩ := okTg_t h
    have na := okTg_ns a x ha
    have nb := okTg_ns b y hb
    refine PG.imp (pg_tup g.calm (pgs_cons (s_tg g a x ha) (pgs_cons (s_tg g b y hb) pgs_nil (by rw [asg_each nb]; rfl)) (by rw [asg_each na]; rfl)) (n := 2) (by rw [asg_each na, asg_each nb]; rfl) (by rw [asg_each na, asg_each nb]; rfl)) fun v σ H Qr ⟨W, E, S, d, E', sr, fr, r, e, hq⟩ => ?_
    obtain ⟨dx, dy, E1, rfl, h1, h2⟩ := asgT_t e
    cases r with
    | tup ga ra =>
      cases ra with
      | cons r1 rt =>
        cases rt with
        | cons r2 rn =>
          cases rn
          refine ⟨_, _, rfl, SqT.of (sr.sub _ _ ga), rfl, _, _, rfl, W, E, S, dx, E1, sr, fr, r1, h1, fun σ1 fr1 w1 => ⟨_, _, rfl, W, E1, S, dy, E', sr, fr1, r2, h2, fun σ2 fr2 w2 => ⟨rfl, hq _ fr2 fun vs hv => ?_⟩⟩⟩
          rw [w2 vs fun i hi => hv i (by simp [tgSlots, hi]), w1 vs fun i hi => hv i (by simp [tgSlots, hi])]
  | .t3 a b c, x, h => by
    obtain ⟨x, y, z, x1, p, rfl, ha, hb, hc⟩ := okTg_t3 h
    have na := okTg_ns a x ha
    have nb := okTg_ns b y hb
    have nc := okTg_ns c z hc
    refine PG.imp (pg_tup g.calm (pgs_cons (s_tg g a x ha) (pgs_cons (s_tg g b y hb) (pgs_cons (s_tg g c z hc) pgs_nil (by rw [asg_each nc]; rfl)) (by rw [asg_each nb]; rfl)) (by rw [asg_each na]; rfl)) (n := 3) (by rw [asg_each na, asg_each nb, asg_each nc]; rfl) (by rw [asg_each na, asg_each nb, asg_each nc]; rfl)) fun v σ H Qr ⟨W, E, S, d, E', sr, fr, r, e, hq⟩ => ?_
    obtain ⟨dx, dy, dz, E1, E2, rfl, h1, h2, h3⟩ := asgT_t3 e
    cases r with
    | tup ga ra =>
      cases ra with
      | cons r1 rt =>
        cases rt with
        | cons r2 rt =>
          cases rt with
          | cons r3 rn =>
            cases rn
            refine ⟨_, _, rfl, SqT.of (sr.sub _ _ ga), rfl, _, _, rfl, W, E, S, dx, E1, sr, fr, r1, h1, fun σ1 fr1 w1 => ⟨_, _, rfl, W, E1, S, dy, E2, sr, fr1, r2, h2, fun σ2 fr2 w2 => ⟨_, _, rfl, W, E2, S, dz, E', sr, fr2, r3, h3, fun σ3 fr3 w3 => ⟨rfl, hq _ fr3 fun vs hv => ?_⟩⟩⟩⟩
            rw [w3 vs fun i hi => hv i (by simp [tgSlots, hi]), w2 vs fun i hi => hv i (by simp [tgSlots, hi]), w1 vs fun i hi => hv i (by simp [tgSlots, hi])]

/-! ### iterators -/
/-- J gives these, in this order, whatever else happens -/
structure ItOk (T : Tb) (W : Wd) (xs : List D) (J : It) : Prop where
  go : ∀ W1 S1 H1, W.Le W1 → SRel T W1 S1 H1 → ∀ i, i < xs.length → J.go i H1
  yld : ∀ W1 S1 H1, W.Le W1 → SRel T W1 S1 H1 → ∀ i d x H2, xs[i]? = some d → J.yld i H1 x H2 → ∃ W2, Stp W1 H1 W2 H2 ∧ SRel T W2 S1 H2 ∧ Rep T W2 d x
  stop : ∀ W1 S1 H1, W.Le W1 → SRel T W1 S1 H1 → J.stop xs.length H1
abbrev RI (T : Tb) : Wd → Hp → List D → It → Prop := fun W _ xs J => ItOk T W xs J
def tI (T : Tb) (H0 : Hp) (Wx : WX) (C : Calls) (it : II) : TI := tR T H0 Wx (RI T) (evI C it)
theorem PI.imp {tg iter : PySem.Expr} {t t' : TI} (h : PI X tg iter t) (k : ∀ σ H R, t' σ H R → t σ H R) : PI X tg iter t' := ⟨fun pins s σ H R I hw => h.run pins s σ H R I (k _ _ _ hw)⟩
def ItB (b : Bool) (K : PySem.W.Frag) (a : Addr) : It := match b with
  | true => Itl K a
  | false => Itt K a
def iSeqB (K : PySem.W.Frag) (tl : TE) : TI := fun σ H R => tl σ H fun x H1 => ∃ b a, x = .ref a ∧ (∃ xs, SqB b K H1 a xs) ∧ R (ItB b K a) H1
theorem pi_seqB {tg l : PySem.Expr} {tl : TE} (hl : PE X l tl) : PI X tg l (iSeqB X.K tl) := by
  refine ⟨fun pins s σ H R I h => ?_⟩
  refine thn (hl.run pins s σ H _ I h) fun v s1 ⟨x, H1, I1, r1, q1⟩ => ?_
  obtain ⟨b, a, e, ⟨xs, hq⟩, q⟩ := q1
  subst e
  cases r1
  cases b with
  | true =>
    obtain ⟨its, rv, p, hz⟩ := I1.list hq
    refine wpAny_pyIter_list p.isList ?_
    refine ⟨s1.heap.objs.size, [s1.heap.objs.size], _, _, H1, rfl, I1.kept (t' := s1.toks) fun b o e => Heap.get?_push_of_some _ e, turn_list a _, ⟨_, Heap.get?_push_size _ rfl, rfl, rfl⟩, fun b hb => ?_, q⟩
    have e : b = s1.heap.objs.size := by simpa using hb
    subst e
    exact I1.fpOk (Nat.le_refl _) (I1.hok.fresh (Nat.le_refl _))
  | false =>
    obtain ⟨its, rv, p, hz⟩ := I1.tuple hq
    refine wpAny_pyIter_tuple (show s1.heap.IsTuple a its.toArray from p) ?_
    refine ⟨s1.heap.objs.size, [s1.heap.objs.size], _, _, H1, rfl, I1.kept (t' := s1.toks) fun b o e => Heap.get?_push_of_some _ e, turn_tuple a _, ⟨_, Heap.get?_push_size _ rfl, rfl, rfl⟩, fun b hb => ?_, q⟩
    have e : b = s1.heap.objs.size := by simpa using hb
    subst e
    exact I1.fpOk (Nat.le_refl _) (I1.hok.fresh (Nat.le_refl _))
def sqO (b : Bool) (vs : List V) : HO := match b with
  | true => .lst vs
  | false => .tup vs
theorem sqB_of {b : Bool} {K : PySem.W.Frag} {H : Hp} {a : Addr} {vs : List V} (h : H a = some (sqO b vs)) : SqB b K H a vs := by
  cases b
  · exact SqT.of h
  · exact SqL.of h
theorem Rep.seqG {W : Wd} {d : D} {v : V} {xs : List D} (r : Rep T W d v) (e : seqD d = some xs) : ∃ b a vs, v = .ref a ∧ Reps T W xs vs ∧ W.G a = some (sqO b vs) := by
  cases r with
  | tup g r => cases e; exact ⟨false, _, _, rfl, r, g⟩
  | lst g r => cases e; exact ⟨true, _, _, rfl, r, g⟩
  | _ => cases e
theorem reps_at {W : Wd} {ds : List D} {vs : List V} (r : Reps T W ds vs) {i : Nat} {d : D} {x : V} (e : ds[i]? = some d) (e2 : vs[i]? = some x) : Rep T W d x := by
  obtain ⟨v, h1, h2⟩ := r.get e
  rw [e2] at h1; cases h1; exact h2
theorem it_seq {K : PySem.W.Frag} {W : Wd} {b : Bool} {a : Addr} {xs : List D} {vs : List V} (r : Reps T W xs vs) (at_ : ∀ W1 S1 H1, W.Le W1 → SRel T W1 S1 H1 → SqB b K H1 a vs) : ItOk T W xs (ItB b K a) := by
  refine ⟨fun W1 S1 H1 le sr i hi => ?_, fun W1 S1 H1 le sr i d x H2 hd y => ?_, fun W1 S1 H1 le sr => ?_⟩
  · have hs := at_ W1 S1 H1 le sr
    have hv : i < vs.length := by rw [← r.length]; exact hi
    cases b
    · exact ⟨vs, vs[i], hs, by simp [hv]⟩
    · exact ⟨vs, vs[i], hs, by simp [hv]⟩
  · have hs := at_ W1 S1 H1 le sr
    have : H2 = H1 ∧ vs[i]? = some x := by
      cases b
      · exact ⟨y.1, y.2 vs hs⟩
      · exact ⟨y.1, y.2 vs hs⟩
    obtain ⟨rfl, hx⟩ := this
    exact ⟨W1, sr.stp, sr, (reps_at r hd hx).mono le⟩
  · have hs := at_ W1 S1 H1 le sr
    cases b
    · exact ⟨vs, hs, by rw [r.length]; exact Nat.le_refl _⟩
    · exact ⟨vs, hs, by rw [r.length]; exact Nat.le_refl _⟩
theorem seqI_at {K : PySem.W.Frag} (hk : ∀ a vs, T.kl a vs → ∀ H, SqL K H a vs) {W : Wd} {d : D} {v : V} {xs : List D} (r : Rep T W d v) (e : seqI d = some xs) : ∃ b a vs, v = .ref a ∧ Reps T W xs vs ∧ ∀ W1 S1 H1, W.Le W1 → SRel T W1 S1 H1 → SqB b K H1 a vs := by
  have other : seqD d = some xs → ∃ b a vs, v = .ref a ∧ Reps T W xs vs ∧ ∀ W1 S1 H1, W.Le W1 → SRel T W1 S1 H1 → SqB b K H1 a vs := fun e => by
    obtain ⟨b, a, vs, e1, r1, g⟩ := r.seqG e
    exact ⟨b, a, vs, e1, r1, fun W1 S1 H1 le sr => sqB_of (sr.sub _ _ (le.g _ _ g))⟩
  cases d with
  | scr ns =>
    cases e
    have r0 := r
    cases r0 with
    | scr _ =>
      refine ⟨true, _, ns.map V.int, rfl, reps_ints ns, fun W1 S1 H1 le sr => ?_⟩
      obtain ⟨a', e2, q⟩ := scr_sq (K := K) hk sr (r.mono le)
      cases e2
      exact q
  | _ => exact other e
theorem i_seq (g : Gd T Q N C k X sc fnb Wx) {a : IE} {tg x : PySem.Expr} (ha : PE X x (TDe T H0 Wx C a)) : PI X tg x (tI T H0 Wx C (.seq a)) :=
  PI.imp (pi_seqB ha) fun σ H R ⟨W, E, S, sr, fr, h⟩ => by
    refine tD.then sr fr (show Resp T (RI T) (wxs Wx σ) W H R ((ev C a E S).bind fun x S => lift (seqI x) S) from h) fun v H1 d S1 W1 st1 sr1 fr1 r1 h1 => ?_
    obtain ⟨xs, e, h1⟩ := h1.lift1
    obtain ⟨b, a, vs, rfl, rs, at_⟩ := seqI_at (K := X.K) g.st.kl r1 e
    exact ⟨b, a, rfl, ⟨vs, at_ W1 S1 H1 (.refl _) sr1⟩, h1.at sr1 (it_seq rs at_)⟩
theorem rngD_get {a b : Int} {i : Nat} {d : D} (e : (rngD a b)[i]? = some d) : d = .int (a + i) := by
  unfold rngD at e
  rw [List.getElem?_map, List.getElem?_range] at e
  · cases e; rfl
  · by_cases h : i < (b - a).toNat
    · exact h
    · rw [List.getElem?_eq_none (by simpa using h)] at e
      cases e
theorem it_rng {W : Wd} {a b : Int} {n : Nat} (hn : n = (b - a).toNat) : ItOk T W (rngD a b) (Itr a n) := by
  have hl : (rngD a b).length = n := by unfold rngD; simp [hn]
  refine ⟨fun W1 S1 H1 le sr i hi => by rw [hl] at hi; exact hi, fun W1 S1 H1 le sr i d x H2 hd y => ?_, fun W1 S1 H1 le sr => by rw [hl]; exact Nat.le_refl n⟩
  obtain ⟨rfl, rfl⟩ := y
  rw [rngD_get hd]
  exact ⟨W1, sr.stp, sr, .int _⟩
theorem i_rng1 (g : Gd T Q N C k X sc fnb Wx) {a : IE} {tg x : PySem.Expr} {p p' : Pos} (hg : glB sc (Str.ofString "range") = true) (hs : nst x = true) (ha : PE X x (TDe T H0 Wx C a)) : PI X tg (.Call (.Name (Str.ofString "range") p') [x] [] p) (tI T H0 Wx C (.rng1 a)) :=
  PI.imp (pi_range1 (glB_ok g hg) (g.st.bn _ (by decide +kernel)) (pa_cons' hs ha pa_nil) (by rw [star_of hs]; rfl)) fun σ H R ⟨W, E, S, sr, fr, h⟩ => by
    refine tD.then sr fr (show Resp T (RI T) (wxs Wx σ) W H R ((ev C a E S).bind fun x S => match x with
      | .int n => if -(LIM : Int) ≤ n ∧ n ≤ LIM then .ok (rngD 0 n) S else .bad
      | _ => .bad) from h) fun v H1 d S1 W1 st1 sr1 fr1 r1 h1 => ?_
    cases d with
    | int n =>
      cases r1
      replace h1 : Resp T (RI T) (wxs Wx σ) W1 H1 R (if -(LIM : Int) ≤ n ∧ n ≤ LIM then .ok (rngD 0 n) S1 else .bad) := h1
      split at h1
      · rename_i c
        unfold LIM at c
        exact ⟨n, rfl, by omega, by omega, h1.at sr1 (it_rng (by omega))⟩
      · exact h1.nobad
    | _ => exact h1.nobad
theorem i_rng2 (g : Gd T Q N C k X sc fnb Wx) {a b : IE} {tg x y : PySem.Expr} {p p' : Pos} (hg : glB sc (Str.ofString "range") = true) (hs : nst x = true) (hs2 : nst y = true) (ha : PE X x (TDe T H0 Wx C a)) (hb : PE X y (TDe T H0 Wx C b)) : PI X tg (.Call (.Name (Str.ofString "range") p') [x, y] [] p) (tI T H0 Wx C (.rng2 a b)) :=
  PI.imp (pi_range2 (glB_ok g hg) (g.st.bn _ (by decide +kernel)) (pa_cons' hs ha (pa_cons' hs2 hb pa_nil)) (by rw [star_of hs, star_of hs2]; rfl) (by rw [star_of hs2]; rfl)) fun σ H R ⟨W, E, S, sr, fr, h⟩ => by
    refine tD.then sr fr (show Resp T (RI T) (wxs Wx σ) W H R ((ev C a E S).bind fun x S => (ev C b E S).bind fun y S => match x, y with
      | .int i, .int j => if -(LIM : Int) ≤ i ∧ i ≤ LIM ∧ -(LIM : Int) ≤ j ∧ j ≤ LIM then .ok (rngD i j) S else .bad
      | _, _ => .bad) from h) fun v H1 d S1 W1 st1 sr1 fr1 r1 h1 => ?_
    refine tD.then sr1 fr1 h1 fun u H2 d2 S2 W2 st2 sr2 fr2 r2 h2 => ?_
    replace r1 := r1.mono st2.le
    split at h2
    · rename_i i j
      cases r1; cases r2
      split at h2
      · rename_i c
        unfold LIM at c
        exact ⟨i, j, rfl, ⟨by omega, by omega, by omega, by omega⟩, h2.at sr2 (it_rng rfl)⟩
      · exact h2.nobad
    · exact h2.nobad
theorem enumD_len : ∀ (n : Nat) (xs : List D), (enumD n xs).length = xs.length
  | _, [] => rfl
  | n, x :: r => by simp [enumD, enumD_len (n + 1) r]
theorem enumD_get : ∀ {n : Nat} {xs : List D} {i : Nat} {d : D}, (enumD n xs)[i]? = some d → ∃ x, xs[i]? = some x ∧ d = .tup [.int ((n + i : Nat) : Int), x]
  | n, [], i, d, e => by simp [enumD] at e
  | n, x :: r, 0, d, e => by simp [enumD] at e; exact ⟨x, by simp, by simp [e]⟩
  | n, x :: r, i + 1, d, e => by
    obtain ⟨y, h1, h2⟩ := enumD_get (n := n + 1) (xs := r) (i := i) (d := d) (by simpa [enumD] using e)
    exact ⟨y, by simpa using h1, by rw [h2]; congr 3; omega⟩
theorem it_enum {K : PySem.W.Frag} {W : Wd} {b : Bool} {a : Addr} {xs : List D} {vs : List V} (r : Reps T W xs vs) (g : W.G a = some (sqO b vs)) : ItOk T W (enumD 0 xs) (IteB b K a) := by
  have at_ : ∀ W1 S1 H1, W.Le W1 → SRel T W1 S1 H1 → SqB b K H1 a vs := fun W1 S1 H1 le sr => sqB_of (sr.sub _ _ (le.g _ _ g))
  have hl := enumD_len 0 xs
  refine ⟨fun W1 S1 H1 le sr i hi => ?_, fun W1 S1 H1 le sr i d x H2 hd y => ?_, fun W1 S1 H1 le sr => ?_⟩
  · have hv : i < vs.length := by rw [← r.length, ← hl]; exact hi
    exact ⟨vs, vs[i], at_ W1 S1 H1 le sr, by simp [hv]⟩
  · obtain ⟨Tt, x0, rfl, hn, rfl, y⟩ := y
    obtain ⟨d0, h1, rfl⟩ := enumD_get hd
    have hx := y vs (at_ W1 S1 H1 le sr)
    have rx := (reps_at r h1 hx).mono le
    rw [Nat.zero_add]
    obtain ⟨e1, e2, e3⟩ := newTup sr (.cons (.int (i : Int)) (.cons rx .nil)) hn
    exact ⟨_, e1, e2, e3⟩
  · exact ⟨vs, at_ W1 S1 H1 le sr, by rw [hl, r.length]⟩
theorem i_enum (g : Gd T Q N C k X sc fnb Wx) {a : IE} {x : PySem.Expr} {es : List PySem.Expr} {kk : Nat} {tp p p' : Pos} (hg : glB sc (Str.ofString "enumerate") = true) (hs : nst x = true) (ha : PE X x (TDe T H0 Wx C a)) :
    PI X (.Tuple es kk tp) (.Call (.Name (Str.ofString "enumerate") p') [x] [] p) (tI T H0 Wx C (.enum a)) :=
  PI.imp (pi_enumB (glB_ok g hg) (g.st.bn _ (by decide +kernel)) (pa_cons' hs ha pa_nil) (by rw [star_of hs]; rfl)) fun σ H R ⟨W, E, S, sr, fr, h⟩ => by
    refine tD.then sr fr (show Resp T (RI T) (wxs Wx σ) W H R ((ev C a E S).bind fun x S => match seqD x with
      | some xs => .ok (enumD 0 xs) S
      | none => .bad) from h) fun v H1 d S1 W1 st1 sr1 fr1 r1 h1 => ?_
    split at h1
    · rename_i xs e
      obtain ⟨b, a, vs, rfl, rs, g⟩ := r1.seqG e
      exact ⟨b, a, vs, rfl, sqB_of (sr1.sub _ _ g), h1.at sr1 (it_enum rs g)⟩
    · exact h1.nobad
theorem zipD_len : ∀ (xs ys : List D), (zipD xs ys).length = min xs.length ys.length
  | [], _ => by simp [zipD]
  | _ :: _, [] => by simp [zipD]
  | x :: xs, y :: ys => by simp [zipD, zipD_len xs ys]
theorem zipD_get : ∀ {xs ys : List D} {i : Nat} {d : D}, (zipD xs ys)[i]? = some d → ∃ x y, xs[i]? = some x ∧ ys[i]? = some y ∧ d = .tup [x, y]
  | [], _, i, d, e => by simp [zipD] at e
  | _ :: _, [], i, d, e => by simp [zipD] at e
  | x :: xs, y :: ys, 0, d, e => by simp [zipD] at e; exact ⟨x, y, by simp, by simp, e.symm⟩
  | x :: xs, y :: ys, i + 1, d, e => by
    obtain ⟨u, v, h1, h2, h3⟩ := zipD_get (xs := xs) (ys := ys) (i := i) (d := d) (by simpa [zipD] using e)
    exact ⟨u, v, by simpa using h1, by simpa using h2, h3⟩
theorem it_zip {K : PySem.W.Frag} {W : Wd} {b1 b2 : Bool} {a b : Addr} {xs ys : List D} {vs us : List V} (r : Reps T W xs vs) (g : W.G a = some (sqO b1 vs)) (r2 : Reps T W ys us) (g2 : W.G b = some (sqO b2 us)) : ItOk T W (zipD xs ys) (ItzB b1 b2 K a b) := by
  have at1 : ∀ W1 S1 H1, W.Le W1 → SRel T W1 S1 H1 → SqB b1 K H1 a vs := fun W1 S1 H1 le sr => sqB_of (sr.sub _ _ (le.g _ _ g))
  have at2 : ∀ W1 S1 H1, W.Le W1 → SRel T W1 S1 H1 → SqB b2 K H1 b us := fun W1 S1 H1 le sr => sqB_of (sr.sub _ _ (le.g _ _ g2))
  have hl := zipD_len xs ys
  have l1 := r.length
  have l2 := r2.length
  refine ⟨fun W1 S1 H1 le sr i hi => ?_, fun W1 S1 H1 le sr i d x H2 hd y => ?_, fun W1 S1 H1 le sr => ?_⟩
  · have hv : i < vs.length := by omega
    have hu : i < us.length := by omega
    exact ⟨vs, us, vs[i], us[i], at1 W1 S1 H1 le sr, at2 W1 S1 H1 le sr, by simp [hv], by simp [hu]⟩
  · obtain ⟨Tt, x0, y0, rfl, hn, rfl, y, y2⟩ := y
    obtain ⟨d0, d1, h1, h2, rfl⟩ := zipD_get hd
    have rx := (reps_at r h1 (y vs (at1 W1 S1 H1 le sr))).mono le
    have ry := (reps_at r2 h2 (y2 us (at2 W1 S1 H1 le sr))).mono le
    obtain ⟨e1, e2, e3⟩ := newTup sr (.cons rx (.cons ry .nil)) hn
    exact ⟨_, e1, e2, e3⟩
  · exact ⟨vs, us, at1 W1 S1 H1 le sr, at2 W1 S1 H1 le sr, by omega, by omega, by omega⟩
theorem i_zip (g : Gd T Q N C k X sc fnb Wx) {a b : IE} {x y : PySem.Expr} {es : List PySem.Expr} {kk : Nat} {tp p p' : Pos} (hg : glB sc (Str.ofString "zip") = true) (hs : nst x = true) (hs2 : nst y = true) (ha : PE X x (TDe T H0 Wx C a)) (hb : PE X y (TDe T H0 Wx C b)) :
    PI X (.Tuple es kk tp) (.Call (.Name (Str.ofString "zip") p') [x, y] [] p) (tI T H0 Wx C (.zip a b)) :=
  PI.imp (pi_zipB (glB_ok g hg) (g.st.bn _ (by decide +kernel)) (pa_cons' hs ha (pa_cons' hs2 hb pa_nil)) (star_of hs) (by rw [star_of hs2]; rfl)) fun σ H R ⟨W, E, S, sr, fr, h⟩ => by
    refine tD.then sr fr (show Resp T (RI T) (wxs Wx σ) W H R ((ev C a E S).bind fun x S => (ev C b E S).bind fun y S => match seqD x, seqD y with
      | some xs, some ys => .ok (zipD xs ys) S
      | _, _ => .bad) from h) fun v H1 d S1 W1 st1 sr1 fr1 r1 h1 => ?_
    refine tD.then sr1 fr1 h1 fun u H2 d2 S2 W2 st2 sr2 fr2 r2 h2 => ?_
    replace r1 := r1.mono st2.le
    split at h2
    · rename_i xs ys e1 e2
      obtain ⟨b1, a1, vs, rfl, rs, g1⟩ := r1.seqG e1
      obtain ⟨b2, a2, us, rfl, rs2, g2⟩ := r2.seqG e2
      exact ⟨b1, b2, a1, a2, vs, us, rfl, sqB_of (sr2.sub _ _ g1), sqB_of (sr2.sub _ _ g2), h2.at sr2 (it_zip rs g1 rs2 g2)⟩
    · exact h2.nobad
end
end Qv
set_option Elab.async false
set_option linter.all false
set_option maxRecDepth 100000
set_option maxHeartbeats 4000000
/-! Lists and sets that are made: [.. for ..], list(x), sorted(x), set(x). -/
namespace Qv
open PySem PySem.Spec PyProof.Rows L2
section
variable {P : Program} {w : World} {A : Around} {E : Value → Shared → Prop} {s : Shared}
set_option maxHeartbeats 3200000 in
/-- set(l) of a list of ints: the kit's set(t) of a tuple, word for word over a list -/
theorem set_list_ints {l : Addr} {items : Array Value} (ns : List Int) {Q : Value → Shared → Prop} (hh : A.handled = none) (hl : s.heap.IsList l items) (hit : IntsAre items.toList ns) (hb : ns.length + 1 < scanBound)
    (h : ∀ (h' : Heap) (tk c : Nat), SetR w h' s.heap.objs.size (fun j => decide (j ∈ ns)) c → c ≤ ns.length → (∀ b o, s.heap.get? b = some o → h'.get? b = some o) → Q (.ref s.heap.objs.size) { s with heap := h', toks := tk }) :
    wpAny (model P w) A (call (.type "set") [.ref l]) Q E s := by
  have hisz : items.size = ns.length := by
    have q := IntsAre.length hit
    rw [Array.length_toList] at q
    exact q
  obtain ⟨c, tl, hmro⟩ := F.called_set.mro
  have hmade := F.called_set.made
  have hsub := F.called_set.sub
  refine wpAny_call (codeAny_of_tree ?_)
  show wpAny _ _ (callAny (.type "set") _) _ _ _
  refine wpAny_pure ⟨Code.quiet_builtin _ (by decide +kernel), codeAny_builtin F.entry_type_call ?_⟩
  rw [Around.under_plain (weight_type_call_type "set" [.ref l] []) rfl]
  have h1 := F.called_set.notType
  have h2 := F.called_set.canCreate
  have hct := F.typeCall_set_1 (.ref l)
  repeat (any_goals (first | assumption | wp_step))

  refine codeAny_mono (code_set_led1 (.ref l) (E := E) (Q₁ := fun obj s₁ => obj = .ref s.heap.objs.size ∧ s₁ = { s with heap := s.heap.push { cls := .type "set", dict := none, data := .set #[] 0 (.fresh 0 0 (!w.params.followText "set-order")) } }) ⟨rfl, rfl⟩) fun r s₁ hr => ?_
  cases r with
  | error e => exact hr
  | ok fl =>
    cases fl with
    | ret obj =>
      obtain ⟨rfl, rfl⟩ := hr
      have hS : (s.heap.push { cls := .type "set", dict := none, data := .set #[] 0 (.fresh 0 0 (!w.params.followText "set-order")) }).get? s.heap.objs.size = some { cls := .type "set", dict := none, data := .set #[] 0 (.fresh 0 0 (!w.params.followText "set-order")) } := Heap.get?_push_size _ rfl
      have hT : Shared.TypeIs { s with heap := s.heap.push { cls := .type "set", dict := none, data := .set #[] 0 (.fresh 0 0 (!w.params.followText "set-order")) } } (.ref s.heap.objs.size) "set" := ⟨_, hS, rfl⟩
      have hli := F.called_set.init.lookup
      have hbi := F.called_set.init.bind (.ref s.heap.objs.size)
      repeat (any_goals (first | assumption | wp_step))

      refine codeAny_mono (codeAny_call_builtin (R := wants (fun r s₂ => r = .none ∧ ∃ h' tk c, s₂ = { s with heap := h', toks := tk } ∧ SetR w h' s.heap.objs.size (fun j => decide (j ∈ ns)) c ∧ c ≤ ns.length ∧
          (∀ b o, s.heap.get? b = some o → h'.get? b = some o)) E) F.called_set.init.plain F.entry_set_init (check_set_init_1 hT ?_)) fun r₂ s₂ hr₂ => ?_
      · obtain ⟨ol, hol, hcl, nl, hdl⟩ := hl
        obtain ⟨ocls, odict, odata, oslots⟩ := ol
        simp only at hcl hdl
        subst hcl; subst hdl
        have hol' : (s.heap.push { cls := .type "set", dict := none, data := .set #[] 0 (.fresh 0 0 (!w.params.followText "set-order")) }).get? l = some { cls := .type "list", dict := odict, data := .seq items nl, slots := oslots } := Heap.get?_push_of_some _ hol
        have hsls := F.sub_list_set
        have hslf := F.sub_list_frozenset
        have hne : (Value.type "list" == Value.type "dict") = false := by decide
        have hl1 : (s.heap.push { cls := .type "set", dict := none, data := .set #[] 0 (.fresh 0 0 (!w.params.followText "set-order")) }).IsList l items := ⟨_, hol', rfl, nl, rfl⟩
        unfold Builtin.«set.__init__» noKeywords Builtin.Frozenset.updateFrom
        generalize hPI : pyIter = PI
        wp_walk
        subst hPI

        refine wpAny_pyIter_list hl1 ?_
        refine wpAny_bind (wpAny_runValue ?_)
        have hlS : l < s.heap.objs.size := Heap.lt_size hol
        have hh3 : A.in1.in1.in1.handled = none := by simp [hh]
        have hz1 : (s.heap.push { cls := .type "set", dict := none, data := .set #[] 0 (.fresh 0 0 (!w.params.followText "set-order")) }).objs.size = s.heap.objs.size + 1 := Heap.size_push ..
        have hneI : l ≠ (s.heap.push { cls := .type "set", dict := none, data := .set #[] 0 (.fresh 0 0 (!w.params.followText "set-order")) }).objs.size := by
          rw [Heap.size_push]; exact Nat.ne_of_lt (Nat.lt_succ_of_lt hlS)
        have hSf : s.heap.objs.size ∉ [(s.heap.push { cls := .type "set", dict := none, data := .set #[] 0 (.fresh 0 0 (!w.params.followText "set-order")) }).objs.size, l] := by
          rw [Heap.size_push]; simp only [List.mem_cons, List.mem_singleton, List.not_mem_nil, or_false, not_or]
          exact ⟨Nat.ne_of_lt (Nat.lt_succ_self _), Nat.ne_of_gt hlS⟩
        have hval : ∀ (i : Nat) (v : Value), items[i]? = some v → ∃ k t, ns[i]? = some k ∧ v = .int k t := fun i v hv => by
          have hi : i < ns.length := by rw [← hisz]; exact (Array.getElem?_eq_some_iff.mp hv).1
          obtain ⟨t, e⟩ := PyProof.Rows.IntsAre.int_at hit i v (by rw [Array.getElem?_toList]; exact hv)
          refine ⟨ns[i], t, List.getElem?_eq_getElem hi, ?_⟩
          rw [e, List.getD_eq_getElem?_getD, List.getElem?_eq_getElem hi] <;> rfl
        refine set_update_ints ((Walks.list hh3 _ l hneI items).toS) s.heap.objs.size
          hSf ns hisz hb hval (items.size - 0) 0 _ (by omega) (Nat.zero_le _)
          ⟨⟨_, Heap.get?_push_size _ rfl, rfl, rfl⟩, (hl1.push _)⟩ ?hS0 ?hR
        case hS0 =>
          have hget : ((s.heap.push { cls := .type "set", dict := none, data := .set #[] 0 (.fresh 0 0 (!w.params.followText "set-order")) }).push { cls := .type "list_iterator", data := .fields #[.ref l, .int 0 0] }).get? s.heap.objs.size
              = some { cls := .type "set", dict := none, data := .set #[] 0 (.fresh 0 0 (!w.params.followText "set-order")) } := Heap.get?_push_of_some _ hS
          exact ⟨0, Nat.le_refl 0, setR_new_at hget⟩
        case hR =>
          intro s' c' hm hc' hS'
          obtain ⟨h', g2, d', tk', os'⟩ := s'
          have eg : g2 = s.gens := hm.gens
          have ed : d' = s.drawn := hm.drawn
          have eo : os' = s.os := hm.os
          subst eg; subst ed; subst eo
          show wpAny _ _ _ _ _ _
          refine wpAny_pure ?_
          show wpAny _ _ (ret Value.none) _ _ _
          rw [hisz] at hc'
          refine wpAny_pure ⟨rfl, h', tk', c', rfl, hS', hc', fun b o e => ?_⟩
          have hb0 : b < s.heap.objs.size := Heap.lt_size e
          have hb1 : b ≠ s.heap.objs.size := Nat.ne_of_lt hb0
          have hb2 : b ≠ (s.heap.push { cls := .type "set", dict := none, data := .set #[] 0 (.fresh 0 0 (!w.params.followText "set-order")) }).objs.size := by
            rw [Heap.size_push]; exact Nat.ne_of_lt (Nat.lt_succ_of_lt hb0)
          exact hm.heap b o (by simp only [List.mem_cons, List.mem_singleton, List.not_mem_nil, or_false, not_or]; exact ⟨hb1, hb2⟩) (Heap.get?_push_of_some _ (Heap.get?_push_of_some _ e))

      · cases r₂ with
        | error e => exact hr₂
        | ok fl₂ =>
          cases fl₂ with
          | ret r =>
            obtain ⟨rfl, h', tk, c', rfl, hS', hc', hk'⟩ := hr₂
            repeat (any_goals (first | assumption | wp_step))
            exact h _ _ _ hS' hc' hk'
          | _ => exact hr₂.elim
    | _ => exact hr.elim
end
theorem addS_nodup {xs : List Int} {x : Int} (h : xs.Nodup) : (addS xs x).Nodup := by
  unfold addS
  split
  · exact h
  · rename_i c
    rw [List.nodup_append]
    exact ⟨h, by simp, fun a ha b hb => by simp at hb; subst hb; exact fun z => c (z ▸ ha)⟩
theorem addS_mem {xs : List Int} {x k : Int} : k ∈ addS xs x ↔ k ∈ xs ∨ k = x := by
  unfold addS
  split
  · rename_i c
    exact ⟨.inl, fun h => h.elim id fun e => e ▸ c⟩
  · simp
theorem foldl_addS {ns : List Int} : ∀ {acc : List Int}, acc.Nodup → (ns.foldl addS acc).Nodup ∧ ∀ k, k ∈ ns.foldl addS acc ↔ k ∈ acc ∨ k ∈ ns := by
  induction ns with
  | nil => intro acc h; exact ⟨h, by simp⟩
  | cons n r ih =>
    intro acc h
    obtain ⟨h1, h2⟩ := ih (addS_nodup (x := n) h)
    refine ⟨h1, fun k => ?_⟩
    rw [List.foldl_cons, h2, addS_mem]
    simp [or_assoc]
theorem nodup_le {α : Type} [DecidableEq α] : ∀ {a b : List α}, a.Nodup → (∀ k, k ∈ a → k ∈ b) → a.length ≤ b.length
  | [], _, _, _ => Nat.zero_le _
  | x :: a, b, na, h => by
    have hx := h x List.mem_cons_self
    have h2 := nodup_le (a := a) (b := b.erase x) (List.nodup_cons.mp na).2 fun k hk => by
      have hne : k ≠ x := fun e => (List.nodup_cons.mp na).1 (e ▸ hk)
      exact (List.mem_erase_of_ne hne).mpr (h k (List.mem_cons_of_mem _ hk))
    rw [List.length_erase_of_mem hx] at h2
    have : 0 < b.length := List.length_pos_of_mem hx
    simp only [List.length_cons]
    omega
theorem nodup_perm {a b : List Int} (ha : a.Nodup) (hb : b.Nodup) (h : ∀ k, k ∈ a ↔ k ∈ b) : a.length = b.length :=
  Nat.le_antisymm (nodup_le ha fun k hk => (h k).1 hk) (nodup_le hb fun k hk => (h k).2 hk)
theorem setR_count {w : World} {h : Heap} {a : Addr} {S : Int → Bool} {n : Nat} {xs : List Int} (R : SetR w h a S n) (e : ∀ i, S i = decide (i ∈ xs)) (nd : xs.Nodup) : n = xs.length := by
  obtain ⟨o, es, ep, t, ho, hx, hd, g, nd2, hm, hb, hf, hn, _⟩ := R
  have := nodup_perm nd2 nd fun k => by rw [← hm k, e k, decide_eq_true_eq]
  rw [← this, List.length_map, Array.length_toList, hn]
def rSetOf (K : PySem.W.Frag) (w : World) : List V → Hp → VK → Prop := fun vs H Q => ∃ (b : Bool) (p : Addr) (ns : List Int), vs = [V.ref p] ∧ SqB b K H p (ns.map V.int) ∧ ns.length < 4000 ∧
  ∀ q, H q = none → Q (.ref q) (upd H q (SetO w q (fun j => decide (j ∈ ns.foldl addS [])) (ns.foldl addS []).length))
theorem cr_setOf {X : Cx} (hc : X.calm = true) : CallR X (.type "set") (rSetOf X.K X.w) := by
  intro pins s σ H vs us Q I r h
  obtain ⟨b, p, ns, rfl, hs, hn, q⟩ := h
  rw [Vals.ref1 r]
  obtain ⟨its, rv, sq, hz⟩ := inv_seqB I hs
  have hi := rv.ints
  obtain ⟨nd, mem⟩ := foldl_addS (ns := ns) (acc := []) List.nodup_nil
  have hsb : ns.length + 1 < scanBound := by show ns.length + 1 < 4096; omega
  have fin : ∀ (h' : Heap) (tk c : Nat), SetR X.w h' s.heap.objs.size (fun j => decide (j ∈ ns)) c → (∀ b o, s.heap.get? b = some o → h'.get? b = some o) → EP X pins σ Q (.ref s.heap.objs.size) { s with heap := h', toks := tk } := fun h' tk c R k => by
    have R2 : SetR X.w h' s.heap.objs.size (fun j => decide (j ∈ ns.foldl addS [])) c := R.congr fun j => by
      rw [Bool.eq_iff_iff]
      simp [mem j]
    have hc2 := setR_count (xs := ns.foldl addS []) R2 (fun _ => rfl) nd
    rw [hc2] at R2
    exact ⟨.ref s.heap.objs.size, _, I.laid (t' := tk) k (Nat.le_refl _) (setO_new R2), rfl, q _ (I.hok.fresh (Nat.le_refl _))⟩
  cases b with
  | true => exact set_list_ints ns (I.ok.hd hc) sq (by simpa using hi) hsb fun h' tk c R _ k => fin h' tk c R k
  | false => exact call_set_tupI ns (I.ok.hd hc) sq (by simpa using hi) hsb fun h' tk c R _ k => fin h' tk c R k
end Qv
set_option Elab.async false
set_option linter.all false
set_option maxRecDepth 100000
set_option maxHeartbeats 4000000
/-! Comprehensions; lists and sets that are made by calls. -/
namespace Qv
open PySem PySem.Spec PyProof.Rows L2
section
variable {T : Tb} {Q : Ck} {N : List Str} {C : Calls} {k : Nat} {X : Cx} {sc : Scope} {fnb : Str → Bool} {Wx : WX} {H0 : Hp}

/-- nothing may be raised -/
abbrev WF : WX := fun _ _ _ _ => False
theorem takes_none {X : Cx} : Takes X WF := fun _ _ ⟨_, _, _, _, _, _, _, _, _, _, _, _, _, _, _, _, w⟩ => w.elim
theorem PTs.imp {ifs : List PySem.Expr} {t t' : TT} (h : PTs X ifs t) (k : ∀ σ H Q, t' σ H Q → t σ H Q) : PTs X ifs t' := ⟨fun pins s σ H Q I hw => h.run pins s σ H Q I (k _ _ _ hw)⟩
theorem pts_no : PTs X [] (tT T H0 Wx (evC C .no)) := PTs.imp pts_nil fun σ H Qr ⟨W, E, S, sr, fr, h⟩ => (show Resp T EqB (wxs Wx σ) W H Qr (.ok true S) from h).at sr rfl
theorem pts_ye {a : IE} {x : PySem.Expr} (h : PT X x (TTe T H0 Wx C a)) : PTs X [x] (tT T H0 Wx (evC C (.ye a))) := PTs.imp (pts_one h) fun σ H Qr h => h
/-- a list of one's own is changed: what was there ahead stands -/
theorem Stp.own {W W' : Wd} {H H' : Hp} {a : Addr} {o : HO} (st : Stp W H W' H') (h : H a = none) : Stp W H W' (upd H' a o) :=
  ⟨st.le, fun b u e n => by rw [upd_ne (ne_of_none e h)]; exact st.keep b u e n, st.newG, st.newM, fun b hb => by
    by_cases e : b = a
    · subst e; rw [upd_same]; simp
    · rw [upd_ne e]; exact st.there b hb⟩
/-- a list of one's own stays one's own -/
theorem own_stp {W W' : Wd} {H H' : Hp} {a : Addr} {o : HO} (st : Stp W H W' H') (q : H a = some o) (g : W.G a = none) (nm : a ∉ W.m) : H' a = some o ∧ W'.G a = none ∧ a ∉ W'.m := by
  refine ⟨st.keep a _ q nm, ?_, fun c => ?_⟩
  · cases k : W'.G a with
    | none => rfl
    | some u =>
      rcases st.newG a u k with c | c | c
      · rw [g] at c; cases c
      · rw [q] at c; cases c
      · exact absurd c nm
  · rcases st.newM a c with c | c
    · exact nm c
    · rw [q] at c; cases c
/-- one turn of a comprehension -/
def compF (C : Calls) (elt : IE) (tg : Tg) (cond : IO) (vs : List Nat) (E : En) : D → Sh → Res (Option D) := fun x S => match asgT tg x (wipeE E vs) with
  | none => .bad
  | some E1 => (evC C cond E1 S).bind fun t S => match t with
    | true => (ev C elt E1 S).bind fun y S => .ok (some y) S
    | false => .ok none S
theorem noEx_bind {α β γ : Type} {R : Wd → Hp → β → γ → Prop} {W : Wd} {H : Hp} {Wh : WXh} {Qr : γ → Hp → Prop} {r : Res α} {kk : α → Sh → Res β} (h : Resp T R Wh W H Qr (noEx (r.bind kk))) : ∃ a S, r = .ok a S ∧ Resp T R Wh W H Qr (noEx (kk a S)) := by
  cases r with
  | ok a S => exact ⟨a, S, rfl, h⟩
  | ex x S => exact h.elim
  | bad => exact h.elim
/-- the wish of a comprehension -/
theorem lc_wish {elt : IE} {tg : Tg} {it : II} {cond : IO} {vs : List Nat} (hv : ∀ i ∈ tgSlots tg, i ∈ vs) {W : Wd} {E : En} {S : Sh} {σ : L2.St} {H : Hp} {Qr : VK} (sr : SRel T W S H) (fr : FRel T H0 W E σ H)
    (h : Resp T (RL T H) (wxs Wx σ) W H Qr (evL C (.comp elt tg it cond vs) E S)) : tLc (tI T H0 Wx C it) (tG T H0 tg) (tT T H0 WF (evC C cond)) (TDe T H0 WF C elt) vs σ H Qr := by
  have h : Resp T (RL T H) (wxs Wx σ) W H Qr ((evI C it E S).bind fun xs S => noEx (compL (compF C elt tg cond vs E) xs [] S)) := h
  refine tR.then sr fr rfl h fun J H1 xs S1 W1 _ st1 sr1 fr1 r1 h1 => ?_
  intro Dd hD
  let Pv : Nat → Hp → Prop := fun i Hc => ∃ W2 S2 acc vacc, Stp W1 H1 W2 Hc ∧ SRel T W2 S2 Hc ∧ Hc Dd = some (.lst vacc) ∧ Reps T W2 acc vacc ∧ W2.G Dd = none ∧ Dd ∉ W2.m ∧ Resp T (RL T H) (wxs Wx σ) W1 H1 Qr (noEx (compL (compF C elt tg cond vs E) (xs.drop i) acc S2))
  have hH : H Dd = none := st1.back sr hD
  refine ⟨fun i m Hc => m = xs.length - i ∧ i ≤ xs.length ∧ Pv i Hc, ⟨_, rfl, Nat.zero_le _, ?_⟩, ?_⟩
  · obtain ⟨f1, f2⟩ := sr1.fresh (o := .lst []) hD
    exact ⟨W1, S1, [], [], f2, f1, upd_same, .nil, sr1.nonG hD, sr1.nonM hD, h1⟩
  rintro i m Hc ⟨rfl, hi, W2, S2, acc, vacc, st2, sr2, e2, ra, g2, n2, h2⟩
  by_cases hlt : i < xs.length
  · refine .inr ⟨r1.go W2 S2 Hc st2.le sr2 i hlt, Pv (i + 1), fun H' p => ⟨_, by omega, rfl, hlt, p⟩, fun x H' y => ?_⟩
    have hd : xs[i]? = some xs[i] := List.getElem?_eq_getElem hlt
    rw [List.drop_eq_getElem_cons hlt] at h2
    replace h2 : Resp T (RL T H) (wxs Wx σ) W1 H1 Qr (noEx ((compF C elt tg cond vs E xs[i] S2).bind fun o S1 => match o with
      | none => compL (compF C elt tg cond vs E) (xs.drop (i + 1)) acc S1
      | some y => if acc.length < LIM then compL (compF C elt tg cond vs E) (xs.drop (i + 1)) (acc ++ [y]) S1 else .bad)) := h2
    obtain ⟨o, S3, eo, h3⟩ := noEx_bind h2
    obtain ⟨W3, st3, sr3, rx⟩ := r1.yld W2 S2 Hc st2.le sr2 i xs[i] x H' hd y
    obtain ⟨e3, g3, n3⟩ := own_stp st3 e2 g2 n2
    have st13 := st2.trans st3
    unfold compF at eo
    split at eo
    · cases eo
    · rename_i E1 eE
      have fw : FRel T H0 W3 (wipeE E vs) (L2.wipe σ vs) H' := (fr1.stp st13).wipe vs
      refine ⟨W3, wipeE E vs, S2, xs[i], E1, sr3, fw, rx, eE, fun σ2 fr2 hw => ⟨?_, ?_⟩⟩
      · have hww : L2.wipe (L2.wipe σ vs) vs = L2.wipe σ vs := by
          have key : ∀ (us : List Nat) (τ : L2.St), (∀ u ∈ us, ∀ z, τ[u]? = some z → z = none) → L2.wipe τ us = τ := by
            intro us
            induction us with
            | nil => intro τ _; rfl
            | cons u us ih =>
              intro τ hz
              unfold L2.wipe
              rw [ih τ fun a ha => hz a (List.mem_cons_of_mem _ ha)]
              apply List.ext_getElem?
              intro j
              by_cases hj : u = j
              · subst hj
                by_cases hl : u < τ.length
                · rw [List.getElem?_set_self hl]
                  have := hz u List.mem_cons_self _ (List.getElem?_eq_getElem hl)
                  rw [List.getElem?_eq_getElem hl, this]
                · rw [List.getElem?_eq_none (by simpa using hl), List.getElem?_eq_none (by simpa using hl)]
              · rw [List.getElem?_set_ne hj]
          refine key vs _ fun u hu z hz => ?_
          cases z with
          | none => rfl
          | some v => exact absurd hu (L2.wipe_some hz).2
        rw [hw vs hv, hww]
      · cases ec : evC C cond E1 S2 with
        | bad => rw [ec] at eo; cases eo
        | ex _ _ => rw [ec] at eo; cases eo
        | ok t S4 =>
          rw [ec] at eo
          refine ⟨W3, E1, S2, sr3, fr2, ?_⟩
          rw [ec]
          intro W4 H4 t' st4 sr4 et
          subst et
          have fr4 := fr2.stp st4
          obtain ⟨e4, g4, n4⟩ := own_stp st4 e3 g3 n3
          cases t with
          | false =>
            cases eo
            rw [if_neg (by decide)]
            exact ⟨W4, _, acc, vacc, st13.trans st4, sr4, e4, (ra.mono st3.le).mono st4.le, g4, n4, h3⟩
          | true =>
            rw [if_pos rfl]
            replace eo : (ev C elt E1 S4).bind (fun y S => Res.ok (some y) S) = Res.ok o S3 := eo
            refine ⟨W4, E1, S4, sr4, fr4, ?_⟩
            cases ee : ev C elt E1 S4 with
            | bad => rw [ee] at eo; cases eo
            | ex _ _ => rw [ee] at eo; cases eo
            | ok yv S5 =>
              rw [ee] at eo
              cases eo
              intro W5 H5 v st5 sr5 rv
              obtain ⟨e5, g5, n5⟩ := own_stp st5 e4 g4 n4
              have st15 := (st13.trans st4).trans st5
              have ra5 : Reps T W5 acc vacc := ((ra.mono st3.le).mono st4.le).mono st5.le
              replace h3 : Resp T (RL T H) (wxs Wx σ) W1 H1 Qr (noEx (if acc.length < LIM then compL (compF C elt tg cond vs E) (xs.drop (i + 1)) (acc ++ [yv]) S3 else .bad)) := h3
              split at h3
              · rename_i hlim
                have := sl64
                unfold LIM at hlim
                refine ⟨vacc, e5, by rw [← ra5.length]; omega, W5, _, acc ++ [yv], vacc ++ [v], st15.own hD, sr5.ownSet g5 n5, upd_same, ra5.append (.cons rv .nil), g5, n5, h3⟩
              · exact h3.elim
  · have e : i = xs.length := by omega
    subst e
    refine .inl ⟨r1.stop W2 S2 Hc st2.le sr2, ?_⟩
    rw [List.drop_length] at h2
    exact h2 W2 Hc (.ref Dd) st2 sr2 ⟨Dd, vacc, rfl, e2, ra, g2, n2, hH⟩
/-- [.. for ..] -/
theorem l_comp (g : Gd T Q N C k X sc fnb Wx) {elt : IE} {tg : Tg} {it : II} {cond : IO} {vs : List Nat} (hv : ∀ i ∈ tgSlots tg, i ∈ vs) {x t i : PySem.Expr} {ifs : List PySem.Expr} {scope : Scope} {own : List (Str × Nat)} {p : Pos} (hi : PI X t i (tI T H0 Wx C it)) (ok : BlkOk X.N X.env.scope scope own) (ho : own.map (·.2) = vs)
    (hg : ∀ (s : Shared) (H : Hp) (Ca : Addr) (cl : List (Str × Addr)) (fp : List Addr), PG (X.blk s H scope (compEnvC scope cl Ca X.env) fp) t (tG T H0 tg)) (ht : ∀ (s : Shared) (H : Hp) (Ca : Addr) (cl : List (Str × Addr)) (fp : List Addr), PTs (X.blk s H scope (compEnvC scope cl Ca X.env) fp) ifs (tT T H0 WF (evC C cond)))
    (he : ∀ (s : Shared) (H : Hp) (Ca : Addr) (cl : List (Str × Addr)) (fp : List Addr), PE (X.blk s H scope (compEnvC scope cl Ca X.env) fp) x (TDe T H0 WF C elt)) (hs : ∀ x, foldedSetIterable i X.env x = pure x) :
    PL X T H0 Wx (.ListComp x [⟨t, i, ifs, 0⟩] scope p) (evL C (.comp elt tg it cond vs)) := by
  subst ho
  exact PE.imp (pe_lc g.calm g.nd hi ok hg ht he hs) fun σ H Qr ⟨W, E, S, sr, fr, h⟩ => lc_wish hv sr fr h
/-- the place in a comprehension's block -/
theorem Gd.blk (g : Gd T Q N C k X sc fnb Wx) (s : Shared) (H : Hp) (scope : Scope) (cl : List (Str × Addr)) (Ca : Addr) (fp : List Addr) : Gd T Q N C k (X.blk s H scope (compEnvC scope cl Ca X.env) fp) (inner scope sc) (innerF scope) WF where
  st := g.st
  N := g.N
  nd := g.nd
  sc := by rw [← g.sc]; rfl
  fnb := fun x h => h
  calm := g.calm
  room := g.room
  tk := takes_none

/-! ### list(x), sorted(x), x * n, set(x) -/
theorem View.sq {W : Wd} {S : Sh} {H : Hp} {d : D} {v : V} {xs : List D} {K : PySem.W.Frag} (sr : SRel T W S H) (h : View T W H d v) (e : seqD d = some xs) : ∃ b a vs, v = .ref a ∧ Reps T W xs vs ∧ SqB b K H a vs := by
  obtain ⟨a, vs, e1, r, q⟩ := h.seq (K := K) sr e
  rcases q with q | q
  · exact ⟨true, a, vs, e1, r, q⟩
  · exact ⟨false, a, vs, e1, r, q⟩
theorem l_list (g : Gd T Q N C k X sc fnb Wx) {a : IE} {x : PySem.Expr} {p p' : Pos} (hg : glB sc (Str.ofString "list") = true) (hs : nst x = true) (ha : PE X x (TAe T H0 Wx C a)) : PL X T H0 Wx (.Call (.Name (Str.ofString "list") p') [x] [] p) (evL C (.list a)) :=
  PE.imp (pe_callTy call_list_of (glB_ok g hg) (g.st.bn _ (by decide +kernel)) (by decide +kernel) (pa_cons' hs ha pa_nil) (by decide) (by decide) (by rw [star_of hs]) (by rfl)) fun σ H Qr ⟨W, E, S, sr, fr, h⟩ => by
    refine tA.then sr fr (show Resp T (RL T H) (wxs Wx σ) W H Qr ((brw a E S (ev C a E S)).bind fun x S => lift (seqD (drf S x)) S) from h) fun v H1 d S1 W1 st1 sr1 fr1 r1 h1 => ?_
    obtain ⟨xs, e, h1⟩ := h1.lift1
    obtain ⟨b, ad, vs, rfl, rs, q⟩ := (r1.view sr1).sq (K := X.K) sr1 e
    refine ⟨ad, vs, rfl, by cases b; exact .inr q; exact .inl q, fun l hl => ?_⟩
    obtain ⟨a1, a2, a3⟩ := RL.own sr1 rs hl (st1.back sr hl)
    exact h1 _ _ _ a1 a2 a3
theorem sorted_uniq : ∀ {a b : List Int}, a.Perm b → a.Pairwise (· ≤ ·) → b.Pairwise (· ≤ ·) → a = b
  | a, b, p, ha, hb => p.eq_of_pairwise (fun x y _ _ h1 h2 => Int.le_antisymm h1 h2) ha hb
theorem insI_perm (x : Int) : ∀ l : List Int, (insI x l).Perm (x :: l)
  | [] => .refl _
  | y :: r => by
    unfold insI
    split
    · exact .refl _
    · exact ((insI_perm x r).cons y).trans (.swap x y r)
theorem sortI_perm : ∀ l : List Int, (sortI l).Perm l
  | [] => .nil
  | x :: r => (insI_perm x _).trans ((sortI_perm r).cons x)
theorem insI_sorted (x : Int) : ∀ {l : List Int}, l.Pairwise (· ≤ ·) → (insI x l).Pairwise (· ≤ ·)
  | [], _ => by simp [insI]
  | y :: r, h => by
    unfold insI
    split
    · rename_i c
      refine List.pairwise_cons.mpr ⟨fun z hz => ?_, h⟩
      rcases List.mem_cons.mp hz with rfl | hz
      · exact c
      · exact Int.le_trans c ((List.pairwise_cons.mp h).1 z hz)
    · rename_i c
      refine List.pairwise_cons.mpr ⟨fun z hz => ?_, insI_sorted x (List.pairwise_cons.mp h).2⟩
      rcases List.mem_cons.mp ((insI_perm x r).mem_iff.mp hz) with rfl | hz
      · omega
      · exact (List.pairwise_cons.mp h).1 z hz
theorem sortI_sorted : ∀ l : List Int, (sortI l).Pairwise (· ≤ ·)
  | [] => .nil
  | x :: r => insI_sorted x (sortI_sorted r)
theorem sortI_of_set {xs ns : List Int} (nd : xs.Nodup) (h : ns.Pairwise (· < ·)) (e : ∀ k, k ∈ ns ↔ k ∈ xs) : ns = sortI xs := by
  have nd2 : ns.Nodup := h.imp fun {a b} h => Int.ne_of_lt h
  have p : ns.Perm xs := (List.perm_ext_iff_of_nodup nd2 nd).mpr e
  exact sorted_uniq (p.trans (sortI_perm xs).symm) (h.imp fun {a b} h => Int.le_of_lt h) (sortI_sorted xs)
def rSortA (K : PySem.W.Frag) (w : World) : List V → Hp → VK → Prop := fun vs H Q => rSortedI K vs H Q ∨ rSortedSet w vs H Q
theorem l_sorted (g : Gd T Q N C k X sc fnb Wx) {a : IE} {x : PySem.Expr} {p p' : Pos} (hg : glB sc (Str.ofString "sorted") = true) (hs : nst x = true) (ha : PE X x (TAe T H0 Wx C a)) : PL X T H0 Wx (.Call (.Name (Str.ofString "sorted") p') [x] [] p) (evL C (.sorted a)) := by
  have cr : CallR X (.builtin "sorted") (rSortA X.K X.w) := fun pins s σ H vs us Qr I r h => h.elim (fun h => cr_sortedI pins s σ H vs us Qr I r h) (fun h => cr_sortedSet g.calm pins s σ H vs us Qr I r h)
  refine PE.imp (pe_callB cr (glB_ok g hg) (g.st.bn _ (by decide +kernel)) (by decide +kernel) (pa_cons' hs ha pa_nil) (by decide) (by decide) (by rw [star_of hs]) (by rfl)) fun σ H Qr ⟨W, E, S, sr, fr, h⟩ => ?_
  refine tA.then sr fr (show Resp T (RL T H) (wxs Wx σ) W H Qr ((brw a E S (ev C a E S)).bind fun x S => match drf S x with
    | .lst xs => (lift (intsOf xs) S).bind fun l S => .ok ((sortI l).map .int) S
    | .set xs => if xs.length < 64 then .ok ((sortI xs).map .int) S else .bad
    | _ => .bad) from h) fun v H1 d S1 W1 st1 sr1 fr1 r1 h1 => ?_
  have vw := r1.view sr1
  split at h1
  · rename_i xs e
    rw [e] at vw
    obtain ⟨l, e2, h1⟩ := h1.lift
    obtain ⟨ad, vs, rfl, hv, rs⟩ := vw
    obtain ⟨rfl, _⟩ := intsOf_reps rs e2
    refine .inl ⟨ad, l, rfl, SqL.of hv, fun ns q hp hsd hq => ?_⟩
    obtain rfl := sorted_uniq (hp.trans (sortI_perm l).symm) hsd (sortI_sorted l)
    obtain ⟨a1, a2, a3⟩ := RL.own sr1 (reps_ints (T := T) (W := W1) (sortI l)) hq (st1.back sr hq)
    exact h1 _ _ _ a1 a2 a3
  · rename_i xs e
    rw [e] at vw
    obtain ⟨ad, SS, rfl, hv, hS, nd⟩ := vw
    rw [g.st.tw] at hv
    split at h1
    · rename_i c
      refine .inr ⟨ad, SS, _, rfl, hv, c, fun ns q hsd hm hl hq => ?_⟩
      obtain rfl := sortI_of_set nd hsd fun k => by rw [hm k, hS k, decide_eq_true_eq]
      obtain ⟨a1, a2, a3⟩ := RL.own sr1 (reps_ints (T := T) (W := W1) (sortI xs)) hq (st1.back sr hq)
      exact h1 _ _ _ a1 a2 a3
    · exact h1.nobad
  · exact h1.nobad
theorem mul_lst {d y : D} {xs : List D} (h : binD .mul d y = some (.lst xs)) : ∃ ys k, d = .lst ys ∧ y = .int k ∧ 0 ≤ k ∧ k ≤ 1000 ∧ ys.length ≤ 1000 ∧ xs = (List.replicate k.toNat ys).flatten := by
  cases d with
  | lst ys =>
    cases y with
    | int k =>
      simp only [binD] at h
      split at h <;> cases h
      rename_i c
      exact ⟨ys, k, rfl, rfl, c.1, c.2.1, c.2.2, rfl⟩
    | _ => simp [binD] at h
  | tup ys =>
    cases y with
    | int k => simp only [binD] at h; split at h <;> cases h
    | _ => simp [binD] at h
  | int i =>
    cases y with
    | int k => simp only [binD] at h; split at h <;> cases h
    | _ => simp [binD] at h
  | _ => simp [binD] at h
theorem l_rep (g : Gd T Q N C k X sc fnb Wx) {a b : IE} {l r : PySem.Expr} {p : Pos} (ha : PE X l (TAe T H0 Wx C a)) (hb : PE X r (TDe T H0 Wx C b)) : PL X T H0 Wx (.BinOp l .Mult r p) (evL C (.rep a b)) :=
  PE.imp (pe_op op_rep ha hb) fun σ H Qr ⟨W, E, S, sr, fr, h⟩ => by
    refine tA.then sr fr (show Resp T (RL T H) (wxs Wx σ) W H Qr ((brw a E S (ev C a E S)).bind fun x S => (ev C b E S).bind fun y S => match binD .mul (drf S x) y with
      | some (.lst xs) => .ok xs S
      | _ => .bad) from h) fun v H1 d S1 W1 st1 sr1 fr1 r1 h1 => ?_
    refine tD.then sr1 fr1 h1 fun u H2 d2 S2 W2 st2 sr2 fr2 r2 h2 => ?_
    have vw := (RA.stp sr1 st2 r1).view sr2
    split at h2
    · rename_i xs e
      obtain ⟨ys, k, e1, rfl, c1, c2, c3, rfl⟩ := mul_lst e
      rw [e1] at vw
      obtain ⟨ad, vs, rfl, hv, rs⟩ := vw
      cases r2
      have hl := rs.length
      have := sl64
      have a1 : vs.length * k.toNat ≤ 1000 * 1000 := Nat.mul_le_mul (by omega) (by omega)
      refine ⟨ad, k, vs, rfl, rfl, hv, by omega, by omega, by omega, fun q hq => ?_⟩
      obtain ⟨b1, b2, b3⟩ := RL.own sr2 (rs.rep k.toNat) hq ((st1.trans st2).back sr hq)
      exact h2 _ _ _ b1 b2 b3
    · exact h2.nobad
theorem s_st (g : Gd T Q N C k X sc fnb Wx) {a : IE} {x : PySem.Expr} {p p' : Pos} (hg : glB sc (Str.ofString "set") = true) (hs : nst x = true) (ha : PE X x (TAe T H0 Wx C a)) : PE X (.Call (.Name (Str.ofString "set") p') [x] [] p) (TDe T H0 Wx C (.st a)) :=
  PE.imp (pe_callTy (cr_setOf g.calm) (glB_ok g hg) (g.st.bn _ (by decide +kernel)) (by decide +kernel) (pa_cons' hs ha pa_nil) (by decide) (by decide) (by rw [star_of hs]) (by rfl)) fun σ H Qr ⟨W, E, S, sr, fr, h⟩ => by
    refine tA.then sr fr (show Resp T (RD T) (wxs Wx σ) W H Qr ((brw a E S (ev C a E S)).bind fun x S => (lift (setOf (drf S x)) S).bind fun l S => .ok (.set l) S) from h) fun v H1 d S1 W1 st1 sr1 fr1 r1 h1 => ?_
    obtain ⟨l, e, h1⟩ := h1.lift
    unfold setOf at e
    simp only [Option.bind_eq_some_iff] at e
    obtain ⟨ns, ⟨xs, e1, e2⟩, e3⟩ := e
    split at e3 <;> cases e3
    rename_i c
    obtain ⟨b, ad, vs, rfl, rs, q⟩ := (r1.view sr1).sq (K := X.K) sr1 e1
    obtain ⟨rfl, _⟩ := intsOf_reps rs e2
    refine ⟨b, ad, ns, rfl, q, c, fun q hq => ?_⟩
    obtain ⟨f1, f2⟩ := sr1.laid (o := SetO X.w q (fun j => decide (j ∈ ns.foldl addS [])) (ns.foldl addS []).length) hq
    refine h1 _ _ _ f2 f1 (.set ?_ (fun _ => rfl) (foldl_addS List.nodup_nil).1)
    rw [g.st.tw]
    exact upd_same
end
end Qv
set_option Elab.async false
set_option linter.all false
set_option maxRecDepth 100000
set_option maxHeartbeats 8000000
/-! The soundness of the checker: expressions. -/
namespace Qv
open PySem PySem.Spec PyProof.Rows L2
def isBO : PySem.Expr → Bool
  | .BoolOp .. => true
  | _ => false
section
variable {T : Tb} {Q : Ck} {N : List Str} {C : Calls} {k : Nat} {H0 : Hp}
def SndE (T : Tb) (Q : Ck) (N : List Str) (C : Calls) (k : Nat) (H0 : Hp) (i : IE) : Prop := ∀ (X : Cx) (sc : Scope) (fnb : Str → Bool) (Wx : WX) (x : PySem.Expr), Gd T Q N C k X sc fnb Wx → okE Q N sc i x = true →
  PE X x (TDe T H0 Wx C i) ∧ PT X x (TTe T H0 Wx C i) ∧ (isBO x = true → PW X x (TTe T H0 Wx C i))
def SndEs (T : Tb) (Q : Ck) (N : List Str) (C : Calls) (k : Nat) (H0 : Hp) (i : IEs) : Prop := ∀ (X : Cx) (sc : Scope) (fnb : Str → Bool) (Wx : WX) (x : List PySem.Expr), Gd T Q N C k X sc fnb Wx → okEs Q N sc i x = true →
  PA X x (tDs T H0 Wx (evs C i)) ∧ PA X x (tAs T H0 Wx (evAs C i))
def SndO (T : Tb) (Q : Ck) (N : List Str) (C : Calls) (k : Nat) (H0 : Hp) (i : IO) : Prop := ∀ (X : Cx) (sc : Scope) (fnb : Str → Bool) (Wx : WX), Gd T Q N C k X sc fnb Wx →
  (∀ x, okO Q N sc i x = true → PO X x (tO T H0 Wx C i)) ∧ (∀ x, okC Q N sc i x = true → PTs X x (tT T H0 Wx (evC C i)))
def SndL (T : Tb) (Q : Ck) (N : List Str) (C : Calls) (k : Nat) (H0 : Hp) (i : LE) : Prop := ∀ (X : Cx) (sc : Scope) (fnb : Str → Bool) (Wx : WX) (x : PySem.Expr), Gd T Q N C k X sc fnb Wx → okL Q N sc i x = true → PL X T H0 Wx x (evL C i)
def SndI (T : Tb) (Q : Ck) (N : List Str) (C : Calls) (k : Nat) (H0 : Hp) (i : II) : Prop := ∀ (X : Cx) (sc : Scope) (fnb : Str → Bool) (Wx : WX) (t x : PySem.Expr), Gd T Q N C k X sc fnb Wx → okI Q N sc i t x = true →
  PI X t x (tI T H0 Wx C i) ∧ plainX x = true
theorem val_all {X : Cx} {sc : Scope} {fnb : Str → Bool} {Wx : WX} {i : IE} {x : PySem.Expr} (g : Gd T Q N C k X sc fnb Wx) (ok : okE Q N sc i x = true) (hv : valX x = true) (hb : isBO x = false) (h : PE X x (TDe T H0 Wx C i)) :
    PE X x (TDe T H0 Wx C i) ∧ PT X x (TTe T H0 Wx C i) ∧ (isBO x = true → PW X x (TTe T H0 Wx C i)) :=
  ⟨h, t_val hv (PE.borrow g ok h), fun z => by rw [hb] at z; cases z⟩
theorem okL_val : ∀ (i : LE) {sc : Scope} {e : PySem.Expr}, okL Q N sc i e = true → valX e = true ∧ isBO e = false
  | .disp es, sc, e, h => by unfold okL at h; split at h <;> first | exact ⟨rfl, rfl⟩ | cases h
  | .comp _ _ _ _ _, sc, e, h => by unfold okL at h; split at h <;> first | exact ⟨rfl, rfl⟩ | cases h
  | .list a, sc, e, h => by unfold okL at h; split at h <;> first | exact ⟨rfl, rfl⟩ | cases h
  | .sorted a, sc, e, h => by unfold okL at h; split at h <;> first | exact ⟨rfl, rfl⟩ | cases h
  | .rep a n, sc, e, h => by unfold okL at h; split at h <;> first | exact ⟨rfl, rfl⟩ | cases h
theorem okEs_z {sc : Scope} {es : IEs} (h : okEs Q N sc es [] = true) : es = .nil := by
  cases es with
  | nil => rfl
  | cons a b => simp [okEs] at h
mutual
theorem sE : ∀ i : IE, SndE T Q N C k H0 i
  | .c d => fun X sc fnb Wx x g h => by
    have hp : valX x = true ∧ isBO x = false := by have h2 := h; unfold okE at h2; split at h2 <;> first | exact ⟨rfl, rfl⟩ | cases h2
    exact val_all g h hp.1 hp.2 (s_c h)
  | .g n => fun X sc fnb Wx x g h => by
    have hp : valX x = true ∧ isBO x = false := by have h2 := h; unfold okE at h2; split at h2 <;> first | exact ⟨rfl, rfl⟩ | cases h2
    exact val_all g h hp.1 hp.2 (s_g g h)
  | .v n => fun X sc fnb Wx x g h => by
    have hp : valX x = true ∧ isBO x = false := by have h2 := h; unfold okE at h2; split at h2 <;> first | exact ⟨rfl, rfl⟩ | cases h2
    exact val_all g h hp.1 hp.2 (PE.imp (s_v g h) fun σ H Qr z => tVar_D z)
  | .tup es => fun X sc fnb Wx x g h => by
    have h0 := h
    unfold okE at h
    split at h
    · exact val_all g h0 rfl rfl (s_tup (sEs es X sc fnb Wx _ g h).1)
    · cases h
  | .l le => fun X sc fnb Wx x g h => by
    have h0 := h
    unfold okE at h
    exact val_all g h0 (okL_val le h).1 (okL_val le h).2 (s_l (sL le X sc fnb Wx x g h))
  | .sh le => fun X sc fnb Wx x g h => by
    have h0 := h
    unfold okE at h
    exact val_all g h0 (okL_val le h).1 (okL_val le h).2 (s_sh (sL le X sc fnb Wx x g h))
  | .bin o a b => fun X sc fnb Wx x g h => by
    have h0 := h
    unfold okE at h
    split at h
    · simp only [Bool.and_eq_true, decide_eq_true_eq] at h
      obtain ⟨⟨rfl, ha⟩, hb⟩ := h
      exact val_all g h0 rfl rfl (s_bin g (PE.borrow g ha (sE a X sc fnb Wx _ g ha).1) (PE.borrow g hb (sE b X sc fnb Wx _ g hb).1))
    · cases h
  | .neg a => fun X sc fnb Wx x g h => by
    have h0 := h
    unfold okE at h
    split at h
    · simp only [Bool.and_eq_true, decide_eq_true_eq] at h
      obtain ⟨rfl, ha⟩ := h
      exact val_all g h0 rfl rfl (s_neg (sE a X sc fnb Wx _ g ha).1)
    · cases h
  | .cmp o a b => fun X sc fnb Wx x g h => by
    have h0 := h
    unfold okE at h
    split at h
    · simp only [Bool.and_eq_true, decide_eq_true_eq] at h
      obtain ⟨⟨rfl, ha⟩, hb⟩ := h
      have pa := PE.borrow g ha (sE a X sc fnb Wx _ g ha).1
      have pb := PE.borrow g hb (sE b X sc fnb Wx _ g hb).1
      exact ⟨s_cmp g (okE_plain b _ hb) pa pb, t_cmp g (okE_plain b _ hb) pa pb, fun z => by cases z⟩
    · cases h
  | .cmpc o1 o2 a b c => fun X sc fnb Wx x g h => by
    unfold okE at h
    split at h
    · simp only [Bool.and_eq_true, decide_eq_true_eq] at h
      obtain ⟨⟨⟨⟨rfl, rfl⟩, ha⟩, hb⟩, hc⟩ := h
      have pa := (sE a X sc fnb Wx _ g ha).1
      have pb := (sE b X sc fnb Wx _ g hb).1
      have pc := (sE c X sc fnb Wx _ g hc).1
      exact ⟨s_cmpc g (okE_plain c _ hc) pa pb pc, t_cmpc g (okE_plain c _ hc) pa pb pc, fun z => by cases z⟩
    · cases h
  | .isn a => fun X sc fnb Wx x g h => by
    unfold okE at h
    split at h
    · have pa := (sE a X sc fnb Wx _ g h).1
      exact ⟨s_isn pa, t_isn pa, fun z => by cases z⟩
    · cases h
  | .nnn a => fun X sc fnb Wx x g h => by
    unfold okE at h
    split at h
    · have pa := (sE a X sc fnb Wx _ g h).1
      exact ⟨s_nnn pa, t_nnn pa, fun z => by cases z⟩
    · cases h
  | .not a => fun X sc fnb Wx x g h => by
    unfold okE at h
    split at h
    · simp only [Bool.and_eq_true, decide_eq_true_eq] at h
      obtain ⟨rfl, ha⟩ := h
      have pa := sE a X sc fnb Wx _ g ha
      exact ⟨s_not (PE.borrow g ha pa.1), t_not pa.2.1, fun z => by cases z⟩
    · cases h
  | .and a b => fun X sc fnb Wx x g h => by
    unfold okE at h
    split at h
    · rename_i x y p
      simp only [Bool.and_eq_true] at h
      have pa := sE a X sc fnb Wx _ g h.1
      have pb := sE b X sc fnb Wx _ g h.2
      have w := w_and (p := p) pa.2.1 (pw_and1 pb.2.1)
      exact ⟨s_and pa.1 (pe_one pb.1), w.pt, fun _ => w⟩
    · simp only [Bool.and_eq_true] at h
      have pa := sE a X sc fnb Wx _ g h.1
      have pb := sE b X sc fnb Wx _ g h.2
      have w := w_and pa.2.1 (pb.2.2 rfl)
      exact ⟨s_and pa.1 pb.1, w.pt, fun _ => w⟩
    · cases h
  | .or a b => fun X sc fnb Wx x g h => by
    unfold okE at h
    split at h
    · rename_i x y p
      simp only [Bool.and_eq_true] at h
      have pa := sE a X sc fnb Wx _ g h.1
      have pb := sE b X sc fnb Wx _ g h.2
      have w := w_or (p := p) pa.2.1 (pw_or1 pb.2.1)
      exact ⟨s_or pa.1 (pe_one pb.1), w.pt, fun _ => w⟩
    · simp only [Bool.and_eq_true] at h
      have pa := sE a X sc fnb Wx _ g h.1
      have pb := sE b X sc fnb Wx _ g h.2
      have w := w_or pa.2.1 (pb.2.2 rfl)
      exact ⟨s_or pa.1 pb.1, w.pt, fun _ => w⟩
    · cases h
  | .ife t a b => fun X sc fnb Wx x g h => by
    unfold okE at h
    split at h
    · simp only [Bool.and_eq_true] at h
      have pt := sE t X sc fnb Wx _ g h.1.1
      have pa := sE a X sc fnb Wx _ g h.1.2
      have pb := sE b X sc fnb Wx _ g h.2
      exact ⟨s_ife pt.2.1 pa.1 pb.1, t_ife pt.2.1 pa.2.1 pb.2.1, fun z => by cases z⟩
    · cases h
  | .call f es => fun X sc fnb Wx x g h => by
    have h0 := h
    unfold okE at h
    split at h
    · simp only [Bool.and_eq_true, decide_eq_true_eq] at h
      obtain ⟨⟨⟨h1, h2⟩, h3⟩, h4⟩ := h
      exact val_all g h0 rfl rfl (s_call g h1 h2 h3 (okEs_ns h4) (fun z => by subst z; exact okEs_z h4) (sEs es X sc fnb Wx _ g h4).1)
    · cases h
  | .mk c es => fun X sc fnb Wx x g h => by
    have h0 := h
    unfold okE at h
    split at h
    · simp only [Bool.and_eq_true, decide_eq_true_eq] at h
      obtain ⟨⟨⟨⟨h1, rfl⟩, h2⟩, h3⟩, h4⟩ := h
      exact val_all g h0 rfl rfl (s_mk g h1 h2 h3 (okEs_ns h4) (fun z => by subst z; exact okEs_z h4) (sEs es X sc fnb Wx _ g h4).1)
    · cases h
  | .bi b es => fun X sc fnb Wx x g h => by
    have h0 := h
    unfold okE at h
    split at h
    · simp only [Bool.and_eq_true, decide_eq_true_eq] at h
      obtain ⟨⟨rfl, h2⟩, h4⟩ := h
      exact val_all g h0 rfl rfl (s_bi g h2 (okEs_ns h4) (sEs es X sc fnb Wx _ g h4).2)
    · cases h
  | .ix a b => fun X sc fnb Wx x g h => by
    have h0 := h
    unfold okE at h
    split at h
    · simp only [Bool.and_eq_true] at h
      exact val_all g h0 rfl rfl (s_ix (okE_plain b _ h.2) (PE.borrow g h.1 (sE a X sc fnb Wx _ g h.1).1) (sE b X sc fnb Wx _ g h.2).1)
    · cases h
  | .sl a lo hi => fun X sc fnb Wx x g h => by
    have h0 := h
    unfold okE at h
    split at h
    · simp only [Bool.and_eq_true] at h
      exact val_all g h0 rfl rfl (s_sl g (PE.borrow g h.1.1 (sE a X sc fnb Wx _ g h.1.1).1) ((sO lo X sc fnb Wx g).1 _ h.1.2) ((sO hi X sc fnb Wx g).1 _ h.2))
    · cases h
  | .at a f => fun X sc fnb Wx x g h => by
    have h0 := h
    unfold okE at h
    split at h
    · simp only [Bool.and_eq_true, decide_eq_true_eq] at h
      obtain ⟨⟨⟨h1, rfl⟩, h2⟩, h3⟩ := h
      exact val_all g h0 rfl rfl (s_at g h1 h2 (sE a X sc fnb Wx _ g h3).1)
    · cases h
  | .st a => fun X sc fnb Wx x g h => by
    have h0 := h
    unfold okE at h
    split at h
    · simp only [Bool.and_eq_true, decide_eq_true_eq] at h
      obtain ⟨⟨rfl, h2⟩, h3⟩ := h
      exact val_all g h0 rfl rfl (s_st g h2 (plain_ns (okE_plain a _ h3)) (PE.borrow g h3 (sE a X sc fnb Wx _ g h3).1))
    · cases h
theorem sEs : ∀ i : IEs, SndEs T Q N C k H0 i
  | .nil => fun X sc fnb Wx x g h => by
    unfold okEs at h
    split at h
    · exact ⟨pa_nilD, pa_nilA⟩
    · cases h
  | .cons e es => fun X sc fnb Wx x g h => by
    unfold okEs at h
    split at h
    · simp only [Bool.and_eq_true] at h
      have p := (sE e X sc fnb Wx _ g h.1).1
      have q := sEs es X sc fnb Wx _ g h.2
      have hs := plain_ns (okE_plain e _ h.1)
      exact ⟨pa_consD hs p q.1, pa_consA hs (PE.borrow g h.1 p) q.2⟩
    · cases h
theorem sO : ∀ i : IO, SndO T Q N C k H0 i
  | .no => fun X sc fnb Wx g => by
    refine ⟨fun x h => ?_, fun x h => ?_⟩
    · unfold okO at h
      split at h
      · exact o_no
      · cases h
    · unfold okC at h
      split at h
      · exact pts_no
      · cases h
  | .ye e => fun X sc fnb Wx g => by
    refine ⟨fun x h => ?_, fun x h => ?_⟩
    · unfold okO at h
      split at h
      · exact o_ye (sE e X sc fnb Wx _ g h).1
      · cases h
    · unfold okC at h
      split at h
      · exact pts_ye (sE e X sc fnb Wx _ g h).2.1
      · cases h
theorem sL : ∀ i : LE, SndL T Q N C k H0 i
  | .disp es => fun X sc fnb Wx x g h => by
    unfold okL at h
    split at h
    · exact l_disp (sEs es X sc fnb Wx _ g h).1
    · cases h
  | .comp elt tg it cond vs => fun X sc fnb Wx x g h => by
    unfold okL at h
    split at h
    · rename_i x t i ifs a scope p
      simp only [Bool.and_eq_true, decide_eq_true_eq] at h
      obtain ⟨⟨⟨⟨⟨⟨⟨rfl, h1⟩, h2⟩, h3⟩, h4⟩, h5⟩, h6⟩, h7⟩ := h
      have hi := sI it X sc fnb Wx t i g h5
      refine l_comp g (fun j hj => ?_) hi.1 (by rw [g.N, g.sc]; exact blkOk_by h1) h2 (fun s H Ca cl fp => s_tg (g.blk s H scope cl Ca fp) tg t h4) (fun s H Ca cl fp => (sO cond _ _ _ _ (g.blk s H scope cl Ca fp)).2 _ h6)
        (fun s H Ca cl fp => (sE elt _ _ _ _ _ (g.blk s H scope cl Ca fp) h7).1) (fun z => plain_folded hi.2 z)
      have := List.all_eq_true.mp h3 j hj
      simpa using this
    · cases h
  | .list a => fun X sc fnb Wx x g h => by
    unfold okL at h
    split at h
    · simp only [Bool.and_eq_true, decide_eq_true_eq] at h
      obtain ⟨⟨rfl, h2⟩, h3⟩ := h
      exact l_list g h2 (plain_ns (okE_plain a _ h3)) (PE.borrow g h3 (sE a X sc fnb Wx _ g h3).1)
    · cases h
  | .sorted a => fun X sc fnb Wx x g h => by
    unfold okL at h
    split at h
    · simp only [Bool.and_eq_true, decide_eq_true_eq] at h
      obtain ⟨⟨rfl, h2⟩, h3⟩ := h
      exact l_sorted g h2 (plain_ns (okE_plain a _ h3)) (PE.borrow g h3 (sE a X sc fnb Wx _ g h3).1)
    · cases h
  | .rep a n => fun X sc fnb Wx x g h => by
    unfold okL at h
    split at h
    · simp only [Bool.and_eq_true, decide_eq_true_eq] at h
      obtain ⟨⟨rfl, h2⟩, h3⟩ := h
      exact l_rep g (PE.borrow g h2 (sE a X sc fnb Wx _ g h2).1) (sE n X sc fnb Wx _ g h3).1
    · cases h
theorem sI : ∀ i : II, SndI T Q N C k H0 i
  | .seq a => fun X sc fnb Wx t x g h => by
    unfold okI at h
    exact ⟨i_seq g (sE a X sc fnb Wx _ g h).1, okE_plain a _ h⟩
  | .rng1 a => fun X sc fnb Wx t x g h => by
    unfold okI at h
    split at h
    · simp only [Bool.and_eq_true, decide_eq_true_eq] at h
      obtain ⟨⟨rfl, h2⟩, h3⟩ := h
      exact ⟨i_rng1 g h2 (plain_ns (okE_plain a _ h3)) (sE a X sc fnb Wx _ g h3).1, rfl⟩
    · cases h
  | .rng2 a b => fun X sc fnb Wx t x g h => by
    unfold okI at h
    split at h
    · simp only [Bool.and_eq_true, decide_eq_true_eq] at h
      obtain ⟨⟨⟨rfl, h2⟩, h3⟩, h4⟩ := h
      exact ⟨i_rng2 g h2 (plain_ns (okE_plain a _ h3)) (plain_ns (okE_plain b _ h4)) (sE a X sc fnb Wx _ g h3).1 (sE b X sc fnb Wx _ g h4).1, rfl⟩
    · cases h
  | .enum a => fun X sc fnb Wx t x g h => by
    unfold okI at h
    split at h
    · simp only [Bool.and_eq_true, decide_eq_true_eq] at h
      obtain ⟨⟨⟨h1, rfl⟩, h2⟩, h3⟩ := h
      cases t with
      | Tuple es kk tp => exact ⟨i_enum g h2 (plain_ns (okE_plain a _ h3)) (sE a X sc fnb Wx _ g h3).1, rfl⟩
      | _ => cases h1
    · cases h
  | .zip a b => fun X sc fnb Wx t x g h => by
    unfold okI at h
    split at h
    · simp only [Bool.and_eq_true, decide_eq_true_eq] at h
      obtain ⟨⟨⟨⟨h1, rfl⟩, h2⟩, h3⟩, h4⟩ := h
      cases t with
      | Tuple es kk tp => exact ⟨i_zip g h2 (plain_ns (okE_plain a _ h3)) (plain_ns (okE_plain b _ h4)) (sE a X sc fnb Wx _ g h3).1 (sE b X sc fnb Wx _ g h4).1, rfl⟩
      | _ => cases h1
    · cases h
end
end
end Qv
set_option Elab.async false
set_option linter.all false
set_option maxRecDepth 100000
set_option maxHeartbeats 4000000
/-! Statements, one by one. -/
namespace Qv
open PySem PySem.Spec PyProof.Rows L2

def EndS (T : Tb) (Wx : WX) (D : Ends) (fl : Fl) (W : Wd) (H : Hp) (σ : L2.St) : Prop := match fl with
  | .nx => D.nx σ H
  | .brk => D.bk σ H
  | .cnt => D.ct σ H
  | .ret d => ∀ v, Rep T W d v → D.rt v H
  | .exc x => ∀ c d, XRep T W x c d → Wx c d σ H
/-- Wb, Hb: where the def began; W: where the statement began -/
def RespS (T : Tb) (Wb : Wd) (Hb : Hp) (Wx : WX) (D : Ends) (W : Wd) : Res (Fl × En) → Prop
  | .ok r S => ∀ W' H' σ', Stp Wb Hb W' H' → W.Le W' → SRel T W' S H' → FRel T Hb W' r.2 σ' H' → EndS T Wx D r.1 W' H' σ'
  | _ => False
def tS (T : Tb) (Wb : Wd) (Hb : Hp) (Wx : WX) (f : En → Sh → Res (Fl × En)) : TS := fun D σ H => ∃ W E S, Stp Wb Hb W H ∧ SRel T W S H ∧ FRel T Hb W E σ H ∧ RespS T Wb Hb Wx D W (f E S)
section
variable {T : Tb} {Wb : Wd} {Hb : Hp} {Wx : WX} {D : Ends} {W W' : Wd}
theorem RespS.mono {r : Res (Fl × En)} (h : RespS T Wb Hb Wx D W r) (le : W.Le W') : RespS T Wb Hb Wx D W' r := by
  cases r with
  | ok a S => exact fun W2 H2 σ2 s1 s2 => h W2 H2 σ2 s1 (le.trans s2)
  | ex x S => exact h
  | bad => exact h
theorem RespS.bind {r : Res (Fl × En)} {k : Fl × En → Sh → Res (Fl × En)} {D' : Ends} (h : RespS T Wb Hb Wx D W (r.bind k))
    (hk : ∀ p S W' H' σ', r = .ok p S → RespS T Wb Hb Wx D W' (k p S) → Stp Wb Hb W' H' → W.Le W' → SRel T W' S H' → FRel T Hb W' p.2 σ' H' → EndS T Wx D' p.1 W' H' σ') : RespS T Wb Hb Wx D' W r := by
  cases r with
  | ok p S => exact fun W2 H2 σ2 s1 s2 s3 s4 => hk p S W2 H2 σ2 rfl (RespS.mono (r := k p S) h s2) s1 s2 s3 s4
  | ex x S => exact h
  | bad => exact h
theorem RespS.nobad (h : RespS T Wb Hb Wx D W (.bad)) {P : Prop} : P := False.elim h
theorem RespS.liftS {α : Type} {o : Option α} {S : Sh} {E : En} {k : α → Sh → Res (Fl × En)} (h : RespS T Wb Hb Wx D W ((lift o S).bindS E k)) : ∃ a, o = some a ∧ RespS T Wb Hb Wx D W (k a S) := by
  cases o with
  | none => exact h.elim
  | some a => exact ⟨a, rfl, h⟩
/-- the end -/
theorem RespS.at {p : Fl × En} {S : Sh} (h : RespS T Wb Hb Wx D W (.ok p S)) {H : Hp} {σ : L2.St} (st : Stp Wb Hb W H) (sr : SRel T W S H) (fr : FRel T Hb W p.2 σ H) : EndS T Wx D p.1 W H σ := h W H σ st (.refl W) sr fr
theorem RespS.nxt {E' : Option En} {S : Sh} (h : RespS T Wb Hb Wx D W (nxt E' S)) : ∃ E1, E' = some E1 ∧ RespS T Wb Hb Wx D W (.ok (.nx, E1) S) := by
  cases E' with
  | none => exact h.elim
  | some E1 => exact ⟨E1, rfl, h⟩
theorem setSl_some {E E' : En} {i : Nat} {s : Sl} (h : setSl E i s = some E') : i < E.length ∧ E' = E.set i (some s) := by
  unfold setSl at h
  split at h <;> cases h
  exact ⟨by assumption, rfl⟩
/-- an expression's value, in a statement -/
theorem thenS {α β : Type} {R : Wd → Hp → α → β → Prop} {f : En → Sh → Res α} {kk : α → Sh → Res (Fl × En)} {E : En} {S : Sh} {σ : L2.St} {H : Hp} {P : β → Hp → Prop}
    (st : Stp Wb Hb W H) (sr : SRel T W S H) (fr : FRel T Hb W E σ H) (h : RespS T Wb Hb Wx D W ((f E S).bindS E kk))
    (hk : ∀ b H1 a S1 W1, Stp Wb Hb W1 H1 → Stp W H W1 H1 → SRel T W1 S1 H1 → FRel T Hb W1 E σ H1 → R W1 H1 a b → RespS T Wb Hb Wx D W1 (kk a S1) → P b H1) : tR T Hb Wx R f σ H P := by
  refine ⟨W, E, S, sr, fr, ?_⟩
  cases e : f E S with
  | ok a S1 =>
    rw [e] at h
    exact fun W1 H1 b s1 s2 s3 => hk b H1 a S1 W1 (st.trans s1) s1 s2 (fr.stp s1) s3 (RespS.mono (r := kk a S1) h s1.le)
  | ex x S1 =>
    rw [e] at h
    exact fun W1 H1 c d s1 s2 s3 => h W1 H1 σ (st.trans s1) s1.le s2 (fr.stp s1) c d s3
  | bad => rw [e] at h; exact h.elim
end

/-! ### slots of one's own -/
section
variable {T : Tb} {H0 : Hp} {W : Wd} {E : En} {σ : L2.St} {H : Hp} {i : Nat} {a : Addr}
theorem set_at {α : Type} {l : List α} {i j : Nat} {x y : α} (h : (l.set i x)[j]? = some y) : (i = j ∧ y = x ∧ i < l.length) ∨ (i ≠ j ∧ l[j]? = some y) := by
  by_cases hj : i = j
  · subst hj
    have hi : i < l.length := by have := (List.getElem?_eq_some_iff.mp h).1; simpa using this
    rw [List.getElem?_set_self hi] at h
    exact .inl ⟨rfl, (Option.some.inj h).symm, hi⟩
  · rw [List.getElem?_set_ne hj] at h
    exact .inr ⟨hj, h⟩
/-- an own slot's address is there -/
theorem own_there {s : Sl} {j : Nat} {b : Addr} (fr : FRel T H0 W E σ H) (e : E[j]? = some (some s)) (o : s.own = true) (q : σ[j]? = some (some (.ref b))) : H b ≠ none := by
  have := fr.at_ j s e
  cases s with
  | v d => cases o
  | ol xs => obtain ⟨a, vs, e1, e2, _⟩ := this; rw [q] at e1; cases e1; rw [e2]; simp
  | os xs => obtain ⟨a, vs, e1, e2, _⟩ := this; rw [q] at e1; cases e1; rw [e2]; simp
/-- a new slot of one's own: s stands at a, and a is in no other own slot -/
theorem FRel.setOwn {s : Sl} (fr : FRel T H0 W E σ H) (i : Nat) (hs : SlRep T H0 W H s (some (some (.ref a)))) (new : ∀ j t, E[j]? = some (some t) → t.own = true → j ≠ i → σ[j]? ≠ some (some (.ref a))) :
    FRel T H0 W (E.set i (some s)) (σ.set i (some (.ref a))) H := by
  refine ⟨by simp [fr.len], fun j t e => ?_, fun j k t u b e1 e2 o1 o2 q1 q2 => ?_⟩
  · rcases set_at e with ⟨rfl, h2, h3⟩ | ⟨h1, h2⟩
    · cases h2
      rw [List.getElem?_set_self (by rw [← fr.len]; exact h3)]
      exact hs
    · rw [List.getElem?_set_ne h1]
      exact fr.at_ j t h2
  · rcases set_at e1 with ⟨rfl, _, h3⟩ | ⟨h1, h2⟩ <;> rcases set_at e2 with ⟨rfl, _, h3'⟩ | ⟨h1', h2'⟩
    · rfl
    · rw [List.getElem?_set_self (by rw [← fr.len]; exact h3)] at q1
      cases q1
      rw [List.getElem?_set_ne h1'] at q2
      exact absurd q2 (new k u h2' o2 (Ne.symm h1'))
    · rw [List.getElem?_set_self (by rw [← fr.len]; exact h3')] at q2
      cases q2
      rw [List.getElem?_set_ne h1] at q1
      exact absurd q1 (new j t h2 o1 (Ne.symm h1))
    · rw [List.getElem?_set_ne h1] at q1
      rw [List.getElem?_set_ne h1'] at q2
      exact fr.sep j k t u b h2 h2' o1 o2 q1 q2
/-- what stands at one's own address is changed -/
theorem FRel.write {s t : Sl} {o : HO} (fr : FRel T H0 W E σ H) (hi : E[i]? = some (some s)) (os : s.own = true) (ha : σ[i]? = some (some (.ref a))) (hs : SlRep T H0 W (upd H a o) t (some (some (.ref a)))) :
    FRel T H0 W (E.set i (some t)) σ (upd H a o) := by
  have hil : i < E.length := (List.getElem?_eq_some_iff.mp hi).1
  refine ⟨by simp [fr.len], fun j u e => ?_, fun j k u u' b e1 e2 o1 o2 q1 q2 => ?_⟩
  · rcases set_at e with ⟨rfl, h2, h3⟩ | ⟨h1, h2⟩
    · cases h2
      rw [ha]
      exact hs
    · have q := fr.at_ j u h2
      cases u with
      | v d => exact q
      | ol xs =>
        obtain ⟨b, vs, e1, e2, r⟩ := q
        have hb : b ≠ a := fun z => by
          subst z
          exact h1 (fr.sep i j s (.ol xs) b hi h2 os rfl ha e1)
        exact ⟨b, vs, e1, by rw [upd_ne hb]; exact e2, r⟩
      | os xs =>
        obtain ⟨b, vs, e1, e2, r⟩ := q
        have hb : b ≠ a := fun z => by
          subst z
          exact h1 (fr.sep i j s (.os xs) b hi h2 os rfl ha e1)
        exact ⟨b, vs, e1, by rw [upd_ne hb]; exact e2, r⟩
  · have old : ∀ {j : Nat} {u : Sl}, (E.set i (some t))[j]? = some (some u) → u.own = true → ∃ u', E[j]? = some (some u') ∧ u'.own = true := fun {j u} e o => by
      rcases set_at e with ⟨rfl, h2, h3⟩ | ⟨h1, h2⟩
      · exact ⟨s, hi, os⟩
      · exact ⟨u, h2, o⟩
    obtain ⟨v1, f1, g1⟩ := old e1 o1
    obtain ⟨v2, f2, g2⟩ := old e2 o2
    exact fr.sep j k v1 v2 b f1 f2 g1 g2 q1 q2
/-- a slot of one's own becomes known -/
theorem FRel.known {s : Sl} {d : D} {o : HO} (fr : FRel T H0 W E σ H) (hi : E[i]? = some (some s)) (os : s.own = true) (ha : σ[i]? = some (some (.ref a))) (g : W.G a = none) (r : Rep T (W.add a o) d (.ref a)) :
    FRel T H0 (W.add a o) (E.set i (some (.v d))) σ H := by
  have le := Wd.le_add (o := o) g
  refine ⟨by simp [fr.len], fun j u e => ?_, fun j k u u' b e1 e2 o1 o2 q1 q2 => ?_⟩
  · rcases set_at e with ⟨rfl, h2, h3⟩ | ⟨h1, h2⟩
    · cases h2
      exact ⟨.ref a, ha, r⟩
    · have q := fr.at_ j u h2
      cases u with
      | v d => obtain ⟨v, e1, e2⟩ := q; exact ⟨v, e1, e2.mono le⟩
      | ol xs =>
        obtain ⟨b, vs, e1, e2, e3, e4, e5, e6⟩ := q
        have hb : b ≠ a := fun z => by
          subst z
          exact h1 (fr.sep i j s (.ol xs) b hi h2 os rfl ha e1)
        exact ⟨b, vs, e1, e2, e3.mono le, (show upd W.G a o b = none from by rw [upd_ne hb]; exact e4), e5, e6⟩
      | os xs =>
        obtain ⟨b, vs, e1, e2, e3, e4, e5, e6, e7⟩ := q
        have hb : b ≠ a := fun z => by
          subst z
          exact h1 (fr.sep i j s (.os xs) b hi h2 os rfl ha e1)
        exact ⟨b, vs, e1, e2, e3, e4, (show upd W.G a o b = none from by rw [upd_ne hb]; exact e5), e6, e7⟩
  · rcases set_at e1 with ⟨rfl, h2, h3⟩ | ⟨h1, h2⟩
    · cases h2; cases o1
    · rcases set_at e2 with ⟨rfl, h2', h3'⟩ | ⟨h1', h2'⟩
      · cases h2'; cases o2
      · exact fr.sep j k u u' b h2 h2' o1 o2 q1 q2
end
end Qv
set_option Elab.async false
set_option linter.all false
set_option maxRecDepth 100000
set_option maxHeartbeats 4000000
/-! Statements: the rules. -/
namespace Qv
open PySem PySem.Spec PyProof.Rows L2

/-! ### how a store goes -/
def isComp : PySem.Expr → Bool
  | .ListComp .. => true
  | _ => false
def swB (sc : Scope) (t v : PySem.Expr) : Bool := match v, t with
  | .ListComp _ _ s p, .Name x pos => sc.names.lookup x == some .local && pos.line == p.line && !(s.names.any fun (n, k) => n == x && (k == .local || k == .cell))
  | _, _ => false
def swS (sc : Scope) (ts vs : List PySem.Expr) : Option (Option (List Str)) :=
  if (!(ts.length == 2 || ts.length == 3) || vs.length != ts.length) = true then some none
  else if (vs.any fun | .Starred .. => true | _ => false) = true then some none
  else
    let line := (ts.head?.map (·.pos.line)).getD 0
    let names := ts.filterMap fun
      | .Name id pos => if (sc.names.lookup id == some .local && pos.line == line) = true then some id else none
      | _ => none
    if (names.length != ts.length || names.eraseDups.length != names.length) = true then some none
    else if vs.all (foldedForSure 8) = true then some none
    else if vs.all (constantsAlone 8) = true then none
    else some (some names)
def swT (sc : Scope) (t v : PySem.Expr) : Bool := match t, v with
  | .Tuple ts _ _, .Tuple vs _ _ => (match swS sc ts vs with
    | some none => true
    | _ => false)
  | .List _ _, _ => false
  | _, _ => true
section
variable {env : Env} {sc : Scope}
theorem block_fn (hk : env.scope.kind = .function) : env.blockKind = .function := by
  unfold Env.blockKind
  rw [hk]
  rfl
theorem sw_with (hk : env.scope.kind = .function) (hs : env.scope = sc) {t v : PySem.Expr} {line : Nat} (hp : plainX v = true) : swapsWith v (some t) line env = pure (swB sc t v) := by
  cases v <;> first | rfl | (cases hp; done) | skip
  rename_i elt gens s p
  cases t <;> first | rfl | skip
  rename_i x pos
  subst hs
  show (pure (env.blockKind == .function && env.kindOf x == some .local && pos.line == p.line && !(s.names.any fun (n, k) => n == x && (k == .local || k == .cell))) : Sem Bool) = _
  rw [block_fn hk]
  rfl
theorem sw_stores (hk : env.scope.kind = .function) (hs : env.scope = sc) {ts vs : List PySem.Expr} {a b : Nat} {p q : Pos} {r : Option (List Str)} (h : swS sc ts vs = some r) : swappedStores [.Tuple ts a p] (.Tuple vs b q) env = pure r := by
  subst hs
  unfold swS at h
  unfold swappedStores
  simp only [block_fn hk, bne_self_eq_false, Bool.or_false]
  split at h
  · rename_i c
    cases h
    exact if_pos c
  · rename_i c
    refine (if_neg c).trans ?_
    split at h
    · rename_i c2
      cases h
      exact if_pos c2
    · rename_i c2
      refine (if_neg c2).trans ?_
      dsimp only at h
      split at h
      · rename_i c3
        cases h
        exact if_pos c3
      · rename_i c3
        refine (if_neg c3).trans ?_
        split at h
        · rename_i c4
          cases h
          exact if_pos c4
        · rename_i c4
          refine (if_neg c4).trans ?_
          split at h
          · cases h
          · rename_i c5
            cases h
            exact if_neg c5
theorem sw_none (hk : env.scope.kind = .function) (hs : env.scope = sc) {t v : PySem.Expr} (h : swT sc t v = true) : swappedStores [t] v env = pure none := by
  cases t with
  | Tuple ts a p =>
    cases v with
    | Tuple vs b q =>
      simp only [swT] at h
      split at h
      · rename_i e
        exact sw_stores hk hs e
      · cases h
    | _ => rfl
  | List _ _ => simp [swT] at h
  | _ => rfl
end
end Qv
set_option Elab.async false
set_option linter.all false
set_option maxRecDepth 100000
set_option maxHeartbeats 4000000
/-! Statements: the rules, one by one. -/
namespace Qv
open PySem PySem.Spec PyProof.Rows L2

/-- where a statement stands -/
structure GS (T : Tb) (Q : Ck) (N : List Str) (C : Calls) (k : Nat) (X : Cx) (sc : Scope) (fnb : Str → Bool) (Wx : WX) : Prop where
  gd : Gd T Q N C k X sc fnb Wx
  kind : X.env.scope.kind = .function
  pso : PassesOwn (model X.prog X.w) X.A X.env X.xe
theorem Stp.bk {W W' : Wd} {H H' : Hp} (st : Stp W H W' H') {p : Addr} (h : H' p = none) : H p = none := by
  cases q : H p with
  | none => rfl
  | some o =>
    by_cases hm : p ∈ W.m
    · exact absurd h (st.there p hm)
    · rw [st.keep p o q hm] at h; cases h
section
variable {X : Cx}
theorem PS.imp {x : Stmt} {t t' : TS} (h : PS X x t) (k : ∀ D σ H, t' D σ H → t D σ H) : PS X x t' := ⟨fun pins s σ H D I hw => h.run pins s σ H D I (k _ _ _ hw)⟩
theorem PSs.imp {x : List Stmt} {t t' : TS} (h : PSs X x t) (k : ∀ D σ H, t' D σ H → t D σ H) : PSs X x t' := ⟨fun pins s σ H D I hw => h.run pins s σ H D I (k _ _ _ hw)⟩
end
section
variable {T : Tb} {Q : Ck} {N : List Str} {C : Calls} {k : Nat} {X : Cx} {sc : Scope} {fnb : Str → Bool} {Wx : WX} {Wb : Wd} {Hb : Hp}
abbrev TSe (T : Tb) (Wb : Wd) (Hb : Hp) (Wx : WX) (C : Calls) (s : IS) : TS := tS T Wb Hb Wx (exS C s)
abbrev TBe (T : Tb) (Wb : Wd) (Hb : Hp) (Wx : WX) (C : Calls) (s : ISs) : TS := tS T Wb Hb Wx (exB C s)

theorem p_asg (g : GS T Q N C k X sc fnb Wx) {tg : Tg} {e : IE} {t v : PySem.Expr} {p : Pos} (ht : okTg N sc fnb tg t = true) (he : okE Q N sc e v = true) (hw : swT sc t v = true) (hc : swB sc t v = false) : PS X (.Assign [t] v p) (TSe T Wb Hb Wx C (.asg tg e)) := by
  have hp := okE_plain e v he
  refine PS.imp (ps_asg (sE (H0 := Hb) e X sc fnb Wx v g.gd he).1 (s_tg (H0 := Hb) g.gd tg t ht) (by show swapsWith v (some t) p.line X.env = _; rw [sw_with g.kind g.gd.sc hp, hc]) (sw_none g.kind g.gd.sc hw) (by rw [asg_each (okTg_ns tg t ht)]; rfl)) fun D σ H ⟨W, E, S, st, sr, fr, h⟩ => ?_
  refine thenS (R := RD T) st sr fr (show RespS T Wb Hb Wx D W ((ev C e E S).bindS E fun d S => nxt (asgT tg d E) S) from h) fun x H1 d S1 W1 st1 _ sr1 fr1 r1 h1 => ?_
  obtain ⟨E1, e1, h1⟩ := h1.nxt
  exact ⟨W1, E, S1, d, E1, sr1, fr1, r1, e1, fun σ' fr' _ => h1.at st1 sr1 fr'⟩

/-! ### several names at once -/
def okNames (N : List Str) (sc : Scope) (fnb : Str → Bool) : List Nat → List PySem.Expr → Bool
  | [], [] => true
  | i :: is, .Name x _ :: ts => decide (N[i]? = some x) && locB sc fnb x && okName x && okNames N sc fnb is ts
  | _, _ => false
def tPs (T : Tb) (H0 : Hp) (is : List Nat) : TGs := fun vs σ H Qr => ∃ W E S ds E', SRel T W S H ∧ FRel T H0 W E σ H ∧ Reps T W ds vs ∧ setPar is ds E = some E' ∧ ∀ σ', FRel T H0 W E' σ' H → Qr σ' H
theorem PGs.imp {x : List PySem.Expr} {t t' : TGs} (h : PGs X x t) (k : ∀ v σ H Q, t' v σ H Q → t v σ H Q) : PGs X x t' := ⟨fun pins s σ H v u Q I r hw => h.run pins s σ H v u Q I r (k _ _ _ _ hw)⟩
theorem okNames_cons {i : Nat} {is : List Nat} {ts : List PySem.Expr} (h : okNames N sc fnb (i :: is) ts = true) : ∃ x p r, ts = .Name x p :: r ∧ N[i]? = some x ∧ locB sc fnb x = true ∧ okName x = true ∧ okNames N sc fnb is r = true := by
  rcases ts with _ | ⟨t, r⟩
  · simp [okNames] at h
  · cases t with
    | Name x p =>
      simp only [okNames, Bool.and_eq_true, decide_eq_true_eq] at h
      exact ⟨x, p, r, rfl, h.1.1.1, h.1.1.2, h.1.2, h.2⟩
    | _ => simp [okNames] at h
theorem setPar_cons {i : Nat} {is : List Nat} {ds : List D} {E E' : En} (h : setPar (i :: is) ds E = some E') : ∃ d r, ds = d :: r ∧ i < E.length ∧ setPar is r (E.set i (some (.v d))) = some E' := by
  rcases ds with _ | ⟨d, r⟩
  · simp [setPar] at h
  · simp only [setPar, Option.bind_eq_some_iff] at h
    obtain ⟨E1, h1, h2⟩ := h
    obtain ⟨h3, rfl⟩ := setSl_some h1
    exact ⟨d, r, rfl, h3, h2⟩
theorem setPar_nil {ds : List D} {E E' : En} (h : setPar [] ds E = some E') : ds = [] ∧ E' = E := by
  rcases ds with _ | ⟨d, r⟩
  · simp [setPar] at h; exact ⟨rfl, h.symm⟩
  · simp [setPar] at h
theorem s_names (g : Gd T Q N C k X sc fnb Wx) {H0 : Hp} : ∀ (is : List Nat) (ts : List PySem.Expr), okNames N sc fnb is ts = true → PGs X ts (tPs T H0 is) ∧ (assignEach ts X.env).length = is.length ∧ (assignEach ts X.env).findIdx? (·.1) = none
  | [], ts, h => by
    rcases ts with _ | ⟨t, r⟩
    · refine ⟨PGs.imp pgs_nil fun v σ H Qr ⟨W, E, S, ds, E', sr, fr, rs, e, hq⟩ => ?_, rfl, rfl⟩
      obtain ⟨rfl, rfl⟩ := setPar_nil e
      cases rs
      exact ⟨rfl, hq _ fr⟩
    · simp [okNames] at h
  | i :: is, ts, h => by
    obtain ⟨x, p, r, rfl, h1, h2, h3, h4⟩ := okNames_cons h
    obtain ⟨ih, ihl, ihf⟩ := s_names g (H0 := H0) is r h4
    obtain ⟨l1, l2⟩ := locB_ok g h2
    have hs : assignEach (.Name x p :: r) X.env = (false, assign (.Name x p) X.env) :: assignEach r X.env := asg_each rfl
    refine ⟨PGs.imp (pgs_cons (pg_name g.nd (by rw [g.N]; exact h1) l1 l2) ih (by rw [hs]; rfl)) fun v σ H Qr ⟨W, E, S, ds, E', sr, fr, rs, e, hq⟩ => ?_, by rw [hs]; simp [ihl], by rw [hs]; simp [List.findIdx?_cons, ihf]⟩
    obtain ⟨d, rr, rfl, hi, e⟩ := setPar_cons e
    cases rs with
    | cons r1 r2 => exact ⟨_, _, rfl, W, _, S, rr, E', sr, fr.setV i r1, r2, e, hq⟩
def okPar (sc : Scope) (is : List Nat) (ts vs : List PySem.Expr) : Bool := match swS sc ts vs with
  | some none => true
  | some (some ns) => (match is, ts, vs with
    | [i, j], [.Name x _, .Name y _], [_, _] => decide (ns = [x, y]) && decide (sc.names.lookup x = some .local) && decide (sc.names.lookup y = some .local) && decide (i ≠ j)
    | [i, j, l], [.Name x _, .Name y _, .Name z _], [_, _, _] => decide (ns = [x, y, z]) && decide (sc.names.lookup x = some .local) && decide (sc.names.lookup y = some .local) && decide (sc.names.lookup z = some .local) && decide (i ≠ j) && decide (i ≠ l) && decide (j ≠ l)
    | _, _, _ => false)
  | none => false
theorem p_par (g : GS T Q N C k X sc fnb Wx) {is : List Nat} {es : IEs} {ts vs : List PySem.Expr} {a b : Nat} {p p1 p2 : Pos} (ht : okNames N sc fnb is ts = true) (he : okEs Q N sc es vs = true) (hw : okPar sc is ts vs = true) : PS X (.Assign [.Tuple ts a p1] (.Tuple vs b p2) p) (TSe T Wb Hb Wx C (.par is es)) := by
  have pv := (sEs (H0 := Hb) es X sc fnb Wx vs g.gd he).1
  have wish : ∀ {D : Ends} {σ : L2.St} {H : Hp}, TSe T Wb Hb Wx C (.par is es) D σ H → tDs T Hb Wx (evs C es) σ H fun xs H1 => ∃ W1 E S1 ds E1, Stp Wb Hb W1 H1 ∧ SRel T W1 S1 H1 ∧ FRel T Hb W1 E σ H1 ∧ Reps T W1 ds xs ∧ ds.length ≤ LIM ∧ setPar is ds E = some E1 ∧ RespS T Wb Hb Wx D W1 (.ok (.nx, E1) S1) := fun {D σ H} ⟨W, E, S, st, sr, fr, h⟩ => by
    refine thenS (R := RDs T) st sr fr (show RespS T Wb Hb Wx D W ((evs C es E S).bindS E fun ds S => if ds.length ≤ LIM then nxt (setPar is ds E) S else .bad) from h) fun x H1 ds S1 W1 st1 _ sr1 fr1 r1 h1 => ?_
    split at h1
    · rename_i c
      obtain ⟨E1, e1, h1⟩ := h1.nxt
      exact ⟨W1, E, S1, ds, E1, st1, sr1, fr1, r1, c, e1, h1⟩
    · exact h1.nobad
  unfold okPar at hw
  split at hw
  · rename_i hn
    obtain ⟨s1, s2, s3⟩ := s_names (H0 := Hb) g.gd is ts ht
    refine PS.imp (ps_asg (pe_tup pv) (pg_tup g.gd.calm s1 s2 s3) rfl (sw_stores g.kind g.gd.sc hn) rfl) fun D σ H h => ?_
    obtain ⟨W, E, S, sr, fr, hh⟩ := wish h
    refine ⟨W, E, S, sr, fr, hh.imp fun xs H1 ⟨W1, E', S1, ds, E1, st1, sr1, fr1, r1, c, e1, h1⟩ => ⟨?_, fun q hq => ?_⟩⟩
    · have := sl64
      unfold LIM at c
      rw [← r1.length]; omega
    · obtain ⟨a1, a2, a3⟩ := newTup sr1 r1 hq
      have hl : xs.length = is.length := by
        have l1 : ∀ (is : List Nat) (ds : List Qv.D) (E E' : En), setPar is ds E = some E' → ds.length = is.length := by
          intro is
          induction is with
          | nil => intro ds E E' e; rw [(setPar_nil e).1]; rfl
          | cons i is ih =>
            intro ds E E' e
            obtain ⟨d, r, rfl, _, e2⟩ := setPar_cons e
            simp [ih _ _ _ e2]
        rw [← r1.length]; exact l1 _ _ _ _ e1
      refine ⟨q, xs, rfl, SqT.of upd_same, hl, _, E', S1, ds, E1, a2, fr1.stp a1, r1.mono a1.le, e1, fun σ' fr' => ?_⟩
      exact RespS.at (h1.mono a1.le) (st1.trans a1) a2 fr'
  · rename_i ns hn
    split at hw
    · rename_i i j x px y py e1 e2
      simp only [Bool.and_eq_true, decide_eq_true_eq] at hw
      obtain ⟨⟨⟨rfl, hx⟩, hy⟩, hij⟩ := hw
      obtain ⟨_, _, _, q, i1, _, _, ht⟩ := okNames_cons ht
      cases q
      obtain ⟨_, _, _, q, j1, _, _, ht⟩ := okNames_cons ht
      cases q
      refine PS.imp (ps_par g.gd.calm g.gd.nd (by rw [g.gd.N]; exact i1) (by rw [g.gd.N]; exact j1) hij (by rw [g.gd.sc]; exact hx) (by rw [g.gd.sc]; exact hy) pv (sw_stores g.kind g.gd.sc hn) rfl) fun D σ H h => ?_
      obtain ⟨W, E, S, sr, fr, hh⟩ := wish h
      refine ⟨W, E, S, sr, fr, hh.imp fun xs H1 ⟨W1, E', S1, ds, E1, st1, sr1, fr1, r1, c, e1, h1⟩ => ?_⟩
      obtain ⟨d1, _, rfl, _, e1⟩ := setPar_cons e1
      obtain ⟨d2, _, rfl, _, e1⟩ := setPar_cons e1
      obtain ⟨rfl, rfl⟩ := setPar_nil e1
      cases r1 with
      | cons r1 rt =>
        cases rt with
        | cons r2 rt =>
          cases rt
          exact ⟨_, _, rfl, h1.at st1 sr1 ((fr1.setV _ r1).setV _ r2)⟩
    · rename_i i j l x px y py z pz e1 e2 e3
      simp only [Bool.and_eq_true, decide_eq_true_eq] at hw
      obtain ⟨⟨⟨⟨⟨⟨rfl, hx⟩, hy⟩, hz⟩, hij⟩, hil⟩, hjl⟩ := hw
      obtain ⟨_, _, _, q, i1, _, _, ht⟩ := okNames_cons ht
      cases q
      obtain ⟨_, _, _, q, j1, _, _, ht⟩ := okNames_cons ht
      cases q
      obtain ⟨_, _, _, q, k1, _, _, ht⟩ := okNames_cons ht
      cases q
      refine PS.imp (ps_par3 g.gd.calm g.gd.nd (by rw [g.gd.N]; exact i1) (by rw [g.gd.N]; exact j1) (by rw [g.gd.N]; exact k1) hij hil hjl (by rw [g.gd.sc]; exact hx) (by rw [g.gd.sc]; exact hy) (by rw [g.gd.sc]; exact hz) pv (sw_stores g.kind g.gd.sc hn) rfl) fun D σ H h => ?_
      obtain ⟨W, E, S, sr, fr, hh⟩ := wish h
      refine ⟨W, E, S, sr, fr, hh.imp fun xs H1 ⟨W1, E', S1, ds, E1, st1, sr1, fr1, r1, c, e1, h1⟩ => ?_⟩
      obtain ⟨d1, _, rfl, _, e1⟩ := setPar_cons e1
      obtain ⟨d2, _, rfl, _, e1⟩ := setPar_cons e1
      obtain ⟨d3, _, rfl, _, e1⟩ := setPar_cons e1
      obtain ⟨rfl, rfl⟩ := setPar_nil e1
      cases r1 with
      | cons r1 rt =>
        cases rt with
        | cons r2 rt =>
          cases rt with
          | cons r3 rt =>
            cases rt
            exact ⟨_, _, _, rfl, h1.at st1 sr1 (((fr1.setV _ r1).setV _ r2).setV _ r3)⟩
    · cases hw
  · cases hw

/-! ### lists and sets of one's own -/
theorem own_new {W W1 : Wd} {E : En} {S S1 : Sh} {σ : L2.St} {H H1 : Hp} {i : Nat} {a : Addr} {s : Sl} (st : Stp Wb Hb W H) (fr : FRel T Hb W E σ H) (fr1 : FRel T Hb W1 E σ H1) (hn : H a = none) (hs : SlRep T Hb W1 H1 s (some (some (.ref a)))) :
    FRel T Hb W1 (E.set i (some s)) (σ.set i (some (.ref a))) H1 :=
  fr1.setOwn i hs fun j t e o _ q => own_there fr e o q hn
theorem p_own (g : GS T Q N C k X sc fnb Wx) {i : Nat} {le : LE} {x : Str} {v : PySem.Expr} {px p : Pos} (hi : N[i]? = some x) (hx : locB sc fnb x = true) (hl : okL Q N sc le v = true) : PS X (.Assign [.Name x px] v p) (TSe T Wb Hb Wx C (.own i le)) := by
  have hp := okL_plain le v hl
  obtain ⟨l1, l2⟩ := locB_ok g.gd hx
  have wish : ∀ {D : Ends} {σ : L2.St} {H : Hp}, TSe T Wb Hb Wx C (.own i le) D σ H → ∃ W E S, SRel T W S H ∧ FRel T Hb W E σ H ∧ Resp T (RL T H) (wxs Wx σ) W H (fun v H1 => D.nx (σ.set i (some v)) H1) (evL C le E S) := fun {D σ H} ⟨W, E, S, st, sr, fr, h⟩ => by
    refine thenS (R := RL T H) (f := evL C le) st sr fr (show RespS T Wb Hb Wx D W ((evL C le E S).bindS E fun ds S => nxt (setSl E i (.ol ds)) S) from h) fun v H1 ds S1 W1 st1 s1 sr1 fr1 r1 h1 => ?_
    obtain ⟨E1, e1, h1⟩ := h1.nxt
    obtain ⟨hi, rfl⟩ := setSl_some e1
    obtain ⟨a, vs, rfl, q1, q2, q3, q4, q5⟩ := r1
    exact h1.at st1 sr1 (own_new (S := S) (S1 := S1) st fr fr1 q5 ⟨a, vs, rfl, q1, q2, q3, q4, st.bk q5⟩)
  cases hsw : swB sc (.Name x px) v with
  | false => exact PS.imp (ps_set g.gd.nd (by rw [g.gd.N]; exact hi) l1 (sL (H0 := Hb) le X sc fnb Wx v g.gd hl) (by rw [sw_with g.kind g.gd.sc hp, hsw]) l2) fun D σ H h => wish h
  | true =>
    cases v with
    | ListComp elt gens scope vp =>
      have hsw2 := hsw
      simp only [swB, Bool.and_eq_true, beq_iff_eq] at hsw2
      cases le with
      | comp elt' tg it cond vs =>
        unfold okL at hl
        split at hl
        · rename_i x' t i' ifs a' scope' p' ev
          cases ev
          simp only [Bool.and_eq_true, decide_eq_true_eq] at hl
          obtain ⟨⟨⟨⟨⟨⟨⟨rfl, h1⟩, h2⟩, h3⟩, h4⟩, h5⟩, h6⟩, h7⟩ := hl
          have hit := sI (H0 := Hb) it X sc fnb Wx t i' g.gd h5
          have pss := ps_setLc (spos := p) (py := px) (pos := vp) g.gd.calm g.gd.nd (i := i) (y := x) (by rw [g.gd.N]; exact hi) (by rw [g.gd.sc]; exact hsw2.1.1) (by rw [sw_with g.kind g.gd.sc hp, hsw]) hit.1 (by rw [g.gd.N, g.gd.sc]; exact blkOk_by h1)
            (fun s H Ca cl fp => s_tg (H0 := Hb) (g.gd.blk s H scope cl Ca fp) tg t h4) (fun s H Ca cl fp => (sO (H0 := Hb) cond _ _ _ _ (g.gd.blk s H scope cl Ca fp)).2 _ h6) (fun s H Ca cl fp => (sE (H0 := Hb) elt' _ _ _ _ _ (g.gd.blk s H scope cl Ca fp) h7).1) (fun z => plain_folded hit.2 z)
          rw [h2] at pss
          refine PS.imp pss fun D σ H h => ?_
          obtain ⟨W, E, S, sr, fr, h⟩ := wish h
          refine lc_wish (fun j hj => ?_) sr fr h
          have := List.all_eq_true.mp h3 j hj
          simpa using this
        · cases hl
      | _ => simp [okL] at hl
    | _ => simp [swB] at hsw
/-- set(), set(x) -/
def okSE (Q : Ck) (N : List Str) (sc : Scope) : SE → PySem.Expr → Bool
  | .set a, .Call (.Name x _) [y] [] _ => decide (x = Str.ofString "set") && glB sc x && okE Q N sc a y
  | .emp, .Call (.Name x _) [] [] _ => decide (x = Str.ofString "set") && glB sc x
  | _, _ => false
def RS (T : Tb) (Hs : Hp) : Wd → Hp → List Int → V → Prop := fun W H xs v => ∃ a S, v = .ref a ∧ H a = some (SetO T.w a S xs.length) ∧ (∀ i, S i = decide (i ∈ xs)) ∧ xs.Nodup ∧ W.G a = none ∧ a ∉ W.m ∧ Hs a = none
theorem se_ok (g : Gd T Q N C k X sc fnb Wx) {H0 : Hp} {se : SE} {v : PySem.Expr} (h : okSE Q N sc se v = true) : plainX v = true ∧ isComp v = false ∧ PE X v fun σ H Qr => ∃ W E S, SRel T W S H ∧ FRel T H0 W E σ H ∧ Resp T (RS T H) (wxs Wx σ) W H Qr (evSE C se E S) := by
  unfold okSE at h
  split at h
  · rename_i a x px y p
    simp only [Bool.and_eq_true, decide_eq_true_eq] at h
    obtain ⟨⟨rfl, hg⟩, ha⟩ := h
    have hs := plain_ns (okE_plain a _ ha)
    refine ⟨rfl, rfl, PE.imp (pe_callTy (cr_setOf g.calm) (glB_ok g hg) (g.st.bn _ (by decide +kernel)) (by decide +kernel) (pa_cons' hs (PE.borrow (H0 := H0) g ha (sE a X sc fnb Wx y g ha).1) pa_nil) (by decide) (by decide) (by rw [star_of hs]) (by rfl)) fun σ H Qr ⟨W, E, S, sr, fr, h⟩ => ?_⟩
    refine tA.then sr fr (show Resp T (RS T H) (wxs Wx σ) W H Qr ((brw a E S (ev C a E S)).bind fun x S => lift (setOf (drf S x)) S) from h) fun v H1 d S1 W1 st1 sr1 fr1 r1 h1 => ?_
    obtain ⟨l, e, h1⟩ := h1.lift1
    unfold setOf at e
    simp only [Option.bind_eq_some_iff] at e
    obtain ⟨ns, ⟨xs, e1, e2⟩, e3⟩ := e
    split at e3 <;> cases e3
    rename_i c
    obtain ⟨b, ad, vs, rfl, rs, q⟩ := (r1.view sr1).sq (K := X.K) sr1 e1
    obtain ⟨rfl, _⟩ := intsOf_reps rs e2
    refine ⟨b, ad, ns, rfl, q, c, fun q hq => ?_⟩
    obtain ⟨f1, f2⟩ := sr1.fresh (o := SetO X.w q (fun j => decide (j ∈ ns.foldl addS [])) (ns.foldl addS []).length) hq
    exact h1 _ _ _ f2 f1 ⟨q, _, rfl, by rw [g.st.tw]; exact upd_same, fun _ => rfl, (foldl_addS List.nodup_nil).1, sr1.nonG hq, sr1.nonM hq, st1.bk hq⟩
  · rename_i x px p
    simp only [Bool.and_eq_true, decide_eq_true_eq] at h
    obtain ⟨rfl, hg⟩ := h
    refine ⟨rfl, rfl, PE.imp (pe_callTy0 cr_set0 (glB_ok g hg) (g.st.bn _ (by decide +kernel)) (by decide +kernel) (by decide) (by decide)) fun σ H Qr ⟨W, E, S, sr, fr, h⟩ => ?_⟩
    replace h : Resp T (RS T H) (wxs Wx σ) W H Qr (.ok [] S) := h
    refine ⟨rfl, fun q hq => ?_⟩
    obtain ⟨f1, f2⟩ := sr.fresh (o := SetO X.w q (fun _ => false) 0) hq
    exact h _ _ _ f2 f1 ⟨q, _, rfl, by rw [g.st.tw]; exact upd_same, fun _ => by simp, List.nodup_nil, sr.nonG hq, sr.nonM hq, hq⟩
  · cases h
theorem p_owns (g : GS T Q N C k X sc fnb Wx) {i : Nat} {se : SE} {x : Str} {v : PySem.Expr} {px p : Pos} (hi : N[i]? = some x) (hx : locB sc fnb x = true) (hl : okSE Q N sc se v = true) : PS X (.Assign [.Name x px] v p) (TSe T Wb Hb Wx C (.owns i se)) := by
  obtain ⟨l1, l2⟩ := locB_ok g.gd hx
  obtain ⟨hp, hc, pe⟩ := se_ok (H0 := Hb) g.gd hl
  have hsw : swB sc (.Name x px) v = false := by cases v <;> first | rfl | cases hc
  refine PS.imp (ps_set g.gd.nd (by rw [g.gd.N]; exact hi) l1 pe (by rw [sw_with g.kind g.gd.sc hp, hsw]) l2) fun D σ H ⟨W, E, S, st, sr, fr, h⟩ => ?_
  refine thenS (R := RS T H) (f := evSE C se) st sr fr (show RespS T Wb Hb Wx D W ((evSE C se E S).bindS E fun l S => nxt (setSl E i (.os l)) S) from h) fun v H1 ds S1 W1 st1 s1 sr1 fr1 r1 h1 => ?_
  obtain ⟨E1, e1, h1⟩ := h1.nxt
  obtain ⟨hi, rfl⟩ := setSl_some e1
  obtain ⟨a, SS, rfl, q1, q2, q3, q4, q5, q6⟩ := r1
  exact h1.at st1 sr1 (own_new (S := S) (S1 := S1) st fr fr1 q6 ⟨a, SS, rfl, q1, q2, q3, q4, q5, st.bk q6⟩)
end
end Qv
set_option Elab.async false
set_option linter.all false
set_option maxRecDepth 100000
set_option maxHeartbeats 4000000
/-! Statements: the rules, the rest. -/
namespace Qv
open PySem PySem.Spec PyProof.Rows L2
section
variable {T : Tb} {Q : Ck} {N : List Str} {C : Calls} {k : Nat} {X : Cx} {sc : Scope} {fnb : Str → Bool} {Wx : WX} {Wb : Wd} {Hb : Hp}

theorem pv_ok (g : Gd T Q N C k X sc fnb Wx) {i : Nat} {x : Str} {px : Pos} (hi : N[i]? = some x) (hv : visB sc x = true) (hn : okName x = true) : PE X (.Name x px) (tVar i) := pe_var (by rw [g.N]; exact hi) (visB_ok g hv) (okName_ok hn).1 (okName_ok hn).2
theorem few_ok {env : Env} {v : PySem.Expr} {cpos : Pos} (hs : nst v = true) : ((backTo cpos (starEach [v] env)).all (fun x => !x.1) && (backToKw cpos (keywordEach [] env)).all (fun x => x.1.isSome) && decide (([v] : List PySem.Expr).length + ([] : List Keyword).length + (if ([] : List Keyword).isEmpty then 0 else 1) < 30)) = true := by
  rw [star_of hs]; rfl
theorem p_app (g : GS T Q N C k X sc fnb Wx) {i : Nat} {e : IE} {x : Str} {v : PySem.Expr} {px apos cpos p : Pos} (hi : N[i]? = some x) (hv : visB sc x = true) (hn : okName x = true) (hl : (apos.endLine == cpos.line) = true) (he : okE Q N sc e v = true) :
    PS X (.Expr (.Call (.Attribute (.Name x px) (Str.ofString "append") apos) [v] [] cpos) p) (TSe T Wb Hb Wx C (.app i e)) := by
  have hs := plain_ns (okE_plain e v he)
  refine PS.imp (ps_expr (pe_bm PySem.F.plainAttrs_list PySem.F.slot_list_append PySem.F.type_list_append mt_append (pv_ok g.gd hi hv hn) (pa_cons' hs (sE (H0 := Hb) e X sc fnb Wx v g.gd he).1 pa_nil) (nca_base rfl) (few_ok hs) hl (star_of hs) rfl) rfl) fun D σ H ⟨W, E, S, st, sr, fr, h⟩ => ?_
  replace h : RespS T Wb Hb Wx D W (match E[i]? with
    | some (some (.ol xs)) => (ev C e E S).bindS E fun d S => if xs.length < LIM then nxt (setSl E i (.ol (xs ++ [d]))) S else .bad
    | _ => .bad) := h
  split at h
  · rename_i xs eE
    obtain ⟨a, vs, q1, q2, q3, q4, q5, q6⟩ := fr.at_ i _ eE
    refine ⟨.ref a, q1, .inl ⟨rfl, vs, SqL.of q2⟩, ?_⟩
    refine thenS (R := RD T) st sr fr h fun x H1 d S1 W1 st1 s1 sr1 fr1 r1 h1 => ?_
    split at h1
    · rename_i c
      obtain ⟨E1, e1, h1⟩ := h1.nxt
      obtain ⟨hil, rfl⟩ := setSl_some e1
      obtain ⟨b, us, p1, p2, p3, p4, p5, p6⟩ := fr1.at_ i _ eE
      rw [q1] at p1; cases p1
      have := sl64
      unfold LIM at c
      refine ⟨a, us, x, rfl, rfl, p2, by rw [← p3.length]; omega, h1.at (st1.own p6) (sr1.ownSet p4 p5) (fr1.write eE rfl q1 ⟨a, us ++ [x], rfl, upd_same, p3.append (.cons r1 .nil), p4, p5, p6⟩)⟩
    · exact h1.nobad
  · exact h.nobad
theorem p_ext (g : GS T Q N C k X sc fnb Wx) {i : Nat} {e : IE} {x : Str} {v : PySem.Expr} {px apos cpos p : Pos} (hi : N[i]? = some x) (hv : visB sc x = true) (hn : okName x = true) (hl : (apos.endLine == cpos.line) = true) (he : okE Q N sc e v = true) :
    PS X (.Expr (.Call (.Attribute (.Name x px) (Str.ofString "extend") apos) [v] [] cpos) p) (TSe T Wb Hb Wx C (.ext i e)) := by
  have hs := plain_ns (okE_plain e v he)
  refine PS.imp (ps_expr (pe_bm PySem.F.plainAttrs_list PySem.F.slot_list_extend PySem.F.type_list_extend mt_extend (pv_ok g.gd hi hv hn) (pa_cons' hs (PE.borrow (H0 := Hb) g.gd he (sE e X sc fnb Wx v g.gd he).1) pa_nil) (nca_base rfl) (few_ok hs) hl (star_of hs) rfl) rfl) fun D σ H ⟨W, E, S, st, sr, fr, h⟩ => ?_
  replace h : RespS T Wb Hb Wx D W (match E[i]? with
    | some (some (.ol xs)) => (brw e E S (ev C e E S)).bindS E fun d S => (match drf S d with
      | .lst ys => if xs.length + ys.length ≤ LIM then nxt (setSl E i (.ol (xs ++ ys))) S else .bad
      | _ => .bad)
    | _ => .bad) := h
  split at h
  · rename_i xs eE
    obtain ⟨a, vs, q1, q2, q3, q4, q5, q6⟩ := fr.at_ i _ eE
    refine ⟨.ref a, q1, .inl ⟨rfl, vs, SqL.of q2⟩, ?_⟩
    refine thenS (R := RA T) (f := fun E S => brw e E S (ev C e E S)) st sr fr h fun x H1 d S1 W1 st1 s1 sr1 fr1 r1 h1 => ?_
    have vw := r1.view sr1
    split at h1
    · rename_i ys ed
      rw [ed] at vw
      obtain ⟨b, us, rfl, u1, u2⟩ := vw
      split at h1
      · rename_i c
        obtain ⟨E1, e1, h1⟩ := h1.nxt
        obtain ⟨hil, rfl⟩ := setSl_some e1
        obtain ⟨b', ws, p1, p2, p3, p4, p5, p6⟩ := fr1.at_ i _ eE
        rw [q1] at p1; cases p1
        have := sl64
        unfold LIM at c
        refine ⟨a, b, ws, us, rfl, rfl, p2, u1, by rw [← p3.length, ← u2.length]; omega, h1.at (st1.own p6) (sr1.ownSet p4 p5) (fr1.write eE rfl q1 ⟨a, ws ++ us, rfl, upd_same, p3.append u2, p4, p5, p6⟩)⟩
      · exact h1.nobad
    · exact h1.nobad
  · exact h.nobad
theorem p_add (g : GS T Q N C k X sc fnb Wx) {i : Nat} {e : IE} {x : Str} {v : PySem.Expr} {px apos cpos p : Pos} (hi : N[i]? = some x) (hv : visB sc x = true) (hn : okName x = true) (hl : (apos.endLine == cpos.line) = true) (he : okE Q N sc e v = true) :
    PS X (.Expr (.Call (.Attribute (.Name x px) (Str.ofString "add") apos) [v] [] cpos) p) (TSe T Wb Hb Wx C (.add i e)) := by
  have hs := plain_ns (okE_plain e v he)
  have hw := g.gd.st.tw
  refine PS.imp (ps_expr (pe_sadd (pv_ok g.gd hi hv hn) (pa_cons' hs (sE (H0 := Hb) e X sc fnb Wx v g.gd he).1 pa_nil) (nca_base rfl) (few_ok hs) hl (star_of hs) rfl) rfl) fun D σ H ⟨W, E, S, st, sr, fr, h⟩ => ?_
  replace h : RespS T Wb Hb Wx D W (match E[i]? with
    | some (some (.os xs)) => (ev C e E S).bindS E fun d S => (match d with
      | .int x => if xs.length < 4000 then nxt (setSl E i (.os (addS xs x))) S else .bad
      | _ => .bad)
    | _ => .bad) := h
  split at h
  · rename_i xs eE
    obtain ⟨a, SS, q1, q2, q3, q4, q5, q6, q7⟩ := fr.at_ i _ eE
    rw [hw] at q2
    refine ⟨.ref a, q1, ⟨a, SS, _, rfl, q2⟩, ?_⟩
    refine thenS (R := RD T) st sr fr h fun x H1 d S1 W1 st1 s1 sr1 fr1 r1 h1 => ?_
    split at h1
    · rename_i n
      cases r1
      split at h1
      · rename_i c
        obtain ⟨E1, e1, h1⟩ := h1.nxt
        obtain ⟨hil, rfl⟩ := setSl_some e1
        obtain ⟨b, S2, p1, p2, p3, p4, p5, p6, p7⟩ := fr1.at_ i _ eE
        rw [q1] at p1; cases p1
        rw [hw] at p2
        have hc : (if S2 n = true then xs.length else xs.length + 1) = (addS xs n).length := by
          rw [p3 n]
          unfold addS
          by_cases hm : n ∈ xs
          · simp [hm]
          · simp [hm]
        refine ⟨a, n, S2, _, rfl, rfl, p2, by show xs.length + 1 < 4096; omega, ?_⟩
        rw [hc]
        refine h1.at (st1.own p7) (sr1.ownSet p5 p6) (fr1.write eE rfl q1 ⟨a, _, rfl, by rw [hw]; exact upd_same, fun j => ?_, addS_nodup p4, p5, p6, p7⟩)
        rw [p3 j, Bool.eq_iff_iff]
        simp [addS_mem]
      · exact h1.nobad
    · exact h1.nobad
  · exact h.nobad
theorem p_sti (g : GS T Q N C k X sc fnb Wx) {i : Nat} {ix e : IE} {x : Str} {y v : PySem.Expr} {px ps p : Pos} (hi : N[i]? = some x) (hv : visB sc x = true) (hn : okName x = true) (hy : okE Q N sc ix y = true) (he : okE Q N sc e v = true) :
    PS X (.Assign [.Subscript (.Name x px) y ps] v p) (TSe T Wb Hb Wx C (.sti i ix e)) := by
  have hp := okE_plain e v he
  have hsw : swB sc (.Subscript (.Name x px) y ps) v = false := by cases v <;> rfl
  have hst : swT sc (.Subscript (.Name x px) y ps) v = true := by cases v <;> rfl
  have hpy := okE_plain ix y hy
  refine PS.imp (ps_asg (sE (H0 := Hb) e X sc fnb Wx v g.gd he).1 (pg_sub (pv_ok g.gd hi hv hn) (sE (H0 := Hb) ix X sc fnb Wx y g.gd hy).1 set_list (by intro v; cases y <;> first | rfl | cases hpy)) (by show swapsWith v (some (.Subscript (.Name x px) y ps)) p.line X.env = pure false; rw [sw_with g.kind g.gd.sc hp, hsw]) (sw_none g.kind g.gd.sc hst) rfl) fun D σ H ⟨W, E, S, st, sr, fr, h⟩ => ?_
  replace h : RespS T Wb Hb Wx D W (match E[i]? with
    | some (some (.ol xs)) => (ev C e E S).bindS E fun d S => (ev C ix E S).bindS E fun k S => (match k with
      | .int j => (match ixAt xs.length j with
        | some n => nxt (setSl E i (.ol (xs.set n d))) S
        | none => .bad)
      | _ => .bad)
    | _ => .bad) := h
  split at h
  · rename_i xs eE
    refine thenS (R := RD T) st sr fr h fun x H1 d S1 W1 st1 s1 sr1 fr1 r1 h1 => ?_
    obtain ⟨a, vs, q1, q2, q3, q4, q5, q6⟩ := fr1.at_ i _ eE
    refine ⟨.ref a, q1, ?_⟩
    refine thenS (R := RD T) st1 sr1 fr1 h1 fun z H2 d2 S2 W2 st2 s2 sr2 fr2 r2 h2 => ?_
    split at h2
    · rename_i j
      cases r2
      split at h2
      · rename_i n hn
        obtain ⟨E1, e1, h2⟩ := h2.nxt
        obtain ⟨hil, rfl⟩ := setSl_some e1
        obtain ⟨b', ws, p1, p2, p3, p4, p5, p6⟩ := fr2.at_ i _ eE
        rw [q1] at p1; cases p1
        refine ⟨a, ws, j, n, rfl, rfl, p2, by rw [← p3.length]; exact hn, h2.at (st2.own p6) (sr2.ownSet p4 p5) (fr2.write eE rfl q1 ⟨a, ws.set n x, rfl, upd_same, p3.set (r1.mono s2.le) n, p4, p5, p6⟩)⟩
      · exact h2.nobad
    · exact h2.nobad
  · exact h.nobad
theorem p_sts (g : GS T Q N C k X sc fnb Wx) {o ix e : IE} {x y v : PySem.Expr} {ps p : Pos} (hx : okE Q N sc o x = true) (hy : okE Q N sc ix y = true) (he : okE Q N sc e v = true) :
    PS X (.Assign [.Subscript x y ps] v p) (TSe T Wb Hb Wx C (.sts o ix e)) := by
  have hp := okE_plain e v he
  have hsw : swB sc (.Subscript x y ps) v = false := by cases v <;> rfl
  have hst : swT sc (.Subscript x y ps) v = true := by cases v <;> rfl
  have hpy := okE_plain ix y hy
  refine PS.imp (ps_asg (sE (H0 := Hb) e X sc fnb Wx v g.gd he).1 (pg_sub (sE (H0 := Hb) o X sc fnb Wx x g.gd hx).1 (sE (H0 := Hb) ix X sc fnb Wx y g.gd hy).1 set_list (by intro v; cases y <;> first | rfl | cases hpy)) (by show swapsWith v (some (.Subscript x y ps)) p.line X.env = pure false; rw [sw_with g.kind g.gd.sc hp, hsw]) (sw_none g.kind g.gd.sc hst) rfl) fun D σ H ⟨W, E, S, st, sr, fr, h⟩ => ?_
  replace h : RespS T Wb Hb Wx D W ((ev C e E S).bindS E fun d S => (ev C o E S).bindS E fun x S => (ev C ix E S).bindS E fun k S => match x, k with
    | .ref l, .int j => (match S[l]? with
      | some (.lst xs) => (match ixAt xs.length j with
        | some n => .ok (.nx, E) (S.set l (.lst (xs.set n d)))
        | none => .bad)
      | _ => .bad)
    | _, _ => .bad) := h
  refine thenS (R := RD T) st sr fr h fun x H1 d S1 W1 st1 s1 sr1 fr1 r1 h1 => ?_
  refine thenS (R := RD T) st1 sr1 fr1 h1 fun z H2 d2 S2 W2 st2 s2 sr2 fr2 r2 h2 => ?_
  refine thenS (R := RD T) st2 sr2 fr2 h2 fun u H3 d3 S3 W3 st3 s3 sr3 fr3 r3 h3 => ?_
  split at h3
  · rename_i l j
    cases r3
    cases r2.mono s3.le with
    | ref e2 =>
      split at h3
      · rename_i xs eS
        split at h3
        · rename_i n hn
          obtain ⟨vs, v1, v2⟩ := sr3.obs l _ _ e2 eS
          obtain ⟨sr4, st4⟩ := sr3.setAt (ob := .lst (xs.set n d)) (u := .lst (vs.set n x)) e2 ⟨_, upd_same, v2.set ((r1.mono s2.le).mono s3.le) n⟩
          exact ⟨_, vs, j, n, rfl, rfl, v1, by rw [← v2.length]; exact hn, h3.at (st3.trans st4) sr4 (fr3.stp st4)⟩
        · exact h3.nobad
      · exact h3.nobad
  · exact h3.nobad
theorem RepF.putF (inj : ∀ i j, T.nm i = T.nm j → i = j) {W : Wd} {f : Nat} {d : D} {v : V} (r : Rep T W d v) : ∀ {fs : List (Nat × D)} {fv : List (Str × V)}, RepF T W fs fv → RepF T W (Qv.putF f d fs) (L2.putF (T.nm f) v fv)
  | _, _, .nil => .cons r .nil
  | _, _, .cons (f := g) a t => by
    unfold Qv.putF L2.putF
    by_cases h : g = f
    · subst h
      rw [if_pos rfl, if_pos rfl]
      exact .cons r t
    · rw [if_neg h, if_neg fun z => h (inj _ _ z)]
      exact .cons a (RepF.putF inj r t)
theorem RepF.length {W : Wd} : ∀ {fs : List (Nat × D)} {fv : List (Str × V)}, RepF T W fs fv → fs.length = fv.length
  | _, _, .nil => rfl
  | _, _, .cons _ t => by simp [RepF.length t]
theorem p_sat (g : GS T Q N C k X sc fnb Wx) {o e : IE} {f : Nat} {x v : PySem.Expr} {ps p : Pos} (hx : okE Q N sc o x = true) (hf : Q.fld f = true) (he : okE Q N sc e v = true) :
    PS X (.Assign [.Attribute x (Q.nm f) ps] v p) (TSe T Wb Hb Wx C (.sat o f e)) := by
  have hp := okE_plain e v he
  have hsw : swB sc (.Attribute x (Q.nm f) ps) v = false := by cases v <;> rfl
  refine PS.imp (ps_fld (sE (H0 := Hb) o X sc fnb Wx x g.gd hx).1 (sE (H0 := Hb) e X sc fnb Wx v g.gd he).1 (by rw [sw_with g.kind g.gd.sc hp, hsw])) fun D σ H ⟨W, E, S, st, sr, fr, h⟩ => ?_
  replace h : RespS T Wb Hb Wx D W ((ev C e E S).bindS E fun d S => (ev C o E S).bindS E fun x S => match x with
    | .ref l => (match S[l]? with
      | some (.ins c fs) => if fs.length < 900 then .ok (.nx, E) (S.set l (.ins c (Qv.putF f d fs))) else .bad
      | _ => .bad)
    | _ => .bad) := h
  refine thenS (R := RD T) st sr fr h fun x H1 d S1 W1 st1 s1 sr1 fr1 r1 h1 => ?_
  refine thenS (R := RD T) st1 sr1 fr1 h1 fun z H2 d2 S2 W2 st2 s2 sr2 fr2 r2 h2 => ?_
  split at h2
  · rename_i l
    cases r2 with
    | ref e2 =>
      split at h2
      · rename_i c fs eS
        split at h2
        · rename_i hlen
          obtain ⟨dx, fv, hc, v1, v2, v3⟩ := sr2.obs l _ _ e2 eS
          obtain ⟨c1, c2⟩ := g.gd.st.at_ c f hc hf
          obtain ⟨sr4, st4⟩ := sr2.setAt (ob := .ins c (Qv.putF f d fs)) (u := .ins (T.ad c) dx (L2.putF (T.nm f) x fv)) e2 ⟨dx, _, hc, upd_same, v2, v3.putF g.gd.st.inj (r1.mono s2.le)⟩
          have e3 := h2.at (st2.trans st4) sr4 (fr2.stp st4)
          rw [← g.gd.st.nm]
          exact ⟨_, _, dx, fv, rfl, v1, c1, c2, by rw [← v3.length]; omega, e3⟩
        · exact h2.nobad
      · exact h2.nobad
  · exact h2.nobad
/-- name op= int -/
theorem aug_ok {o : BinO} : PIp X (opOf o) (fun x y H Qr => ∃ W dx dy z, Rep T W dx x ∧ Rep T W dy y ∧ augD o dx dy = some z ∧ ∀ v, (∃ i, z = .int i ∧ v = .int i) → Qr v H) := by
  intro pins s σ H x y v u Qr I rx ry ⟨W, dx, dy, z, h1, h2, e, hq⟩
  have hint : ∀ j : Int, z = .int j → Qr (.int j) H := fun j q => hq _ ⟨j, q, rfl⟩
  unfold augD at e
  split at e
  · rename_i i j
    cases h1; cases h2
    cases o
    · cases e; exact iop_add pins s σ H _ _ _ _ Qr I rx ry ⟨_, _, rfl, rfl, hint _ rfl⟩
    · cases e; exact iop_sub pins s σ H _ _ _ _ Qr I rx ry ⟨_, _, rfl, rfl, hint _ rfl⟩
    · simp only [binD] at e
      split at e <;> cases e
      rename_i c
      exact iop_mul pins s σ H _ _ _ _ Qr I rx ry ⟨_, _, rfl, rfl, c, hint _ rfl⟩
    · simp only [binD] at e
      split at e <;> cases e
      rename_i c
      exact iop_fdiv pins s σ H _ _ _ _ Qr I rx ry ⟨_, _, rfl, rfl, c, hint _ rfl⟩
    · simp only [binD] at e
      split at e <;> cases e
      rename_i c
      exact iop_mod pins s σ H _ _ _ _ Qr I rx ry ⟨_, _, rfl, rfl, c, hint _ rfl⟩
    · cases e
  · cases e
theorem p_aug (g : GS T Q N C k X sc fnb Wx) {i : Nat} {o : BinO} {e : IE} {x : Str} {v : PySem.Expr} {px p : Pos} (hi : N[i]? = some x) (hx : locB sc fnb x = true) (he : okE Q N sc e v = true) :
    PS X (.AugAssign (.Name x px) (opOf o) v p) (TSe T Wb Hb Wx C (.aug i o e)) := by
  obtain ⟨l1, l2⟩ := locB_ok g.gd hx
  refine PS.imp (ps_aug g.gd.nd (by rw [g.gd.N]; exact hi) l1 (sE (H0 := Hb) e X sc fnb Wx v g.gd he).1 (aug_ok (T := T) (o := o)) l2) fun D σ H ⟨W, E, S, st, sr, fr, h⟩ => ?_
  replace h : RespS T Wb Hb Wx D W (match E[i]? with
    | some (some (.v x)) => (ev C e E S).bindS E fun y S => (lift (augD o x y) S).bindS E fun z S => nxt (setSl E i (.v z)) S
    | _ => .bad) := h
  split at h
  · rename_i d eE
    obtain ⟨vx, q1, q2⟩ := fr.at_ i _ eE
    refine ⟨vx, q1, ?_⟩
    refine thenS (R := RD T) st sr fr h fun y H1 d2 S1 W1 st1 s1 sr1 fr1 r1 h1 => ?_
    obtain ⟨z, ez, h1⟩ := h1.liftS
    obtain ⟨E1, e1, h1⟩ := h1.nxt
    obtain ⟨hil, rfl⟩ := setSl_some e1
    exact ⟨W1, d, d2, z, q2.mono s1.le, r1, ez, fun v ⟨j, e1, e2⟩ => by subst e1 e2; exact h1.at st1 sr1 (fr1.setV i (.int j))⟩
  · exact h.nobad

/-! ### the flow -/
theorem p_expr (g : GS T Q N C k X sc fnb Wx) {e : IE} {v : PySem.Expr} {p : Pos} (hc : isComp v = false) (he : okE Q N sc e v = true) : PS X (.Expr v p) (TSe T Wb Hb Wx C (.expr e)) := by
  have hp := okE_plain e v he
  refine PS.imp (ps_expr (sE (H0 := Hb) e X sc fnb Wx v g.gd he).1 (by cases v <;> first | rfl | (cases hp; done) | (cases hc; done))) fun D σ H ⟨W, E, S, st, sr, fr, h⟩ => ?_
  exact thenS (R := RD T) st sr fr (show RespS T Wb Hb Wx D W ((ev C e E S).bindS E fun _ S => .ok (.nx, E) S) from h) fun x H1 d S1 W1 st1 _ sr1 fr1 r1 h1 => h1.at st1 sr1 fr1
theorem p_ret (g : GS T Q N C k X sc fnb Wx) {e : IE} {v : PySem.Expr} {p : Pos} (he : okE Q N sc e v = true) : PS X (.Return (some v) p) (TSe T Wb Hb Wx C (.ret e)) := by
  refine PS.imp (ps_ret (sE (H0 := Hb) e X sc fnb Wx v g.gd he).1) fun D σ H ⟨W, E, S, st, sr, fr, h⟩ => ?_
  exact thenS (R := RD T) st sr fr (show RespS T Wb Hb Wx D W ((ev C e E S).bindS E fun d S => .ok (.ret d, E) S) from h) fun x H1 d S1 W1 st1 _ sr1 fr1 r1 h1 => h1.at st1 sr1 fr1 x r1
theorem p_retn {p : Pos} : PS X (.Return none p) (TSe T Wb Hb Wx C .retn) := PS.imp ps_retN fun D σ H ⟨W, E, S, st, sr, fr, h⟩ => (show RespS T Wb Hb Wx D W (.ok (.ret .non, E) S) from h).at st sr fr .non .non
theorem p_pas {p : Pos} : PS X (.Pass p) (TSe T Wb Hb Wx C .pas) := PS.imp ps_pass fun D σ H ⟨W, E, S, st, sr, fr, h⟩ => (show RespS T Wb Hb Wx D W (.ok (.nx, E) S) from h).at st sr fr
theorem p_brk {p : Pos} : PS X (.Break p) (TSe T Wb Hb Wx C .brk) := PS.imp ps_break fun D σ H ⟨W, E, S, st, sr, fr, h⟩ => (show RespS T Wb Hb Wx D W (.ok (.brk, E) S) from h).at st sr fr
theorem p_cnt {p : Pos} : PS X (.Continue p) (TSe T Wb Hb Wx C .cnt) := PS.imp ps_continue fun D σ H ⟨W, E, S, st, sr, fr, h⟩ => (show RespS T Wb Hb Wx D W (.ok (.cnt, E) S) from h).at st sr fr
theorem p_ite (g : GS T Q N C k X sc fnb Wx) {t : IE} {a b : ISs} {v : PySem.Expr} {x y : List Stmt} {p : Pos} (ht : okE Q N sc t v = true) (ha : PSs X x (TBe T Wb Hb Wx C a)) (hb : PSs X y (TBe T Wb Hb Wx C b)) : PS X (.If v x y p) (TSe T Wb Hb Wx C (.ite t a b)) := by
  refine PS.imp (ps_if (sE (H0 := Hb) t X sc fnb Wx v g.gd ht).2.1 ha hb) fun D σ H ⟨W, E, S, st, sr, fr, h⟩ => ?_
  refine thenS (R := EqB) (f := fun E S => tst t E S (ev C t E S)) st sr fr (show RespS T Wb Hb Wx D W ((tst t E S (ev C t E S)).bindS E fun t S => match t with
    | true => exB C a E S
    | false => exB C b E S) from h) fun x H1 d S1 W1 st1 _ sr1 fr1 r1 h1 => ?_
  subst r1
  cases d with
  | true => exact ⟨W1, E, S1, st1, sr1, fr1, h1⟩
  | false => exact ⟨W1, E, S1, st1, sr1, fr1, h1⟩
theorem p_for (g : GS T Q N C k X sc fnb Wx) {tg : Tg} {it : II} {b : ISs} {t v : PySem.Expr} {bd : List Stmt} {p : Pos} (ht : okTg N sc fnb tg t = true) (hi : okI Q N sc it t v = true) (hb : PSs X bd (TBe T Wb Hb Wx C b)) : PS X (.For t v bd [] p) (TSe T Wb Hb Wx C (.for tg it b)) := by
  have hit := sI (H0 := Hb) it X sc fnb Wx t v g.gd hi
  refine PS.imp (ps_for g.pso g.gd.calm hit.1 (s_tg (H0 := Hb) g.gd tg t ht) hb (fun z => plain_folded hit.2 z)) fun D σ H ⟨W, E, S, st, sr, fr, h⟩ => ?_
  refine thenS (R := RI T) st sr fr (show RespS T Wb Hb Wx D W ((evI C it E S).bindS E fun xs S => forL (fun x E S => match asgT tg x E with
    | none => .bad
    | some E1 => exB C b E1 S) xs E S) from h) fun J H1 xs S1 W1 st1 _ sr1 fr1 r1 h1 => ?_
  let F : Qv.D → En → Sh → Res (Fl × En) := fun x E S => match asgT tg x E with
    | none => .bad
    | some E1 => exB C b E1 S
  let Pv : Nat → L2.St → Hp → Prop := fun i σ H => ∃ W2 E2 S2, Stp Wb Hb W2 H ∧ W1.Le W2 ∧ SRel T W2 S2 H ∧ FRel T Hb W2 E2 σ H ∧ RespS T Wb Hb Wx D W2 (forL F (xs.drop i) E2 S2)
  refine ⟨fun i m σ H => m = xs.length - i ∧ i ≤ xs.length ∧ Pv i σ H, ⟨_, rfl, Nat.zero_le _, W1, E, S1, st1, .refl _, sr1, fr1, h1⟩, ?_⟩
  rintro i m σ2 H2 ⟨rfl, hi, W2, E2, S2, st2, le2, sr2, fr2, h2⟩
  by_cases hlt : i < xs.length
  · refine .inr ⟨r1.go W2 S2 H2 le2 sr2 i hlt, Pv (i + 1), fun σ' H' p => ⟨_, by omega, rfl, hlt, p⟩, fun x H' y => ?_⟩
    have hd : xs[i]? = some xs[i] := List.getElem?_eq_getElem hlt
    rw [List.drop_eq_getElem_cons hlt] at h2
    obtain ⟨W3, st3, sr3, rx⟩ := r1.yld W2 S2 H2 le2 sr2 i xs[i] x H' hd y
    replace h2 : RespS T Wb Hb Wx D W2 ((F xs[i] E2 S2).bind fun r S1 => match r with
      | (.nx, E1) => forL F (xs.drop (i + 1)) E1 S1
      | (.cnt, E1) => forL F (xs.drop (i + 1)) E1 S1
      | (.brk, E1) => .ok (.nx, E1) S1
      | r => .ok r S1) := h2
    have fr3 := fr2.stp st3
    have st23 := st2.trans st3
    have le23 := le2.trans st3.le
    cases eA : asgT tg xs[i] E2 with
    | none =>
      have : F xs[i] E2 S2 = .bad := by
        show (match asgT tg xs[i] E2 with
          | none => Res.bad
          | some E1 => exB C b E1 S2) = _
        rw [eA]
      rw [this] at h2
      exact h2.elim
    | some E1 =>
      have eF : F xs[i] E2 S2 = exB C b E1 S2 := by
        show (match asgT tg xs[i] E2 with
          | none => Res.bad
          | some E1 => exB C b E1 S2) = _
        rw [eA]
      rw [eF] at h2
      refine ⟨W3, E2, S2, xs[i], E1, sr3, fr3, rx, eA, fun σ' fr' _ => ⟨W3, E1, S2, st23, sr3, fr', ?_⟩⟩
      refine (h2.mono st3.le).bind fun p S' W' H'' σ'' _ h3 s1 s2 s3 s4 => ?_
      obtain ⟨fl, E'⟩ := p
      cases fl with
      | nx => exact ⟨W', E', S', s1, le23.trans s2, s3, s4, h3⟩
      | cnt => exact ⟨W', E', S', s1, le23.trans s2, s3, s4, h3⟩
      | brk => exact h3.at s1 s3 s4
      | ret d => exact h3.at s1 s3 s4
      | exc x => exact h3.at s1 s3 s4
  · have e : i = xs.length := by omega
    subst e
    refine .inl ⟨r1.stop W2 S2 H2 le2 sr2, ?_⟩
    rw [List.drop_length] at h2
    exact h2.at st2 sr2 fr2
theorem p_whl (g : GS T Q N C k X sc fnb Wx) {t : IE} {b : ISs} {v : PySem.Expr} {bd : List Stmt} {p : Pos} (ht : okE Q N sc t v = true) (hb : PSs X bd (TBe T Wb Hb Wx C b)) : PS X (.While v bd [] p) (TSe T Wb Hb Wx C (.whl t b)) := by
  refine PS.imp (ps_while g.pso (sE (H0 := Hb) t X sc fnb Wx v g.gd ht).2.1 hb) fun D σ H ⟨W, E, S, st, sr, fr, h⟩ => ?_
  replace h : RespS T Wb Hb Wx D W (whlL (fun E S => tst t E S (ev C t E S)) (exB C b) WFU E S) := h
  refine ⟨fun m σ H => ∃ W2 E2 S2, Stp Wb Hb W2 H ∧ SRel T W2 S2 H ∧ FRel T Hb W2 E2 σ H ∧ RespS T Wb Hb Wx D W2 (whlL (fun E S => tst t E S (ev C t E S)) (exB C b) m E2 S2), ⟨_, W, E, S, st, sr, fr, h⟩, ?_⟩
  rintro m σ2 H2 ⟨W2, E2, S2, st2, sr2, fr2, h2⟩
  cases m with
  | zero => exact h2.elim
  | succ m =>
    refine thenS (R := EqB) (f := fun E S => tst t E S (ev C t E S)) st2 sr2 fr2 (show RespS T Wb Hb Wx D W2 ((tst t E2 S2 (ev C t E2 S2)).bindS E2 fun b' S1 => match b' with
      | false => .ok (.nx, E2) S1
      | true => (exB C b E2 S1).bind fun r S2 => match r with
        | (.nx, E1) => whlL (fun E S => tst t E S (ev C t E S)) (exB C b) m E1 S2
        | (.cnt, E1) => whlL (fun E S => tst t E S (ev C t E S)) (exB C b) m E1 S2
        | (.brk, E1) => .ok (.nx, E1) S2
        | r => .ok r S2) from h2) fun x H3 d S3 W3 st3 _ sr3 fr3 r3 h3 => ?_
    subst r3
    cases d with
    | false =>
      rw [if_neg (by decide)]
      exact RespS.at (show RespS T Wb Hb Wx D W3 (.ok (.nx, E2) S3) from h3) st3 sr3 fr3
    | true =>
      rw [if_pos rfl]
      refine ⟨fun σ H => ∃ W2 E2 S2, Stp Wb Hb W2 H ∧ SRel T W2 S2 H ∧ FRel T Hb W2 E2 σ H ∧ RespS T Wb Hb Wx D W2 (whlL (fun E S => tst t E S (ev C t E S)) (exB C b) m E2 S2), fun σ' H' p => ⟨m, Nat.lt_succ_self m, p⟩, W3, E2, S3, st3, sr3, fr3, ?_⟩
      refine RespS.bind h3 fun p S' W' H'' σ'' _ h4 s1 s2 s3 s4 => ?_
      obtain ⟨fl, E'⟩ := p
      cases fl with
      | nx => exact ⟨W', E', S', s1, s3, s4, h4⟩
      | cnt => exact ⟨W', E', S', s1, s3, s4, h4⟩
      | brk => exact h4.at s1 s3 s4
      | ret d => exact h4.at s1 s3 s4
      | exc x => exact h4.at s1 s3 s4
end
end Qv
set_option Elab.async false
set_option linter.all false
set_option maxRecDepth 100000
set_option maxHeartbeats 8000000
/-! The soundness of the checker: statements, defs. -/
namespace Qv
open PySem PySem.Spec PyProof.Rows L2

section
variable (Q : Ck) (N : List Str) (sc : Scope) (fnb : Str → Bool)
mutual
def okS : IS → Stmt → Bool
  | .asg tg e, s => (match s with
    | .Assign [t] v _ => okTg N sc fnb tg t && okE Q N sc e v && swT sc t v && !swB sc t v
    | _ => false)
  | .par is es, s => (match s with
    | .Assign [.Tuple ts _ _] (.Tuple vs _ _) _ => okNames N sc fnb is ts && okEs Q N sc es vs && okPar sc is ts vs
    | _ => false)
  | .own i le, s => (match s with
    | .Assign [.Name x _] v _ => decide (N[i]? = some x) && locB sc fnb x && okL Q N sc le v
    | _ => false)
  | .owns i se, s => (match s with
    | .Assign [.Name x _] v _ => decide (N[i]? = some x) && locB sc fnb x && okSE Q N sc se v
    | _ => false)
  | .aug i o e, s => (match s with
    | .AugAssign (.Name x _) op v _ => decide (op = opOf o) && decide (N[i]? = some x) && locB sc fnb x && okE Q N sc e v
    | _ => false)
  | .app i e, s => (match s with
    | .Expr (.Call (.Attribute (.Name x _) m ap) [v] [] cp) _ => decide (m = Str.ofString "append") && decide (N[i]? = some x) && visB sc x && okName x && (ap.endLine == cp.line) && okE Q N sc e v
    | _ => false)
  | .ext i e, s => (match s with
    | .Expr (.Call (.Attribute (.Name x _) m ap) [v] [] cp) _ => decide (m = Str.ofString "extend") && decide (N[i]? = some x) && visB sc x && okName x && (ap.endLine == cp.line) && okE Q N sc e v
    | _ => false)
  | .add i e, s => (match s with
    | .Expr (.Call (.Attribute (.Name x _) m ap) [v] [] cp) _ => decide (m = Str.ofString "add") && decide (N[i]? = some x) && visB sc x && okName x && (ap.endLine == cp.line) && okE Q N sc e v
    | _ => false)
  | .sti i ix e, s => (match s with
    | .Assign [.Subscript (.Name x _) y _] v _ => decide (N[i]? = some x) && visB sc x && okName x && okE Q N sc ix y && okE Q N sc e v
    | _ => false)
  | .sts o ix e, s => (match s with
    | .Assign [.Subscript x y _] v _ => okE Q N sc o x && okE Q N sc ix y && okE Q N sc e v
    | _ => false)
  | .sat o f e, s => (match s with
    | .Assign [.Attribute x n _] v _ => decide (n = Q.nm f) && Q.fld f && okE Q N sc o x && okE Q N sc e v
    | _ => false)
  | .expr e, s => (match s with
    | .Expr v _ => !isComp v && okE Q N sc e v
    | _ => false)
  | .ret e, s => (match s with
    | .Return (some v) _ => okE Q N sc e v
    | _ => false)
  | .retn, s => (match s with
    | .Return none _ => true
    | _ => false)
  | .pas, s => (match s with
    | .Pass _ => true
    | _ => false)
  | .brk, s => (match s with
    | .Break _ => true
    | _ => false)
  | .cnt, s => (match s with
    | .Continue _ => true
    | _ => false)
  | .ite t a b, s => (match s with
    | .If v x y _ => okE Q N sc t v && okB a x && okB b y
    | _ => false)
  | .for tg it b, s => (match s with
    | .For t v bd [] _ => okTg N sc fnb tg t && okI Q N sc it t v && okB b bd
    | _ => false)
  | .whl t b, s => (match s with
    | .While v bd [] _ => okE Q N sc t v && okB b bd
    | _ => false)
  | .raise _, _ => true
def okB : ISs → List Stmt → Bool
  | .nil, s => (match s with
    | [] => true
    | _ => false)
  | .cons s b, ss => (match ss with
    | x :: r => okS s x && okB b r
    | _ => false)
  | .frz _ b, ss => okB b ss
end
end
section
variable {T : Tb} {Q : Ck} {N : List Str} {C : Calls} {k : Nat} {X : Cx} {sc : Scope} {fnb : Str → Bool} {Wx : WX} {Wb : Wd} {Hb : Hp}
theorem b_nil : PSs X [] (TBe T Wb Hb Wx C .nil) := PSs.imp pss_nil fun D σ H ⟨W, E, S, st, sr, fr, h⟩ => (show RespS T Wb Hb Wx D W (.ok (.nx, E) S) from h).at st sr fr
theorem b_cons {s : IS} {b : ISs} {x : Stmt} {r : List Stmt} (hs : PS X x (TSe T Wb Hb Wx C s)) (hb : PSs X r (TBe T Wb Hb Wx C b)) : PSs X (x :: r) (TBe T Wb Hb Wx C (.cons s b)) :=
  PSs.imp (pss_cons hs hb) fun D σ H ⟨W, E, S, st, sr, fr, h⟩ => by
    refine ⟨W, E, S, st, sr, fr, ?_⟩
    refine RespS.bind (show RespS T Wb Hb Wx D W ((exS C s E S).bind fun r S => match r with
      | (.nx, E1) => exB C b E1 S
      | r => .ok r S) from h) fun p S' W' H' σ' _ h2 s1 s2 s3 s4 => ?_
    obtain ⟨fl, E'⟩ := p
    cases fl with
    | nx => exact ⟨W', E', S', s1, s3, s4, h2⟩
    | brk => exact h2.at s1 s3 s4
    | cnt => exact h2.at s1 s3 s4
    | ret d => exact h2.at s1 s3 s4
    | exc x => exact h2.at s1 s3 s4
theorem Stp.knowB {W : Wd} {H : Hp} {a : Addr} {o : HO} (st : Stp Wb Hb W H) (e3 : W.G a = none) (e5 : Hb a = none) : Stp Wb Hb (W.add a o) H := by
  have le := Wd.le_add (o := o) e3
  refine ⟨st.le.trans le, st.keep, fun b u q => ?_, st.newM, st.there⟩
  by_cases hb : b = a
  · subst hb; exact .inr (.inl e5)
  · have q' : upd W.G a o b = some u := q
    rw [upd_ne hb] at q'
    exact st.newG b u q'
theorem b_frz {i : Nat} {b : ISs} {r : List Stmt} (hb : PSs X r (TBe T Wb Hb Wx C b)) : PSs X r (TBe T Wb Hb Wx C (.frz i b)) :=
  PSs.imp hb fun D σ H ⟨W, E, S, st, sr, fr, h⟩ => by
    replace h : RespS T Wb Hb Wx D W (match E[i]? with
      | some (some (.ol xs)) => exB C b (E.set i (some (.v (.lst xs)))) S
      | some (some (.os xs)) => exB C b (E.set i (some (.v (.set xs)))) S
      | _ => exB C b E S) := h
    split at h
    · rename_i xs eE
      obtain ⟨a, vs, e1, e2, e3, e4, e5, e6⟩ := fr.at_ i _ eE
      have le := Wd.le_add (o := HO.lst vs) e4
      exact ⟨W.add a (.lst vs), _, S, st.knowB e4 e6, sr.freeze e2 e4 e5, fr.known eE rfl e1 e4 (.lst (show upd W.G a _ a = _ from upd_same) (e3.mono le)), h.mono le⟩
    · rename_i xs eE
      obtain ⟨a, SS, e1, e2, e3, e4, e5, e6, e7⟩ := fr.at_ i _ eE
      have le := Wd.le_add (o := SetO T.w a SS xs.length) e5
      exact ⟨W.add a (SetO T.w a SS xs.length), _, S, st.knowB e5 e7, sr.freeze e2 e5 e6, fr.known eE rfl e1 e5 (.set (show upd W.G a _ a = _ from upd_same) e3 e4), h.mono le⟩
    · exact ⟨W, E, S, st, sr, fr, h⟩
end
section
variable {T : Tb} {Q : Ck} {N : List Str} {C : Calls} {k : Nat} {X : Cx} {sc : Scope} {fnb : Str → Bool} {Wx : WX} {Wb : Wd} {Hb : Hp}
mutual
theorem sS (g : GS T Q N C k X sc fnb Wx) : ∀ (s : IS) (x : Stmt), okS Q N sc fnb s x = true → PS X x (TSe T Wb Hb Wx C s)
  | .asg tg e, x, h => by
    unfold okS at h
    split at h
    · simp only [Bool.and_eq_true, Bool.not_eq_true'] at h
      exact p_asg g h.1.1.1 h.1.1.2 h.1.2 h.2
    · cases h
  | .par is es, x, h => by
    unfold okS at h
    split at h
    · simp only [Bool.and_eq_true] at h
      exact p_par g h.1.1 h.1.2 h.2
    · cases h
  | .own i le, x, h => by
    unfold okS at h
    split at h
    · simp only [Bool.and_eq_true, decide_eq_true_eq] at h
      exact p_own g h.1.1 h.1.2 h.2
    · cases h
  | .owns i se, x, h => by
    unfold okS at h
    split at h
    · simp only [Bool.and_eq_true, decide_eq_true_eq] at h
      exact p_owns g h.1.1 h.1.2 h.2
    · cases h
  | .aug i o e, x, h => by
    unfold okS at h
    split at h
    · simp only [Bool.and_eq_true, decide_eq_true_eq] at h
      obtain ⟨⟨⟨rfl, h2⟩, h3⟩, h4⟩ := h
      exact p_aug g h2 h3 h4
    · cases h
  | .app i e, x, h => by
    unfold okS at h
    split at h
    · simp only [Bool.and_eq_true, decide_eq_true_eq] at h
      obtain ⟨⟨⟨⟨⟨rfl, h2⟩, h3⟩, h4⟩, h5⟩, h6⟩ := h
      exact p_app g h2 h3 h4 h5 h6
    · cases h
  | .ext i e, x, h => by
    unfold okS at h
    split at h
    · simp only [Bool.and_eq_true, decide_eq_true_eq] at h
      obtain ⟨⟨⟨⟨⟨rfl, h2⟩, h3⟩, h4⟩, h5⟩, h6⟩ := h
      exact p_ext g h2 h3 h4 h5 h6
    · cases h
  | .add i e, x, h => by
    unfold okS at h
    split at h
    · simp only [Bool.and_eq_true, decide_eq_true_eq] at h
      obtain ⟨⟨⟨⟨⟨rfl, h2⟩, h3⟩, h4⟩, h5⟩, h6⟩ := h
      exact p_add g h2 h3 h4 h5 h6
    · cases h
  | .sti i ix e, x, h => by
    unfold okS at h
    split at h
    · simp only [Bool.and_eq_true, decide_eq_true_eq] at h
      obtain ⟨⟨⟨⟨h2, h3⟩, h4⟩, h5⟩, h6⟩ := h
      exact p_sti g h2 h3 h4 h5 h6
    · cases h
  | .sts o ix e, x, h => by
    unfold okS at h
    split at h
    · simp only [Bool.and_eq_true] at h
      exact p_sts g h.1.1 h.1.2 h.2
    · cases h
  | .sat o f e, x, h => by
    unfold okS at h
    split at h
    · simp only [Bool.and_eq_true, decide_eq_true_eq] at h
      obtain ⟨⟨⟨rfl, h2⟩, h3⟩, h4⟩ := h
      exact p_sat g h3 h2 h4
    · cases h
  | .expr e, x, h => by
    unfold okS at h
    split at h
    · simp only [Bool.and_eq_true, Bool.not_eq_true'] at h
      exact p_expr g h.1 h.2
    · cases h
  | .ret e, x, h => by
    unfold okS at h
    split at h
    · exact p_ret g h
    · cases h
  | .retn, x, h => by
    unfold okS at h
    split at h
    · exact p_retn
    · cases h
  | .pas, x, h => by
    unfold okS at h
    split at h
    · exact p_pas
    · cases h
  | .brk, x, h => by
    unfold okS at h
    split at h
    · exact p_brk
    · cases h
  | .cnt, x, h => by
    unfold okS at h
    split at h
    · exact p_cnt
    · cases h
  | .ite t a b, x, h => by
    unfold okS at h
    split at h
    · simp only [Bool.and_eq_true] at h
      exact p_ite g h.1.1 (sB g a _ h.1.2) (sB g b _ h.2)
    · cases h
  | .for tg it b, x, h => by
    unfold okS at h
    split at h
    · simp only [Bool.and_eq_true] at h
      exact p_for g h.1.1 h.1.2 (sB g b _ h.2)
    · cases h
  | .whl t b, x, h => by
    unfold okS at h
    split at h
    · simp only [Bool.and_eq_true] at h
      exact p_whl g h.1 (sB g b _ h.2)
    · cases h
  | .raise _, x, h => ⟨fun pins s σ H D I ⟨W, E, S, st, sr, fr, h⟩ => False.elim h⟩
theorem sB (g : GS T Q N C k X sc fnb Wx) : ∀ (b : ISs) (x : List Stmt), okB Q N sc fnb b x = true → PSs X x (TBe T Wb Hb Wx C b)
  | .nil, x, h => by
    unfold okB at h
    split at h
    · exact b_nil
    · cases h
  | .cons s b, x, h => by
    unfold okB at h
    split at h
    · simp only [Bool.and_eq_true] at h
      exact b_cons (sS g s _ h.1) (sB g b _ h.2)
    · cases h
  | .frz i b, x, h => by
    unfold okB at h
    exact b_frz (sB g b x h)
end
end

/-! ### defs -/
def scopeB (N ps : List Str) (sc : Scope) : Bool :=
  (match sc.kind with
    | .function => true
    | _ => false) && !sc.isCoroutine && !sc.isGenerator && decide N.Nodup && decide (N.take ps.length = ps) && ps.all (fun x => match sc.names.lookup x with
    | some .local => true
    | some .cell => true
    | _ => false) && sc.names.all (fun y => match y.2 with
    | .free => false
    | _ => true)
theorem scopeB_ok {N ps : List Str} {sc : Scope} (h : scopeB N ps sc = true) : FnScope N ps sc := by
  unfold scopeB at h
  simp only [Bool.and_eq_true, Bool.not_eq_true', decide_eq_true_eq, List.all_eq_true] at h
  obtain ⟨⟨⟨⟨⟨⟨h1, h2⟩, h3⟩, h4⟩, h5⟩, h6⟩, h7⟩ := h
  refine ⟨?_, h2, h3, h4, h5, fun x hx => ?_, fun y hy e => ?_⟩
  · split at h1
    · assumption
    · cases h1
  · have := h6 x hx
    split at this
    · exact .inl ‹_›
    · exact .inr ‹_›
    · cases this
  · have := h7 y hy
    rw [e] at this
    cases this
/-- the slots of a def's start -/
theorem start_ok {T : Tb} {W : Wd} {H : Hp} {N : List Str} {n : Nat} : ∀ {ds : List D} {vs : List V}, Reps T W ds vs → n = N.length - vs.length → ds.length ≤ N.length → FRel T H W (ds.map (fun d => some (.v d)) ++ List.replicate n none) (L2.start N vs) H := by
  intro ds vs r hn hl
  have e := r.length
  subst hn
  unfold L2.start
  have low : ∀ {i : Nat} {s : Sl}, (ds.map (fun d => some (Sl.v d)) ++ List.replicate (N.length - vs.length) none)[i]? = some (some s) → ∃ d, ds[i]? = some d ∧ s = .v d := fun {i s} q => by
    by_cases hi : i < ds.length
    · rw [List.getElem?_append_left (by simpa using hi), List.getElem?_map] at q
      rw [List.getElem?_eq_getElem hi] at q ⊢
      simp at q
      exact ⟨_, rfl, q.symm⟩
    · rw [List.getElem?_append_right (by simpa using hi), List.getElem?_replicate] at q
      split at q <;> cases q
  refine ⟨by simp; omega, fun i s q => ?_, fun i j s t a e1 e2 o1 => ?_⟩
  · obtain ⟨d, h1, rfl⟩ := low q
    obtain ⟨v, h2, h3⟩ := r.get h1
    refine ⟨v, ?_, h3⟩
    have hi : i < vs.length := (List.getElem?_eq_some_iff.mp h2).1
    rw [List.getElem?_append_left (by simpa using hi), List.getElem?_map, h2]
    rfl
  · obtain ⟨d, _, rfl⟩ := low e1
    cases o1
/-- A DEF KEEPS ITS PROMISE: its body is the tree that the checker knows -/
theorem fn_sound {P : Program} {w : World} {K : PySem.W.Frag} {mg : Str → Option Value} {base : Heap} {T : Tb} {Q : Ck} {C : Calls} {k : Nat} {f : Addr} {x qual : Str} {params : Arguments} {body : List Stmt} {scope : Scope} {dvs : List V} {kws : List (Str × V)} {fd : FuncData} {N ps : List Str} {fn : Fn}
    (F : FunD K x qual params body scope dvs kws f fd) (st : SOk P w K mg base T Q C k) (hs : scopeB N ps scope = true) (hn : fn.n = N.length) (hp : fn.ps = ps.length) (ok : okB Q N scope (fun _ => true) fn.body body = true) :
    FnOk P w K mg base (L2.CX P w) (2 * k + 2) f fd ps (spD T (runF C fn)) := by
  have FS := scopeB_ok hs
  have hpl : ps.length ≤ N.length := by have := congrArg List.length FS.pre; rw [List.length_take] at this; omega
  refine F.ok FS (fun vs H Qr E ⟨W, S, ds, sr, r, h⟩ => ?_) fun cdv A outer s H vs Qr E hr ⟨W, S, ds, sr, r, h⟩ => ?_
  · unfold runF at h
    split at h
    · rename_i e
      rw [← r.length, e, hp]
    · exact h.elim
  · let X := cxOf (L2.CX P w) P w K mg base N qual scope f cdv A outer s H E
    have g : GS T Q N C k X scope (fun _ => true) (fun c d _ H => E c d H) := ⟨⟨st, rfl, FS.nd, rfl, fun _ _ => rfl, rfl, hr, takes_of rfl rfl rfl rfl⟩, FS.kind, passes_of rfl⟩
    refine ⟨_, sB (Wb := W) (Hb := H) g fn.body body ok, ?_⟩
    unfold runF at h
    split at h
    · rename_i e
      have hl : vs.length = ps.length := by rw [← r.length, e, hp]
      refine ⟨W, _, S, sr.stp, sr, start_ok (N := N) (n := fn.n - fn.ps) r (by rw [hn, hp, hl]) (by rw [r.length, hl]; exact hpl), ?_⟩
      generalize exB C fn.body (ds.map (fun d => some (.v d)) ++ List.replicate (fn.n - fn.ps) none) S = res at h
      cases res with
      | ok p S1 =>
        obtain ⟨fl, E1⟩ := p
        intro W' H' σ' s1 _ s3 _
        cases fl with
        | nx => exact (show Resp T (RD T) E W H Qr (.ok .non S1) from h) W' H' .non s1 s3 .non
        | ret d => exact fun v rv => (show Resp T (RD T) E W H Qr (.ok d S1) from h) W' H' v s1 s3 rv
        | exc x => exact fun c d rx => (show Resp T (RD T) E W H Qr (.ex x S1) from h) W' H' c d s1 s3 rx
        | brk => exact h.elim
        | cnt => exact h.elim
      | ex x S1 => exact h.elim
      | bad => exact h.elim
    · exact h.elim
end Qv
set_option Elab.async false
set_option linter.all false
set_option maxRecDepth 100000
set_option maxHeartbeats 8000000
/-! The whole program; the law. -/
namespace Qv
open PySem PySem.Spec PyProof.Rows L2

/-- what the checker and the head say of a program -/
structure PgOk (P : Program) (w : World) (K : PySem.W.Frag) (mg : Str → Option Value) (base : Heap) (T : Tb) (Q : Ck) (pg : Pg) (adr : Nat → Addr) (pss : Nat → List Str) : Prop where
  tw : T.w = w
  kl : ∀ a vs, T.kl a vs → ∀ H, SqL K H a vs
  nm : T.nm = Q.nm
  inj : ∀ i j, T.nm i = T.nm j → i = j
  bn : ∀ x, x ∈ bnames → mg x = none
  gl : ∀ n d, pg.gl n = some d → ∃ u v, (mg (T.nm n) = some u ∨ (mg (T.nm n) = none ∧ T.nm n ≠ "__name__" ∧ bootBuiltins (T.nm n) = some u)) ∧ RelV v u ∧ ∀ W, Rep T W d v
  fns : ∀ f fn, pg.fns[f]? = some fn → ∃ (x qual : Str) (params : Arguments) (body : List Stmt) (scope : Scope) (kws : List (Str × V)) (fd : FuncData) (N : List Str), FunD K x qual params body scope [] kws (adr f) fd ∧
    scopeB N (pss f) scope = true ∧ fn.n = N.length ∧ fn.ps = (pss f).length ∧ okB Q N scope (fun _ => true) fn.body body = true ∧ Binds K fd (pss f) []
  fnm : ∀ f x, Q.fn f = some x → mg x = some (.ref (adr f)) ∧ f < pg.fns.length
  cls : ∀ c, Q.cls c = true → T.cl c ∧ ∃ f, pg.ini c = some f ∧ mg (T.nm c) = some (.ref (T.ad c)) ∧ Mk K (T.ad c) (adr f) ∧ f < pg.fns.length
  at_ : ∀ c f, T.cl c → Q.fld f = true → Cls K (T.ad c) ∧ NoAttr K (T.ad c) (T.nm f)
section
variable {P : Program} {w : World} {K : PySem.W.Frag} {mg : Str → Option Value} {base : Heap} {T : Tb} {Q : Ck} {pg : Pg} {adr : Nat → Addr} {pss : Nat → List Str}
/-- the function object at a -/
def fdAt (K : PySem.W.Frag) (a : Addr) : Option FuncData := match K.lookup a with
  | some ⟨_, _, .func fd, _⟩ => some fd
  | _ => none
theorem fdAt_of {x qual : Str} {params : Arguments} {body : List Stmt} {scope : Scope} {dvs : List V} {kws : List (Str × V)} {f : Addr} {fd : FuncData} (F : FunD K x qual params body scope dvs kws f fd) : fdAt K f = some fd := by
  obtain ⟨_, _, _, _, _, _, _, _, _, _, _, e, _⟩ := F.ex
  unfold fdAt
  rw [e]
def FnAt (P : Program) (w : World) (K : PySem.W.Frag) (mg : Str → Option Value) (base : Heap) (T : Tb) (pg : Pg) (adr : Nat → Addr) (pss : Nat → List Str) (k f : Nat) : Prop :=
  ∃ fd, fdAt K (adr f) = some fd ∧ PySem.W.keepIn K (.ref (adr f)) = true ∧ Binds K fd (pss f) [] ∧ FnOk P w K mg base (L2.CX P w) (2 * k) (adr f) fd (pss f) (spD T (callAt pg k f))
theorem PgOk.at (g : PgOk P w K mg base T Q pg adr pss) {k : Nat} (ih : ∀ f, f < pg.fns.length → FnAt P w K mg base T pg adr pss k f) : SOk P w K mg base T Q (pg.calls k) k where
  tw := g.tw
  kl := g.kl
  nm := g.nm
  inj := g.inj
  bn := g.bn
  gl := g.gl
  fn := fun f x e => by
    obtain ⟨h1, h2⟩ := g.fnm f x e
    obtain ⟨fd, _, h3, h4, h5⟩ := ih f h2
    exact ⟨adr f, fd, pss f, h1, h3, h4, h5⟩
  new := fun c e => by
    obtain ⟨h1, f, h2, h3, h4, h5⟩ := g.cls c e
    obtain ⟨fd, _, h6, h7, h8⟩ := ih f h5
    exact ⟨h1, pg.ini, f, adr f, fd, pss f, rfl, h2, h3, h4, h7, h8⟩
  at_ := g.at_
theorem PgOk.all (g : PgOk P w K mg base T Q pg adr pss) : ∀ k f, f < pg.fns.length → FnAt P w K mg base T pg adr pss k f
  | 0, f, hf => by
    obtain ⟨x, qual, params, body, scope, kws, fd, N, F, h1, h2, h3, h4, b⟩ := g.fns f _ (List.getElem?_eq_getElem hf)
    refine ⟨fd, fdAt_of F, F.kp, b, ⟨fun vs H Qr E ⟨W, S, ds, sr, r, h⟩ => ?_, fun A outer s H args us vs Qr E _ _ _ _ ⟨W, S, ds, sr, r, h⟩ => ?_⟩⟩
    · exact False.elim h
    · exact False.elim h
  | k + 1, f, hf => by
    obtain ⟨x, qual, params, body, scope, kws, fd, N, F, h1, h2, h3, h4, b⟩ := g.fns f _ (List.getElem?_eq_getElem hf)
    have s := fn_sound F (g.at fun f hf => g.all k f hf) h1 h2 h3 h4
    refine ⟨fd, fdAt_of F, F.kp, b, ?_⟩
    have e : spD T (callAt pg (k + 1) f) = spD T (runF (pg.calls k) pg.fns[f]) := by
      have : callAt pg (k + 1) f = runF (pg.calls k) pg.fns[f] := by
        funext ds S
        show (match pg.fns[f]? with
          | none => Res.bad
          | some fn => runF ⟨callAt pg k, mkI (callAt pg k) pg.ini, pg.gl⟩ fn ds S) = _
        rw [List.getElem?_eq_getElem hf]
        rfl
      rw [this]
    rw [e]
    exact s
end

/-! ### names -/
/-- a table of names; behind its end, names that are nobody's -/
def nmOf (l : List Str) (i : Nat) : Str := match l[i]? with
  | some x => x
  | none => ⟨Array.replicate (i + 1000) 0⟩
def namesB (l : List Str) : Bool := decide l.Nodup && l.all (fun x => decide (x.cps.size < 1000))
theorem nmOf_inj {l : List Str} (h : namesB l = true) (i j : Nat) (e : nmOf l i = nmOf l j) : i = j := by
  unfold namesB at h
  simp only [Bool.and_eq_true, decide_eq_true_eq, List.all_eq_true] at h
  obtain ⟨nd, sm⟩ := h
  unfold nmOf at e
  split at e
  · rename_i x hx
    split at e
    · rename_i y hy
      subst e
      have h1 := List.getElem?_eq_some_iff.mp hx
      have h2 := List.getElem?_eq_some_iff.mp hy
      exact (List.getElem_inj nd).mp (h1.2.trans h2.2.symm)
    · have := sm x (List.mem_of_getElem? hx)
      rw [e] at this
      simp at this
      omega
  · split at e
    · rename_i y hy
      have := sm y (List.mem_of_getElem? hy)
      rw [← e] at this
      simp at this
      omega
    · have := congrArg (fun s : Str => s.cps.size) e
      simpa using this

/-! ### the law -/
/-- a law: walk_ofE, the exceptions' word over the law's own world -/
theorem walk_ofW {l : PySem.W.OpenLaw} {n k : Nat} {q : Program} {loose : List Str} {XP : (Str → Option Value) → Heap → Prop} {YP : World → Heap → Prop} {d : DefRec} {x : Str}
    (hn : l.most = some n) (hn2 : n ≤ sizeLine) (hdf : d.params.defaults = []) (hr : Room k callerA)
    (F : ∀ (w : World) (mg : Str → Option Value) (fa : Addr) (h : Heap), YP w h → h.Ns mainGlobals mg → mg d.name = some (.ref fa) →
      ∃ (K : PySem.W.Frag) (fd : FuncData) (sp : Sp), K.In h ∧ (∀ (s : Shared) (u : Value), BindsTo s fd ⟨[u], []⟩ [(x, u)]) ∧
        (∀ (H : Hp) (a : Addr) (ns : List Int), ns.length ≤ n → Only H → SqL K H a (ns.map V.int) → sp [.ref a] H (fun v _ => v = .bl true) fun _ _ _ => False) ∧
        ∀ base : Heap, K.In base → base.Ns mainGlobals mg → FnOk l.prog w K mg base (L2.CX l.prog w) k fa fd [x] sp) :
    PySem.W.WalkO q loose XP YP l.row.toRowW d [] (fun f vs => PySem.call f vs) := by
  refine Att.attach_call hn hdf fun w s₀ s₁ mg mb fa o pm cd doc a vs ns G Y ho hd hcd hmg hobj hints hlen hg => ?_
  obtain ⟨K, fd, sp, KX, hb, hsp, hF⟩ := F w mg fa _ Y G.T.g hmg
  exact law_call KX G.T.g G.T.b G.T.builtins G.T.nolimit hg hobj hints (Nat.le_trans hlen hn2) hr hF hb (fun H hO hS => hsp H a ns hlen hO hS) fun H e s' ⟨_, _, _, _, _, _, _, _, _, _, _, _, z⟩ => z
/-- the law's promise, from what the evaluator says of it -/
theorem law_sp {T : Tb} {K : PySem.W.Frag} {pg : Pg} {k f : Nat} (hkl : T.kl = fun a vs => ∀ H, SqL K H a vs) {n : Nat} (pure : ∀ ns : List Int, ns.length ≤ n → ∃ S, callAt pg k f [.scr ns] [] = .ok (.bl true) S) (H : Hp) (a : Addr) (ns : List Int) (hl : ns.length ≤ n) (hO : Only H) (hS : SqL K H a (ns.map V.int)) :
    spD T (callAt pg k f) [.ref a] H (fun v _ => v = .bl true) fun _ _ _ => False := by
  have fin : ∀ W, SRel T W [] H → Rep T W (.scr ns) (.ref a) → spD T (callAt pg k f) [.ref a] H (fun v _ => v = .bl true) fun _ _ _ => False := fun W sr r => by
    obtain ⟨S, e⟩ := pure ns hl
    refine ⟨W, [], [.scr ns], sr, .cons r .nil, ?_⟩
    rw [e]
    intro W' H' v _ _ rv
    cases rv
    rfl
  rcases hS with (h | ⟨o, h⟩) | h
  · rcases hO a with z | ⟨o, xs, z⟩
    · rw [z] at h; cases h
    · rw [z] at h; cases h
  · refine fin ⟨fun b => if b = a then H a else none, []⟩ ⟨fun b u q => ?_, rfl, List.nodup_nil, (by intro b hb; cases hb), (by intro l b u e1; cases e1)⟩ (.scr (.inr ⟨o, by show (if a = a then H a else none) = _; rw [if_pos rfl]; exact h⟩))
    by_cases hb : b = a
    · subst hb
      have q' : (if b = b then H b else none) = some u := q
      rw [if_pos rfl] at q'
      exact q'
    · have q' : (if b = a then H a else none) = some u := q
      rw [if_neg hb] at q'
      cases q'
  · refine fin ⟨fun _ => none, []⟩ ⟨fun b u q => (by cases q), rfl, List.nodup_nil, (by intro b hb; cases hb), (by intro l b u e1; cases e1)⟩ (.scr (.inl ?_))
    rw [hkl]
    exact fun H => .inr h
end Qv
set_option Elab.async false
set_option linter.all false
set_option maxRecDepth 100000
set_option maxHeartbeats 8000000
/-! A law's data, and the walk of the law. -/
namespace Qv
open PySem PySem.Spec PyProof.Rows L2

/-- a def: where it stands in the text, its slots, its tree in the small language -/
structure Df where
  at_ : Str × Option Str
  name : Str
  qual : Str
  params : Arguments
  body : List Stmt
  scope : Scope
  N : List Str
  ps : List Str
  fn : Fn
structure Lw where
  names : List Str
  defs : List Df
  /-- globals as values -/
  gls : List (Nat × D)
  /-- classes: the name's number, its __init__'s -/
  cls : List (Nat × Nat)
  flds : List Nat
def Lw.nm (L : Lw) : Nat → Str := nmOf L.names
def Lw.ck (L : Lw) : Ck where
  nm := L.nm
  fn := fun f => match L.defs[f]? with
    | some d => (match d.at_.2 with
      | none => some d.at_.1
      | _ => none)
    | none => none
  cls := fun c => (L.cls.lookup c).isSome
  fld := fun f => L.flds.contains f
def Lw.pg (L : Lw) : Pg where
  fns := L.defs.map (·.fn)
  ini := fun c => L.cls.lookup c
  gl := fun n => L.gls.lookup n
def Lw.fa (L : Lw) : List He.Fa := bnames.map .free ++ L.defs.filterMap (fun d => match d.at_.2 with
    | none => some (.glo d.at_.1)
    | _ => none) ++ L.gls.filterMap (fun p => match p.2 with
    | .int i => some (.int (L.nm p.1) i)
    | .str z => some (.str (L.nm p.1) z)
    | .glo _ => some (.glo (L.nm p.1))
    | _ => none) ++ L.cls.flatMap fun p => [.glo (L.nm p.1), .cls (L.nm p.1), .mkr (L.nm p.1)] ++ L.flds.map fun f => .noat (L.nm p.1) (L.nm f)
def Df.dD (d : Df) : He.DefD := ⟨d.at_, d.name, d.qual, d.params, d.body, d.scope, [], []⟩
def Lw.fnD (L : Lw) : List He.DefD := L.defs.map Df.dD
structure DfOk (Q : Ck) (d : Df) : Prop where
  sc : scopeB d.N d.ps d.scope = true
  n : d.fn.n = d.N.length
  p : d.fn.ps = d.ps.length
  ok : okB Q d.N d.scope (fun _ => true) d.fn.body d.body = true
  b : ∀ (kV doc pm : Value) (an : Option Addr) (cdv ct : Value) (us : List Value), us.length = d.ps.length → bindArgs (PySem.W.fnOf d.name d.qual d.params d.body d.scope .none kV doc pm an cdv ct) ⟨us, []⟩ = pure (d.ps.zip us)
def AllOk (Q : Ck) : List Df → Prop
  | [] => True
  | d :: r => DfOk Q d ∧ AllOk Q r
theorem AllOk.at {Q : Ck} : ∀ {ds : List Df} {i : Nat} {d : Df}, AllOk Q ds → ds[i]? = some d → DfOk Q d
  | [], i, d, _, e => by simp at e
  | x :: r, 0, d, h, e => by simp at e; subst e; exact h.1
  | x :: r, i + 1, d, h, e => AllOk.at (ds := r) (i := i) h.2 (by simpa using e)
def tyV : D → Option Value
  | .ty n => some (.type n)
  | _ => none
def Lw.chk (L : Lw) : Bool := namesB L.names && L.gls.all (fun p => match p.2 with
    | .int _ => true
    | .str _ => true
    | .glo g => g == p.1
    | .ty t => bnames.contains (L.nm p.1) && decide (L.nm p.1 ≠ "__name__") && (match bootBuiltins (L.nm p.1) with
      | some (.type u) => t == u
      | _ => false)
    | _ => false) && L.cls.all fun p => (match L.defs[p.2]? with
    | some d => decide (d.at_ = (L.nm p.1, some (Str.ofString "__init__")))
    | none => false)
def Lw.adr (L : Lw) (K : PySem.W.Frag) (f : Nat) : Addr := match L.defs[f]? with
  | some d => He.fAd K d.at_
  | none => 0
def Lw.pss (L : Lw) (f : Nat) : List Str := match L.defs[f]? with
  | some d => d.ps
  | none => []
def Lw.tb (L : Lw) (K : PySem.W.Frag) (w : World) : Tb := ⟨L.nm, fun c => He.ga K (L.nm c), fun c => (L.cls.lookup c).isSome = true, w, fun a vs => ∀ H, SqL K H a vs⟩
theorem mem_of_look {α : Type} : ∀ {l : List (Nat × α)} {n : Nat} {x : α}, l.lookup n = some x → (n, x) ∈ l
  | [], n, x, h => by simp at h
  | (m, y) :: r, n, x, h => by
    rw [List.lookup_cons] at h
    cases q : n == m with
    | true =>
      rw [q] at h
      have e : n = m := by simpa using q
      cases h
      rw [e]
      exact List.mem_cons_self
    | false => rw [q] at h; exact List.mem_cons_of_mem _ (mem_of_look h)
theorem says_mem {fa : List He.Fa} {fn : List He.DefD} {K : PySem.W.Frag} (c : He.SaysD fa fn K) {f : He.Fa} (h : f ∈ fa) : f.ok K = true := by
  obtain ⟨i, e⟩ := List.getElem?_of_mem h
  exact c.fact i e
theorem Lw.pgOk (L : Lw) (hall : AllOk L.ck L.defs) (hchk : L.chk = true) {P : Program} {w : World} {K : PySem.W.Frag} {h : Heap} {mg : Str → Option Value} (KX : K.In h) (G : h.Ns mainGlobals mg) (c : He.SaysD L.fa L.fnD K) (base : Heap) :
    PgOk P w K mg base (L.tb K w) L.ck L.pg (L.adr K) L.pss := by
  unfold Lw.chk at hchk
  simp only [Bool.and_eq_true, List.all_eq_true] at hchk
  obtain ⟨⟨c1, c2⟩, c3⟩ := hchk
  have m1 : ∀ {f : He.Fa}, f ∈ bnames.map He.Fa.free → f ∈ L.fa := fun h => List.mem_append_left _ (List.mem_append_left _ (List.mem_append_left _ h))
  have m2 : ∀ {d : Df}, d ∈ L.defs → d.at_.2 = none → He.Fa.glo d.at_.1 ∈ L.fa := fun {d} h e => by
    refine List.mem_append_left _ (List.mem_append_left _ (List.mem_append_right _ (List.mem_filterMap.mpr ⟨d, h, ?_⟩)))
    rw [e]
  have m3 : ∀ {p : Nat × D} {f : He.Fa}, p ∈ L.gls → (match p.2 with
    | .int i => some (He.Fa.int (L.nm p.1) i)
    | .str z => some (.str (L.nm p.1) z)
    | .glo _ => some (.glo (L.nm p.1))
    | _ => none) = some f → f ∈ L.fa := fun {p f} h e => List.mem_append_left _ (List.mem_append_right _ (List.mem_filterMap.mpr ⟨p, h, e⟩))
  have m4 : ∀ {p : Nat × Nat} {f : He.Fa}, p ∈ L.cls → f ∈ [He.Fa.glo (L.nm p.1), .cls (L.nm p.1), .mkr (L.nm p.1)] ++ L.flds.map (fun f => He.Fa.noat (L.nm p.1) (L.nm f)) → f ∈ L.fa := fun {p f} h e => List.mem_append_right _ (List.mem_flatMap.mpr ⟨p, h, e⟩)
  have hbn : ∀ x, x ∈ bnames → mg x = none := fun x hx => He.free_ok KX G (says_mem c (m1 (List.mem_map_of_mem hx)))
  refine ⟨rfl, fun a vs h => h, rfl, nmOf_inj c1, hbn, fun n d e => ?_, fun f fn e => ?_, fun f x e => ?_, fun cc e => ?_, fun cc f hc hf => ?_⟩
  · have hm := mem_of_look e
    have hk := c2 _ hm
    cases d with
    | int i =>
      obtain ⟨t, q⟩ := He.int_ok KX G (says_mem c (m3 hm rfl))
      exact ⟨_, .int i, .inl q, ⟨t, rfl⟩, fun W => .int i⟩
    | str z =>
      obtain ⟨t, q⟩ := He.str_ok KX G (says_mem c (m3 hm rfl))
      exact ⟨_, .str z, .inl q, ⟨t, rfl⟩, fun W => .str z⟩
    | glo g =>
      have q := He.glo_ok KX G (says_mem c (m3 hm rfl))
      have eg : g = n := by simpa using hk
      subst eg
      exact ⟨_, .ref _, .inl q, rfl, fun W => .glo _⟩
    | ty t =>
      simp only [Bool.and_eq_true, decide_eq_true_eq] at hk
      obtain ⟨⟨k1, k2⟩, k3⟩ := hk
      have k1 : L.nm n ∈ bnames := by simpa using k1
      split at k3
      · rename_i u q
        have et : t = u := by simpa using k3
        subst et
        exact ⟨_, .ty t, .inr ⟨hbn _ k1, k2, q⟩, rfl, fun W => .ty t⟩
      · cases k3
    | _ => cases hk
  · have e' : (L.defs.map (·.fn))[f]? = some fn := e
    rw [List.getElem?_map] at e'
    cases q : L.defs[f]? with
    | none => rw [q] at e'; cases e'
    | some d =>
      rw [q] at e'
      cases e'
      have k := hall.at q
      obtain ⟨fd, F⟩ := c.def_ f (d := d.dD) (by show (L.defs.map Df.dD)[f]? = _; rw [List.getElem?_map, q]; rfl)
      have ea : L.adr K f = He.fAd K d.at_ := by unfold Lw.adr; rw [q]
      have ep : L.pss f = d.ps := by unfold Lw.pss; rw [q]
      rw [ea, ep]
      exact ⟨d.name, d.qual, d.params, d.body, d.scope, [], fd, d.N, F, k.sc, k.n, k.p, k.ok, F.bindsN k.b⟩
  · have e' : (match L.defs[f]? with
      | some d => (match d.at_.2 with
        | none => some d.at_.1
        | _ => none)
      | none => none) = some x := e
    cases q : L.defs[f]? with
    | none => rw [q] at e'; cases e'
    | some d =>
      rw [q] at e'
      cases q2 : d.at_.2 with
      | some _ =>
        have e2 : (match d.at_.2 with
          | none => some d.at_.1
          | _ => none) = some x := e'
        rw [q2] at e2; cases e2
      | none =>
        have e2 : (match d.at_.2 with
          | none => some d.at_.1
          | _ => none) = some x := e'
        rw [q2] at e2
        cases e2
        have ea : L.adr K f = He.ga K d.at_.1 := by
          unfold Lw.adr
          rw [q]
          show He.fAd K d.at_ = _
          unfold He.fAd
          rw [q2]
        rw [ea]
        refine ⟨He.glo_ok KX G (says_mem c (m2 (List.mem_of_getElem? q) q2)), ?_⟩
        show f < (L.defs.map (·.fn)).length
        rw [List.length_map]
        exact (List.getElem?_eq_some_iff.mp q).1
  · refine ⟨e, ?_⟩
    obtain ⟨f, hf⟩ := Option.isSome_iff_exists.mp e
    have hm := mem_of_look hf
    have k3 := c3 _ hm
    cases q : L.defs[f]? with
    | none => rw [q] at k3; cases k3
    | some d =>
      rw [q] at k3
      have k3 : d.at_ = (L.nm cc, some (Str.ofString "__init__")) := by simpa using k3
      refine ⟨f, hf, He.glo_ok (x := L.nm cc) KX G (says_mem c (m4 hm List.mem_cons_self)), ?_, ?_⟩
      · have ea : L.adr K f = He.ma K (He.ga K (L.nm cc)) "__init__" := by
          unfold Lw.adr
          rw [q]
          show He.fAd K d.at_ = _
          unfold He.fAd
          rw [k3]
        rw [ea]
        exact He.mkr_ok (says_mem c (m4 hm (by simp)))
      · show f < (L.defs.map (·.fn)).length
        rw [List.length_map]
        exact (List.getElem?_eq_some_iff.mp q).1
  · obtain ⟨f', hf'⟩ := Option.isSome_iff_exists.mp (show (L.cls.lookup cc).isSome = true from hc)
    have hm := mem_of_look hf'
    have hf2 : f ∈ L.flds := by
      have : L.flds.contains f = true := hf
      simpa using this
    exact ⟨He.cls_ok (says_mem c (m4 hm (by simp))), He.noat_ok (says_mem c (m4 hm (List.mem_append_right _ (List.mem_map_of_mem hf2))))⟩
/-- THE LAW'S WALK: the checks hold, and the evaluator says True -/
theorem Lw.walk (L : Lw) (hall : AllOk L.ck L.defs) (hchk : L.chk = true) {ix k n : Nat} {x law : Str} {d : Df} (hd : L.defs[ix]? = some d) (hx : d.ps = [x]) (hat : d.at_ = (law, none))
    (pure : ∀ ns : List Int, ns.length ≤ n → ∃ S, callAt L.pg k ix [.scr ns] [] = .ok (.bl true) S) {P : Program} {w : World} {K : PySem.W.Frag} {h : Heap} {mg : Str → Option Value} {fa : Addr} (KX : K.In h) (G : h.Ns mainGlobals mg) (hfa : mg law = some (.ref fa)) (c : He.SaysD L.fa L.fnD K) :
    ∃ (K : PySem.W.Frag) (fd : FuncData) (sp : Sp), K.In h ∧ (∀ (s : Shared) (u : Value), BindsTo s fd ⟨[u], []⟩ [(x, u)]) ∧
      (∀ (H : Hp) (a : Addr) (ns : List Int), ns.length ≤ n → Only H → SqL K H a (ns.map V.int) → sp [.ref a] H (fun v _ => v = .bl true) fun _ _ _ => False) ∧
      ∀ base : Heap, K.In base → base.Ns mainGlobals mg → FnOk P w K mg base (L2.CX P w) (2 * k) fa fd [x] sp := by
  obtain ⟨fd, F⟩ := c.def_ ix (d := d.dD) (by show (L.defs.map Df.dD)[ix]? = _; rw [List.getElem?_map, hd]; rfl)
  have kk := hall.at hd
  have ha : L.adr K ix = fa := by
    have e1 : L.adr K ix = He.ga K law := by
      unfold Lw.adr
      rw [hd]
      show He.fAd K d.at_ = _
      unfold He.fAd
      rw [hat]
    rw [e1]
    have hm : He.Fa.glo law ∈ L.fa := by
      refine List.mem_append_left _ (List.mem_append_left _ (List.mem_append_right _ (List.mem_filterMap.mpr ⟨d, List.mem_of_getElem? hd, ?_⟩)))
      rw [hat]
    have q := hfa.symm.trans (He.glo_ok KX G (says_mem c hm))
    cases q
    rfl
  have ep : L.pss ix = [x] := by unfold Lw.pss; rw [hd]; exact hx
  have hlen : ix < L.pg.fns.length := by
    show ix < (L.defs.map (·.fn)).length
    rw [List.length_map]
    exact (List.getElem?_eq_some_iff.mp hd).1
  refine ⟨K, fd, spD (L.tb K w) (callAt L.pg k ix), KX, fun s u => ?_, fun H a ns hl hO hS => law_sp rfl pure H a ns hl hO hS, fun base KB GB => ?_⟩
  · have b := FunD.bindsA (ps := [x]) F (fun kV doc pm an cdv ct us hl => by have := kk.b kV doc pm an cdv ct us (by rw [hx]; exact hl); rw [hx] at this; exact this) s [u] rfl
    exact b
  · obtain ⟨fd', e1, _, _, e2⟩ := (L.pgOk hall hchk (P := P) (w := w) KX G c base).all k ix hlen
    have ea : L.adr K ix = He.fAd K d.dD.at_ := by unfold Lw.adr; rw [hd]; rfl
    rw [ea, fdAt_of F] at e1
    cases e1
    rw [ha, ep] at e2
    exact e2
end Qv
set_option Elab.async false
set_option linter.all false
set_option maxRecDepth 100000
set_option maxHeartbeats 4000000
/-! What the evaluator is asked for, step by step. -/
namespace Qv
open PySem

def Ok {α : Type} (r : Res α) (Q : α → Sh → Prop) : Prop := ∃ a S, r = .ok a S ∧ Q a S
theorem Ok.mono {α : Type} {r : Res α} {Q Q' : α → Sh → Prop} (h : Ok r Q) (k : ∀ a S, Q a S → Q' a S) : Ok r Q' := by
  obtain ⟨a, S, e, q⟩ := h
  exact ⟨a, S, e, k a S q⟩
theorem Ok.bind {α β : Type} {r : Res α} {k : α → Sh → Res β} {Q : β → Sh → Prop} (h : Ok r fun a S => Ok (k a S) Q) : Ok (r.bind k) Q := by
  obtain ⟨a, S, rfl, q⟩ := h
  exact q
theorem Ok.bindS {α : Type} {r : Res α} {E : En} {k : α → Sh → Res (Fl × En)} {Q : Fl × En → Sh → Prop} (h : Ok r fun a S => Ok (k a S) Q) : Ok (r.bindS E k) Q := by
  obtain ⟨a, S, rfl, q⟩ := h
  exact q
theorem Ok.ret {α : Type} {a : α} {S : Sh} {Q : α → Sh → Prop} (h : Q a S) : Ok (.ok a S) Q := ⟨a, S, rfl, h⟩
theorem Ok.lift {α : Type} {o : Option α} {S : Sh} {Q : α → Sh → Prop} (h : ∃ a, o = some a ∧ Q a S) : Ok (lift o S) Q := by
  obtain ⟨a, rfl, q⟩ := h
  exact ⟨a, S, rfl, q⟩
def brwW (a : IE) (E : En) (S : Sh) (w : (D → Sh → Prop) → Prop) (Q : D → Sh → Prop) : Prop := match a with
  | .v i => ∃ d, slotA E i = some d ∧ Q d S
  | _ => w Q
def isNon : D → Bool
  | .non => true
  | _ => false
def wpG : Tg → D → En → (En → Prop) → Prop
  | .n i, d, E, Q => i < E.length ∧ Q (E.set i (some (.v d)))
  | .t a b, d, E, Q => ∃ x y, d = .tup [x, y] ∧ wpG a x E fun E => wpG b y E Q
  | .t3 a b c, d, E, Q => ∃ x y z, d = .tup [x, y, z] ∧ wpG a x E fun E => wpG b y E fun E => wpG c z E Q
theorem wpG_ok : ∀ (tg : Tg) {d : D} {E : En} {Q : En → Prop}, wpG tg d E Q → ∃ E1, asgT tg d E = some E1 ∧ Q E1
  | .n i, d, E, Q, h => ⟨_, by simp only [asgT]; rw [if_pos h.1], h.2⟩
  | .t a b, d, E, Q, h => by
    obtain ⟨x, y, rfl, h⟩ := h
    obtain ⟨E1, e1, h⟩ := wpG_ok a h
    obtain ⟨E2, e2, h⟩ := wpG_ok b h
    exact ⟨E2, by simp only [asgT]; rw [e1]; exact e2, h⟩
  | .t3 a b c, d, E, Q, h => by
    obtain ⟨x, y, z, rfl, h⟩ := h
    obtain ⟨E1, e1, h⟩ := wpG_ok a h
    obtain ⟨E2, e2, h⟩ := wpG_ok b h
    obtain ⟨E3, e3, h⟩ := wpG_ok c h
    exact ⟨E3, by simp only [asgT]; rw [e1]; show ((asgT b y E1).bind (asgT c z)) = _; rw [e2]; exact e3, h⟩
def forF (C : Calls) (tg : Tg) (b : ISs) : D → En → Sh → Res (Fl × En) := fun x E S => match asgT tg x E with
  | none => .bad
  | some E1 => exB C b E1 S
section
variable (C : Calls)
mutual
def wpE : IE → En → Sh → (D → Sh → Prop) → Prop
  | .c d, _, S, Q => Q d S
  | .g n, _, S, Q => ∃ d, C.gl n = some d ∧ Q d S
  | .v i, E, S, Q => ∃ d, slotV E i = some d ∧ Q d S
  | .tup es, E, S, Q => wpEs es E S fun ds S => ds.length ≤ LIM ∧ Q (.tup ds) S
  | .l le, E, S, Q => wpL le E S fun ds S => Q (.lst ds) S
  | .sh le, E, S, Q => wpL le E S fun ds S => Q (.ref S.length) (S ++ [.lst ds])
  | .bin o a b, E, S, Q => brwW a E S (wpE a E S) fun x S => brwW b E S (wpE b E S) fun y S => ∃ z, binD o (drf S x) (drf S y) = some z ∧ Q z S
  | .neg a, E, S, Q => wpE a E S fun x S => ∃ i, x = .int i ∧ Q (.int (-i)) S
  | .cmp o a b, E, S, Q => brwW a E S (wpE a E S) fun x S => brwW b E S (wpE b E S) fun y S => ∃ t, cmpD o (drf S x) (drf S y) = some t ∧ Q (.bl t) S
  | .cmpc o1 o2 a b c, E, S, Q => wpE a E S fun x S => wpE b E S fun y S => ∃ t, cmpD o1 (drf S x) (drf S y) = some t ∧ if t = true then wpE c E S fun z S => ∃ t, cmpD o2 (drf S y) (drf S z) = some t ∧ Q (.bl t) S else Q (.bl false) S
  | .isn a, E, S, Q => wpE a E S fun x S => Q (.bl (isNon x)) S
  | .nnn a, E, S, Q => wpE a E S fun x S => Q (.bl (!isNon x)) S
  | .not a, E, S, Q => brwW a E S (wpE a E S) fun x S => ∃ t, truD (drf S x) = some t ∧ Q (.bl (!t)) S
  | .and a b, E, S, Q => wpE a E S fun x S => ∃ t, truD (drf S x) = some t ∧ if t = true then wpE b E S Q else Q x S
  | .or a b, E, S, Q => wpE a E S fun x S => ∃ t, truD (drf S x) = some t ∧ if t = true then Q x S else wpE b E S Q
  | .ife t a b, E, S, Q => brwW t E S (wpE t E S) fun x S => ∃ t, truD (drf S x) = some t ∧ if t = true then wpE a E S Q else wpE b E S Q
  | .call f es, E, S, Q => wpEs es E S fun ds S => Ok (C.fn f ds S) Q
  | .mk c es, E, S, Q => wpEs es E S fun ds S => Ok (C.new c ds S) Q
  | .bi b es, E, S, Q => wpAs es E S fun ds S => ∃ z, biD b (ds.map (drf S)) = some z ∧ Q z S
  | .ix a b, E, S, Q => brwW a E S (wpE a E S) fun x S => wpE b E S fun y S => ∃ z, ixD (drf S x) y = some z ∧ Q z S
  | .sl a lo hi, E, S, Q => brwW a E S (wpE a E S) fun x S => wpO lo E S fun l S => wpO hi E S fun h S => ∃ z, slD (drf S x) l h = some z ∧ Q z S
  | .at a f, E, S, Q => wpE a E S fun x S => ∃ z, atD S f x = some z ∧ Q z S
  | .st a, E, S, Q => brwW a E S (wpE a E S) fun x S => ∃ l, setOf (drf S x) = some l ∧ Q (.set l) S
def wpO : IO → En → Sh → (Option Int → Sh → Prop) → Prop
  | .no, _, S, Q => Q none S
  | .ye e, E, S, Q => wpE e E S fun x S => ∃ i, x = .int i ∧ Q (some i) S
def wpEs : IEs → En → Sh → (List D → Sh → Prop) → Prop
  | .nil, _, S, Q => Q [] S
  | .cons e es, E, S, Q => wpE e E S fun x S => wpEs es E S fun xs S => Q (x :: xs) S
def wpAs : IEs → En → Sh → (List D → Sh → Prop) → Prop
  | .nil, _, S, Q => Q [] S
  | .cons e es, E, S, Q => brwW e E S (wpE e E S) fun x S => wpAs es E S fun xs S => Q (x :: xs) S
def wpL : LE → En → Sh → (List D → Sh → Prop) → Prop
  | .disp es, E, S, Q => wpEs es E S fun ds S => ds.length ≤ LIM ∧ Q ds S
  | .comp elt tg it cond vs, E, S, Q => wpI it E S fun xs S => Ok (compL (compF C elt tg cond vs E) xs [] S) Q
  | .list a, E, S, Q => brwW a E S (wpE a E S) fun x S => ∃ l, seqD (drf S x) = some l ∧ Q l S
  | .sorted a, E, S, Q => brwW a E S (wpE a E S) fun x S => (∃ xs l, drf S x = .lst xs ∧ intsOf xs = some l ∧ Q ((sortI l).map .int) S) ∨ (∃ xs, drf S x = .set xs ∧ xs.length < 64 ∧ Q ((sortI xs).map .int) S)
  | .rep a n, E, S, Q => brwW a E S (wpE a E S) fun x S => wpE n E S fun y S => ∃ xs, binD .mul (drf S x) y = some (.lst xs) ∧ Q xs S
def wpC : IO → En → Sh → (Bool → Sh → Prop) → Prop
  | .no, _, S, Q => Q true S
  | .ye e, E, S, Q => brwW e E S (wpE e E S) fun x S => ∃ t, truD (drf S x) = some t ∧ Q t S
def wpI : II → En → Sh → (List D → Sh → Prop) → Prop
  | .seq a, E, S, Q => wpE a E S fun x S => ∃ l, seqI x = some l ∧ Q l S
  | .rng1 a, E, S, Q => wpE a E S fun x S => ∃ n, x = .int n ∧ -(LIM : Int) ≤ n ∧ n ≤ LIM ∧ Q (rngD 0 n) S
  | .rng2 a b, E, S, Q => wpE a E S fun x S => wpE b E S fun y S => ∃ i j, x = .int i ∧ y = .int j ∧ (-(LIM : Int) ≤ i ∧ i ≤ LIM ∧ -(LIM : Int) ≤ j ∧ j ≤ LIM) ∧ Q (rngD i j) S
  | .enum a, E, S, Q => wpE a E S fun x S => ∃ l, seqD x = some l ∧ Q (enumD 0 l) S
  | .zip a b, E, S, Q => wpE a E S fun x S => wpE b E S fun y S => ∃ l m, seqD x = some l ∧ seqD y = some m ∧ Q (zipD l m) S
end
def wpT (t : IE) (E : En) (S : Sh) (Q : Bool → Sh → Prop) : Prop := brwW t E S (wpE C t E S) fun x S => ∃ b, truD (drf S x) = some b ∧ Q b S
end
section
variable {C : Calls}
theorem brwW_ok {a : IE} {E : En} {S : Sh} {Q : D → Sh → Prop} (ih : ∀ Q, wpE C a E S Q → Ok (ev C a E S) Q) (h : brwW a E S (wpE C a E S) Q) : Ok (brw a E S (ev C a E S)) Q := by
  cases a with
  | v i => exact Ok.lift h
  | _ => exact ih Q h
mutual
theorem wpE_ok : ∀ (e : IE) (E : En) (S : Sh) (Q : D → Sh → Prop), wpE C e E S Q → Ok (ev C e E S) Q
  | .c d, E, S, Q, h => Ok.ret h
  | .g n, E, S, Q, h => Ok.lift h
  | .v i, E, S, Q, h => Ok.lift h
  | .tup es, E, S, Q, h => Ok.bind ((wpEs_ok es E S _ h).mono fun ds S q => by rw [if_pos q.1]; exact Ok.ret q.2)
  | .l le, E, S, Q, h => Ok.bind ((wpL_ok le E S _ h).mono fun ds S q => Ok.ret q)
  | .sh le, E, S, Q, h => Ok.bind ((wpL_ok le E S _ h).mono fun ds S q => Ok.ret q)
  | .bin o a b, E, S, Q, h => Ok.bind ((brwW_ok (wpE_ok a E S) h).mono fun x S q => Ok.bind ((brwW_ok (wpE_ok b E S) q).mono fun y S q => Ok.lift q))
  | .neg a, E, S, Q, h => Ok.bind ((wpE_ok a E S _ h).mono fun x S ⟨i, e, q⟩ => by subst e; exact Ok.ret q)
  | .cmp o a b, E, S, Q, h => Ok.bind ((brwW_ok (wpE_ok a E S) h).mono fun x S q => Ok.bind ((brwW_ok (wpE_ok b E S) q).mono fun y S ⟨t, e, q⟩ => Ok.bind (Ok.lift ⟨t, e, Ok.ret q⟩)))
  | .cmpc o1 o2 a b c, E, S, Q, h => Ok.bind ((wpE_ok a E S _ h).mono fun x S q => Ok.bind ((wpE_ok b E S _ q).mono fun y S ⟨t, e, q⟩ => Ok.bind (Ok.lift ⟨t, e, by
      cases t with
      | true => exact Ok.bind ((wpE_ok c E S (fun z S => ∃ t, cmpD o2 (drf S y) (drf S z) = some t ∧ Q (.bl t) S) (by simpa using q)).mono fun z S ⟨t, e, q⟩ => Ok.bind (Ok.lift ⟨t, e, Ok.ret q⟩))
      | false => exact Ok.ret (by simpa using q)⟩)))
  | .isn a, E, S, Q, h => Ok.bind ((wpE_ok a E S _ h).mono fun x S q => by cases x <;> exact Ok.ret q)
  | .nnn a, E, S, Q, h => Ok.bind ((wpE_ok a E S _ h).mono fun x S q => by cases x <;> exact Ok.ret q)
  | .not a, E, S, Q, h => Ok.bind (Ok.bind ((brwW_ok (wpE_ok a E S) h).mono fun x S ⟨t, e, q⟩ => Ok.lift ⟨t, e, Ok.ret q⟩))
  | .and a b, E, S, Q, h => Ok.bind ((wpE_ok a E S _ h).mono fun x S ⟨t, e, q⟩ => by
      try dsimp only
      rw [e]
      cases t with
      | true => exact wpE_ok b E S _ (by simpa using q)
      | false => exact Ok.ret (by simpa using q))
  | .or a b, E, S, Q, h => Ok.bind ((wpE_ok a E S _ h).mono fun x S ⟨t, e, q⟩ => by
      try dsimp only
      rw [e]
      cases t with
      | true => exact Ok.ret (by simpa using q)
      | false => exact wpE_ok b E S _ (by simpa using q))
  | .ife t a b, E, S, Q, h => Ok.bind (Ok.bind ((brwW_ok (wpE_ok t E S) h).mono fun x S ⟨t, e, q⟩ => Ok.lift ⟨t, e, by
      cases t with
      | true => exact wpE_ok a E S _ (by simpa using q)
      | false => exact wpE_ok b E S _ (by simpa using q)⟩))
  | .call f es, E, S, Q, h => Ok.bind (wpEs_ok es E S _ h)
  | .mk c es, E, S, Q, h => Ok.bind (wpEs_ok es E S _ h)
  | .bi b es, E, S, Q, h => Ok.bind ((wpAs_ok es E S _ h).mono fun ds S q => Ok.lift q)
  | .ix a b, E, S, Q, h => Ok.bind ((brwW_ok (wpE_ok a E S) h).mono fun x S q => Ok.bind ((wpE_ok b E S _ q).mono fun y S q => Ok.lift q))
  | .sl a lo hi, E, S, Q, h => Ok.bind ((brwW_ok (wpE_ok a E S) h).mono fun x S q => Ok.bind ((wpO_ok lo E S _ q).mono fun l S q => Ok.bind ((wpO_ok hi E S _ q).mono fun l S q => Ok.lift q)))
  | .at a f, E, S, Q, h => Ok.bind ((wpE_ok a E S _ h).mono fun x S q => Ok.lift q)
  | .st a, E, S, Q, h => Ok.bind ((brwW_ok (wpE_ok a E S) h).mono fun x S ⟨l, e, q⟩ => Ok.bind (Ok.lift ⟨l, e, Ok.ret q⟩))
theorem wpO_ok : ∀ (e : IO) (E : En) (S : Sh) (Q : Option Int → Sh → Prop), wpO C e E S Q → Ok (evO C e E S) Q
  | .no, E, S, Q, h => Ok.ret h
  | .ye e, E, S, Q, h => Ok.bind ((wpE_ok e E S _ h).mono fun x S ⟨i, e, q⟩ => by subst e; exact Ok.ret q)
theorem wpEs_ok : ∀ (e : IEs) (E : En) (S : Sh) (Q : List D → Sh → Prop), wpEs C e E S Q → Ok (evs C e E S) Q
  | .nil, E, S, Q, h => Ok.ret h
  | .cons e es, E, S, Q, h => Ok.bind ((wpE_ok e E S _ h).mono fun x S q => Ok.bind ((wpEs_ok es E S _ q).mono fun xs S q => Ok.ret q))
theorem wpAs_ok : ∀ (e : IEs) (E : En) (S : Sh) (Q : List D → Sh → Prop), wpAs C e E S Q → Ok (evAs C e E S) Q
  | .nil, E, S, Q, h => Ok.ret h
  | .cons e es, E, S, Q, h => Ok.bind ((brwW_ok (wpE_ok e E S) h).mono fun x S q => Ok.bind ((wpAs_ok es E S _ q).mono fun xs S q => Ok.ret q))
theorem wpL_ok : ∀ (e : LE) (E : En) (S : Sh) (Q : List D → Sh → Prop), wpL C e E S Q → Ok (evL C e E S) Q
  | .disp es, E, S, Q, h => Ok.bind ((wpEs_ok es E S _ h).mono fun ds S q => by rw [if_pos q.1]; exact Ok.ret q.2)
  | .comp elt tg it cond vs, E, S, Q, h => Ok.bind ((wpI_ok it E S _ h).mono fun xs S ⟨ys, S', e, q⟩ => by
      show Ok (noEx (compL (compF C elt tg cond vs E) xs [] S)) Q
      rw [e]
      exact Ok.ret q)
  | .list a, E, S, Q, h => by
    unfold wpL at h
    exact Ok.bind ((brwW_ok (wpE_ok a E S) h).mono fun x S q => Ok.lift q)
  | .sorted a, E, S, Q, h => by
    unfold wpL at h
    exact Ok.bind ((brwW_ok (wpE_ok a E S) h).mono fun x S q => by
      try dsimp only
      rcases q with ⟨xs, l, e1, e2, q⟩ | ⟨xs, e1, e2, q⟩
      · rw [e1]
        exact Ok.bind (Ok.lift ⟨l, e2, Ok.ret q⟩)
      · rw [e1]
        try dsimp only
        rw [if_pos e2]
        exact Ok.ret q)
  | .rep a n, E, S, Q, h => by
    unfold wpL at h
    exact Ok.bind ((brwW_ok (wpE_ok a E S) h).mono fun x S q => Ok.bind ((wpE_ok n E S _ q).mono fun y S ⟨xs, e, q⟩ => by
      try dsimp only
      rw [e]
      exact Ok.ret q))
theorem wpC_ok : ∀ (e : IO) (E : En) (S : Sh) (Q : Bool → Sh → Prop), wpC C e E S Q → Ok (evC C e E S) Q
  | .no, E, S, Q, h => Ok.ret h
  | .ye e, E, S, Q, h => by
    unfold wpC at h
    exact Ok.bind ((brwW_ok (wpE_ok e E S) h).mono fun x S q => Ok.lift q)
theorem wpI_ok : ∀ (e : II) (E : En) (S : Sh) (Q : List D → Sh → Prop), wpI C e E S Q → Ok (evI C e E S) Q
  | .seq a, E, S, Q, h => Ok.bind ((wpE_ok a E S _ h).mono fun x S q => Ok.lift q)
  | .rng1 a, E, S, Q, h => Ok.bind ((wpE_ok a E S _ h).mono fun x S ⟨n, e, h1, h2, q⟩ => by
      subst e
      try dsimp only
      rw [if_pos ⟨h1, h2⟩]
      exact Ok.ret q)
  | .rng2 a b, E, S, Q, h => Ok.bind ((wpE_ok a E S _ h).mono fun x S q => Ok.bind ((wpE_ok b E S _ q).mono fun y S ⟨i, j, e1, e2, h1, q2⟩ => by
      subst e1 e2
      try dsimp only
      rw [if_pos h1]
      exact Ok.ret q2))
  | .enum a, E, S, Q, h => Ok.bind ((wpE_ok a E S _ h).mono fun x S ⟨l, e, q⟩ => by
      try dsimp only
      rw [e]
      exact Ok.ret q)
  | .zip a b, E, S, Q, h => Ok.bind ((wpE_ok a E S _ h).mono fun x S q => Ok.bind ((wpE_ok b E S _ q).mono fun y S ⟨l, m, e1, e2, q⟩ => by
      try dsimp only
      rw [e1, e2]
      exact Ok.ret q))
end
theorem wpT_ok {t : IE} {E : En} {S : Sh} {Q : Bool → Sh → Prop} (h : wpT C t E S Q) : Ok (tst t E S (ev C t E S)) Q :=
  Ok.bind ((brwW_ok (wpE_ok t E S) h).mono fun x S q => Ok.lift q)

/-! ### statements -/
/-- a block's end: the flow and the slots -/
def wpB (C : Calls) (b : ISs) (E : En) (S : Sh) (Q : Fl → En → Sh → Prop) : Prop := Ok (exB C b E S) fun r S => Q r.1 r.2 S
def wpSE (C : Calls) : SE → En → Sh → (List Int → Sh → Prop) → Prop
  | .emp, _, S, Q => Q [] S
  | .set a, E, S, Q => brwW a E S (wpE C a E S) fun x S => ∃ l, setOf (drf S x) = some l ∧ Q l S
def wpPar : List Nat → List D → En → (En → Prop) → Prop
  | [], [], E, Q => Q E
  | i :: is, d :: ds, E, Q => i < E.length ∧ wpPar is ds (E.set i (some (.v d))) Q
  | _, _, _, _ => False
theorem wpPar_ok : ∀ {is : List Nat} {ds : List D} {E : En} {Q : En → Prop}, wpPar is ds E Q → ∃ E1, setPar is ds E = some E1 ∧ Q E1
  | [], [], E, Q, h => ⟨E, rfl, h⟩
  | i :: is, d :: ds, E, Q, h => by
    obtain ⟨E1, e, q⟩ := wpPar_ok (is := is) (ds := ds) h.2
    refine ⟨E1, ?_, q⟩
    simp only [setPar, setSl]
    rw [if_pos h.1]
    exact e
  | [], _ :: _, E, Q, h => h.elim
  | _ :: _, [], E, Q, h => h.elim
/-- what a statement is asked for -/
def wpS (C : Calls) (s : IS) (E : En) (S : Sh) (Q : Fl → En → Sh → Prop) : Prop := match s with
  | .asg tg e => wpE C e E S fun d S => wpG tg d E fun E => Q .nx E S
  | .par is es => wpEs C es E S fun ds S => ds.length ≤ LIM ∧ wpPar is ds E fun E => Q .nx E S
  | .own i le => wpL C le E S fun ds S => i < E.length ∧ Q .nx (E.set i (some (.ol ds))) S
  | .owns i se => wpSE C se E S fun l S => i < E.length ∧ Q .nx (E.set i (some (.os l))) S
  | .aug i o e => ∃ x, E[i]? = some (some (.v x)) ∧ wpE C e E S fun y S => ∃ z, augD o x y = some z ∧ i < E.length ∧ Q .nx (E.set i (some (.v z))) S
  | .app i e => ∃ xs, E[i]? = some (some (.ol xs)) ∧ wpE C e E S fun d S => xs.length < LIM ∧ i < E.length ∧ Q .nx (E.set i (some (.ol (xs ++ [d])))) S
  | .ext i e => ∃ xs, E[i]? = some (some (.ol xs)) ∧ brwW e E S (wpE C e E S) fun d S => ∃ ys, drf S d = .lst ys ∧ xs.length + ys.length ≤ LIM ∧ i < E.length ∧ Q .nx (E.set i (some (.ol (xs ++ ys)))) S
  | .add i e => ∃ xs, E[i]? = some (some (.os xs)) ∧ wpE C e E S fun d S => ∃ x, d = .int x ∧ xs.length < 4000 ∧ i < E.length ∧ Q .nx (E.set i (some (.os (addS xs x)))) S
  | .sti i ix e => ∃ xs, E[i]? = some (some (.ol xs)) ∧ wpE C e E S fun d S => wpE C ix E S fun k S => ∃ j n, k = .int j ∧ ixAt xs.length j = some n ∧ i < E.length ∧ Q .nx (E.set i (some (.ol (xs.set n d)))) S
  | .sts o ix e => wpE C e E S fun d S => wpE C o E S fun x S => wpE C ix E S fun k S => ∃ l xs j n, x = .ref l ∧ S[l]? = some (.lst xs) ∧ k = .int j ∧ ixAt xs.length j = some n ∧ Q .nx E (S.set l (.lst (xs.set n d)))
  | .sat o f e => wpE C e E S fun d S => wpE C o E S fun x S => ∃ l c fs, x = .ref l ∧ S[l]? = some (.ins c fs) ∧ fs.length < 900 ∧ Q .nx E (S.set l (.ins c (putF f d fs)))
  | .expr e => wpE C e E S fun _ S => Q .nx E S
  | .ret e => wpE C e E S fun d S => Q (.ret d) E S
  | .retn => Q (.ret .non) E S
  | .pas => Q .nx E S
  | .brk => Q .brk E S
  | .cnt => Q .cnt E S
  | .ite t a b => wpT C t E S fun t S => if t = true then wpB C a E S Q else wpB C b E S Q
  | .for tg it b => wpI C it E S fun xs S => Ok (forL (forF C tg b) xs E S) fun r S => Q r.1 r.2 S
  | .whl t b => Ok (whlL (fun E S => tst t E S (ev C t E S)) (exB C b) WFU E S) fun r S => Q r.1 r.2 S
  | .raise _ => False
theorem setSl_ok {E : En} {i : Nat} {s : Sl} {S : Sh} {Q : Fl → En → Sh → Prop} (hi : i < E.length) (q : Q .nx (E.set i (some s)) S) : Ok (nxt (setSl E i s) S) fun r S => Q r.1 r.2 S := by
  unfold setSl
  rw [if_pos hi]
  exact ⟨_, _, rfl, q⟩
theorem wpS_ok (s : IS) {E : En} {S : Sh} {Q : Fl → En → Sh → Prop} (h : wpS C s E S Q) : Ok (exS C s E S) fun r S => Q r.1 r.2 S := by
  cases s with
  | asg tg e => exact Ok.bindS ((wpE_ok e E S _ h).mono fun d S q => by
      obtain ⟨E1, e1, q⟩ := wpG_ok tg q
      try dsimp only
      rw [e1]
      exact ⟨_, _, rfl, q⟩)
  | par is es => exact Ok.bindS ((wpEs_ok es E S _ h).mono fun ds S q => by
      obtain ⟨E1, e1, q2⟩ := wpPar_ok q.2
      rw [if_pos q.1, e1]
      exact ⟨_, _, rfl, q2⟩)
  | own i le => exact Ok.bindS ((wpL_ok le E S _ h).mono fun ds S q => setSl_ok q.1 q.2)
  | owns i se =>
    refine Ok.bindS (Ok.mono (Q := fun l S => i < E.length ∧ Q .nx (E.set i (some (.os l))) S) ?_ fun l S q => setSl_ok q.1 q.2)
    cases se with
    | emp => exact Ok.ret h
    | set a =>
      replace h : brwW a E S (wpE C a E S) fun x S => ∃ l, setOf (drf S x) = some l ∧ i < E.length ∧ Q .nx (E.set i (some (.os l))) S := h
      exact Ok.bind ((brwW_ok (wpE_ok a E S) h).mono fun x S q => Ok.lift q)
  | aug i o e =>
    obtain ⟨x, ex, h⟩ := h
    unfold exS
    rw [ex]
    exact Ok.bindS ((wpE_ok e E S _ h).mono fun y S ⟨z, e, hi, q⟩ => Ok.bindS (Ok.lift ⟨z, e, setSl_ok hi q⟩))
  | app i e =>
    obtain ⟨xs, ex, h⟩ := h
    unfold exS
    rw [ex]
    exact Ok.bindS ((wpE_ok e E S _ h).mono fun y S ⟨h1, h2, q⟩ => by rw [if_pos h1]; exact setSl_ok h2 q)
  | ext i e =>
    obtain ⟨xs, ex, h⟩ := h
    unfold exS
    rw [ex]
    exact Ok.bindS ((brwW_ok (wpE_ok e E S) h).mono fun y S ⟨ys, e, h1, h2, q⟩ => by
      try dsimp only
      rw [e]
      try dsimp only
      rw [if_pos h1]
      exact setSl_ok h2 q)
  | add i e =>
    obtain ⟨xs, ex, h⟩ := h
    unfold exS
    rw [ex]
    exact Ok.bindS ((wpE_ok e E S _ h).mono fun y S ⟨x, e, h1, h2, q⟩ => by
      subst e
      try dsimp only
      rw [if_pos h1]
      exact setSl_ok h2 q)
  | sti i ix e =>
    obtain ⟨xs, ex, h⟩ := h
    unfold exS
    rw [ex]
    exact Ok.bindS ((wpE_ok e E S _ h).mono fun d S q => Ok.bindS ((wpE_ok ix E S _ q).mono fun k S ⟨j, n, e, e2, h2, q⟩ => by
      subst e
      try dsimp only
      rw [e2]
      exact setSl_ok h2 q))
  | sts o ix e => exact Ok.bindS ((wpE_ok e E S _ h).mono fun d S q => Ok.bindS ((wpE_ok o E S _ q).mono fun x S q => Ok.bindS ((wpE_ok ix E S _ q).mono fun k S ⟨l, xs, j, n, e1, e2, e3, e4, q3⟩ => by
      subst e1 e3
      try dsimp only
      rw [e2]
      try dsimp only
      rw [e4]
      exact ⟨_, _, rfl, q3⟩)))
  | sat o f e => exact Ok.bindS ((wpE_ok e E S _ h).mono fun d S q => Ok.bindS ((wpE_ok o E S _ q).mono fun x S ⟨l, c, fs, e1, e2, e3, q3⟩ => by
      subst e1
      try dsimp only
      rw [e2]
      try dsimp only
      rw [if_pos e3]
      exact ⟨_, _, rfl, q3⟩))
  | expr e => exact Ok.bindS ((wpE_ok e E S _ h).mono fun d S q => Ok.ret q)
  | ret e => exact Ok.bindS ((wpE_ok e E S _ h).mono fun d S q => Ok.ret q)
  | retn => exact Ok.ret h
  | pas => exact Ok.ret h
  | brk => exact Ok.ret h
  | cnt => exact Ok.ret h
  | ite t a b => exact Ok.bindS ((wpT_ok h).mono fun t S q => by
      cases t with
      | true => exact (show wpB C a E S Q by simpa using q)
      | false => exact (show wpB C b E S Q by simpa using q))
  | «for» tg it b => exact Ok.bindS (wpI_ok it E S _ h)
  | whl t b => exact h
  | raise x => exact h.elim
theorem b_nilW {E : En} {S : Sh} {Q : Fl → En → Sh → Prop} (h : Q .nx E S) : wpB C .nil E S Q := ⟨_, _, rfl, h⟩
/-- the next statement -/
def wpN (C : Calls) (b : ISs) (Q : Fl → En → Sh → Prop) (f : Fl) (E : En) (S : Sh) : Prop := match f with
  | .nx => wpB C b E S Q
  | f => Q f E S
theorem b_consW {s : IS} {b : ISs} {E : En} {S : Sh} {Q : Fl → En → Sh → Prop} (h : wpS C s E S (wpN C b Q)) : wpB C (.cons s b) E S Q := by
  obtain ⟨⟨f, E1⟩, S1, e, q⟩ := wpS_ok s h
  unfold wpB
  have e2 : exB C (.cons s b) E S = (exS C s E S).bind fun r S => match r with
    | (.nx, E1) => exB C b E1 S
    | r => .ok r S := by
      simp only [exB]
      try rfl
  rw [e2, e]
  cases f with
  | nx => exact q
  | brk => exact ⟨_, _, rfl, q⟩
  | cnt => exact ⟨_, _, rfl, q⟩
  | ret d => exact ⟨_, _, rfl, q⟩
  | exc x => exact ⟨_, _, rfl, q⟩
def frzE (E : En) (i : Nat) : En := match E[i]? with
  | some (some (.ol xs)) => E.set i (some (.v (.lst xs)))
  | some (some (.os xs)) => E.set i (some (.v (.set xs)))
  | _ => E
theorem b_frzW {i : Nat} {b : ISs} {E : En} {S : Sh} {Q : Fl → En → Sh → Prop} (h : wpB C b (frzE E i) S Q) : wpB C (.frz i b) E S Q := by
  unfold wpB frzE at *
  have e2 : exB C (.frz i b) E S = (match E[i]? with
    | some (some (.ol xs)) => exB C b (E.set i (some (.v (.lst xs)))) S
    | some (some (.os xs)) => exB C b (E.set i (some (.v (.set xs)))) S
    | _ => exB C b E S) := rfl
  rw [e2]
  split at h <;> exact h
/-- a def -/
theorem fn_W {pg : Pg} {k f : Nat} {fn : Fn} {ds : List D} {S : Sh} {Q : D → Sh → Prop} (e : pg.fns[f]? = some fn) (hl : ds.length = fn.ps)
    (h : wpB (pg.calls k) fn.body (ds.map (fun d => some (.v d)) ++ List.replicate (fn.n - fn.ps) none) S fun f _ S => match f with
      | .nx => Q .non S
      | .ret d => Q d S
      | _ => False) : Ok (callAt pg (k + 1) f ds S) Q := by
  have e2 : callAt pg (k + 1) f ds S = runF (pg.calls k) fn ds S := by
    show (match pg.fns[f]? with
      | none => Res.bad
      | some fn => runF ⟨callAt pg k, mkI (callAt pg k) pg.ini, pg.gl⟩ fn ds S) = _
    rw [e]
    rfl
  rw [e2]
  unfold runF
  rw [if_pos hl]
  obtain ⟨⟨f, E1⟩, S1, e3, q⟩ := h
  rw [e3]
  cases f with
  | nx => exact ⟨_, _, rfl, q⟩
  | ret d => exact ⟨_, _, rfl, q⟩
  | _ => exact q.elim

/-! ### loops -/
theorem compF_W {elt : IE} {tg : Tg} {cond : IO} {vs : List Nat} {E : En} {x : D} {S : Sh} {Q : Option D → Sh → Prop}
    (h : wpG tg x (wipeE E vs) fun E1 => wpC C cond E1 S fun t S => if t = true then wpE C elt E1 S fun y S => Q (some y) S else Q none S) : Ok (compF C elt tg cond vs E x S) Q := by
  obtain ⟨E1, e, h⟩ := wpG_ok tg h
  unfold compF
  rw [e]
  exact Ok.bind ((wpC_ok cond E1 S _ h).mono fun t S q => by
    cases t with
    | true => exact Ok.bind ((wpE_ok elt E1 S _ (by simpa using q)).mono fun y S q => Ok.ret q)
    | false => exact Ok.ret (by simpa using q))
/-- nothing is left as it was but by P; each item's result is told by R -/
theorem compL_ok {f : D → Sh → Res (Option D)} {P : Sh → Prop} {R : D → Option D → Prop} : ∀ (xs acc : List D) (S : Sh), acc.length + xs.length ≤ LIM → P S → (∀ x ∈ xs, ∀ S, P S → Ok (f x S) fun o S => P S ∧ R x o) →
    Ok (compL f xs acc S) fun ys S => P S ∧ ∃ os : List (Option D), os.length = xs.length ∧ (∀ (i : Nat) (x : D) (o : Option D), xs[i]? = some x → os[i]? = some o → R x o) ∧ ys = acc ++ os.filterMap id
  | [], acc, S, _, p, _ => ⟨_, _, rfl, p, [], rfl, by simp, by simp⟩
  | x :: xs, acc, S, hl, p, h => by
    obtain ⟨o, S1, e, p1, r⟩ := h x List.mem_cons_self S p
    simp only [List.length_cons] at hl
    have fin : ∀ acc', acc' = acc ++ [o].filterMap id → acc'.length + xs.length ≤ LIM → Ok (compL f xs acc' S1) fun ys S => P S ∧ ∃ os : List (Option D), os.length = (x :: xs).length ∧ (∀ (i : Nat) (x' : D) (o : Option D), (x :: xs)[i]? = some x' → os[i]? = some o → R x' o) ∧ ys = acc ++ os.filterMap id := fun acc' ea hl' => by
      refine (compL_ok xs acc' S1 hl' p1 fun y hy => h y (List.mem_cons_of_mem _ hy)).mono fun ys S2 ⟨p2, os, h1, h2, h3⟩ => ⟨p2, o :: os, by simp [h1], fun i x' o' q1 q2 => ?_, ?_⟩
      · cases i with
        | zero => simp at q1 q2; subst q1 q2; exact r
        | succ i => exact h2 i x' o' (by simpa using q1) (by simpa using q2)
      · rw [h3, ea, List.append_assoc]
        congr 1
        cases o <;> simp
    have e2 : compL f (x :: xs) acc S = (f x S).bind fun o S1 => match o with
      | none => compL f xs acc S1
      | some y => if acc.length < LIM then compL f xs (acc ++ [y]) S1 else .bad := rfl
    rw [e2, e]
    cases o with
    | none => exact fin acc (by simp) (by omega)
    | some y =>
      show Ok (if acc.length < LIM then compL f xs (acc ++ [y]) S1 else .bad) _
      rw [if_pos (by omega)]
      exact fin (acc ++ [y]) (by simp) (by simp; omega)
/-- each item gives one thing, and nothing else happens -/
theorem compL_map {f : D → Sh → Res (Option D)} {S : Sh} {g : D → Option D} (xs : List D) (hl : xs.length ≤ LIM) (h : ∀ x ∈ xs, f x S = .ok (g x) S) : compL f xs [] S = .ok (xs.filterMap g) S := by
  have key : ∀ (xs acc : List D), acc.length + xs.length ≤ LIM → (∀ x ∈ xs, f x S = .ok (g x) S) → compL f xs acc S = .ok (acc ++ xs.filterMap g) S := by
    intro xs
    induction xs with
    | nil => intro acc _ _; simp [compL]
    | cons x xs ih =>
      intro acc hl h
      simp only [List.length_cons] at hl
      have e2 : compL f (x :: xs) acc S = (f x S).bind fun o S1 => match o with
        | none => compL f xs acc S1
        | some y => if acc.length < LIM then compL f xs (acc ++ [y]) S1 else .bad := rfl
      rw [e2, h x List.mem_cons_self]
      cases q : g x with
      | none =>
        show compL f xs acc S = _
        rw [ih acc (by omega) fun y hy => h y (List.mem_cons_of_mem _ hy)]
        simp [List.filterMap_cons, q]
      | some y =>
        show (if acc.length < LIM then compL f xs (acc ++ [y]) S else .bad) = _
        rw [if_pos (by omega), ih (acc ++ [y]) (by simp; omega) fun y hy => h y (List.mem_cons_of_mem _ hy)]
        simp [List.filterMap_cons, q]
  simpa using key xs [] (by simpa using hl) h
theorem forF_W {tg : Tg} {b : ISs} {E : En} {x : D} {S : Sh} {Q : Fl → En → Sh → Prop} (h : wpG tg x E fun E1 => wpB C b E1 S Q) : Ok (forF C tg b x E S) fun r S => Q r.1 r.2 S := by
  obtain ⟨E1, e, h⟩ := wpG_ok tg h
  unfold forF
  rw [e]
  exact h
/-- a loop, by its invariant: I at the start of turn i; a turn goes on, breaks off or returns -/
theorem forL_ok {f : D → En → Sh → Res (Fl × En)} {I : Nat → En → Sh → Prop} {Q : Fl → En → Sh → Prop} (xs : List D) {E : En} {S : Sh} (h0 : I 0 E S)
    (h : ∀ i x E S, xs[i]? = some x → I i E S → Ok (f x E S) fun r S => match r.1 with
      | .nx => I (i + 1) r.2 S
      | .cnt => I (i + 1) r.2 S
      | .brk => Q .nx r.2 S
      | fl => Q fl r.2 S) (hd : ∀ E S, I xs.length E S → Q .nx E S) : Ok (forL f xs E S) fun r S => Q r.1 r.2 S := by
  have key : ∀ (ys : List D) (i : Nat) (E : En) (S : Sh), i ≤ xs.length → xs.drop i = ys → I i E S → Ok (forL f ys E S) fun r S => Q r.1 r.2 S := by
    intro ys
    induction ys with
    | nil =>
      intro i E S hile hy hi
      have e : i = xs.length := by
        have : xs.length ≤ i := by simpa using hy
        omega
      subst e
      exact ⟨_, _, rfl, hd E S hi⟩
    | cons y ys ih =>
      intro i E S hile hy hi
      have hlt : i < xs.length := by
        by_cases c : i < xs.length
        · exact c
        · rw [List.drop_eq_nil_of_le (by omega)] at hy; cases hy
      rw [List.drop_eq_getElem_cons hlt] at hy
      cases hy
      obtain ⟨⟨fl, E1⟩, S1, e, q⟩ := h i xs[i] E S (List.getElem?_eq_getElem hlt) hi
      have e2 : forL f (xs[i] :: xs.drop (i + 1)) E S = (f xs[i] E S).bind fun r S1 => match r with
        | (.nx, E1) => forL f (xs.drop (i + 1)) E1 S1
        | (.cnt, E1) => forL f (xs.drop (i + 1)) E1 S1
        | (.brk, E1) => .ok (.nx, E1) S1
        | r => .ok r S1 := rfl
      rw [e2, e]
      cases fl with
      | nx => exact ih (i + 1) E1 S1 hlt rfl q
      | cnt => exact ih (i + 1) E1 S1 hlt rfl q
      | brk => exact ⟨_, _, rfl, q⟩
      | ret d => exact ⟨_, _, rfl, q⟩
      | exc d => exact ⟨_, _, rfl, q⟩
  exact key xs 0 E S (Nat.zero_le _) rfl h0
end
end Qv
set_option Elab.async false
set_option linter.all false
set_option maxRecDepth 100000
set_option maxHeartbeats 4000000
/-! What each step comes to, as equations. -/
namespace Qv
open PySem
section
variable {S : Sh} {i j : Int} {a b : Bool} {xs ys : List D} {x y z u v : D} {s t : Str} {ns : List Int} {Q : D → Prop} {n m : Nat}
theorem drf_int : drf S (.int i) = .int i := rfl
theorem drf_bl : drf S (.bl a) = .bl a := rfl
theorem drf_non : drf S .non = .non := rfl
theorem drf_str : drf S (.str s) = .str s := rfl
theorem drf_tup : drf S (.tup xs) = .tup xs := rfl
theorem drf_lst : drf S (.lst xs) = .lst xs := rfl
theorem drf_scr : drf S (.scr ns) = .scr ns := rfl
theorem drf_set : drf S (.set ns) = .set ns := rfl
theorem drf_ty {k : String} : drf S (.ty k) = .ty k := rfl
theorem drf_ins {c : Nat} {fs : List (Nat × D)} : drf S (.ins c fs) = .ins c fs := rfl
theorem drf_glo {g : Nat} : drf S (.glo g) = .glo g := rfl
theorem drf_0 : drf (.lst xs :: S) (.ref 0) = .lst xs := rfl
theorem drf_of {l : Nat} (h : S[l]? = some (.lst xs)) : drf S (.ref l) = .lst xs := by
  show (match S[l]? with
    | some (.lst xs) => D.lst xs
    | _ => .ref l) = _
  rw [h]
theorem ixAt_nat (h : n < m) : ixAt m (n : Int) = some n := by
  unfold ixAt
  rw [if_pos (by omega), if_pos (by omega)]
  simp
theorem ixL0 : ixD (.lst (x :: xs)) (.int 0) = some x := by
  show (ixAt (x :: xs).length ((0 : Nat) : Int)).bind _ = _
  rw [ixAt_nat (by simp)]; rfl
theorem ixL1 : ixD (.lst (x :: y :: xs)) (.int 1) = some y := by
  show (ixAt (x :: y :: xs).length ((1 : Nat) : Int)).bind _ = _
  rw [ixAt_nat (by simp)]; rfl
theorem ixL2 : ixD (.lst (x :: y :: z :: xs)) (.int 2) = some z := by
  show (ixAt (x :: y :: z :: xs).length ((2 : Nat) : Int)).bind _ = _
  rw [ixAt_nat (by simp)]; rfl
theorem ixL3 : ixD (.lst (x :: y :: z :: u :: xs)) (.int 3) = some u := by
  show (ixAt (x :: y :: z :: u :: xs).length ((3 : Nat) : Int)).bind _ = _
  rw [ixAt_nat (by simp)]; rfl
theorem ixL4 : ixD (.lst (x :: y :: z :: u :: v :: xs)) (.int 4) = some v := by
  show (ixAt (x :: y :: z :: u :: v :: xs).length ((4 : Nat) : Int)).bind _ = _
  rw [ixAt_nat (by simp)]; rfl
theorem ixT0 : ixD (.tup (x :: xs)) (.int 0) = some x := by
  show (ixAt (x :: xs).length ((0 : Nat) : Int)).bind _ = _
  rw [ixAt_nat (by simp)]; rfl
theorem ixT1 : ixD (.tup (x :: y :: xs)) (.int 1) = some y := by
  show (ixAt (x :: y :: xs).length ((1 : Nat) : Int)).bind _ = _
  rw [ixAt_nat (by simp)]; rfl
theorem ixT2 : ixD (.tup (x :: y :: z :: xs)) (.int 2) = some z := by
  show (ixAt (x :: y :: z :: xs).length ((2 : Nat) : Int)).bind _ = _
  rw [ixAt_nat (by simp)]; rfl
theorem ixLn (h : xs[n]? = some x) : ixD (.lst xs) (.int (n : Int)) = some x := by
  show (ixAt xs.length (n : Int)).bind _ = _
  rw [ixAt_nat (List.getElem?_eq_some_iff.mp h).1]
  exact h
theorem ixTn (h : xs[n]? = some x) : ixD (.tup xs) (.int (n : Int)) = some x := by
  show (ixAt xs.length (n : Int)).bind _ = _
  rw [ixAt_nat (List.getElem?_eq_some_iff.mp h).1]
  exact h
theorem ixAt0 : ixAt (n + 1) 0 = some 0 := ixAt_nat (n := 0) (Nat.succ_pos n)
theorem ixAt1 : ixAt (n + 2) 1 = some 1 := ixAt_nat (n := 1) (by omega)
theorem ixAt2 : ixAt (n + 3) 2 = some 2 := ixAt_nat (n := 2) (by omega)
theorem ixAt3 : ixAt (n + 4) 3 = some 3 := ixAt_nat (n := 3) (by omega)
theorem ixAt4 : ixAt (n + 5) 4 = some 4 := ixAt_nat (n := 4) (by omega)
theorem tru_bl : truD (.bl a) = some a := rfl
theorem tru_int : truD (.int i) = some (i != 0) := rfl
theorem tru_tup : truD (.tup xs) = some (!xs.isEmpty) := rfl
theorem tru_lst : truD (.lst xs) = some (!xs.isEmpty) := rfl
theorem c_eq_int : cmpD .eq (.int i) (.int j) = some (decide (i = j)) := by
  show some (i == j) = _
  rw [Bool.eq_iff_iff.mpr (show (i == j) = true ↔ decide (i = j) = true by simp)]
theorem c_ne_int : cmpD .ne (.int i) (.int j) = some (!decide (i = j)) := by
  show some (!(i == j)) = _
  rw [Bool.eq_iff_iff.mpr (show (i == j) = true ↔ decide (i = j) = true by simp)]
theorem c_lt : cmpD .lt (.int i) (.int j) = some (decide (i < j)) := rfl
theorem c_le : cmpD .le (.int i) (.int j) = some (decide (i ≤ j)) := rfl
theorem c_gt : cmpD .gt (.int i) (.int j) = some (decide (j < i)) := rfl
theorem c_ge : cmpD .ge (.int i) (.int j) = some (decide (j ≤ i)) := rfl
theorem c_eq_bl : cmpD .eq (.bl a) (.bl b) = some (a == b) := rfl
theorem c_ne_bl : cmpD .ne (.bl a) (.bl b) = some (!(a == b)) := rfl
theorem c_in {h : x.flat = true} (e : seqD y = some ys) (h2 : ys.all D.flat = true) : cmpD .inn x y = some (ys.any fun z => D.beq z x) := by
  cases y with
  | lst l => cases e; cases x <;> first | (cases h; done) | (simp [cmpD, seqD, D.flat, h2])
  | tup l => cases e; cases x <;> first | (cases h; done) | (simp [cmpD, seqD, D.flat, h2])
  | _ => cases e
theorem c_nin {h : x.flat = true} (e : seqD y = some ys) (h2 : ys.all D.flat = true) : cmpD .nin x y = some (!ys.any fun z => D.beq z x) := by
  cases y with
  | lst l => cases e; cases x <;> first | (cases h; done) | (simp [cmpD, seqD, D.flat, h2])
  | tup l => cases e; cases x <;> first | (cases h; done) | (simp [cmpD, seqD, D.flat, h2])
  | _ => cases e
theorem c_in2 {k : Int} : cmpD .inn (.int i) (.tup [.int j, .int k]) = some (decide (j = i) || decide (k = i)) := by
  rw [c_in (h := rfl) rfl rfl]
  congr 1
  show ((j == i) || ((k == i) || false)) = _
  rw [Bool.or_false]
  congr 1
theorem c_inL {k : List Int} : cmpD .inn (.int i) (.lst (k.map .int)) = some (decide (i ∈ k)) := by
  rw [c_in (h := rfl) rfl (by simp [D.flat])]
  congr 1
  rw [List.any_map, Bool.eq_iff_iff]
  simp [D.beq]
theorem c_inT {k : List Int} : cmpD .inn (.int i) (.tup (k.map .int)) = some (decide (i ∈ k)) := by
  rw [c_in (h := rfl) rfl (by simp [D.flat])]
  congr 1
  rw [List.any_map, Bool.eq_iff_iff]
  simp [D.beq]
theorem c_ninT {k : List Int} : cmpD .nin (.int i) (.tup (k.map .int)) = some (!decide (i ∈ k)) := by
  rw [c_nin (h := rfl) rfl (by simp [D.flat])]
  congr 2
  rw [List.any_map, Bool.eq_iff_iff]
  simp [D.beq]
theorem b_len_l : biD .len [.lst xs] = some (.int xs.length) := rfl
theorem b_len_t : biD .len [.tup xs] = some (.int xs.length) := rfl
theorem b_len_s : biD .len [.scr ns] = some (.int ns.length) := rfl
theorem b_abs : biD .abs [.int i] = some (.int (if i < 0 then -i else i)) := rfl
theorem b_int : biD .int [.int i] = some (.int i) := rfl
theorem b_tup_l : biD .tuple [.lst xs] = some (.tup xs) := rfl
theorem b_tup_t : biD .tuple [.tup xs] = some (.tup xs) := rfl
theorem b_max : biD .max2 [.int i, .int j] = some (.int (if j > i then j else i)) := rfl
theorem b_min : biD .min2 [.int i, .int j] = some (.int (if j < i then j else i)) := rfl
theorem b_all : biD .all [.lst xs] = (blsOf xs).map fun l => .bl (l.all id) := rfl
theorem o_add : binD .add (.int i) (.int j) = some (.int (i + j)) := rfl
theorem o_sub : binD .sub (.int i) (.int j) = some (.int (i - j)) := rfl
theorem o_mul : (∃ z, binD .mul (.int i) (.int j) = some z ∧ Q z) = (mulOk i j ∧ Q (.int (i * j))) := by
  apply propext
  constructor
  · rintro ⟨z, e, q⟩
    simp only [binD] at e
    split at e <;> cases e
    exact ⟨by assumption, q⟩
  · rintro ⟨h, q⟩
    exact ⟨_, by simp only [binD]; rw [if_pos h], q⟩
theorem o_fdiv : (∃ z, binD .fdiv (.int i) (.int j) = some z ∧ Q z) = ((0 < j ∧ j < 1073741824) ∧ Q (.int (i / j))) := by
  apply propext
  constructor
  · rintro ⟨z, e, q⟩
    simp only [binD] at e
    split at e <;> cases e
    exact ⟨by assumption, q⟩
  · rintro ⟨h, q⟩
    exact ⟨_, by simp only [binD]; rw [if_pos h], q⟩
theorem o_mod : (∃ z, binD .mod (.int i) (.int j) = some z ∧ Q z) = (0 < j ∧ Q (.int (i % j))) := by
  apply propext
  constructor
  · rintro ⟨z, e, q⟩
    simp only [binD] at e
    split at e <;> cases e
    exact ⟨by assumption, q⟩
  · rintro ⟨h, q⟩
    exact ⟨_, by simp only [binD]; rw [if_pos h], q⟩
theorem o_pow : (∃ z, binD .pow (.int i) (.int j) = some z ∧ Q z) = ((0 ≤ j ∧ j ≤ 1000000 ∧ i.natAbs < 2 ^ 64) ∧ Q (.int (i ^ j.toNat))) := by
  apply propext
  constructor
  · rintro ⟨z, e, q⟩
    simp only [binD] at e
    split at e <;> cases e
    exact ⟨by assumption, q⟩
  · rintro ⟨h, q⟩
    exact ⟨_, by simp only [binD]; rw [if_pos h], q⟩
theorem o_catT : (∃ z, binD .add (.tup xs) (.tup ys) = some z ∧ Q z) = (xs.length + ys.length ≤ LIM ∧ Q (.tup (xs ++ ys))) := by
  apply propext
  constructor
  · rintro ⟨z, e, q⟩
    simp only [binD] at e
    split at e <;> cases e
    exact ⟨by assumption, q⟩
  · rintro ⟨h, q⟩
    exact ⟨_, by simp only [binD]; rw [if_pos h], q⟩
theorem o_catL : (∃ z, binD .add (.lst xs) (.lst ys) = some z ∧ Q z) = (xs.length + ys.length ≤ LIM ∧ Q (.lst (xs ++ ys))) := by
  apply propext
  constructor
  · rintro ⟨z, e, q⟩
    simp only [binD] at e
    split at e <;> cases e
    exact ⟨by assumption, q⟩
  · rintro ⟨h, q⟩
    exact ⟨_, by simp only [binD]; rw [if_pos h], q⟩
theorem o_repT : (∃ z, binD .mul (.tup xs) (.int i) = some z ∧ Q z) = ((1 ≤ i ∧ i ≤ 1000 ∧ xs ≠ [] ∧ xs.length ≤ 1000) ∧ Q (.tup (List.replicate i.toNat xs).flatten)) := by
  apply propext
  constructor
  · rintro ⟨z, e, q⟩
    simp only [binD] at e
    split at e <;> cases e
    exact ⟨by assumption, q⟩
  · rintro ⟨h, q⟩
    exact ⟨_, by simp only [binD]; rw [if_pos h], q⟩
theorem o_repL : (∃ z, binD .mul (.lst xs) (.int i) = some z ∧ Q z) = ((0 ≤ i ∧ i ≤ 1000 ∧ xs.length ≤ 1000) ∧ Q (.lst (List.replicate i.toNat xs).flatten)) := by
  apply propext
  constructor
  · rintro ⟨z, e, q⟩
    simp only [binD] at e
    split at e <;> cases e
    exact ⟨by assumption, q⟩
  · rintro ⟨h, q⟩
    exact ⟨_, by simp only [binD]; rw [if_pos h], q⟩
theorem o_repL2 {Q : List D → Prop} : (∃ zs, binD .mul (.lst xs) (.int i) = some (.lst zs) ∧ Q zs) = ((0 ≤ i ∧ i ≤ 1000 ∧ xs.length ≤ 1000) ∧ Q (List.replicate i.toNat xs).flatten) := by
  apply propext
  constructor
  · rintro ⟨z, e, q⟩
    simp only [binD] at e
    split at e <;> cases e
    exact ⟨by assumption, q⟩
  · rintro ⟨h, q⟩
    exact ⟨_, by simp only [binD]; rw [if_pos h], q⟩
theorem s_tupX {lo hi : Option Int} : slD (.tup xs) lo hi = some (.tup (cutD xs lo hi)) := rfl
theorem s_lstX {lo hi : Option Int} : slD (.lst xs) lo hi = some (.lst (cutD xs lo hi)) := rfl
theorem s_scrX {lo hi : Option Int} : slD (.scr ns) lo hi = some (.lst (cutD (ns.map .int) lo hi)) := rfl
theorem q_tup : seqD (.tup xs) = some xs := rfl
theorem q_lst : seqD (.lst xs) = some xs := rfl
theorem qi_tup : seqI (.tup xs) = some xs := rfl
theorem qi_lst : seqI (.lst xs) = some xs := rfl
theorem qi_scr : seqI (.scr ns) = some (ns.map .int) := rfl
theorem at_ins {f c : Nat} {fs : List (Nat × D)} : atD S f (.ins c fs) = fs.lookup f := rfl
theorem isNon_int : isNon (.int i) = false := rfl
theorem isNon_non : isNon .non = true := rfl
theorem wpN_nx {C : Calls} {bb : ISs} {QQ : Fl → En → Sh → Prop} {E : En} : wpN C bb QQ .nx E S = wpB C bb E S QQ := rfl
theorem wpN_ret {C : Calls} {bb : ISs} {QQ : Fl → En → Sh → Prop} {E : En} : wpN C bb QQ (.ret x) E S = QQ (.ret x) E S := rfl
theorem wpN_brk {C : Calls} {bb : ISs} {QQ : Fl → En → Sh → Prop} {E : En} : wpN C bb QQ .brk E S = QQ .brk E S := rfl
theorem wpN_cnt {C : Calls} {bb : ISs} {QQ : Fl → En → Sh → Prop} {E : En} : wpN C bb QQ .cnt E S = QQ .cnt E S := rfl
/-- a statement, with what holds behind it -/
theorem b_consR {C : Calls} {st : IS} {bb : ISs} {E : En} {QQ : Fl → En → Sh → Prop} (R : Fl → En → Sh → Prop) (h : wpS C st E S R) (k : ∀ f E S, R f E S → wpN C bb QQ f E S) : wpB C (.cons st bb) E S QQ := by
  obtain ⟨⟨f, E1⟩, S1, e, q⟩ := wpS_ok st h
  have q2 := k _ _ _ q
  unfold wpB
  have e2 : exB C (.cons st bb) E S = (exS C st E S).bind fun r S => match r with
    | (.nx, E1) => exB C bb E1 S
    | r => .ok r S := by
      simp only [exB]
      try rfl
  rw [e2, e]
  cases f with
  | nx => exact q2
  | brk => exact ⟨_, _, rfl, q2⟩
  | cnt => exact ⟨_, _, rfl, q2⟩
  | ret d => exact ⟨_, _, rfl, q2⟩
  | exc x => exact ⟨_, _, rfl, q2⟩
theorem b_nilN {C : Calls} {bb : ISs} {E : En} {QQ : Fl → En → Sh → Prop} (h : wpB C bb E S QQ) : wpB C .nil E S (wpN C bb QQ) := b_nilW h
theorem compL_map2 {f : D → Sh → Res (Option D)} {g : D → Option D} (xs : List D) (hl : xs.length ≤ LIM) (h : ∀ x ∈ xs, Ok (f x S) fun o S' => o = g x ∧ S' = S) {QQ : List D → Sh → Prop} (q : QQ (xs.filterMap g) S) : Ok (compL f xs [] S) QQ := by
  rw [compL_map (g := g) xs hl fun x hx => by
    obtain ⟨o, S', e, rfl, rfl⟩ := h x hx
    exact e]
  exact ⟨_, _, rfl, q⟩
theorem fm_map {α β : Type} {f : α → Option β} {g : α → β} {l : List α} (h : ∀ x ∈ l, f x = some (g x)) : l.filterMap f = l.map g := by
  induction l with
  | nil => rfl
  | cons x r ih =>
    rw [List.filterMap_cons, h x List.mem_cons_self, List.map_cons, ih fun y hy => h y (List.mem_cons_of_mem _ hy)]
/-- a turn's end -/
def trn (I : En → Sh → Prop) (QQ : Fl → En → Sh → Prop) (f : Fl) (E : En) (S : Sh) : Prop := match f with
  | .nx => I E S
  | .cnt => I E S
  | .brk => QQ .nx E S
  | fl => QQ fl E S
theorem trn_nx {I : En → Sh → Prop} {QQ : Fl → En → Sh → Prop} {E : En} : trn I QQ .nx E S = I E S := rfl
theorem trn_cnt {I : En → Sh → Prop} {QQ : Fl → En → Sh → Prop} {E : En} : trn I QQ .cnt E S = I E S := rfl
theorem trn_brk {I : En → Sh → Prop} {QQ : Fl → En → Sh → Prop} {E : En} : trn I QQ .brk E S = QQ .nx E S := rfl
theorem trn_ret {I : En → Sh → Prop} {QQ : Fl → En → Sh → Prop} {E : En} : trn I QQ (.ret x) E S = QQ (.ret x) E S := rfl
theorem for_W {C : Calls} {tg : Tg} {bb : ISs} {I : Nat → En → Sh → Prop} {QQ : Fl → En → Sh → Prop} (xs : List D) {E : En} (h0 : I 0 E S)
    (h : ∀ (i : Nat) (x : D) (E : En) (S : Sh), xs[i]? = some x → I i E S → wpG tg x E fun E1 => wpB C bb E1 S (trn (I (i + 1)) QQ)) (hd : ∀ E S, I xs.length E S → QQ .nx E S) : Ok (forL (forF C tg bb) xs E S) fun r S => QQ r.1 r.2 S :=
  forL_ok (I := I) (Q := QQ) xs h0 (fun i x E S e q => (forF_W (h i x E S e q)).mono fun r S q => by
    obtain ⟨f, E1⟩ := r
    cases f <;> exact q) hd
theorem b_ownR {C : Calls} {le : LE} {bb : ISs} {E : En} {QQ : Fl → En → Sh → Prop} (R : List D → Sh → Prop) (h : wpL C le E S R) (k : ∀ ds S', R ds S' → n < E.length ∧ wpB C bb (E.set n (some (.ol ds))) S' QQ) : wpB C (.cons (.own n le) bb) E S QQ := by
  obtain ⟨ds, S1, e, q⟩ := wpL_ok le E S R h
  obtain ⟨h1, h2⟩ := k ds S1 q
  unfold wpB
  have e2 : exB C (.cons (.own n le) bb) E S = (exS C (.own n le) E S).bind fun r S => match r with
    | (.nx, E1) => exB C bb E1 S
    | r => .ok r S := by
      simp only [exB]
      try rfl
  have e3 : exS C (.own n le) E S = .ok (.nx, E.set n (some (.ol ds))) S1 := by
    show (evL C le E S).bindS E _ = _
    rw [e]
    show nxt (setSl E n (.ol ds)) S1 = _
    unfold setSl
    rw [if_pos h1]
    rfl
  rw [e2, e3]
  exact h2
theorem brw_v {E : En} {w : (D → Sh → Prop) → Prop} {QQ : D → Sh → Prop} : brwW (.v n) E S w QQ = ∃ d, slotA E n = some d ∧ QQ d S := rfl
theorem sA_v {E : En} (h : E[n]? = some (some (.v x))) : slotA E n = some x := by unfold slotA; rw [h]
end
end Qv
set_option Elab.async false
set_option linter.all false
set_option maxRecDepth 100000
set_option maxHeartbeats 4000000
/-! More equations. -/
namespace Qv
open PySem
theorem ex2 {α β : Type} {a : α} {b : β} {P : α → β → Prop} : (∃ x y, (a = x ∧ b = y) ∧ P x y) = P a b := propext ⟨fun ⟨_, _, ⟨rfl, rfl⟩, h⟩ => h, fun h => ⟨_, _, ⟨rfl, rfl⟩, h⟩⟩
theorem ex3 {α β γ : Type} {a : α} {b : β} {c : γ} {P : α → β → γ → Prop} : (∃ x y z, (a = x ∧ b = y ∧ c = z) ∧ P x y z) = P a b c := propext ⟨fun ⟨_, _, _, ⟨rfl, rfl, rfl⟩, h⟩ => h, fun h => ⟨_, _, _, ⟨rfl, rfl, rfl⟩, h⟩⟩
theorem lim2 : (2 ≤ LIM) = True := by simp [LIM]
theorem lim1 : (1 ≤ LIM) = True := by simp [LIM]
theorem lim0 : (0 ≤ LIM) = True := by simp [LIM]
theorem lim3 : (3 ≤ LIM) = True := by simp [LIM]
theorem lim4 : (4 ≤ LIM) = True := by simp [LIM]
theorem intsOf_map : ∀ l : List Int, intsOf (l.map .int) = some l
  | [] => rfl
  | x :: l => by simp only [List.map_cons, intsOf]; rw [intsOf_map l]; rfl
theorem c_inS {i : Int} {l : List Int} : cmpD .inn (.int i) (.set l) = some (decide (i ∈ l)) := rfl
theorem mem_insI {x y : Int} : ∀ {l : List Int}, y ∈ insI x l ↔ y = x ∨ y ∈ l
  | [] => by simp [insI]
  | z :: r => by
    unfold insI
    split
    · simp
    · rw [List.mem_cons, mem_insI (l := r), List.mem_cons]
      constructor
      · rintro (h | h | h) <;> simp [h]
      · rintro (h | h | h) <;> simp [h]
theorem mem_sortI {y : Int} : ∀ {l : List Int}, y ∈ sortI l ↔ y ∈ l
  | [] => by simp [sortI]
  | x :: r => by
    unfold sortI
    rw [mem_insI, mem_sortI (l := r), List.mem_cons]
theorem len_insI {x : Int} : ∀ {l : List Int}, (insI x l).length = l.length + 1
  | [] => rfl
  | z :: r => by
    unfold insI
    split
    · rfl
    · simp [len_insI (l := r)]
theorem len_sortI : ∀ {l : List Int}, (sortI l).length = l.length
  | [] => rfl
  | x :: r => by
    unfold sortI
    rw [len_insI, len_sortI (l := r)]
    rfl
theorem mem_addS {x y : Int} {l : List Int} : y ∈ addS l x ↔ y = x ∨ y ∈ l := by
  unfold addS
  split
  · constructor
    · exact .inr
    · rintro (rfl | h) <;> assumption
  · simp [or_comm]
theorem len_addS {x : Int} {l : List Int} : (addS l x).length ≤ l.length + 1 := by
  unfold addS
  split <;> simp
theorem mem_fold {y : Int} : ∀ {l acc : List Int}, y ∈ l.foldl addS acc ↔ y ∈ acc ∨ y ∈ l
  | [], acc => by simp
  | x :: r, acc => by
    rw [List.foldl_cons, mem_fold (l := r), mem_addS, List.mem_cons]
    constructor
    · rintro ((h | h) | h) <;> simp [h]
    · rintro (h | h | h) <;> simp [h]
theorem len_fold : ∀ {l acc : List Int}, (l.foldl addS acc).length ≤ acc.length + l.length
  | [], acc => by simp
  | x :: r, acc => by
    rw [List.foldl_cons]
    have := len_fold (l := r) (acc := addS acc x)
    have := len_addS (x := x) (l := acc)
    rw [List.length_cons]
    omega
theorem setOf_l {l : List Int} (h : l.length < 4000) : setOf (.lst (l.map .int)) = some (l.foldl addS []) := by
  show ((intsOf (l.map .int)).bind _) = _
  rw [intsOf_map]
  show (if l.length < 4000 then _ else _) = _
  rw [if_pos h]
theorem setOf_t {l : List Int} (h : l.length < 4000) : setOf (.tup (l.map .int)) = some (l.foldl addS []) := setOf_l h
theorem cut_hi {xs : List D} {n : Nat} : cutD xs none (some (n : Int)) = xs.take n := by
  show (xs.drop 0).take (sIxO xs.length xs.length (some (n : Int)) - 0) = _
  unfold sIxO
  dsimp only
  rw [if_neg (by omega), List.drop_zero, Nat.sub_zero, Int.toNat_natCast]
  by_cases h : n ≤ xs.length
  · rw [Nat.min_eq_left h]
  · rw [Nat.min_eq_right (by omega), List.take_of_length_le (Nat.le_refl _), List.take_of_length_le (by omega)]
theorem cut_lo {xs : List D} {n : Nat} : cutD xs (some (n : Int)) none = xs.drop n := by
  show (xs.drop (sIxO xs.length 0 (some (n : Int)))).take (xs.length - sIxO xs.length 0 (some (n : Int))) = _
  unfold sIxO
  dsimp only
  rw [if_neg (by omega), Int.toNat_natCast]
  by_cases h : n ≤ xs.length
  · rw [Nat.min_eq_left h]
    exact List.take_of_length_le (by simp)
  · rw [Nat.min_eq_right (by omega), Nat.sub_self, List.take_zero, List.drop_eq_nil_of_le (by omega)]
end Qv
set_option Elab.async false
set_option linter.all false
set_option maxRecDepth 100000
set_option maxHeartbeats 8000000
namespace Qv.Law
open PySem PySem.Spec PyProof.Rows L2
def top (i : Nat) : Stmt := PySem.Challenge.pw_staletags_k04_whole_looks_of_the_first_f.main.body.getD i (.Pass ⟨0, 0, 0, 0⟩)
def meth (i j : Nat) : Stmt := match top i with
  | .ClassDef _ _ _ b _ _ _ _ _ _ _ => b.getD j (.Pass ⟨0, 0, 0, 0⟩)
  | s => s
/-- raw_standing_of: 0 web, 1 past, 2 standing, 3 deed -/
def b_raw_standing_of : ISs := .cons (.asg (.n 2) (.call 7 (.cons (.v 0) .nil))) (.cons (.for (.n 3) (.seq (.v 1)) (.cons (.asg (.n 2) (.call 6 (.cons (.v 0) (.cons (.v 2) (.cons (.v 3) .nil))))) .nil)) (.cons (.ret (.v 2)) .nil))
def f_raw_standing_of : Fn := ⟨2, 4, b_raw_standing_of⟩
/-- standing_of: 0 web, 1 past -/
def b_standing_of : ISs := .cons (.ret (.call 0 (.cons (.v 0) (.cons (.v 1) .nil)))) .nil
def f_standing_of : Fn := ⟨2, 2, b_standing_of⟩
/-- _law_let_looks: 0 _law_parts_here, 1 _law_log, 2 _law_standing, 3 _law_found, 4 _law_room, 5 _law_other, 6 _law_age, 7 _law_held, 8 _law_tags -/
def b__law_let_looks : ISs := .cons (.own 3 (.disp .nil)) (.cons (.for (.t (.n 4) (.t (.n 7) (.n 8))) (.enum (.v 2)) (.cons (.for (.n 5) (.seq (.call 18 (.cons (.v 0) (.cons (.v 4) .nil)))) (.cons (.ite (.and (.v 7) (.and (.ix (.ix (.v 2) (.v 5)) (.c (.int 0))) (.cmp .eq (.ix (.ix (.ix (.v 2) (.v 5)) (.c (.int 1))) (.c (.int 0))) (.ix (.ix (.v 1) (.v 4)) (.c (.int 0)))))) (.cons (.app 3 (.tup (.cons (.v 4) (.cons (.v 5) (.cons (.c (.int 0)) .nil))))) .nil) .nil) .nil)) (.cons (.for (.n 6) (.rng2 (.c (.int 1)) (.bin .add (.bi .min2 (.cons (.ix (.ix (.v 0) (.c (.int 0))) (.v 4)) (.cons (.bin .sub (.bi .len (.cons (.ix (.v 1) (.v 4)) .nil)) (.c (.int 1))) .nil))) (.c (.int 1)))) (.cons (.ite (.and (.v 7) (.cmp .eq (.ix (.v 8) (.c (.int 0))) (.ix (.ix (.v 1) (.v 4)) (.v 6)))) (.cons (.app 3 (.tup (.cons (.v 4) (.cons (.v 4) (.cons (.v 6) .nil))))) .nil) .nil) .nil)) .nil))) (.frz 3 (.cons (.ret (.v 3)) .nil)))
def f__law_let_looks : Fn := ⟨3, 9, b__law_let_looks⟩
/-- tied_rooms: 0 web, 1 room, 2 found, 3 one, 4 other -/
def b_tied_rooms : ISs := .cons (.own 2 (.comp (.bin .sub (.bin .add (.v 3) (.v 4)) (.v 1)) (.t (.n 3) (.n 4)) (.seq (.at (.v 0) 0)) (.ye (.cmp .inn (.v 1) (.tup (.cons (.v 3) (.cons (.v 4) .nil))))) [3, 4])) (.frz 2 (.cons (.ret (.bi .tuple (.cons (.l (.sorted (.v 2))) .nil))) .nil))
def f_tied_rooms : Fn := ⟨2, 5, b_tied_rooms⟩
/-- raw_barred: 0 web, 1 standing, 2 room, 3 found, 4 other -/
def b_raw_barred : ISs := .cons (.owns 3 (.set (.sl (.ix (.ix (.v 1) (.v 2)) (.c (.int 1))) (.no) (.ye (.ix (.at (.v 0) 1) (.v 2)))))) (.cons (.for (.n 4) (.seq (.call 3 (.cons (.v 0) (.cons (.v 2) .nil)))) (.cons (.ite (.ix (.ix (.v 1) (.v 4)) (.c (.int 0))) (.cons (.add 3 (.ix (.ix (.ix (.v 1) (.v 4)) (.c (.int 1))) (.c (.int 0)))) .nil) .nil) .nil)) (.cons (.ret (.bi .tuple (.cons (.l (.sorted (.v 3))) .nil))) .nil))
def f_raw_barred : Fn := ⟨3, 5, b_raw_barred⟩
/-- kept_tags: 0 web, 1 room -/
def b_kept_tags : ISs := .cons (.ret (.bi .max2 (.cons (.c (.int 1)) (.cons (.ix (.at (.v 0) 1) (.v 1)) .nil)))) .nil
def f_kept_tags : Fn := ⟨2, 2, b_kept_tags⟩
/-- raw_after: 0 web, 1 standing, 2 deed, 3 room, 4 tags, 5 here -/
def b_raw_after : ISs := .cons (.asg (.n 3) (.ix (.v 2) (.c (.int 1)))) (.cons (.asg (.n 4) (.ix (.ix (.v 1) (.v 3)) (.c (.int 1)))) (.cons (.asg (.n 5) (.tup (.cons (.c (.bl false)) (.cons (.v 4) .nil)))) (.cons (.ite (.cmp .eq (.ix (.v 2) (.c (.int 0))) (.c (.str (Str.ofString "give")))) (.cons (.asg (.n 5) (.tup (.cons (.c (.bl true)) (.cons (.sl (.bin .add (.tup (.cons (.ix (.v 2) (.c (.int 2))) .nil)) (.v 4)) (.no) (.ye (.call 5 (.cons (.v 0) (.cons (.v 3) .nil))))) .nil)))) .nil) .nil) (.cons (.ret (.bin .add (.bin .add (.sl (.v 1) (.no) (.ye (.v 3))) (.tup (.cons (.v 5) .nil))) (.sl (.v 1) (.ye (.bin .add (.v 3) (.c (.int 1)))) (.no)))) .nil))))
def f_raw_after : Fn := ⟨3, 6, b_raw_after⟩
/-- begun: 0 web -/
def b_begun : ISs := .cons (.ret (.bin .mul (.tup (.cons (.tup (.cons (.c (.bl false)) (.cons (.tup .nil) .nil))) .nil)) (.bi .len (.cons (.at (.v 0) 1) .nil)))) .nil
def f_begun : Fn := ⟨1, 1, b_begun⟩
/-- first_barred: 0 web, 1 past, 2 standing, 3 number, 4 deed -/
def b_first_barred : ISs := .cons (.asg (.n 2) (.call 7 (.cons (.v 0) .nil))) (.cons (.for (.t (.n 3) (.n 4)) (.enum (.v 1)) (.cons (.ite (.and (.cmp .eq (.ix (.v 4) (.c (.int 0))) (.c (.str (Str.ofString "give")))) (.cmp .inn (.ix (.v 4) (.c (.int 2))) (.call 4 (.cons (.v 0) (.cons (.v 2) (.cons (.ix (.v 4) (.c (.int 1))) .nil)))))) (.cons (.ret (.v 3)) .nil) .nil) (.cons (.asg (.n 2) (.call 6 (.cons (.v 0) (.cons (.v 2) (.cons (.v 4) .nil))))) .nil))) (.cons (.ret (.c .non)) .nil))
def f_first_barred : Fn := ⟨2, 5, b_first_barred⟩
/-- _law_deep_parts: 0 _law_hand_here, 1 _law_most, 2 _law_many, 3 _law_memories, 4 _law_room -/
def b__law_deep_parts : ISs := .cons (.asg (.n 2) (.bin .add (.c (.int 1)) (.call 22 (.cons (.v 0) (.cons (.v 1) .nil))))) (.cons (.own 3 (.comp (.call 23 (.cons (.v 0) (.cons (.l (.disp (.cons (.c (.int 5)) (.cons (.c (.int 7)) (.cons (.c (.int 9)) (.cons (.c (.int 16)) (.cons (.c (.int 30)) (.cons (.bin .add (.c (.int 5)) (.call 22 (.cons (.v 0) (.cons (.c (.int 26)) .nil)))) .nil)))))))) .nil))) (.n 4) (.rng1 (.v 2)) (.no) [4])) (.frz 3 (.cons (.ret (.tup (.cons (.bi .tuple (.cons (.v 3) .nil)) (.cons (.ife (.cmp .gt (.call 22 (.cons (.v 0) (.cons (.c (.int 3)) .nil))) (.c (.int 0))) (.bi .tuple (.cons (.call 16 (.cons (.v 2) .nil)) .nil)) (.tup .nil)) .nil)))) .nil)))
def f__law_deep_parts : Fn := ⟨2, 5, b__law_deep_parts⟩
/-- is_tuple_of: 0 thing, 1 size -/
def b_is_tuple_of : ISs := .cons (.ret (.and (.bi .isi (.cons (.v 0) (.cons (.g 2) .nil))) (.cmp .eq (.bi .len (.cons (.v 0) .nil)) (.v 1)))) .nil
def f_is_tuple_of : Fn := ⟨2, 2, b_is_tuple_of⟩
/-- is_tie: 0 thing, 1 many -/
def b_is_tie : ISs := .cons (.ite (.or (.not (.call 10 (.cons (.v 0) (.cons (.c (.int 2)) .nil)))) (.not (.call 13 (.cons (.ix (.v 0) (.c (.int 0))) (.cons (.c (.int 0)) (.cons (.bin .sub (.v 1) (.c (.int 1))) .nil)))))) (.cons (.ret (.c (.bl false))) .nil) .nil) (.cons (.ret (.call 13 (.cons (.ix (.v 0) (.c (.int 1))) (.cons (.bin .add (.ix (.v 0) (.c (.int 0))) (.c (.int 1))) (.cons (.bin .sub (.v 1) (.c (.int 1))) .nil))))) .nil)
def f_is_tie : Fn := ⟨2, 2, b_is_tie⟩
/-- is_integer: 0 thing -/
def b_is_integer : ISs := .cons (.ret (.and (.bi .isi (.cons (.v 0) (.cons (.g 4) .nil))) (.not (.bi .isi (.cons (.v 0) (.cons (.g 3) .nil)))))) .nil
def f_is_integer : Fn := ⟨1, 1, b_is_integer⟩
/-- is_within: 0 thing, 1 least, 2 most -/
def b_is_within : ISs := .cons (.ret (.and (.call 12 (.cons (.v 0) .nil)) (.cmpc .le .le (.v 1) (.v 0) (.v 2)))) .nil
def f_is_within : Fn := ⟨3, 3, b_is_within⟩
/-- Web.__init__: 0 self, 1 memories, 2 ties, 3 number, 4 tie, 5 memory -/
def b_Web___init__ : ISs := .cons (.ite (.or (.not (.bi .isi (.cons (.v 1) (.cons (.g 2) .nil)))) (.not (.cmpc .le .le (.c (.int 1)) (.bi .len (.cons (.v 1) .nil)) (.g 5)))) (.cons (.raise Str.empty) .nil) .nil) (.cons (.ite (.not (.bi .all (.cons (.l (.comp (.call 13 (.cons (.v 5) (.cons (.c (.int 0)) (.cons (.g 6) .nil)))) (.n 5) (.seq (.v 1)) (.no) [5])) .nil))) (.cons (.raise Str.empty) .nil) .nil) (.cons (.ite (.not (.bi .isi (.cons (.v 2) (.cons (.g 2) .nil)))) (.cons (.raise Str.empty) .nil) .nil) (.cons (.for (.t (.n 3) (.n 4)) (.enum (.v 2)) (.cons (.ite (.or (.not (.call 11 (.cons (.v 4) (.cons (.bi .len (.cons (.v 1) .nil)) .nil)))) (.and (.cmp .gt (.v 3) (.c (.int 0))) (.cmp .le (.v 4) (.ix (.v 2) (.bin .sub (.v 3) (.c (.int 1))))))) (.cons (.raise Str.empty) .nil) .nil) .nil)) (.cons (.sat (.v 0) 1 (.v 1)) (.cons (.sat (.v 0) 0 (.v 2)) .nil)))))
def f_Web___init__ : Fn := ⟨3, 6, b_Web___init__⟩
/-- _law_made: 0 _law_parts_here -/
def b__law_made : ISs := .cons (.ret (.mk 7 (.cons (.ix (.v 0) (.c (.int 0))) (.cons (.ix (.v 0) (.c (.int 1))) .nil)))) .nil
def f__law_made : Fn := ⟨1, 1, b__law_made⟩
/-- _law_pairs: 0 _law_many, 1 _law_found, 2 _law_one, 3 _law_other -/
def b__law_pairs : ISs := .cons (.own 1 (.disp .nil)) (.cons (.for (.n 2) (.rng1 (.v 0)) (.cons (.ext 1 (.l (.comp (.tup (.cons (.v 2) (.cons (.v 3) .nil))) (.n 3) (.rng2 (.bin .add (.v 2) (.c (.int 1))) (.v 0)) (.no) [3]))) .nil)) (.frz 1 (.cons (.ret (.v 1)) .nil)))
def f__law_pairs : Fn := ⟨1, 4, b__law_pairs⟩
/-- _law_parts: 0 _law_hand_here, 1 _law_most, 2 _law_memory, 3 _law_memories, 4 _law_pairs_here, 5 _law_many, 6 _law_kind, 7 _law_share, 8 _law_ties, 9 _law_room, 10 _law_pair -/
def b__law_parts : ISs := .cons (.par [5, 6, 7] (.cons (.bin .add (.c (.int 1)) (.call 22 (.cons (.v 0) (.cons (.v 1) .nil)))) (.cons (.call 22 (.cons (.v 0) (.cons (.c (.int 6)) .nil))) (.cons (.bin .add (.c (.int 1)) (.call 22 (.cons (.v 0) (.cons (.c (.int 5)) .nil)))) .nil)))) (.cons (.own 3 (.comp (.call 22 (.cons (.v 0) (.cons (.bin .add (.v 2) (.c (.int 1))) .nil))) (.n 9) (.rng1 (.v 5)) (.no) [9])) (.frz 3 (.cons (.ite (.cmp .eq (.call 22 (.cons (.v 0) (.cons (.c (.int 2)) .nil))) (.c (.int 0))) (.cons (.asg (.n 3) (.bin .mul (.l (.disp (.cons (.ix (.v 3) (.c (.int 0))) .nil))) (.v 5))) .nil) .nil) (.cons (.asg (.n 4) (.call 16 (.cons (.v 5) .nil))) (.cons (.ite (.cmp .eq (.v 6) (.c (.int 0))) (.cons (.own 8 (.comp (.v 10) (.n 10) (.seq (.v 4)) (.ye (.cmp .inn (.bin .sub (.ix (.v 10) (.c (.int 1))) (.ix (.v 10) (.c (.int 0)))) (.tup (.cons (.c (.int 1)) (.cons (.bin .sub (.v 5) (.c (.int 1))) .nil))))) [10])) (.frz 8 .nil)) (.cons (.ite (.cmp .eq (.v 6) (.c (.int 1))) (.cons (.own 8 (.comp (.v 10) (.n 10) (.seq (.v 4)) (.ye (.cmp .eq (.bin .sub (.ix (.v 10) (.c (.int 1))) (.ix (.v 10) (.c (.int 0)))) (.c (.int 1)))) [10])) (.frz 8 .nil)) (.cons (.ite (.cmp .eq (.v 6) (.c (.int 2))) (.cons (.own 8 (.comp (.v 10) (.n 10) (.seq (.v 4)) (.ye (.and (.cmp .eq (.bin .mod (.bi .int (.cons (.bin .add (.ix (.v 10) (.c (.int 0))) (.ix (.v 10) (.c (.int 1)))) .nil)) (.c (.int 2))) (.c (.int 1))) (.cmp .lt (.call 22 (.cons (.v 0) (.cons (.c (.int 6)) .nil))) (.v 7)))) [10])) (.frz 8 .nil)) (.cons (.ite (.cmp .eq (.v 6) (.c (.int 3))) (.cons (.own 8 (.comp (.v 10) (.n 10) (.seq (.v 4)) (.ye (.cmp .eq (.ix (.v 10) (.c (.int 0))) (.c (.int 0)))) [10])) (.frz 8 .nil)) (.cons (.own 8 (.comp (.v 10) (.n 10) (.seq (.v 4)) (.ye (.cmp .lt (.call 22 (.cons (.v 0) (.cons (.c (.int 6)) .nil))) (.v 7))) [10])) (.frz 8 .nil))) .nil)) .nil)) .nil)) (.cons (.ret (.tup (.cons (.bi .tuple (.cons (.v 3) .nil)) (.cons (.bi .tuple (.cons (.v 8) .nil)) .nil)))) .nil))))))
def f__law_parts : Fn := ⟨3, 11, b__law_parts⟩
/-- _law_near: 0 _law_parts_here, 1 _law_room, 2 _law_one, 3 _law_other -/
def b__law_near : ISs := .cons (.ret (.l (.sorted (.l (.comp (.bin .sub (.bin .add (.v 2) (.v 3)) (.v 1)) (.t (.n 2) (.n 3)) (.seq (.ix (.v 0) (.c (.int 1)))) (.ye (.cmp .inn (.v 1) (.tup (.cons (.v 2) (.cons (.v 3) .nil))))) [2, 3]))))) .nil
def f__law_near : Fn := ⟨2, 4, b__law_near⟩
/-- _law_bars: 0 _law_parts_here, 1 _law_state, 2 _law_room, 3 _law_found, 4 _law_other -/
def b__law_bars : ISs := .cons (.own 3 (.list (.sl (.ix (.ix (.v 1) (.v 2)) (.c (.int 1))) (.no) (.ye (.ix (.ix (.v 0) (.c (.int 0))) (.v 2)))))) (.cons (.for (.n 4) (.seq (.call 18 (.cons (.v 0) (.cons (.v 2) .nil)))) (.cons (.ite (.ix (.ix (.v 1) (.v 4)) (.c (.int 0))) (.cons (.app 3 (.ix (.ix (.ix (.v 1) (.v 4)) (.c (.int 1))) (.c (.int 0)))) .nil) .nil) .nil)) (.cons (.ret (.bi .tuple (.cons (.l (.sorted (.st (.v 3)))) .nil))) .nil))
def f__law_bars : Fn := ⟨3, 5, b__law_bars⟩
/-- _law_done: 0 _law_state, 1 _law_deed, 2 _law_later, 3 _law_held, 4 _law_tags -/
def b__law_done : ISs := .cons (.asg (.t (.n 3) (.n 4)) (.ix (.v 0) (.ix (.v 1) (.c (.int 1))))) (.cons (.own 2 (.list (.v 0))) (.cons (.sti 2 (.ix (.v 1) (.c (.int 1))) (.ife (.cmp .eq (.ix (.v 1) (.c (.int 0))) (.c (.str (Str.ofString "give")))) (.tup (.cons (.c (.bl true)) (.cons (.bin .add (.tup (.cons (.ix (.v 1) (.c (.int 2))) .nil)) (.v 4)) .nil))) (.tup (.cons (.c (.bl false)) (.cons (.v 4) .nil))))) (.frz 2 (.cons (.ret (.v 2)) .nil))))
def f__law_done : Fn := ⟨2, 5, b__law_done⟩
/-- _law_asks: 0 _law_state, 1 _law_backs, 2 _law_room -/
def b__law_asks : ISs := .cons (.own 1 (.comp (.tup (.cons (.c (.str (Str.ofString "back"))) (.cons (.v 2) .nil))) (.n 2) (.rng1 (.bi .len (.cons (.v 0) .nil))) (.ye (.ix (.ix (.v 0) (.v 2)) (.c (.int 0)))) [2])) (.frz 1 (.cons (.ret (.bin .add (.v 1) (.l (.comp (.tup (.cons (.c (.str (Str.ofString "give"))) (.cons (.v 2) .nil))) (.n 2) (.rng1 (.bi .len (.cons (.v 0) .nil))) (.ye (.not (.ix (.ix (.v 0) (.v 2)) (.c (.int 0))))) [2])))) .nil))
def f__law_asks : Fn := ⟨1, 3, b__law_asks⟩
/-- _law_draw: 0 _law_hand_here, 1 _law_many, 2 _law_number, 3 _law_cell, 4 _law_digit -/
def b__law_draw : ISs := .cons (.ite (.and (.cmp .eq (.ix (.v 0) (.c (.int 2))) (.c (.int 0))) (.cmp .lt (.ix (.v 0) (.c (.int 1))) (.bi .len (.cons (.ix (.v 0) (.c (.int 0))) .nil)))) (.cons (.asg (.n 3) (.ix (.ix (.v 0) (.c (.int 0))) (.ix (.v 0) (.c (.int 1))))) (.cons (.sts (.v 0) (.c (.int 1)) (.bin .add (.ix (.v 0) (.c (.int 1))) (.c (.int 1)))) (.cons (.sts (.v 0) (.c (.int 3)) (.bin .mod (.bi .int (.cons (.bin .add (.bin .add (.bin .mul (.ix (.v 0) (.c (.int 3))) (.c (.int 69621))) (.v 3)) (.c (.int 11))) .nil)) (.c (.int 2147483629)))) (.cons (.ite (.cmp .ge (.v 3) (.bin .pow (.c (.int 10)) (.c (.int 18)))) (.cons (.sts (.v 0) (.c (.int 2)) (.v 3)) .nil) .nil) .nil)))) .nil) (.cons (.ite (.cmp .gt (.ix (.v 0) (.c (.int 2))) (.c (.int 0))) (.cons (.asg (.n 4) (.bin .mod (.bi .int (.cons (.ix (.v 0) (.c (.int 2))) .nil)) (.v 1))) (.cons (.sts (.v 0) (.c (.int 2)) (.bin .fdiv (.ix (.v 0) (.c (.int 2))) (.v 1))) (.cons (.ret (.v 4)) .nil))) .nil) (.cons (.sts (.v 0) (.c (.int 4)) (.bin .add (.ix (.v 0) (.c (.int 4))) (.c (.int 1)))) (.cons (.asg (.n 2) (.bin .mod (.bi .int (.cons (.bin .mul (.bi .int (.cons (.bin .add (.ix (.v 0) (.c (.int 3))) (.bin .mul (.c (.int 7919)) (.ix (.v 0) (.c (.int 4))))) .nil)) (.c (.int 48271))) .nil)) (.c (.int 2147483647)))) (.cons (.asg (.n 2) (.bin .mod (.bi .int (.cons (.bin .mul (.v 2) (.bin .add (.bin .fdiv (.v 2) (.c (.int 1009))) (.c (.int 69621)))) .nil)) (.c (.int 2147483647)))) (.cons (.asg (.n 2) (.bin .mod (.bi .int (.cons (.bin .mul (.v 2) (.bin .add (.bin .fdiv (.v 2) (.c (.int 2003))) (.c (.int 40692)))) .nil)) (.c (.int 2147483399)))) (.cons (.ret (.bin .mod (.bi .int (.cons (.bin .fdiv (.v 2) (.c (.int 16))) .nil)) (.v 1))) .nil))))))
def f__law_draw : Fn := ⟨2, 5, b__law_draw⟩
/-- _law_any: 0 _law_hand_here, 1 _law_items -/
def b__law_any : ISs := .cons (.ret (.ix (.v 1) (.call 22 (.cons (.v 0) (.cons (.bi .len (.cons (.v 1) .nil)) .nil))))) .nil
def f__law_any : Fn := ⟨2, 2, b__law_any⟩
/-- _law_start: 0 _law_parts_here -/
def b__law_start : ISs := .cons (.ret (.bin .mul (.l (.disp (.cons (.tup (.cons (.c (.bl false)) (.cons (.tup .nil) .nil))) .nil))) (.bi .len (.cons (.ix (.v 0) (.c (.int 0))) .nil)))) .nil
def f__law_start : Fn := ⟨1, 1, b__law_start⟩
/-- _law_past: 0 _law_hand_here, 1 _law_parts_here, 2 _law_k, 3 _law_many, 4 _law_careful, 5 _law_turn, 6 _law_state, 7 _law_past_here, 8 _law_deed, 9 _law_left, 10 _law_tag -/
def b__law_past : ISs := .cons (.par [6, 7] (.cons (.call 24 (.cons (.v 1) .nil)) (.cons (.tup .nil) .nil))) (.cons (.for (.n 5) (.rng1 (.v 3)) (.cons (.asg (.n 8) (.call 23 (.cons (.v 0) (.cons (.call 21 (.cons (.v 6) .nil)) .nil)))) (.cons (.ite (.cmp .eq (.ix (.v 8) (.c (.int 0))) (.c (.str (Str.ofString "give")))) (.cons (.own 9 (.comp (.v 10) (.n 10) (.rng1 (.v 2)) (.ye (.cmp .nin (.v 10) (.call 19 (.cons (.v 1) (.cons (.v 6) (.cons (.ix (.v 8) (.c (.int 1))) .nil)))))) [10])) (.frz 9 (.cons (.asg (.n 10) (.call 22 (.cons (.v 0) (.cons (.v 2) .nil)))) (.cons (.ite (.and (.cmp .gt (.bi .len (.cons (.v 9) .nil)) (.c (.int 0))) (.cmp .gt (.call 22 (.cons (.v 0) (.cons (.v 4) .nil))) (.c (.int 0)))) (.cons (.asg (.n 10) (.call 23 (.cons (.v 0) (.cons (.v 9) .nil)))) .nil) .nil) (.cons (.asg (.n 8) (.bin .add (.v 8) (.tup (.cons (.v 10) .nil)))) .nil))))) .nil) (.cons (.par [7, 6] (.cons (.bin .add (.v 7) (.tup (.cons (.v 8) .nil))) (.cons (.call 20 (.cons (.v 6) (.cons (.v 8) .nil))) .nil))) .nil)))) (.cons (.ret (.v 7)) .nil))
def f__law_past : Fn := ⟨5, 11, b__law_past⟩
/-- _law_hand: 0 _law_script, 1 _law_cells, 2 _law_cell -/
def b__law_hand : ISs := .cons (.own 1 (.comp (.bi .abs (.cons (.bi .int (.cons (.v 2) .nil)) .nil)) (.n 2) (.seq (.sl (.v 0) (.no) (.ye (.c (.int 63))))) (.no) [2])) (.frz 1 (.cons (.ret (.sh (.disp (.cons (.v 1) (.cons (.c (.int 0)) (.cons (.c (.int 0)) (.cons (.bin .add (.c (.int 1)) (.bi .len (.cons (.v 1) .nil))) (.cons (.c (.int 0)) .nil)))))))) .nil))
def f__law_hand : Fn := ⟨1, 3, b__law_hand⟩
/-- law: 0 _law_script, 1 _law_hand_here, 2 _law_turn, 3 _law_past_here, 4 _law_parts_here, 5 _law_k, 6 _law_many, 7 _law_careful, 8 _law_web, 9 _law_log, 10 _law_state, 11 _law_clean, 12 _law_at, 13 _law_deed, 14 _law_is_bad, 15 _law_told, 16 _law_looks -/
def b_law : ISs := .cons (.asg (.n 1) (.call 26 (.cons (.v 0) .nil))) (.cons (.for (.n 2) (.rng1 (.c (.int 3))) (.cons (.par [4, 5] (.cons (.call 17 (.cons (.v 1) (.cons (.c (.int 8)) (.cons (.c (.int 3)) .nil)))) (.cons (.bin .add (.c (.int 1)) (.call 22 (.cons (.v 1) (.cons (.c (.int 9)) .nil)))) .nil))) (.cons (.par [6, 7] (.cons (.call 22 (.cons (.v 1) (.cons (.c (.int 41)) .nil))) (.cons (.ix (.l (.disp (.cons (.c (.int 2)) (.cons (.c (.int 8)) (.cons (.c (.int 40)) .nil))))) (.call 22 (.cons (.v 1) (.cons (.c (.int 3)) .nil)))) .nil))) (.cons (.ite (.and (.cmp .eq (.v 2) (.c (.int 0))) (.cmp .eq (.call 22 (.cons (.v 1) (.cons (.c (.int 3)) .nil))) (.c (.int 0)))) (.cons (.par [4, 5, 6, 7] (.cons (.call 9 (.cons (.v 1) (.cons (.c (.int 3)) .nil))) (.cons (.bin .add (.c (.int 8)) (.call 22 (.cons (.v 1) (.cons (.c (.int 38)) .nil)))) (.cons (.bin .add (.c (.int 60)) (.call 22 (.cons (.v 1) (.cons (.c (.int 31)) .nil)))) (.cons (.c (.int 400)) .nil))))) .nil) .nil) (.cons (.asg (.n 3) (.call 25 (.cons (.v 1) (.cons (.v 4) (.cons (.v 5) (.cons (.v 6) (.cons (.v 7) .nil))))))) (.cons (.par [8, 9, 10, 11] (.cons (.call 15 (.cons (.v 4) .nil)) (.cons (.sh (.rep (.l (.disp (.cons (.tup .nil) .nil))) (.bi .len (.cons (.ix (.v 4) (.c (.int 0))) .nil)))) (.cons (.call 24 (.cons (.v 4) .nil)) (.cons (.c (.bl true)) .nil))))) (.cons (.for (.t (.n 12) (.n 13)) (.enum (.v 3)) (.cons (.asg (.n 14) (.and (.cmp .eq (.ix (.v 13) (.c (.int 0))) (.c (.str (Str.ofString "give")))) (.cmp .inn (.ix (.v 13) (.c (.int 2))) (.call 19 (.cons (.v 4) (.cons (.v 10) (.cons (.ix (.v 13) (.c (.int 1))) .nil))))))) (.cons (.asg (.n 10) (.call 20 (.cons (.v 10) (.cons (.v 13) .nil)))) (.cons (.ite (.cmp .eq (.ix (.v 13) (.c (.int 0))) (.c (.str (Str.ofString "give")))) (.cons (.sts (.v 9) (.ix (.v 13) (.c (.int 1))) (.bin .add (.tup (.cons (.ix (.v 13) (.c (.int 2))) .nil)) (.ix (.v 9) (.ix (.v 13) (.c (.int 1)))))) .nil) .nil) (.cons (.par [15, 16] (.cons (.call 8 (.cons (.v 8) (.cons (.sl (.v 3) (.no) (.ye (.bin .add (.v 12) (.c (.int 1))))) .nil))) (.cons (.call 2 (.cons (.v 4) (.cons (.v 9) (.cons (.call 1 (.cons (.v 8) (.cons (.sl (.v 3) (.no) (.ye (.bin .add (.v 12) (.c (.int 1))))) .nil))) .nil)))) .nil))) (.cons (.ite (.and (.v 11) (.and (.v 14) (.or (.cmp .ne (.v 15) (.v 12)) (.cmp .eq (.bi .len (.cons (.v 16) .nil)) (.c (.int 0)))))) (.cons (.ret (.c (.bl false))) .nil) .nil) (.cons (.asg (.n 11) (.and (.v 11) (.not (.v 14)))) (.cons (.ite (.or (.cmp .ne (.v 11) (.isn (.v 15))) (.and (.v 11) (.cmp .gt (.bi .len (.cons (.v 16) .nil)) (.c (.int 0))))) (.cons (.ret (.c (.bl false))) .nil) .nil) .nil)))))))) .nil))))))) (.cons (.ret (.c (.bl true))) .nil))
def f_law : Fn := ⟨1, 17, b_law⟩
def d_raw_standing_of : Df := ⟨((Str.ofString "raw_standing_of"), none), (Str.ofString "raw_standing_of"), (Str.ofString "raw_standing_of"), defArgs (top 18), defBody (top 18), defScope (top 18), [(Str.ofString "web"), (Str.ofString "past"), (Str.ofString "standing"), (Str.ofString "deed")], [(Str.ofString "web"), (Str.ofString "past")], f_raw_standing_of⟩
def d_standing_of : Df := ⟨((Str.ofString "standing_of"), none), (Str.ofString "standing_of"), (Str.ofString "standing_of"), defArgs (top 19), defBody (top 19), defScope (top 19), [(Str.ofString "web"), (Str.ofString "past")], [(Str.ofString "web"), (Str.ofString "past")], f_standing_of⟩
def d__law_let_looks : Df := ⟨((Str.ofString "_law_let_looks"), none), (Str.ofString "_law_let_looks"), (Str.ofString "_law_let_looks"), defArgs (top 34), defBody (top 34), defScope (top 34), [(Str.ofString "_law_parts_here"), (Str.ofString "_law_log"), (Str.ofString "_law_standing"), (Str.ofString "_law_found"), (Str.ofString "_law_room"), (Str.ofString "_law_other"), (Str.ofString "_law_age"), (Str.ofString "_law_held"), (Str.ofString "_law_tags")], [(Str.ofString "_law_parts_here"), (Str.ofString "_law_log"), (Str.ofString "_law_standing")], f__law_let_looks⟩
def d_tied_rooms : Df := ⟨((Str.ofString "tied_rooms"), none), (Str.ofString "tied_rooms"), (Str.ofString "tied_rooms"), defArgs (top 12), defBody (top 12), defScope (top 12), [(Str.ofString "web"), (Str.ofString "room"), (Str.ofString "found"), (Str.ofString "one"), (Str.ofString "other")], [(Str.ofString "web"), (Str.ofString "room")], f_tied_rooms⟩
def d_raw_barred : Df := ⟨((Str.ofString "raw_barred"), none), (Str.ofString "raw_barred"), (Str.ofString "raw_barred"), defArgs (top 17), defBody (top 17), defScope (top 17), [(Str.ofString "web"), (Str.ofString "standing"), (Str.ofString "room"), (Str.ofString "found"), (Str.ofString "other")], [(Str.ofString "web"), (Str.ofString "standing"), (Str.ofString "room")], f_raw_barred⟩
def d_kept_tags : Df := ⟨((Str.ofString "kept_tags"), none), (Str.ofString "kept_tags"), (Str.ofString "kept_tags"), defArgs (top 15), defBody (top 15), defScope (top 15), [(Str.ofString "web"), (Str.ofString "room")], [(Str.ofString "web"), (Str.ofString "room")], f_kept_tags⟩
def d_raw_after : Df := ⟨((Str.ofString "raw_after"), none), (Str.ofString "raw_after"), (Str.ofString "raw_after"), defArgs (top 16), defBody (top 16), defScope (top 16), [(Str.ofString "web"), (Str.ofString "standing"), (Str.ofString "deed"), (Str.ofString "room"), (Str.ofString "tags"), (Str.ofString "here")], [(Str.ofString "web"), (Str.ofString "standing"), (Str.ofString "deed")], f_raw_after⟩
def d_begun : Df := ⟨((Str.ofString "begun"), none), (Str.ofString "begun"), (Str.ofString "begun"), defArgs (top 14), defBody (top 14), defScope (top 14), [(Str.ofString "web")], [(Str.ofString "web")], f_begun⟩
def d_first_barred : Df := ⟨((Str.ofString "first_barred"), none), (Str.ofString "first_barred"), (Str.ofString "first_barred"), defArgs (top 20), defBody (top 20), defScope (top 20), [(Str.ofString "web"), (Str.ofString "past"), (Str.ofString "standing"), (Str.ofString "number"), (Str.ofString "deed")], [(Str.ofString "web"), (Str.ofString "past")], f_first_barred⟩
def d__law_deep_parts : Df := ⟨((Str.ofString "_law_deep_parts"), none), (Str.ofString "_law_deep_parts"), (Str.ofString "_law_deep_parts"), defArgs (top 35), defBody (top 35), defScope (top 35), [(Str.ofString "_law_hand_here"), (Str.ofString "_law_most"), (Str.ofString "_law_many"), (Str.ofString "_law_memories"), (Str.ofString "_law_room")], [(Str.ofString "_law_hand_here"), (Str.ofString "_law_most")], f__law_deep_parts⟩
def d_is_tuple_of : Df := ⟨((Str.ofString "is_tuple_of"), none), (Str.ofString "is_tuple_of"), (Str.ofString "is_tuple_of"), defArgs (top 6), defBody (top 6), defScope (top 6), [(Str.ofString "thing"), (Str.ofString "size")], [(Str.ofString "thing"), (Str.ofString "size")], f_is_tuple_of⟩
def d_is_tie : Df := ⟨((Str.ofString "is_tie"), none), (Str.ofString "is_tie"), (Str.ofString "is_tie"), defArgs (top 10), defBody (top 10), defScope (top 10), [(Str.ofString "thing"), (Str.ofString "many")], [(Str.ofString "thing"), (Str.ofString "many")], f_is_tie⟩
def d_is_integer : Df := ⟨((Str.ofString "is_integer"), none), (Str.ofString "is_integer"), (Str.ofString "is_integer"), defArgs (top 4), defBody (top 4), defScope (top 4), [(Str.ofString "thing")], [(Str.ofString "thing")], f_is_integer⟩
def d_is_within : Df := ⟨((Str.ofString "is_within"), none), (Str.ofString "is_within"), (Str.ofString "is_within"), defArgs (top 5), defBody (top 5), defScope (top 5), [(Str.ofString "thing"), (Str.ofString "least"), (Str.ofString "most")], [(Str.ofString "thing"), (Str.ofString "least"), (Str.ofString "most")], f_is_within⟩
def d_Web___init__ : Df := ⟨((Str.ofString "Web"), some (Str.ofString "__init__")), (Str.ofString "__init__"), (Str.ofString "Web.__init__"), defArgs (meth 11 0), defBody (meth 11 0), defScope (meth 11 0), [(Str.ofString "self"), (Str.ofString "memories"), (Str.ofString "ties"), (Str.ofString "number"), (Str.ofString "tie"), (Str.ofString "memory")], [(Str.ofString "self"), (Str.ofString "memories"), (Str.ofString "ties")], f_Web___init__⟩
def d__law_made : Df := ⟨((Str.ofString "_law_made"), none), (Str.ofString "_law_made"), (Str.ofString "_law_made"), defArgs (top 27), defBody (top 27), defScope (top 27), [(Str.ofString "_law_parts_here")], [(Str.ofString "_law_parts_here")], f__law_made⟩
def d__law_pairs : Df := ⟨((Str.ofString "_law_pairs"), none), (Str.ofString "_law_pairs"), (Str.ofString "_law_pairs"), defArgs (top 25), defBody (top 25), defScope (top 25), [(Str.ofString "_law_many"), (Str.ofString "_law_found"), (Str.ofString "_law_one"), (Str.ofString "_law_other")], [(Str.ofString "_law_many")], f__law_pairs⟩
def d__law_parts : Df := ⟨((Str.ofString "_law_parts"), none), (Str.ofString "_law_parts"), (Str.ofString "_law_parts"), defArgs (top 26), defBody (top 26), defScope (top 26), [(Str.ofString "_law_hand_here"), (Str.ofString "_law_most"), (Str.ofString "_law_memory"), (Str.ofString "_law_memories"), (Str.ofString "_law_pairs_here"), (Str.ofString "_law_many"), (Str.ofString "_law_kind"), (Str.ofString "_law_share"), (Str.ofString "_law_ties"), (Str.ofString "_law_room"), (Str.ofString "_law_pair")], [(Str.ofString "_law_hand_here"), (Str.ofString "_law_most"), (Str.ofString "_law_memory")], f__law_parts⟩
def d__law_near : Df := ⟨((Str.ofString "_law_near"), none), (Str.ofString "_law_near"), (Str.ofString "_law_near"), defArgs (top 28), defBody (top 28), defScope (top 28), [(Str.ofString "_law_parts_here"), (Str.ofString "_law_room"), (Str.ofString "_law_one"), (Str.ofString "_law_other")], [(Str.ofString "_law_parts_here"), (Str.ofString "_law_room")], f__law_near⟩
def d__law_bars : Df := ⟨((Str.ofString "_law_bars"), none), (Str.ofString "_law_bars"), (Str.ofString "_law_bars"), defArgs (top 31), defBody (top 31), defScope (top 31), [(Str.ofString "_law_parts_here"), (Str.ofString "_law_state"), (Str.ofString "_law_room"), (Str.ofString "_law_found"), (Str.ofString "_law_other")], [(Str.ofString "_law_parts_here"), (Str.ofString "_law_state"), (Str.ofString "_law_room")], f__law_bars⟩
def d__law_done : Df := ⟨((Str.ofString "_law_done"), none), (Str.ofString "_law_done"), (Str.ofString "_law_done"), defArgs (top 30), defBody (top 30), defScope (top 30), [(Str.ofString "_law_state"), (Str.ofString "_law_deed"), (Str.ofString "_law_later"), (Str.ofString "_law_held"), (Str.ofString "_law_tags")], [(Str.ofString "_law_state"), (Str.ofString "_law_deed")], f__law_done⟩
def d__law_asks : Df := ⟨((Str.ofString "_law_asks"), none), (Str.ofString "_law_asks"), (Str.ofString "_law_asks"), defArgs (top 32), defBody (top 32), defScope (top 32), [(Str.ofString "_law_state"), (Str.ofString "_law_backs"), (Str.ofString "_law_room")], [(Str.ofString "_law_state")], f__law_asks⟩
def d__law_draw : Df := ⟨((Str.ofString "_law_draw"), none), (Str.ofString "_law_draw"), (Str.ofString "_law_draw"), defArgs (top 23), defBody (top 23), defScope (top 23), [(Str.ofString "_law_hand_here"), (Str.ofString "_law_many"), (Str.ofString "_law_number"), (Str.ofString "_law_cell"), (Str.ofString "_law_digit")], [(Str.ofString "_law_hand_here"), (Str.ofString "_law_many")], f__law_draw⟩
def d__law_any : Df := ⟨((Str.ofString "_law_any"), none), (Str.ofString "_law_any"), (Str.ofString "_law_any"), defArgs (top 24), defBody (top 24), defScope (top 24), [(Str.ofString "_law_hand_here"), (Str.ofString "_law_items")], [(Str.ofString "_law_hand_here"), (Str.ofString "_law_items")], f__law_any⟩
def d__law_start : Df := ⟨((Str.ofString "_law_start"), none), (Str.ofString "_law_start"), (Str.ofString "_law_start"), defArgs (top 29), defBody (top 29), defScope (top 29), [(Str.ofString "_law_parts_here")], [(Str.ofString "_law_parts_here")], f__law_start⟩
def d__law_past : Df := ⟨((Str.ofString "_law_past"), none), (Str.ofString "_law_past"), (Str.ofString "_law_past"), defArgs (top 33), defBody (top 33), defScope (top 33), [(Str.ofString "_law_hand_here"), (Str.ofString "_law_parts_here"), (Str.ofString "_law_k"), (Str.ofString "_law_many"), (Str.ofString "_law_careful"), (Str.ofString "_law_turn"), (Str.ofString "_law_state"), (Str.ofString "_law_past_here"), (Str.ofString "_law_deed"), (Str.ofString "_law_left"), (Str.ofString "_law_tag")], [(Str.ofString "_law_hand_here"), (Str.ofString "_law_parts_here"), (Str.ofString "_law_k"), (Str.ofString "_law_many"), (Str.ofString "_law_careful")], f__law_past⟩
def d__law_hand : Df := ⟨((Str.ofString "_law_hand"), none), (Str.ofString "_law_hand"), (Str.ofString "_law_hand"), defArgs (top 22), defBody (top 22), defScope (top 22), [(Str.ofString "_law_script"), (Str.ofString "_law_cells"), (Str.ofString "_law_cell")], [(Str.ofString "_law_script")], f__law_hand⟩
def d_law : Df := ⟨((Str.ofString "law"), none), (Str.ofString "law"), (Str.ofString "law"), defArgs (top 36), defBody (top 36), defScope (top 36), [(Str.ofString "_law_script"), (Str.ofString "_law_hand_here"), (Str.ofString "_law_turn"), (Str.ofString "_law_past_here"), (Str.ofString "_law_parts_here"), (Str.ofString "_law_k"), (Str.ofString "_law_many"), (Str.ofString "_law_careful"), (Str.ofString "_law_web"), (Str.ofString "_law_log"), (Str.ofString "_law_state"), (Str.ofString "_law_clean"), (Str.ofString "_law_at"), (Str.ofString "_law_deed"), (Str.ofString "_law_is_bad"), (Str.ofString "_law_told"), (Str.ofString "_law_looks")], [(Str.ofString "_law_script")], f_law⟩
def L : Lw where
  names := [(Str.ofString "ties"), (Str.ofString "memories"), (Str.ofString "tuple"), (Str.ofString "bool"), (Str.ofString "int"), (Str.ofString "MOST_ROOMS"), (Str.ofString "MOST_MEMORY"), (Str.ofString "Web")]
  defs := [d_raw_standing_of, d_standing_of, d__law_let_looks, d_tied_rooms, d_raw_barred, d_kept_tags, d_raw_after, d_begun, d_first_barred, d__law_deep_parts, d_is_tuple_of, d_is_tie, d_is_integer, d_is_within, d_Web___init__, d__law_made, d__law_pairs, d__law_parts, d__law_near, d__law_bars, d__law_done, d__law_asks, d__law_draw, d__law_any, d__law_start, d__law_past, d__law_hand, d_law]
  gls := [(2, .ty "tuple"), (3, .ty "bool"), (4, .ty "int"), (5, .int 60), (6, .int 30)]
  cls := [(7, 14)]
  flds := [0, 1]
theorem ok_raw_standing_of : DfOk L.ck d_raw_standing_of := ⟨by decide +kernel, by rfl, by rfl, by decide +kernel, fun _ _ _ _ _ _ us hl => match us, hl with | [_, _], _ => rfl⟩
theorem ok_standing_of : DfOk L.ck d_standing_of := ⟨by decide +kernel, by rfl, by rfl, by decide +kernel, fun _ _ _ _ _ _ us hl => match us, hl with | [_, _], _ => rfl⟩
theorem ok__law_let_looks : DfOk L.ck d__law_let_looks := ⟨by decide +kernel, by rfl, by rfl, by decide +kernel, fun _ _ _ _ _ _ us hl => match us, hl with | [_, _, _], _ => rfl⟩
theorem ok_tied_rooms : DfOk L.ck d_tied_rooms := ⟨by decide +kernel, by rfl, by rfl, by decide +kernel, fun _ _ _ _ _ _ us hl => match us, hl with | [_, _], _ => rfl⟩
theorem ok_raw_barred : DfOk L.ck d_raw_barred := ⟨by decide +kernel, by rfl, by rfl, by decide +kernel, fun _ _ _ _ _ _ us hl => match us, hl with | [_, _, _], _ => rfl⟩
theorem ok_kept_tags : DfOk L.ck d_kept_tags := ⟨by decide +kernel, by rfl, by rfl, by decide +kernel, fun _ _ _ _ _ _ us hl => match us, hl with | [_, _], _ => rfl⟩
theorem ok_raw_after : DfOk L.ck d_raw_after := ⟨by decide +kernel, by rfl, by rfl, by decide +kernel, fun _ _ _ _ _ _ us hl => match us, hl with | [_, _, _], _ => rfl⟩
theorem ok_begun : DfOk L.ck d_begun := ⟨by decide +kernel, by rfl, by rfl, by decide +kernel, fun _ _ _ _ _ _ us hl => match us, hl with | [_], _ => rfl⟩
theorem ok_first_barred : DfOk L.ck d_first_barred := ⟨by decide +kernel, by rfl, by rfl, by decide +kernel, fun _ _ _ _ _ _ us hl => match us, hl with | [_, _], _ => rfl⟩
theorem ok__law_deep_parts : DfOk L.ck d__law_deep_parts := ⟨by decide +kernel, by rfl, by rfl, by decide +kernel, fun _ _ _ _ _ _ us hl => match us, hl with | [_, _], _ => rfl⟩
theorem ok_is_tuple_of : DfOk L.ck d_is_tuple_of := ⟨by decide +kernel, by rfl, by rfl, by decide +kernel, fun _ _ _ _ _ _ us hl => match us, hl with | [_, _], _ => rfl⟩
theorem ok_is_tie : DfOk L.ck d_is_tie := ⟨by decide +kernel, by rfl, by rfl, by decide +kernel, fun _ _ _ _ _ _ us hl => match us, hl with | [_, _], _ => rfl⟩
theorem ok_is_integer : DfOk L.ck d_is_integer := ⟨by decide +kernel, by rfl, by rfl, by decide +kernel, fun _ _ _ _ _ _ us hl => match us, hl with | [_], _ => rfl⟩
theorem ok_is_within : DfOk L.ck d_is_within := ⟨by decide +kernel, by rfl, by rfl, by decide +kernel, fun _ _ _ _ _ _ us hl => match us, hl with | [_, _, _], _ => rfl⟩
theorem ok_Web___init__ : DfOk L.ck d_Web___init__ := ⟨by decide +kernel, by rfl, by rfl, by decide +kernel, fun _ _ _ _ _ _ us hl => match us, hl with | [_, _, _], _ => rfl⟩
theorem ok__law_made : DfOk L.ck d__law_made := ⟨by decide +kernel, by rfl, by rfl, by decide +kernel, fun _ _ _ _ _ _ us hl => match us, hl with | [_], _ => rfl⟩
theorem ok__law_pairs : DfOk L.ck d__law_pairs := ⟨by decide +kernel, by rfl, by rfl, by decide +kernel, fun _ _ _ _ _ _ us hl => match us, hl with | [_], _ => rfl⟩
theorem ok__law_parts : DfOk L.ck d__law_parts := ⟨by decide +kernel, by rfl, by rfl, by decide +kernel, fun _ _ _ _ _ _ us hl => match us, hl with | [_, _, _], _ => rfl⟩
theorem ok__law_near : DfOk L.ck d__law_near := ⟨by decide +kernel, by rfl, by rfl, by decide +kernel, fun _ _ _ _ _ _ us hl => match us, hl with | [_, _], _ => rfl⟩
theorem ok__law_bars : DfOk L.ck d__law_bars := ⟨by decide +kernel, by rfl, by rfl, by decide +kernel, fun _ _ _ _ _ _ us hl => match us, hl with | [_, _, _], _ => rfl⟩
theorem ok__law_done : DfOk L.ck d__law_done := ⟨by decide +kernel, by rfl, by rfl, by decide +kernel, fun _ _ _ _ _ _ us hl => match us, hl with | [_, _], _ => rfl⟩
theorem ok__law_asks : DfOk L.ck d__law_asks := ⟨by decide +kernel, by rfl, by rfl, by decide +kernel, fun _ _ _ _ _ _ us hl => match us, hl with | [_], _ => rfl⟩
theorem ok__law_draw : DfOk L.ck d__law_draw := ⟨by decide +kernel, by rfl, by rfl, by decide +kernel, fun _ _ _ _ _ _ us hl => match us, hl with | [_, _], _ => rfl⟩
theorem ok__law_any : DfOk L.ck d__law_any := ⟨by decide +kernel, by rfl, by rfl, by decide +kernel, fun _ _ _ _ _ _ us hl => match us, hl with | [_, _], _ => rfl⟩
theorem ok__law_start : DfOk L.ck d__law_start := ⟨by decide +kernel, by rfl, by rfl, by decide +kernel, fun _ _ _ _ _ _ us hl => match us, hl with | [_], _ => rfl⟩
theorem ok__law_past : DfOk L.ck d__law_past := ⟨by decide +kernel, by rfl, by rfl, by decide +kernel, fun _ _ _ _ _ _ us hl => match us, hl with | [_, _, _, _, _], _ => rfl⟩
theorem ok__law_hand : DfOk L.ck d__law_hand := ⟨by decide +kernel, by rfl, by rfl, by decide +kernel, fun _ _ _ _ _ _ us hl => match us, hl with | [_], _ => rfl⟩
theorem ok_law : DfOk L.ck d_law := ⟨by decide +kernel, by rfl, by rfl, by decide +kernel, fun _ _ _ _ _ _ us hl => match us, hl with | [_], _ => rfl⟩
theorem all_ok : AllOk L.ck L.defs := ⟨ok_raw_standing_of, ok_standing_of, ok__law_let_looks, ok_tied_rooms, ok_raw_barred, ok_kept_tags, ok_raw_after, ok_begun, ok_first_barred, ok__law_deep_parts, ok_is_tuple_of, ok_is_tie, ok_is_integer, ok_is_within, ok_Web___init__, ok__law_made, ok__law_pairs, ok__law_parts, ok__law_near, ok__law_bars, ok__law_done, ok__law_asks, ok__law_draw, ok__law_any, ok__law_start, ok__law_past, ok__law_hand, ok_law, trivial⟩
theorem chk_ok : L.chk = true := by decide +kernel
end Qv.Law
set_option Elab.async false
set_option linter.all false
set_option maxRecDepth 100000
set_option maxHeartbeats 4000000
namespace Qv.Law
open Qv

def hd (cells : List Int) (p : Nat) (w s c : Int) : Ob := .lst [.lst (cells.map .int), .int p, .int w, .int s, .int c]
theorem mulL {i j : Int} (h : -(2 ^ 64) < i ∧ i < 2 ^ 64) : mulOk i j := .inl h
theorem mulR {i j : Int} (h : -(2 ^ 64) < j ∧ j < 2 ^ 64) : mulOk i j := .inr h
/-- what a drawn number is -/
def DrawR (cells : List Int) (many : Int) (S : Sh) (d : D) (S' : Sh) : Prop := ∃ n p' w' s' c', d = .int n ∧ S' = hd cells p' w' s' c' :: S ∧ 0 ≤ n ∧ n < many ∧ 0 ≤ w'
def DrawM (cells : List Int) (many c : Int) (S : Sh) (f : Fl) (E : En) (S' : Sh) : Prop := f = .nx ∧ ∃ p w s x3, E = [some (.v (.ref 0)), some (.v (.int many)), none, x3, none] ∧ S' = hd cells p w s c :: S ∧ 0 ≤ w
theorem draw_ok (k : Nat) (cells : List Int) (hc : ∀ x ∈ cells, 0 ≤ x) (p : Nat) (w s c : Int) (hw : 0 ≤ w) (many : Int) (h1 : 0 < many) (h2 : many < 1073741824) (S : Sh) :
    Ok (callAt L.pg (k + 1) 22 [.ref 0, .int many] (hd cells p w s c :: S)) (DrawR cells many S) := by
  refine fn_W (fn := f__law_draw) rfl rfl ?_
  unfold f__law_draw b__law_draw
  refine b_consR (DrawM cells many c S) ?_ ?_
  · unfold hd
    try simp only [wpS, wpT, wpE, wpO, wpEs, wpAs, wpL, wpC, wpI, wpG, wpPar, wpSE, brwW, slotV, slotA, List.getElem?_cons_zero, List.getElem?_cons_succ, List.set_cons_zero, List.set_cons_succ, drf_int, drf_bl, drf_non, drf_str, drf_tup, drf_lst, drf_scr, drf_set, drf_ty, drf_ins, drf_glo, drf_0, ixL0, ixL1, ixL2, ixL3, ixL4, ixT0, ixT1, ixT2, ixAt0, ixAt1, ixAt2, ixAt3, ixAt4, tru_bl, tru_int, tru_tup, tru_lst, c_eq_int, c_ne_int, c_lt, c_le, c_gt, c_ge, c_in2, c_inL, c_inT, c_ninT, c_eq_bl, c_ne_bl, b_len_l, b_len_t, b_len_s, b_abs, b_int, b_tup_l, b_tup_t, b_max, b_min, o_add, o_sub, o_mul, o_fdiv, o_mod, o_pow, o_catT, o_catL, o_repT, o_repL, o_repL2, s_tupX, s_lstX, s_scrX, q_tup, q_lst, qi_tup, qi_lst, qi_scr, at_ins, isNon_int, isNon_non, wpN_nx, wpN_ret, wpN_brk, wpN_cnt, trn_nx, trn_cnt, trn_brk, trn_ret, List.map_cons, List.map_nil, List.length_cons, List.length_nil, Nat.zero_add, Nat.reduceAdd, Nat.reduceLT, true_and, and_true, Option.some.injEq, exists_eq_left', exists_eq_left, exists_and_left, Sl.ol.injEq, Sl.v.injEq, Sl.os.injEq, D.int.injEq, D.bl.injEq, D.tup.injEq, D.lst.injEq, D.ref.injEq, Ob.lst.injEq, List.cons.injEq, decide_eq_true_eq, Bool.not_eq_true', decide_eq_false_iff_not, bne_iff_ne, ne_eq, if_true, if_false, Bool.false_eq_true, Bool.true_eq_false, reduceIte, Bool.not_true, Bool.not_false, decide_true, decide_false, not_true_eq_false, not_false_eq_true, ex2, ex3, lim0, lim1, lim2, lim3, lim4, List.cons_append, List.nil_append, List.map, List.replicate]
    split
    · split
      · rename_i hp
        have hp : p < cells.length := by simpa using hp
        have e0 : (cells.map D.int)[p]? = some (.int cells[p]) := by simp [hp]
        have hx : 0 ≤ cells[p] := hc _ (List.getElem_mem hp)
        refine b_consW ?_
        try simp only [ixLn e0, wpS, wpT, wpE, wpO, wpEs, wpAs, wpL, wpC, wpI, wpG, wpPar, wpSE, brwW, slotV, slotA, List.getElem?_cons_zero, List.getElem?_cons_succ, List.set_cons_zero, List.set_cons_succ, drf_int, drf_bl, drf_non, drf_str, drf_tup, drf_lst, drf_scr, drf_set, drf_ty, drf_ins, drf_glo, drf_0, ixL0, ixL1, ixL2, ixL3, ixL4, ixT0, ixT1, ixT2, ixAt0, ixAt1, ixAt2, ixAt3, ixAt4, tru_bl, tru_int, tru_tup, tru_lst, c_eq_int, c_ne_int, c_lt, c_le, c_gt, c_ge, c_in2, c_inL, c_inT, c_ninT, c_eq_bl, c_ne_bl, b_len_l, b_len_t, b_len_s, b_abs, b_int, b_tup_l, b_tup_t, b_max, b_min, o_add, o_sub, o_mul, o_fdiv, o_mod, o_pow, o_catT, o_catL, o_repT, o_repL, o_repL2, s_tupX, s_lstX, s_scrX, q_tup, q_lst, qi_tup, qi_lst, qi_scr, at_ins, isNon_int, isNon_non, wpN_nx, wpN_ret, wpN_brk, wpN_cnt, trn_nx, trn_cnt, trn_brk, trn_ret, List.map_cons, List.map_nil, List.length_cons, List.length_nil, Nat.zero_add, Nat.reduceAdd, Nat.reduceLT, true_and, and_true, Option.some.injEq, exists_eq_left', exists_eq_left, exists_and_left, Sl.ol.injEq, Sl.v.injEq, Sl.os.injEq, D.int.injEq, D.bl.injEq, D.tup.injEq, D.lst.injEq, D.ref.injEq, Ob.lst.injEq, List.cons.injEq, decide_eq_true_eq, Bool.not_eq_true', decide_eq_false_iff_not, bne_iff_ne, ne_eq, if_true, if_false, Bool.false_eq_true, Bool.true_eq_false, reduceIte, Bool.not_true, Bool.not_false, decide_true, decide_false, not_true_eq_false, not_false_eq_true, ex2, ex3, lim0, lim1, lim2, lim3, lim4, List.cons_append, List.nil_append, List.map, List.replicate]
        refine b_consW ?_
        try simp only [wpS, wpT, wpE, wpO, wpEs, wpAs, wpL, wpC, wpI, wpG, wpPar, wpSE, brwW, slotV, slotA, List.getElem?_cons_zero, List.getElem?_cons_succ, List.set_cons_zero, List.set_cons_succ, drf_int, drf_bl, drf_non, drf_str, drf_tup, drf_lst, drf_scr, drf_set, drf_ty, drf_ins, drf_glo, drf_0, ixL0, ixL1, ixL2, ixL3, ixL4, ixT0, ixT1, ixT2, ixAt0, ixAt1, ixAt2, ixAt3, ixAt4, tru_bl, tru_int, tru_tup, tru_lst, c_eq_int, c_ne_int, c_lt, c_le, c_gt, c_ge, c_in2, c_inL, c_inT, c_ninT, c_eq_bl, c_ne_bl, b_len_l, b_len_t, b_len_s, b_abs, b_int, b_tup_l, b_tup_t, b_max, b_min, o_add, o_sub, o_mul, o_fdiv, o_mod, o_pow, o_catT, o_catL, o_repT, o_repL, o_repL2, s_tupX, s_lstX, s_scrX, q_tup, q_lst, qi_tup, qi_lst, qi_scr, at_ins, isNon_int, isNon_non, wpN_nx, wpN_ret, wpN_brk, wpN_cnt, trn_nx, trn_cnt, trn_brk, trn_ret, List.map_cons, List.map_nil, List.length_cons, List.length_nil, Nat.zero_add, Nat.reduceAdd, Nat.reduceLT, true_and, and_true, Option.some.injEq, exists_eq_left', exists_eq_left, exists_and_left, Sl.ol.injEq, Sl.v.injEq, Sl.os.injEq, D.int.injEq, D.bl.injEq, D.tup.injEq, D.lst.injEq, D.ref.injEq, Ob.lst.injEq, List.cons.injEq, decide_eq_true_eq, Bool.not_eq_true', decide_eq_false_iff_not, bne_iff_ne, ne_eq, if_true, if_false, Bool.false_eq_true, Bool.true_eq_false, reduceIte, Bool.not_true, Bool.not_false, decide_true, decide_false, not_true_eq_false, not_false_eq_true, ex2, ex3, lim0, lim1, lim2, lim3, lim4, List.cons_append, List.nil_append, List.map, List.replicate]
        have ep : (p : Int) + 1 = ((p + 1 : Nat) : Int) := by omega
        rw [ep]
        refine b_consW ?_
        try simp only [wpS, wpT, wpE, wpO, wpEs, wpAs, wpL, wpC, wpI, wpG, wpPar, wpSE, brwW, slotV, slotA, List.getElem?_cons_zero, List.getElem?_cons_succ, List.set_cons_zero, List.set_cons_succ, drf_int, drf_bl, drf_non, drf_str, drf_tup, drf_lst, drf_scr, drf_set, drf_ty, drf_ins, drf_glo, drf_0, ixL0, ixL1, ixL2, ixL3, ixL4, ixT0, ixT1, ixT2, ixAt0, ixAt1, ixAt2, ixAt3, ixAt4, tru_bl, tru_int, tru_tup, tru_lst, c_eq_int, c_ne_int, c_lt, c_le, c_gt, c_ge, c_in2, c_inL, c_inT, c_ninT, c_eq_bl, c_ne_bl, b_len_l, b_len_t, b_len_s, b_abs, b_int, b_tup_l, b_tup_t, b_max, b_min, o_add, o_sub, o_mul, o_fdiv, o_mod, o_pow, o_catT, o_catL, o_repT, o_repL, o_repL2, s_tupX, s_lstX, s_scrX, q_tup, q_lst, qi_tup, qi_lst, qi_scr, at_ins, isNon_int, isNon_non, wpN_nx, wpN_ret, wpN_brk, wpN_cnt, trn_nx, trn_cnt, trn_brk, trn_ret, List.map_cons, List.map_nil, List.length_cons, List.length_nil, Nat.zero_add, Nat.reduceAdd, Nat.reduceLT, true_and, and_true, Option.some.injEq, exists_eq_left', exists_eq_left, exists_and_left, Sl.ol.injEq, Sl.v.injEq, Sl.os.injEq, D.int.injEq, D.bl.injEq, D.tup.injEq, D.lst.injEq, D.ref.injEq, Ob.lst.injEq, List.cons.injEq, decide_eq_true_eq, Bool.not_eq_true', decide_eq_false_iff_not, bne_iff_ne, ne_eq, if_true, if_false, Bool.false_eq_true, Bool.true_eq_false, reduceIte, Bool.not_true, Bool.not_false, decide_true, decide_false, not_true_eq_false, not_false_eq_true, ex2, ex3, lim0, lim1, lim2, lim3, lim4, List.cons_append, List.nil_append, List.map, List.replicate]
        refine ⟨mulR (by omega), by omega, ?_⟩
        refine b_consW ?_
        try simp only [wpS, wpT, wpE, wpO, wpEs, wpAs, wpL, wpC, wpI, wpG, wpPar, wpSE, brwW, slotV, slotA, List.getElem?_cons_zero, List.getElem?_cons_succ, List.set_cons_zero, List.set_cons_succ, drf_int, drf_bl, drf_non, drf_str, drf_tup, drf_lst, drf_scr, drf_set, drf_ty, drf_ins, drf_glo, drf_0, ixL0, ixL1, ixL2, ixL3, ixL4, ixT0, ixT1, ixT2, ixAt0, ixAt1, ixAt2, ixAt3, ixAt4, tru_bl, tru_int, tru_tup, tru_lst, c_eq_int, c_ne_int, c_lt, c_le, c_gt, c_ge, c_in2, c_inL, c_inT, c_ninT, c_eq_bl, c_ne_bl, b_len_l, b_len_t, b_len_s, b_abs, b_int, b_tup_l, b_tup_t, b_max, b_min, o_add, o_sub, o_mul, o_fdiv, o_mod, o_pow, o_catT, o_catL, o_repT, o_repL, o_repL2, s_tupX, s_lstX, s_scrX, q_tup, q_lst, qi_tup, qi_lst, qi_scr, at_ins, isNon_int, isNon_non, wpN_nx, wpN_ret, wpN_brk, wpN_cnt, trn_nx, trn_cnt, trn_brk, trn_ret, List.map_cons, List.map_nil, List.length_cons, List.length_nil, Nat.zero_add, Nat.reduceAdd, Nat.reduceLT, true_and, and_true, Option.some.injEq, exists_eq_left', exists_eq_left, exists_and_left, Sl.ol.injEq, Sl.v.injEq, Sl.os.injEq, D.int.injEq, D.bl.injEq, D.tup.injEq, D.lst.injEq, D.ref.injEq, Ob.lst.injEq, List.cons.injEq, decide_eq_true_eq, Bool.not_eq_true', decide_eq_false_iff_not, bne_iff_ne, ne_eq, if_true, if_false, Bool.false_eq_true, Bool.true_eq_false, reduceIte, Bool.not_true, Bool.not_false, decide_true, decide_false, not_true_eq_false, not_false_eq_true, ex2, ex3, lim0, lim1, lim2, lim3, lim4, List.cons_append, List.nil_append, List.map, List.replicate]
        refine ⟨by decide, ?_⟩
        split
        · refine b_consW ?_
          try simp only [wpS, wpT, wpE, wpO, wpEs, wpAs, wpL, wpC, wpI, wpG, wpPar, wpSE, brwW, slotV, slotA, List.getElem?_cons_zero, List.getElem?_cons_succ, List.set_cons_zero, List.set_cons_succ, drf_int, drf_bl, drf_non, drf_str, drf_tup, drf_lst, drf_scr, drf_set, drf_ty, drf_ins, drf_glo, drf_0, ixL0, ixL1, ixL2, ixL3, ixL4, ixT0, ixT1, ixT2, ixAt0, ixAt1, ixAt2, ixAt3, ixAt4, tru_bl, tru_int, tru_tup, tru_lst, c_eq_int, c_ne_int, c_lt, c_le, c_gt, c_ge, c_in2, c_inL, c_inT, c_ninT, c_eq_bl, c_ne_bl, b_len_l, b_len_t, b_len_s, b_abs, b_int, b_tup_l, b_tup_t, b_max, b_min, o_add, o_sub, o_mul, o_fdiv, o_mod, o_pow, o_catT, o_catL, o_repT, o_repL, o_repL2, s_tupX, s_lstX, s_scrX, q_tup, q_lst, qi_tup, qi_lst, qi_scr, at_ins, isNon_int, isNon_non, wpN_nx, wpN_ret, wpN_brk, wpN_cnt, trn_nx, trn_cnt, trn_brk, trn_ret, List.map_cons, List.map_nil, List.length_cons, List.length_nil, Nat.zero_add, Nat.reduceAdd, Nat.reduceLT, true_and, and_true, Option.some.injEq, exists_eq_left', exists_eq_left, exists_and_left, Sl.ol.injEq, Sl.v.injEq, Sl.os.injEq, D.int.injEq, D.bl.injEq, D.tup.injEq, D.lst.injEq, D.ref.injEq, Ob.lst.injEq, List.cons.injEq, decide_eq_true_eq, Bool.not_eq_true', decide_eq_false_iff_not, bne_iff_ne, ne_eq, if_true, if_false, Bool.false_eq_true, Bool.true_eq_false, reduceIte, Bool.not_true, Bool.not_false, decide_true, decide_false, not_true_eq_false, not_false_eq_true, ex2, ex3, lim0, lim1, lim2, lim3, lim4, List.cons_append, List.nil_append, List.map, List.replicate]
          exact b_nilN (b_nilW ⟨rfl, _, _, _, _, rfl, rfl, hx⟩)
        · exact b_nilN (b_nilW ⟨rfl, _, _, _, _, rfl, rfl, hw⟩)
      · exact b_nilW ⟨rfl, _, _, _, _, rfl, rfl, hw⟩
    · exact b_nilW ⟨rfl, _, _, _, _, rfl, rfl, hw⟩
  · rintro f E S' ⟨rfl, p, w, s, x3, rfl, rfl, hw⟩
    rw [wpN_nx]
    unfold hd
    refine b_consW ?_
    try simp only [wpS, wpT, wpE, wpO, wpEs, wpAs, wpL, wpC, wpI, wpG, wpPar, wpSE, brwW, slotV, slotA, List.getElem?_cons_zero, List.getElem?_cons_succ, List.set_cons_zero, List.set_cons_succ, drf_int, drf_bl, drf_non, drf_str, drf_tup, drf_lst, drf_scr, drf_set, drf_ty, drf_ins, drf_glo, drf_0, ixL0, ixL1, ixL2, ixL3, ixL4, ixT0, ixT1, ixT2, ixAt0, ixAt1, ixAt2, ixAt3, ixAt4, tru_bl, tru_int, tru_tup, tru_lst, c_eq_int, c_ne_int, c_lt, c_le, c_gt, c_ge, c_in2, c_inL, c_inT, c_ninT, c_eq_bl, c_ne_bl, b_len_l, b_len_t, b_len_s, b_abs, b_int, b_tup_l, b_tup_t, b_max, b_min, o_add, o_sub, o_mul, o_fdiv, o_mod, o_pow, o_catT, o_catL, o_repT, o_repL, o_repL2, s_tupX, s_lstX, s_scrX, q_tup, q_lst, qi_tup, qi_lst, qi_scr, at_ins, isNon_int, isNon_non, wpN_nx, wpN_ret, wpN_brk, wpN_cnt, trn_nx, trn_cnt, trn_brk, trn_ret, List.map_cons, List.map_nil, List.length_cons, List.length_nil, Nat.zero_add, Nat.reduceAdd, Nat.reduceLT, true_and, and_true, Option.some.injEq, exists_eq_left', exists_eq_left, exists_and_left, Sl.ol.injEq, Sl.v.injEq, Sl.os.injEq, D.int.injEq, D.bl.injEq, D.tup.injEq, D.lst.injEq, D.ref.injEq, Ob.lst.injEq, List.cons.injEq, decide_eq_true_eq, Bool.not_eq_true', decide_eq_false_iff_not, bne_iff_ne, ne_eq, if_true, if_false, Bool.false_eq_true, Bool.true_eq_false, reduceIte, Bool.not_true, Bool.not_false, decide_true, decide_false, not_true_eq_false, not_false_eq_true, ex2, ex3, lim0, lim1, lim2, lim3, lim4, List.cons_append, List.nil_append, List.map, List.replicate]
    split
    · refine b_consW ?_
      try simp only [wpS, wpT, wpE, wpO, wpEs, wpAs, wpL, wpC, wpI, wpG, wpPar, wpSE, brwW, slotV, slotA, List.getElem?_cons_zero, List.getElem?_cons_succ, List.set_cons_zero, List.set_cons_succ, drf_int, drf_bl, drf_non, drf_str, drf_tup, drf_lst, drf_scr, drf_set, drf_ty, drf_ins, drf_glo, drf_0, ixL0, ixL1, ixL2, ixL3, ixL4, ixT0, ixT1, ixT2, ixAt0, ixAt1, ixAt2, ixAt3, ixAt4, tru_bl, tru_int, tru_tup, tru_lst, c_eq_int, c_ne_int, c_lt, c_le, c_gt, c_ge, c_in2, c_inL, c_inT, c_ninT, c_eq_bl, c_ne_bl, b_len_l, b_len_t, b_len_s, b_abs, b_int, b_tup_l, b_tup_t, b_max, b_min, o_add, o_sub, o_mul, o_fdiv, o_mod, o_pow, o_catT, o_catL, o_repT, o_repL, o_repL2, s_tupX, s_lstX, s_scrX, q_tup, q_lst, qi_tup, qi_lst, qi_scr, at_ins, isNon_int, isNon_non, wpN_nx, wpN_ret, wpN_brk, wpN_cnt, trn_nx, trn_cnt, trn_brk, trn_ret, List.map_cons, List.map_nil, List.length_cons, List.length_nil, Nat.zero_add, Nat.reduceAdd, Nat.reduceLT, true_and, and_true, Option.some.injEq, exists_eq_left', exists_eq_left, exists_and_left, Sl.ol.injEq, Sl.v.injEq, Sl.os.injEq, D.int.injEq, D.bl.injEq, D.tup.injEq, D.lst.injEq, D.ref.injEq, Ob.lst.injEq, List.cons.injEq, decide_eq_true_eq, Bool.not_eq_true', decide_eq_false_iff_not, bne_iff_ne, ne_eq, if_true, if_false, Bool.false_eq_true, Bool.true_eq_false, reduceIte, Bool.not_true, Bool.not_false, decide_true, decide_false, not_true_eq_false, not_false_eq_true, ex2, ex3, lim0, lim1, lim2, lim3, lim4, List.cons_append, List.nil_append, List.map, List.replicate]
      refine ⟨h1, ?_⟩
      refine b_consW ?_
      try simp only [wpS, wpT, wpE, wpO, wpEs, wpAs, wpL, wpC, wpI, wpG, wpPar, wpSE, brwW, slotV, slotA, List.getElem?_cons_zero, List.getElem?_cons_succ, List.set_cons_zero, List.set_cons_succ, drf_int, drf_bl, drf_non, drf_str, drf_tup, drf_lst, drf_scr, drf_set, drf_ty, drf_ins, drf_glo, drf_0, ixL0, ixL1, ixL2, ixL3, ixL4, ixT0, ixT1, ixT2, ixAt0, ixAt1, ixAt2, ixAt3, ixAt4, tru_bl, tru_int, tru_tup, tru_lst, c_eq_int, c_ne_int, c_lt, c_le, c_gt, c_ge, c_in2, c_inL, c_inT, c_ninT, c_eq_bl, c_ne_bl, b_len_l, b_len_t, b_len_s, b_abs, b_int, b_tup_l, b_tup_t, b_max, b_min, o_add, o_sub, o_mul, o_fdiv, o_mod, o_pow, o_catT, o_catL, o_repT, o_repL, o_repL2, s_tupX, s_lstX, s_scrX, q_tup, q_lst, qi_tup, qi_lst, qi_scr, at_ins, isNon_int, isNon_non, wpN_nx, wpN_ret, wpN_brk, wpN_cnt, trn_nx, trn_cnt, trn_brk, trn_ret, List.map_cons, List.map_nil, List.length_cons, List.length_nil, Nat.zero_add, Nat.reduceAdd, Nat.reduceLT, true_and, and_true, Option.some.injEq, exists_eq_left', exists_eq_left, exists_and_left, Sl.ol.injEq, Sl.v.injEq, Sl.os.injEq, D.int.injEq, D.bl.injEq, D.tup.injEq, D.lst.injEq, D.ref.injEq, Ob.lst.injEq, List.cons.injEq, decide_eq_true_eq, Bool.not_eq_true', decide_eq_false_iff_not, bne_iff_ne, ne_eq, if_true, if_false, Bool.false_eq_true, Bool.true_eq_false, reduceIte, Bool.not_true, Bool.not_false, decide_true, decide_false, not_true_eq_false, not_false_eq_true, ex2, ex3, lim0, lim1, lim2, lim3, lim4, List.cons_append, List.nil_append, List.map, List.replicate]
      refine ⟨⟨h1, h2⟩, ?_⟩
      refine b_consW ?_
      try simp only [wpS, wpT, wpE, wpO, wpEs, wpAs, wpL, wpC, wpI, wpG, wpPar, wpSE, brwW, slotV, slotA, List.getElem?_cons_zero, List.getElem?_cons_succ, List.set_cons_zero, List.set_cons_succ, drf_int, drf_bl, drf_non, drf_str, drf_tup, drf_lst, drf_scr, drf_set, drf_ty, drf_ins, drf_glo, drf_0, ixL0, ixL1, ixL2, ixL3, ixL4, ixT0, ixT1, ixT2, ixAt0, ixAt1, ixAt2, ixAt3, ixAt4, tru_bl, tru_int, tru_tup, tru_lst, c_eq_int, c_ne_int, c_lt, c_le, c_gt, c_ge, c_in2, c_inL, c_inT, c_ninT, c_eq_bl, c_ne_bl, b_len_l, b_len_t, b_len_s, b_abs, b_int, b_tup_l, b_tup_t, b_max, b_min, o_add, o_sub, o_mul, o_fdiv, o_mod, o_pow, o_catT, o_catL, o_repT, o_repL, o_repL2, s_tupX, s_lstX, s_scrX, q_tup, q_lst, qi_tup, qi_lst, qi_scr, at_ins, isNon_int, isNon_non, wpN_nx, wpN_ret, wpN_brk, wpN_cnt, trn_nx, trn_cnt, trn_brk, trn_ret, List.map_cons, List.map_nil, List.length_cons, List.length_nil, Nat.zero_add, Nat.reduceAdd, Nat.reduceLT, true_and, and_true, Option.some.injEq, exists_eq_left', exists_eq_left, exists_and_left, Sl.ol.injEq, Sl.v.injEq, Sl.os.injEq, D.int.injEq, D.bl.injEq, D.tup.injEq, D.lst.injEq, D.ref.injEq, Ob.lst.injEq, List.cons.injEq, decide_eq_true_eq, Bool.not_eq_true', decide_eq_false_iff_not, bne_iff_ne, ne_eq, if_true, if_false, Bool.false_eq_true, Bool.true_eq_false, reduceIte, Bool.not_true, Bool.not_false, decide_true, decide_false, not_true_eq_false, not_false_eq_true, ex2, ex3, lim0, lim1, lim2, lim3, lim4, List.cons_append, List.nil_append, List.map, List.replicate]
      exact ⟨_, _, _, _, _, rfl, rfl, Int.emod_nonneg _ (by omega), Int.emod_lt_of_pos _ h1, Int.ediv_nonneg hw (by omega)⟩
    · refine b_nilN ?_
      refine b_consW ?_
      try simp only [wpS, wpT, wpE, wpO, wpEs, wpAs, wpL, wpC, wpI, wpG, wpPar, wpSE, brwW, slotV, slotA, List.getElem?_cons_zero, List.getElem?_cons_succ, List.set_cons_zero, List.set_cons_succ, drf_int, drf_bl, drf_non, drf_str, drf_tup, drf_lst, drf_scr, drf_set, drf_ty, drf_ins, drf_glo, drf_0, ixL0, ixL1, ixL2, ixL3, ixL4, ixT0, ixT1, ixT2, ixAt0, ixAt1, ixAt2, ixAt3, ixAt4, tru_bl, tru_int, tru_tup, tru_lst, c_eq_int, c_ne_int, c_lt, c_le, c_gt, c_ge, c_in2, c_inL, c_inT, c_ninT, c_eq_bl, c_ne_bl, b_len_l, b_len_t, b_len_s, b_abs, b_int, b_tup_l, b_tup_t, b_max, b_min, o_add, o_sub, o_mul, o_fdiv, o_mod, o_pow, o_catT, o_catL, o_repT, o_repL, o_repL2, s_tupX, s_lstX, s_scrX, q_tup, q_lst, qi_tup, qi_lst, qi_scr, at_ins, isNon_int, isNon_non, wpN_nx, wpN_ret, wpN_brk, wpN_cnt, trn_nx, trn_cnt, trn_brk, trn_ret, List.map_cons, List.map_nil, List.length_cons, List.length_nil, Nat.zero_add, Nat.reduceAdd, Nat.reduceLT, true_and, and_true, Option.some.injEq, exists_eq_left', exists_eq_left, exists_and_left, Sl.ol.injEq, Sl.v.injEq, Sl.os.injEq, D.int.injEq, D.bl.injEq, D.tup.injEq, D.lst.injEq, D.ref.injEq, Ob.lst.injEq, List.cons.injEq, decide_eq_true_eq, Bool.not_eq_true', decide_eq_false_iff_not, bne_iff_ne, ne_eq, if_true, if_false, Bool.false_eq_true, Bool.true_eq_false, reduceIte, Bool.not_true, Bool.not_false, decide_true, decide_false, not_true_eq_false, not_false_eq_true, ex2, ex3, lim0, lim1, lim2, lim3, lim4, List.cons_append, List.nil_append, List.map, List.replicate]
      refine b_consW ?_
      try simp only [wpS, wpT, wpE, wpO, wpEs, wpAs, wpL, wpC, wpI, wpG, wpPar, wpSE, brwW, slotV, slotA, List.getElem?_cons_zero, List.getElem?_cons_succ, List.set_cons_zero, List.set_cons_succ, drf_int, drf_bl, drf_non, drf_str, drf_tup, drf_lst, drf_scr, drf_set, drf_ty, drf_ins, drf_glo, drf_0, ixL0, ixL1, ixL2, ixL3, ixL4, ixT0, ixT1, ixT2, ixAt0, ixAt1, ixAt2, ixAt3, ixAt4, tru_bl, tru_int, tru_tup, tru_lst, c_eq_int, c_ne_int, c_lt, c_le, c_gt, c_ge, c_in2, c_inL, c_inT, c_ninT, c_eq_bl, c_ne_bl, b_len_l, b_len_t, b_len_s, b_abs, b_int, b_tup_l, b_tup_t, b_max, b_min, o_add, o_sub, o_mul, o_fdiv, o_mod, o_pow, o_catT, o_catL, o_repT, o_repL, o_repL2, s_tupX, s_lstX, s_scrX, q_tup, q_lst, qi_tup, qi_lst, qi_scr, at_ins, isNon_int, isNon_non, wpN_nx, wpN_ret, wpN_brk, wpN_cnt, trn_nx, trn_cnt, trn_brk, trn_ret, List.map_cons, List.map_nil, List.length_cons, List.length_nil, Nat.zero_add, Nat.reduceAdd, Nat.reduceLT, true_and, and_true, Option.some.injEq, exists_eq_left', exists_eq_left, exists_and_left, Sl.ol.injEq, Sl.v.injEq, Sl.os.injEq, D.int.injEq, D.bl.injEq, D.tup.injEq, D.lst.injEq, D.ref.injEq, Ob.lst.injEq, List.cons.injEq, decide_eq_true_eq, Bool.not_eq_true', decide_eq_false_iff_not, bne_iff_ne, ne_eq, if_true, if_false, Bool.false_eq_true, Bool.true_eq_false, reduceIte, Bool.not_true, Bool.not_false, decide_true, decide_false, not_true_eq_false, not_false_eq_true, ex2, ex3, lim0, lim1, lim2, lim3, lim4, List.cons_append, List.nil_append, List.map, List.replicate]
      refine ⟨mulL (by omega), mulR (by omega), by omega, ?_⟩
      generalize hn : (s + 7919 * (c + 1)) * 48271 % 2147483647 = n
      have n0 : 0 ≤ n := by omega
      have n1 : n < 2147483647 := by omega
      refine b_consW ?_
      try simp only [wpS, wpT, wpE, wpO, wpEs, wpAs, wpL, wpC, wpI, wpG, wpPar, wpSE, brwW, slotV, slotA, List.getElem?_cons_zero, List.getElem?_cons_succ, List.set_cons_zero, List.set_cons_succ, drf_int, drf_bl, drf_non, drf_str, drf_tup, drf_lst, drf_scr, drf_set, drf_ty, drf_ins, drf_glo, drf_0, ixL0, ixL1, ixL2, ixL3, ixL4, ixT0, ixT1, ixT2, ixAt0, ixAt1, ixAt2, ixAt3, ixAt4, tru_bl, tru_int, tru_tup, tru_lst, c_eq_int, c_ne_int, c_lt, c_le, c_gt, c_ge, c_in2, c_inL, c_inT, c_ninT, c_eq_bl, c_ne_bl, b_len_l, b_len_t, b_len_s, b_abs, b_int, b_tup_l, b_tup_t, b_max, b_min, o_add, o_sub, o_mul, o_fdiv, o_mod, o_pow, o_catT, o_catL, o_repT, o_repL, o_repL2, s_tupX, s_lstX, s_scrX, q_tup, q_lst, qi_tup, qi_lst, qi_scr, at_ins, isNon_int, isNon_non, wpN_nx, wpN_ret, wpN_brk, wpN_cnt, trn_nx, trn_cnt, trn_brk, trn_ret, List.map_cons, List.map_nil, List.length_cons, List.length_nil, Nat.zero_add, Nat.reduceAdd, Nat.reduceLT, true_and, and_true, Option.some.injEq, exists_eq_left', exists_eq_left, exists_and_left, Sl.ol.injEq, Sl.v.injEq, Sl.os.injEq, D.int.injEq, D.bl.injEq, D.tup.injEq, D.lst.injEq, D.ref.injEq, Ob.lst.injEq, List.cons.injEq, decide_eq_true_eq, Bool.not_eq_true', decide_eq_false_iff_not, bne_iff_ne, ne_eq, if_true, if_false, Bool.false_eq_true, Bool.true_eq_false, reduceIte, Bool.not_true, Bool.not_false, decide_true, decide_false, not_true_eq_false, not_false_eq_true, ex2, ex3, lim0, lim1, lim2, lim3, lim4, List.cons_append, List.nil_append, List.map, List.replicate]
      refine ⟨by omega, mulL (by omega), by omega, ?_⟩
      generalize hm : n * (n / 1009 + 69621) % 2147483647 = m
      have m0 : 0 ≤ m := by omega
      have m1 : m < 2147483647 := by omega
      refine b_consW ?_
      try simp only [wpS, wpT, wpE, wpO, wpEs, wpAs, wpL, wpC, wpI, wpG, wpPar, wpSE, brwW, slotV, slotA, List.getElem?_cons_zero, List.getElem?_cons_succ, List.set_cons_zero, List.set_cons_succ, drf_int, drf_bl, drf_non, drf_str, drf_tup, drf_lst, drf_scr, drf_set, drf_ty, drf_ins, drf_glo, drf_0, ixL0, ixL1, ixL2, ixL3, ixL4, ixT0, ixT1, ixT2, ixAt0, ixAt1, ixAt2, ixAt3, ixAt4, tru_bl, tru_int, tru_tup, tru_lst, c_eq_int, c_ne_int, c_lt, c_le, c_gt, c_ge, c_in2, c_inL, c_inT, c_ninT, c_eq_bl, c_ne_bl, b_len_l, b_len_t, b_len_s, b_abs, b_int, b_tup_l, b_tup_t, b_max, b_min, o_add, o_sub, o_mul, o_fdiv, o_mod, o_pow, o_catT, o_catL, o_repT, o_repL, o_repL2, s_tupX, s_lstX, s_scrX, q_tup, q_lst, qi_tup, qi_lst, qi_scr, at_ins, isNon_int, isNon_non, wpN_nx, wpN_ret, wpN_brk, wpN_cnt, trn_nx, trn_cnt, trn_brk, trn_ret, List.map_cons, List.map_nil, List.length_cons, List.length_nil, Nat.zero_add, Nat.reduceAdd, Nat.reduceLT, true_and, and_true, Option.some.injEq, exists_eq_left', exists_eq_left, exists_and_left, Sl.ol.injEq, Sl.v.injEq, Sl.os.injEq, D.int.injEq, D.bl.injEq, D.tup.injEq, D.lst.injEq, D.ref.injEq, Ob.lst.injEq, List.cons.injEq, decide_eq_true_eq, Bool.not_eq_true', decide_eq_false_iff_not, bne_iff_ne, ne_eq, if_true, if_false, Bool.false_eq_true, Bool.true_eq_false, reduceIte, Bool.not_true, Bool.not_false, decide_true, decide_false, not_true_eq_false, not_false_eq_true, ex2, ex3, lim0, lim1, lim2, lim3, lim4, List.cons_append, List.nil_append, List.map, List.replicate]
      refine ⟨by omega, mulL (by omega), by omega, ?_⟩
      refine b_consW ?_
      try simp only [wpS, wpT, wpE, wpO, wpEs, wpAs, wpL, wpC, wpI, wpG, wpPar, wpSE, brwW, slotV, slotA, List.getElem?_cons_zero, List.getElem?_cons_succ, List.set_cons_zero, List.set_cons_succ, drf_int, drf_bl, drf_non, drf_str, drf_tup, drf_lst, drf_scr, drf_set, drf_ty, drf_ins, drf_glo, drf_0, ixL0, ixL1, ixL2, ixL3, ixL4, ixT0, ixT1, ixT2, ixAt0, ixAt1, ixAt2, ixAt3, ixAt4, tru_bl, tru_int, tru_tup, tru_lst, c_eq_int, c_ne_int, c_lt, c_le, c_gt, c_ge, c_in2, c_inL, c_inT, c_ninT, c_eq_bl, c_ne_bl, b_len_l, b_len_t, b_len_s, b_abs, b_int, b_tup_l, b_tup_t, b_max, b_min, o_add, o_sub, o_mul, o_fdiv, o_mod, o_pow, o_catT, o_catL, o_repT, o_repL, o_repL2, s_tupX, s_lstX, s_scrX, q_tup, q_lst, qi_tup, qi_lst, qi_scr, at_ins, isNon_int, isNon_non, wpN_nx, wpN_ret, wpN_brk, wpN_cnt, trn_nx, trn_cnt, trn_brk, trn_ret, List.map_cons, List.map_nil, List.length_cons, List.length_nil, Nat.zero_add, Nat.reduceAdd, Nat.reduceLT, true_and, and_true, Option.some.injEq, exists_eq_left', exists_eq_left, exists_and_left, Sl.ol.injEq, Sl.v.injEq, Sl.os.injEq, D.int.injEq, D.bl.injEq, D.tup.injEq, D.lst.injEq, D.ref.injEq, Ob.lst.injEq, List.cons.injEq, decide_eq_true_eq, Bool.not_eq_true', decide_eq_false_iff_not, bne_iff_ne, ne_eq, if_true, if_false, Bool.false_eq_true, Bool.true_eq_false, reduceIte, Bool.not_true, Bool.not_false, decide_true, decide_false, not_true_eq_false, not_false_eq_true, ex2, ex3, lim0, lim1, lim2, lim3, lim4, List.cons_append, List.nil_append, List.map, List.replicate]
      refine ⟨by omega, h1, ?_⟩
      exact ⟨_, _, _, _, _, rfl, rfl, Int.emod_nonneg _ (by omega), Int.emod_lt_of_pos _ h1, hw⟩
/-- the hand that all draw from -/
def IsHand (o : Ob) : Prop := ∃ cells p w s c, o = hd cells p w s c ∧ (∀ x ∈ cells, 0 ≤ x) ∧ 0 ≤ w
/-- a hand stands first -/
def HS (R S : Sh) : Prop := ∃ o, IsHand o ∧ S = o :: R
def NatB (m : Int) (d : D) : Prop := ∃ n : Nat, d = .int (n : Int) ∧ (n : Int) < m
theorem drw {C : Calls} {k : Nat} (hC : C.fn = callAt L.pg (k + 1)) {R S : Sh} (h : HS R S) {many : Int} (h1 : 0 < many) (h2 : many < 1073741824) : Ok (C.fn 22 [.ref 0, .int many] S) fun d S' => NatB many d ∧ HS R S' := by
  obtain ⟨o, ⟨cells, p, w, s, c, rfl, hc, hw⟩, rfl⟩ := h
  rw [hC]
  refine (draw_ok k cells hc p w s c hw many h1 h2 R).mono fun d S' ⟨n, p', w', s', c', e1, e2, n0, n1, w0⟩ => ⟨⟨n.toNat, ?_, ?_⟩, _, ⟨cells, p', w', s', c', rfl, hc, w0⟩, e2⟩
  · rw [e1, Int.toNat_of_nonneg n0]
  · rw [Int.toNat_of_nonneg n0]; exact n1
def HandR (d : D) (S : Sh) : Prop := d = .ref 0 ∧ HS [] S
theorem hand_ok (k : Nat) (ns : List Int) : Ok (callAt L.pg (k + 1) 26 [.scr ns] []) HandR := by
  refine fn_W (fn := f__law_hand) rfl rfl ?_
  unfold f__law_hand b__law_hand
  refine b_consW ?_
  try simp only [wpS, wpT, wpE, wpO, wpEs, wpAs, wpL, wpC, wpI, wpG, wpPar, wpSE, brwW, slotV, slotA, List.getElem?_cons_zero, List.getElem?_cons_succ, List.set_cons_zero, List.set_cons_succ, drf_int, drf_bl, drf_non, drf_str, drf_tup, drf_lst, drf_scr, drf_set, drf_ty, drf_ins, drf_glo, drf_0, ixL0, ixL1, ixL2, ixL3, ixL4, ixT0, ixT1, ixT2, ixAt0, ixAt1, ixAt2, ixAt3, ixAt4, tru_bl, tru_int, tru_tup, tru_lst, c_eq_int, c_ne_int, c_lt, c_le, c_gt, c_ge, c_in2, c_inL, c_inT, c_ninT, c_eq_bl, c_ne_bl, b_len_l, b_len_t, b_len_s, b_abs, b_int, b_tup_l, b_tup_t, b_max, b_min, o_add, o_sub, o_mul, o_fdiv, o_mod, o_pow, o_catT, o_catL, o_repT, o_repL, o_repL2, s_tupX, s_lstX, s_scrX, q_tup, q_lst, qi_tup, qi_lst, qi_scr, at_ins, isNon_int, isNon_non, wpN_nx, wpN_ret, wpN_brk, wpN_cnt, trn_nx, trn_cnt, trn_brk, trn_ret, List.map_cons, List.map_nil, List.length_cons, List.length_nil, Nat.zero_add, Nat.reduceAdd, Nat.reduceLT, true_and, and_true, Option.some.injEq, exists_eq_left', exists_eq_left, exists_and_left, Sl.ol.injEq, Sl.v.injEq, Sl.os.injEq, D.int.injEq, D.bl.injEq, D.tup.injEq, D.lst.injEq, D.ref.injEq, Ob.lst.injEq, List.cons.injEq, decide_eq_true_eq, Bool.not_eq_true', decide_eq_false_iff_not, bne_iff_ne, ne_eq, if_true, if_false, Bool.false_eq_true, Bool.true_eq_false, reduceIte, Bool.not_true, Bool.not_false, decide_true, decide_false, not_true_eq_false, not_false_eq_true, ex2, ex3, lim0, lim1, lim2, lim3, lim4, List.cons_append, List.nil_append, List.map, List.replicate]
  have ec : cutD (ns.map D.int) none (some 63) = (ns.take 63).map D.int := by
    unfold cutD sIxO
    simp [List.map_take]
  rw [ec]
  refine compL_map2 (g := fun d => match d with
    | .int i => some (.int (if i < 0 then -i else i))
    | _ => none) _ (by simp [LIM]; omega) (fun x hx => ?_) ?_
  · obtain ⟨i, _, rfl⟩ := List.mem_map.mp hx
    refine compF_W ?_
    try simp only [wipeE, wpS, wpT, wpE, wpO, wpEs, wpAs, wpL, wpC, wpI, wpG, wpPar, wpSE, brwW, slotV, slotA, List.getElem?_cons_zero, List.getElem?_cons_succ, List.set_cons_zero, List.set_cons_succ, drf_int, drf_bl, drf_non, drf_str, drf_tup, drf_lst, drf_scr, drf_set, drf_ty, drf_ins, drf_glo, drf_0, ixL0, ixL1, ixL2, ixL3, ixL4, ixT0, ixT1, ixT2, ixAt0, ixAt1, ixAt2, ixAt3, ixAt4, tru_bl, tru_int, tru_tup, tru_lst, c_eq_int, c_ne_int, c_lt, c_le, c_gt, c_ge, c_in2, c_inL, c_inT, c_ninT, c_eq_bl, c_ne_bl, b_len_l, b_len_t, b_len_s, b_abs, b_int, b_tup_l, b_tup_t, b_max, b_min, o_add, o_sub, o_mul, o_fdiv, o_mod, o_pow, o_catT, o_catL, o_repT, o_repL, o_repL2, s_tupX, s_lstX, s_scrX, q_tup, q_lst, qi_tup, qi_lst, qi_scr, at_ins, isNon_int, isNon_non, wpN_nx, wpN_ret, wpN_brk, wpN_cnt, trn_nx, trn_cnt, trn_brk, trn_ret, List.map_cons, List.map_nil, List.length_cons, List.length_nil, Nat.zero_add, Nat.reduceAdd, Nat.reduceLT, true_and, and_true, Option.some.injEq, exists_eq_left', exists_eq_left, exists_and_left, Sl.ol.injEq, Sl.v.injEq, Sl.os.injEq, D.int.injEq, D.bl.injEq, D.tup.injEq, D.lst.injEq, D.ref.injEq, Ob.lst.injEq, List.cons.injEq, decide_eq_true_eq, Bool.not_eq_true', decide_eq_false_iff_not, bne_iff_ne, ne_eq, if_true, if_false, Bool.false_eq_true, Bool.true_eq_false, reduceIte, Bool.not_true, Bool.not_false, decide_true, decide_false, not_true_eq_false, not_false_eq_true, ex2, ex3, lim0, lim1, lim2, lim3, lim4, List.cons_append, List.nil_append, List.map, List.replicate]
  · have e2 : ((ns.take 63).map D.int).filterMap (fun d => match d with
        | .int i => some (.int (if i < 0 then -i else i))
        | _ => none) = ((ns.take 63).map fun i => if i < 0 then -i else i).map D.int := by
      rw [List.filterMap_map, List.map_map]
      exact fm_map fun x _ => rfl
    rw [e2]
    try simp only [wpS, wpT, wpE, wpO, wpEs, wpAs, wpL, wpC, wpI, wpG, wpPar, wpSE, brwW, slotV, slotA, List.getElem?_cons_zero, List.getElem?_cons_succ, List.set_cons_zero, List.set_cons_succ, drf_int, drf_bl, drf_non, drf_str, drf_tup, drf_lst, drf_scr, drf_set, drf_ty, drf_ins, drf_glo, drf_0, ixL0, ixL1, ixL2, ixL3, ixL4, ixT0, ixT1, ixT2, ixAt0, ixAt1, ixAt2, ixAt3, ixAt4, tru_bl, tru_int, tru_tup, tru_lst, c_eq_int, c_ne_int, c_lt, c_le, c_gt, c_ge, c_in2, c_inL, c_inT, c_ninT, c_eq_bl, c_ne_bl, b_len_l, b_len_t, b_len_s, b_abs, b_int, b_tup_l, b_tup_t, b_max, b_min, o_add, o_sub, o_mul, o_fdiv, o_mod, o_pow, o_catT, o_catL, o_repT, o_repL, o_repL2, s_tupX, s_lstX, s_scrX, q_tup, q_lst, qi_tup, qi_lst, qi_scr, at_ins, isNon_int, isNon_non, wpN_nx, wpN_ret, wpN_brk, wpN_cnt, trn_nx, trn_cnt, trn_brk, trn_ret, List.map_cons, List.map_nil, List.length_cons, List.length_nil, Nat.zero_add, Nat.reduceAdd, Nat.reduceLT, true_and, and_true, Option.some.injEq, exists_eq_left', exists_eq_left, exists_and_left, Sl.ol.injEq, Sl.v.injEq, Sl.os.injEq, D.int.injEq, D.bl.injEq, D.tup.injEq, D.lst.injEq, D.ref.injEq, Ob.lst.injEq, List.cons.injEq, decide_eq_true_eq, Bool.not_eq_true', decide_eq_false_iff_not, bne_iff_ne, ne_eq, if_true, if_false, Bool.false_eq_true, Bool.true_eq_false, reduceIte, Bool.not_true, Bool.not_false, decide_true, decide_false, not_true_eq_false, not_false_eq_true, ex2, ex3, lim0, lim1, lim2, lim3, lim4, List.cons_append, List.nil_append, List.map, List.replicate]
    refine b_frzW ?_
    try simp only [frzE, wpS, wpT, wpE, wpO, wpEs, wpAs, wpL, wpC, wpI, wpG, wpPar, wpSE, brwW, slotV, slotA, List.getElem?_cons_zero, List.getElem?_cons_succ, List.set_cons_zero, List.set_cons_succ, drf_int, drf_bl, drf_non, drf_str, drf_tup, drf_lst, drf_scr, drf_set, drf_ty, drf_ins, drf_glo, drf_0, ixL0, ixL1, ixL2, ixL3, ixL4, ixT0, ixT1, ixT2, ixAt0, ixAt1, ixAt2, ixAt3, ixAt4, tru_bl, tru_int, tru_tup, tru_lst, c_eq_int, c_ne_int, c_lt, c_le, c_gt, c_ge, c_in2, c_inL, c_inT, c_ninT, c_eq_bl, c_ne_bl, b_len_l, b_len_t, b_len_s, b_abs, b_int, b_tup_l, b_tup_t, b_max, b_min, o_add, o_sub, o_mul, o_fdiv, o_mod, o_pow, o_catT, o_catL, o_repT, o_repL, o_repL2, s_tupX, s_lstX, s_scrX, q_tup, q_lst, qi_tup, qi_lst, qi_scr, at_ins, isNon_int, isNon_non, wpN_nx, wpN_ret, wpN_brk, wpN_cnt, trn_nx, trn_cnt, trn_brk, trn_ret, List.map_cons, List.map_nil, List.length_cons, List.length_nil, Nat.zero_add, Nat.reduceAdd, Nat.reduceLT, true_and, and_true, Option.some.injEq, exists_eq_left', exists_eq_left, exists_and_left, Sl.ol.injEq, Sl.v.injEq, Sl.os.injEq, D.int.injEq, D.bl.injEq, D.tup.injEq, D.lst.injEq, D.ref.injEq, Ob.lst.injEq, List.cons.injEq, decide_eq_true_eq, Bool.not_eq_true', decide_eq_false_iff_not, bne_iff_ne, ne_eq, if_true, if_false, Bool.false_eq_true, Bool.true_eq_false, reduceIte, Bool.not_true, Bool.not_false, decide_true, decide_false, not_true_eq_false, not_false_eq_true, ex2, ex3, lim0, lim1, lim2, lim3, lim4, List.cons_append, List.nil_append, List.map, List.replicate]
    refine b_consW ?_
    try simp only [wpS, wpT, wpE, wpO, wpEs, wpAs, wpL, wpC, wpI, wpG, wpPar, wpSE, brwW, slotV, slotA, List.getElem?_cons_zero, List.getElem?_cons_succ, List.set_cons_zero, List.set_cons_succ, drf_int, drf_bl, drf_non, drf_str, drf_tup, drf_lst, drf_scr, drf_set, drf_ty, drf_ins, drf_glo, drf_0, ixL0, ixL1, ixL2, ixL3, ixL4, ixT0, ixT1, ixT2, ixAt0, ixAt1, ixAt2, ixAt3, ixAt4, tru_bl, tru_int, tru_tup, tru_lst, c_eq_int, c_ne_int, c_lt, c_le, c_gt, c_ge, c_in2, c_inL, c_inT, c_ninT, c_eq_bl, c_ne_bl, b_len_l, b_len_t, b_len_s, b_abs, b_int, b_tup_l, b_tup_t, b_max, b_min, o_add, o_sub, o_mul, o_fdiv, o_mod, o_pow, o_catT, o_catL, o_repT, o_repL, o_repL2, s_tupX, s_lstX, s_scrX, q_tup, q_lst, qi_tup, qi_lst, qi_scr, at_ins, isNon_int, isNon_non, wpN_nx, wpN_ret, wpN_brk, wpN_cnt, trn_nx, trn_cnt, trn_brk, trn_ret, List.map_cons, List.map_nil, List.length_cons, List.length_nil, Nat.zero_add, Nat.reduceAdd, Nat.reduceLT, true_and, and_true, Option.some.injEq, exists_eq_left', exists_eq_left, exists_and_left, Sl.ol.injEq, Sl.v.injEq, Sl.os.injEq, D.int.injEq, D.bl.injEq, D.tup.injEq, D.lst.injEq, D.ref.injEq, Ob.lst.injEq, List.cons.injEq, decide_eq_true_eq, Bool.not_eq_true', decide_eq_false_iff_not, bne_iff_ne, ne_eq, if_true, if_false, Bool.false_eq_true, Bool.true_eq_false, reduceIte, Bool.not_true, Bool.not_false, decide_true, decide_false, not_true_eq_false, not_false_eq_true, ex2, ex3, lim0, lim1, lim2, lim3, lim4, List.cons_append, List.nil_append, List.map, List.replicate]
    refine ⟨by decide, rfl, _, ⟨_, 0, 0, _, 0, rfl, fun x hx => ?_, by decide⟩, rfl⟩
    obtain ⟨i, _, rfl⟩ := List.mem_map.mp hx
    split <;> omega
def AnyR (R : Sh) (xs : List D) (d : D) (S : Sh) : Prop := d ∈ xs ∧ HS R S
theorem any_ok {C : Calls} {k : Nat} (hC : C.fn = callAt L.pg (k + 2)) {R S : Sh} (h : HS R S) {xs : List D} (h1 : xs ≠ []) (h2 : xs.length < 1000000) : Ok (C.fn 23 [.ref 0, .lst xs] S) (AnyR R xs) := by
  rw [hC]
  refine fn_W (fn := f__law_any) rfl rfl ?_
  unfold f__law_any b__law_any
  refine b_consW ?_
  try simp only [wpS, wpT, wpE, wpO, wpEs, wpAs, wpL, wpC, wpI, wpG, wpPar, wpSE, brwW, slotV, slotA, List.getElem?_cons_zero, List.getElem?_cons_succ, List.set_cons_zero, List.set_cons_succ, drf_int, drf_bl, drf_non, drf_str, drf_tup, drf_lst, drf_scr, drf_set, drf_ty, drf_ins, drf_glo, drf_0, ixL0, ixL1, ixL2, ixL3, ixL4, ixT0, ixT1, ixT2, ixAt0, ixAt1, ixAt2, ixAt3, ixAt4, tru_bl, tru_int, tru_tup, tru_lst, c_eq_int, c_ne_int, c_lt, c_le, c_gt, c_ge, c_in2, c_inL, c_inT, c_ninT, c_eq_bl, c_ne_bl, b_len_l, b_len_t, b_len_s, b_abs, b_int, b_tup_l, b_tup_t, b_max, b_min, o_add, o_sub, o_mul, o_fdiv, o_mod, o_pow, o_catT, o_catL, o_repT, o_repL, o_repL2, s_tupX, s_lstX, s_scrX, q_tup, q_lst, qi_tup, qi_lst, qi_scr, at_ins, isNon_int, isNon_non, wpN_nx, wpN_ret, wpN_brk, wpN_cnt, trn_nx, trn_cnt, trn_brk, trn_ret, List.map_cons, List.map_nil, List.length_cons, List.length_nil, Nat.zero_add, Nat.reduceAdd, Nat.reduceLT, true_and, and_true, Option.some.injEq, exists_eq_left', exists_eq_left, exists_and_left, Sl.ol.injEq, Sl.v.injEq, Sl.os.injEq, D.int.injEq, D.bl.injEq, D.tup.injEq, D.lst.injEq, D.ref.injEq, Ob.lst.injEq, List.cons.injEq, decide_eq_true_eq, Bool.not_eq_true', decide_eq_false_iff_not, bne_iff_ne, ne_eq, if_true, if_false, Bool.false_eq_true, Bool.true_eq_false, reduceIte, Bool.not_true, Bool.not_false, decide_true, decide_false, not_true_eq_false, not_false_eq_true, ex2, ex3, lim0, lim1, lim2, lim3, lim4, List.cons_append, List.nil_append, List.map, List.replicate]
  have h0 : 0 < xs.length := List.length_pos_iff.mpr h1
  refine (drw (C := L.pg.calls (k + 1)) rfl h (by omega) (by omega)).mono fun d S' ⟨⟨n, e, hn⟩, hS⟩ => ?_
  subst e
  have hn : n < xs.length := by omega
  try simp only [ixLn (List.getElem?_eq_getElem hn), wpS, wpT, wpE, wpO, wpEs, wpAs, wpL, wpC, wpI, wpG, wpPar, wpSE, brwW, slotV, slotA, List.getElem?_cons_zero, List.getElem?_cons_succ, List.set_cons_zero, List.set_cons_succ, drf_int, drf_bl, drf_non, drf_str, drf_tup, drf_lst, drf_scr, drf_set, drf_ty, drf_ins, drf_glo, drf_0, ixL0, ixL1, ixL2, ixL3, ixL4, ixT0, ixT1, ixT2, ixAt0, ixAt1, ixAt2, ixAt3, ixAt4, tru_bl, tru_int, tru_tup, tru_lst, c_eq_int, c_ne_int, c_lt, c_le, c_gt, c_ge, c_in2, c_inL, c_inT, c_ninT, c_eq_bl, c_ne_bl, b_len_l, b_len_t, b_len_s, b_abs, b_int, b_tup_l, b_tup_t, b_max, b_min, o_add, o_sub, o_mul, o_fdiv, o_mod, o_pow, o_catT, o_catL, o_repT, o_repL, o_repL2, s_tupX, s_lstX, s_scrX, q_tup, q_lst, qi_tup, qi_lst, qi_scr, at_ins, isNon_int, isNon_non, wpN_nx, wpN_ret, wpN_brk, wpN_cnt, trn_nx, trn_cnt, trn_brk, trn_ret, List.map_cons, List.map_nil, List.length_cons, List.length_nil, Nat.zero_add, Nat.reduceAdd, Nat.reduceLT, true_and, and_true, Option.some.injEq, exists_eq_left', exists_eq_left, exists_and_left, Sl.ol.injEq, Sl.v.injEq, Sl.os.injEq, D.int.injEq, D.bl.injEq, D.tup.injEq, D.lst.injEq, D.ref.injEq, Ob.lst.injEq, List.cons.injEq, decide_eq_true_eq, Bool.not_eq_true', decide_eq_false_iff_not, bne_iff_ne, ne_eq, if_true, if_false, Bool.false_eq_true, Bool.true_eq_false, reduceIte, Bool.not_true, Bool.not_false, decide_true, decide_false, not_true_eq_false, not_false_eq_true, ex2, ex3, lim0, lim1, lim2, lim3, lim4, List.cons_append, List.nil_append, List.map, List.replicate]
  exact ⟨List.getElem_mem hn, hS⟩
end Qv.Law
set_option Elab.async false
set_option linter.all false
set_option maxRecDepth 100000
set_option maxHeartbeats 4000000
namespace Qv.Law
open Qv

def prow (n a : Nat) : List (Nat × Nat) := (List.range (n - (a + 1))).map fun b => (a, a + 1 + b)
def prs' (n i : Nat) : List (Nat × Nat) := (List.range i).flatMap (prow n)
def prs (n : Nat) : List (Nat × Nat) := prs' n n
def pD (p : Nat × Nat) : D := .tup [.int (p.1 : Int), .int (p.2 : Int)]
theorem prs_succ (n i : Nat) : prs' n (i + 1) = prs' n i ++ prow n i := by
  unfold prs'
  rw [List.range_succ, List.flatMap_append]
  simp
theorem prs_len (n : Nat) : ∀ i, (prs' n i).length ≤ i * n
  | 0 => by simp [prs']
  | i + 1 => by
    rw [prs_succ, List.length_append]
    have := prs_len n i
    have : (prow n i).length ≤ n := by unfold prow; simp
    rw [Nat.succ_mul]
    omega
theorem rngD_len (a b : Int) : (rngD a b).length = (b - a).toNat := by unfold rngD; simp
theorem rngD_at {a b : Int} {i : Nat} {d : D} (e : (rngD a b)[i]? = some d) : d = .int (a + i) ∧ a + i < b := by
  refine ⟨rngD_get e, ?_⟩
  have := (List.getElem?_eq_some_iff.mp e).1
  rw [rngD_len] at this
  omega
theorem mem_rngD {a b : Int} {d : D} (h : d ∈ rngD a b) : ∃ i : Nat, d = .int (a + i) ∧ a + i < b := by
  obtain ⟨i, e⟩ := List.getElem?_of_mem h
  exact ⟨i, rngD_at e⟩
def PairsR (n : Nat) (S : Sh) (d : D) (S' : Sh) : Prop := d = .lst ((prs n).map pD) ∧ S' = S
def PairsI (n : Nat) (S : Sh) (i : Nat) (E : En) (S' : Sh) : Prop := S' = S ∧ ∃ x2, E = [some (.v (.int (n : Int))), some (.ol ((prs' n i).map pD)), x2, none]
def PairsM (n : Nat) (S : Sh) (f : Fl) (E : En) (S' : Sh) : Prop := f = .nx ∧ PairsI n S n E S'
theorem pairs_ok {C : Calls} {k : Nat} (hC : C.fn = callAt L.pg (k + 1)) (n : Nat) (hn : n ≤ 60) (S : Sh) : Ok (C.fn 16 [.int (n : Int)] S) (PairsR n S) := by
  rw [hC]
  refine fn_W (fn := f__law_pairs) rfl rfl ?_
  unfold f__law_pairs b__law_pairs
  refine b_consW ?_
  try simp only [wpS, wpT, wpE, wpO, wpEs, wpAs, wpL, wpC, wpI, wpG, wpPar, wpSE, brwW, slotV, slotA, List.getElem?_cons_zero, List.getElem?_cons_succ, List.set_cons_zero, List.set_cons_succ, drf_int, drf_bl, drf_non, drf_str, drf_tup, drf_lst, drf_scr, drf_set, drf_ty, drf_ins, drf_glo, drf_0, ixL0, ixL1, ixL2, ixL3, ixL4, ixT0, ixT1, ixT2, ixAt0, ixAt1, ixAt2, ixAt3, ixAt4, tru_bl, tru_int, tru_tup, tru_lst, c_eq_int, c_ne_int, c_lt, c_le, c_gt, c_ge, c_in2, c_inL, c_inT, c_ninT, c_eq_bl, c_ne_bl, b_len_l, b_len_t, b_len_s, b_abs, b_int, b_tup_l, b_tup_t, b_max, b_min, o_add, o_sub, o_mul, o_fdiv, o_mod, o_pow, o_catT, o_catL, o_repT, o_repL, o_repL2, s_tupX, s_lstX, s_scrX, q_tup, q_lst, qi_tup, qi_lst, qi_scr, at_ins, isNon_int, isNon_non, wpN_nx, wpN_ret, wpN_brk, wpN_cnt, trn_nx, trn_cnt, trn_brk, trn_ret, List.map_cons, List.map_nil, List.length_cons, List.length_nil, Nat.zero_add, Nat.reduceAdd, Nat.reduceLT, true_and, and_true, Option.some.injEq, exists_eq_left', exists_eq_left, exists_and_left, Sl.ol.injEq, Sl.v.injEq, Sl.os.injEq, D.int.injEq, D.bl.injEq, D.tup.injEq, D.lst.injEq, D.ref.injEq, Ob.lst.injEq, List.cons.injEq, decide_eq_true_eq, Bool.not_eq_true', decide_eq_false_iff_not, bne_iff_ne, ne_eq, if_true, if_false, Bool.false_eq_true, Bool.true_eq_false, reduceIte, Bool.not_true, Bool.not_false, decide_true, decide_false, not_true_eq_false, not_false_eq_true, ex2, ex3, lim0, lim1, lim2, lim3, lim4, List.cons_append, List.nil_append, List.map, List.replicate]
  try refine ⟨by decide, ?_⟩
  refine b_consR (PairsM n S) ?_ ?_
  · try simp only [wpS, wpT, wpE, wpO, wpEs, wpAs, wpL, wpC, wpI, wpG, wpPar, wpSE, brwW, slotV, slotA, List.getElem?_cons_zero, List.getElem?_cons_succ, List.set_cons_zero, List.set_cons_succ, drf_int, drf_bl, drf_non, drf_str, drf_tup, drf_lst, drf_scr, drf_set, drf_ty, drf_ins, drf_glo, drf_0, ixL0, ixL1, ixL2, ixL3, ixL4, ixT0, ixT1, ixT2, ixAt0, ixAt1, ixAt2, ixAt3, ixAt4, tru_bl, tru_int, tru_tup, tru_lst, c_eq_int, c_ne_int, c_lt, c_le, c_gt, c_ge, c_in2, c_inL, c_inT, c_ninT, c_eq_bl, c_ne_bl, b_len_l, b_len_t, b_len_s, b_abs, b_int, b_tup_l, b_tup_t, b_max, b_min, o_add, o_sub, o_mul, o_fdiv, o_mod, o_pow, o_catT, o_catL, o_repT, o_repL, o_repL2, s_tupX, s_lstX, s_scrX, q_tup, q_lst, qi_tup, qi_lst, qi_scr, at_ins, isNon_int, isNon_non, wpN_nx, wpN_ret, wpN_brk, wpN_cnt, trn_nx, trn_cnt, trn_brk, trn_ret, List.map_cons, List.map_nil, List.length_cons, List.length_nil, Nat.zero_add, Nat.reduceAdd, Nat.reduceLT, true_and, and_true, Option.some.injEq, exists_eq_left', exists_eq_left, exists_and_left, Sl.ol.injEq, Sl.v.injEq, Sl.os.injEq, D.int.injEq, D.bl.injEq, D.tup.injEq, D.lst.injEq, D.ref.injEq, Ob.lst.injEq, List.cons.injEq, decide_eq_true_eq, Bool.not_eq_true', decide_eq_false_iff_not, bne_iff_ne, ne_eq, if_true, if_false, Bool.false_eq_true, Bool.true_eq_false, reduceIte, Bool.not_true, Bool.not_false, decide_true, decide_false, not_true_eq_false, not_false_eq_true, ex2, ex3, lim0, lim1, lim2, lim3, lim4, List.cons_append, List.nil_append, List.map, List.replicate]
    refine ⟨by unfold LIM; omega, by unfold LIM; omega, ?_⟩
    refine for_W (I := PairsI n S) _ ⟨rfl, _, rfl⟩ (fun i x E S' hx ⟨e1, x2, e2⟩ => ?_) (fun E S' h => ⟨rfl, ?_⟩)
    · subst e1 e2
      obtain ⟨rfl, hlt⟩ := rngD_at hx
      try simp only [Int.zero_add, wpS, wpT, wpE, wpO, wpEs, wpAs, wpL, wpC, wpI, wpG, wpPar, wpSE, brwW, slotV, slotA, List.getElem?_cons_zero, List.getElem?_cons_succ, List.set_cons_zero, List.set_cons_succ, drf_int, drf_bl, drf_non, drf_str, drf_tup, drf_lst, drf_scr, drf_set, drf_ty, drf_ins, drf_glo, drf_0, ixL0, ixL1, ixL2, ixL3, ixL4, ixT0, ixT1, ixT2, ixAt0, ixAt1, ixAt2, ixAt3, ixAt4, tru_bl, tru_int, tru_tup, tru_lst, c_eq_int, c_ne_int, c_lt, c_le, c_gt, c_ge, c_in2, c_inL, c_inT, c_ninT, c_eq_bl, c_ne_bl, b_len_l, b_len_t, b_len_s, b_abs, b_int, b_tup_l, b_tup_t, b_max, b_min, o_add, o_sub, o_mul, o_fdiv, o_mod, o_pow, o_catT, o_catL, o_repT, o_repL, o_repL2, s_tupX, s_lstX, s_scrX, q_tup, q_lst, qi_tup, qi_lst, qi_scr, at_ins, isNon_int, isNon_non, wpN_nx, wpN_ret, wpN_brk, wpN_cnt, trn_nx, trn_cnt, trn_brk, trn_ret, List.map_cons, List.map_nil, List.length_cons, List.length_nil, Nat.zero_add, Nat.reduceAdd, Nat.reduceLT, true_and, and_true, Option.some.injEq, exists_eq_left', exists_eq_left, exists_and_left, Sl.ol.injEq, Sl.v.injEq, Sl.os.injEq, D.int.injEq, D.bl.injEq, D.tup.injEq, D.lst.injEq, D.ref.injEq, Ob.lst.injEq, List.cons.injEq, decide_eq_true_eq, Bool.not_eq_true', decide_eq_false_iff_not, bne_iff_ne, ne_eq, if_true, if_false, Bool.false_eq_true, Bool.true_eq_false, reduceIte, Bool.not_true, Bool.not_false, decide_true, decide_false, not_true_eq_false, not_false_eq_true, ex2, ex3, lim0, lim1, lim2, lim3, lim4, List.cons_append, List.nil_append, List.map, List.replicate]
      refine b_consW ?_
      try simp only [wpS, wpT, wpE, wpO, wpEs, wpAs, wpL, wpC, wpI, wpG, wpPar, wpSE, brwW, slotV, slotA, List.getElem?_cons_zero, List.getElem?_cons_succ, List.set_cons_zero, List.set_cons_succ, drf_int, drf_bl, drf_non, drf_str, drf_tup, drf_lst, drf_scr, drf_set, drf_ty, drf_ins, drf_glo, drf_0, ixL0, ixL1, ixL2, ixL3, ixL4, ixT0, ixT1, ixT2, ixAt0, ixAt1, ixAt2, ixAt3, ixAt4, tru_bl, tru_int, tru_tup, tru_lst, c_eq_int, c_ne_int, c_lt, c_le, c_gt, c_ge, c_in2, c_inL, c_inT, c_ninT, c_eq_bl, c_ne_bl, b_len_l, b_len_t, b_len_s, b_abs, b_int, b_tup_l, b_tup_t, b_max, b_min, o_add, o_sub, o_mul, o_fdiv, o_mod, o_pow, o_catT, o_catL, o_repT, o_repL, o_repL2, s_tupX, s_lstX, s_scrX, q_tup, q_lst, qi_tup, qi_lst, qi_scr, at_ins, isNon_int, isNon_non, wpN_nx, wpN_ret, wpN_brk, wpN_cnt, trn_nx, trn_cnt, trn_brk, trn_ret, List.map_cons, List.map_nil, List.length_cons, List.length_nil, Nat.zero_add, Nat.reduceAdd, Nat.reduceLT, true_and, and_true, Option.some.injEq, exists_eq_left', exists_eq_left, exists_and_left, Sl.ol.injEq, Sl.v.injEq, Sl.os.injEq, D.int.injEq, D.bl.injEq, D.tup.injEq, D.lst.injEq, D.ref.injEq, Ob.lst.injEq, List.cons.injEq, decide_eq_true_eq, Bool.not_eq_true', decide_eq_false_iff_not, bne_iff_ne, ne_eq, if_true, if_false, Bool.false_eq_true, Bool.true_eq_false, reduceIte, Bool.not_true, Bool.not_false, decide_true, decide_false, not_true_eq_false, not_false_eq_true, ex2, ex3, lim0, lim1, lim2, lim3, lim4, List.cons_append, List.nil_append, List.map, List.replicate]
      refine ⟨by unfold LIM; omega, ?_⟩
      have hi : i < n := by omega
      refine compL_map2 (g := fun d => match d with
        | .int j => some (.tup [.int (i : Int), .int j])
        | _ => none) _ (by rw [rngD_len]; unfold LIM; omega) (fun x hx => ?_) ?_
      · obtain ⟨j, rfl, _⟩ := mem_rngD hx
        refine compF_W ?_
        try simp only [wipeE, wpS, wpT, wpE, wpO, wpEs, wpAs, wpL, wpC, wpI, wpG, wpPar, wpSE, brwW, slotV, slotA, List.getElem?_cons_zero, List.getElem?_cons_succ, List.set_cons_zero, List.set_cons_succ, drf_int, drf_bl, drf_non, drf_str, drf_tup, drf_lst, drf_scr, drf_set, drf_ty, drf_ins, drf_glo, drf_0, ixL0, ixL1, ixL2, ixL3, ixL4, ixT0, ixT1, ixT2, ixAt0, ixAt1, ixAt2, ixAt3, ixAt4, tru_bl, tru_int, tru_tup, tru_lst, c_eq_int, c_ne_int, c_lt, c_le, c_gt, c_ge, c_in2, c_inL, c_inT, c_ninT, c_eq_bl, c_ne_bl, b_len_l, b_len_t, b_len_s, b_abs, b_int, b_tup_l, b_tup_t, b_max, b_min, o_add, o_sub, o_mul, o_fdiv, o_mod, o_pow, o_catT, o_catL, o_repT, o_repL, o_repL2, s_tupX, s_lstX, s_scrX, q_tup, q_lst, qi_tup, qi_lst, qi_scr, at_ins, isNon_int, isNon_non, wpN_nx, wpN_ret, wpN_brk, wpN_cnt, trn_nx, trn_cnt, trn_brk, trn_ret, List.map_cons, List.map_nil, List.length_cons, List.length_nil, Nat.zero_add, Nat.reduceAdd, Nat.reduceLT, true_and, and_true, Option.some.injEq, exists_eq_left', exists_eq_left, exists_and_left, Sl.ol.injEq, Sl.v.injEq, Sl.os.injEq, D.int.injEq, D.bl.injEq, D.tup.injEq, D.lst.injEq, D.ref.injEq, Ob.lst.injEq, List.cons.injEq, decide_eq_true_eq, Bool.not_eq_true', decide_eq_false_iff_not, bne_iff_ne, ne_eq, if_true, if_false, Bool.false_eq_true, Bool.true_eq_false, reduceIte, Bool.not_true, Bool.not_false, decide_true, decide_false, not_true_eq_false, not_false_eq_true, ex2, ex3, lim0, lim1, lim2, lim3, lim4, List.cons_append, List.nil_append, List.map, List.replicate]
      · have e : (rngD ((i : Int) + 1) (n : Int)).filterMap (fun d => match d with
            | .int j => some (.tup [.int (i : Int), .int j])
            | _ => none) = (prow n i).map pD := by
          unfold rngD prow pD
          rw [List.filterMap_map, List.map_map]
          have e2 : ((n : Int) - ((i : Int) + 1)).toNat = n - (i + 1) := by omega
          rw [e2]
          refine fm_map fun x _ => ?_
          simp
        rw [e]
        refine ⟨?_, ?_⟩
        · have l1 := prs_len n i
          have l2 : (prow n i).length ≤ n := by unfold prow; simp
          have : i * n ≤ 60 * 60 := Nat.mul_le_mul (by omega) (by omega)
          rw [List.length_map, List.length_map]
          unfold LIM
          omega
        · refine b_nilW ⟨rfl, some (.v (.int (i : Int))), ?_⟩
          rw [prs_succ, List.map_append]
    · have e : (rngD 0 (n : Int)).length = n := by rw [rngD_len]; omega
      rw [e] at h
      exact h
  · rintro f E S' ⟨rfl, rfl, x2, rfl⟩
    rw [wpN_nx]
    refine b_frzW ?_
    try simp only [frzE, wpS, wpT, wpE, wpO, wpEs, wpAs, wpL, wpC, wpI, wpG, wpPar, wpSE, brwW, slotV, slotA, List.getElem?_cons_zero, List.getElem?_cons_succ, List.set_cons_zero, List.set_cons_succ, drf_int, drf_bl, drf_non, drf_str, drf_tup, drf_lst, drf_scr, drf_set, drf_ty, drf_ins, drf_glo, drf_0, ixL0, ixL1, ixL2, ixL3, ixL4, ixT0, ixT1, ixT2, ixAt0, ixAt1, ixAt2, ixAt3, ixAt4, tru_bl, tru_int, tru_tup, tru_lst, c_eq_int, c_ne_int, c_lt, c_le, c_gt, c_ge, c_in2, c_inL, c_inT, c_ninT, c_eq_bl, c_ne_bl, b_len_l, b_len_t, b_len_s, b_abs, b_int, b_tup_l, b_tup_t, b_max, b_min, o_add, o_sub, o_mul, o_fdiv, o_mod, o_pow, o_catT, o_catL, o_repT, o_repL, o_repL2, s_tupX, s_lstX, s_scrX, q_tup, q_lst, qi_tup, qi_lst, qi_scr, at_ins, isNon_int, isNon_non, wpN_nx, wpN_ret, wpN_brk, wpN_cnt, trn_nx, trn_cnt, trn_brk, trn_ret, List.map_cons, List.map_nil, List.length_cons, List.length_nil, Nat.zero_add, Nat.reduceAdd, Nat.reduceLT, true_and, and_true, Option.some.injEq, exists_eq_left', exists_eq_left, exists_and_left, Sl.ol.injEq, Sl.v.injEq, Sl.os.injEq, D.int.injEq, D.bl.injEq, D.tup.injEq, D.lst.injEq, D.ref.injEq, Ob.lst.injEq, List.cons.injEq, decide_eq_true_eq, Bool.not_eq_true', decide_eq_false_iff_not, bne_iff_ne, ne_eq, if_true, if_false, Bool.false_eq_true, Bool.true_eq_false, reduceIte, Bool.not_true, Bool.not_false, decide_true, decide_false, not_true_eq_false, not_false_eq_true, ex2, ex3, lim0, lim1, lim2, lim3, lim4, List.cons_append, List.nil_append, List.map, List.replicate]
    refine b_consW ?_
    try simp only [wpS, wpT, wpE, wpO, wpEs, wpAs, wpL, wpC, wpI, wpG, wpPar, wpSE, brwW, slotV, slotA, List.getElem?_cons_zero, List.getElem?_cons_succ, List.set_cons_zero, List.set_cons_succ, drf_int, drf_bl, drf_non, drf_str, drf_tup, drf_lst, drf_scr, drf_set, drf_ty, drf_ins, drf_glo, drf_0, ixL0, ixL1, ixL2, ixL3, ixL4, ixT0, ixT1, ixT2, ixAt0, ixAt1, ixAt2, ixAt3, ixAt4, tru_bl, tru_int, tru_tup, tru_lst, c_eq_int, c_ne_int, c_lt, c_le, c_gt, c_ge, c_in2, c_inL, c_inT, c_ninT, c_eq_bl, c_ne_bl, b_len_l, b_len_t, b_len_s, b_abs, b_int, b_tup_l, b_tup_t, b_max, b_min, o_add, o_sub, o_mul, o_fdiv, o_mod, o_pow, o_catT, o_catL, o_repT, o_repL, o_repL2, s_tupX, s_lstX, s_scrX, q_tup, q_lst, qi_tup, qi_lst, qi_scr, at_ins, isNon_int, isNon_non, wpN_nx, wpN_ret, wpN_brk, wpN_cnt, trn_nx, trn_cnt, trn_brk, trn_ret, List.map_cons, List.map_nil, List.length_cons, List.length_nil, Nat.zero_add, Nat.reduceAdd, Nat.reduceLT, true_and, and_true, Option.some.injEq, exists_eq_left', exists_eq_left, exists_and_left, Sl.ol.injEq, Sl.v.injEq, Sl.os.injEq, D.int.injEq, D.bl.injEq, D.tup.injEq, D.lst.injEq, D.ref.injEq, Ob.lst.injEq, List.cons.injEq, decide_eq_true_eq, Bool.not_eq_true', decide_eq_false_iff_not, bne_iff_ne, ne_eq, if_true, if_false, Bool.false_eq_true, Bool.true_eq_false, reduceIte, Bool.not_true, Bool.not_false, decide_true, decide_false, not_true_eq_false, not_false_eq_true, ex2, ex3, lim0, lim1, lim2, lim3, lim4, List.cons_append, List.nil_append, List.map, List.replicate]
    exact ⟨rfl, rfl⟩
end Qv.Law
set_option Elab.async false
set_option linter.all false
set_option maxRecDepth 100000
set_option maxHeartbeats 4000000
namespace Qv.Law
open Qv

theorem fm_sub : ∀ {xs : List D} {os : List (Option D)}, os.length = xs.length → (∀ (i : Nat) (x : D) (o : Option D), xs[i]? = some x → os[i]? = some o → o = none ∨ o = some x) → (os.filterMap id).Sublist xs
  | [], [], _, _ => .slnil
  | [], _ :: _, h, _ => by simp at h
  | _ :: _, [], h, _ => by simp at h
  | x :: xs, o :: os, h, k => by
    have ih := fm_sub (xs := xs) (os := os) (by simpa using h) fun i y p e1 e2 => k (i + 1) y p (by simpa using e1) (by simpa using e2)
    rcases k 0 x o rfl rfl with rfl | rfl
    · exact ih.cons x
    · exact ih.cons₂ x
def nD (m : Nat) : D := .int (m : Int)
theorem fm_nats {P : Nat → Prop} : ∀ {os : List (Option D)}, (∀ o ∈ os, ∃ m : Nat, o = some (.int (m : Int)) ∧ P m) → ∃ ms : List Nat, os.filterMap id = ms.map nD ∧ ms.length = os.length ∧ ∀ m ∈ ms, P m
  | [], _ => ⟨[], rfl, rfl, by simp⟩
  | o :: os, h => by
    obtain ⟨m, rfl, hm⟩ := h o List.mem_cons_self
    obtain ⟨ms, h1, h2, h3⟩ := fm_nats (P := P) (os := os) fun p hp => h p (List.mem_cons_of_mem _ hp)
    exact ⟨m :: ms, by simp [h1, nD], by simp [h2], fun x hx => by rcases List.mem_cons.mp hx with rfl | hx; exact hm; exact h3 x hx⟩
def partsD (ms : List Nat) (ts : List (Nat × Nat)) : D := .tup [.tup (ms.map nD), .tup (ts.map pD)]
/-- memories of one to sixty rooms, at most 30; ties, ascending -/
structure PartsOk (ms : List Nat) (ts : List (Nat × Nat)) : Prop where
  pos : 0 < ms.length
  few : ms.length ≤ 60
  mem : ∀ m ∈ ms, m ≤ 30
  ties : ts.Sublist (prs ms.length)
def PartsR (N : Nat) (R : Sh) (d : D) (S : Sh) : Prop := ∃ ms ts, d = partsD ms ts ∧ PartsOk ms ts ∧ ms.length ≤ N ∧ HS R S
def TiesR (n : Nat) (R : Sh) (ys : List D) (S : Sh) : Prop := HS R S ∧ ∃ ts : List (Nat × Nat), ts.Sublist (prs n) ∧ ys = ts.map pD
theorem prs_le {n : Nat} (hn : n ≤ 60) : (prs n).length ≤ 3600 := by
  have := prs_len n n
  have : n * n ≤ 60 * 60 := Nat.mul_le_mul hn hn
  unfold prs
  omega
/-- ties that are picked out of all pairs -/
theorem ties_comp {C : Calls} {cond : IE} {E : En} {n : Nat} {R S : Sh} {iv ip : Nat} (hn : n ≤ 60) (hE : slotV E ip = some (.lst ((prs n).map pD))) (h : HS R S) (hv : slotV ((wipeE E [iv]).set iv (some (.v .non))) iv ≠ none)
    (hc : ∀ p S, HS R S → wpC C (.ye cond) ((wipeE E [iv]).set iv (some (.v (pD p)))) S fun _ S => HS R S) :
    wpL C (.comp (.v iv) (.n iv) (.seq (.v ip)) (.ye cond) [iv]) E S (TiesR n R) := by
  have hlt : iv < (wipeE E [iv]).length := by
    by_cases c : iv < (wipeE E [iv]).length
    · exact c
    · exfalso
      apply hv
      unfold slotV
      rw [List.getElem?_eq_none (by simpa using c)]
  simp only [wpL, wpI, wpE, hE, Option.some.injEq, exists_eq_left', qi_lst]
  refine (compL_ok (P := HS R) (R := fun x o => o = none ∨ o = some x) _ _ S (by rw [List.length_nil, List.length_map]; have := prs_le hn; unfold LIM; omega) h fun x hx S hS => ?_).mono fun ys S' ⟨hS, os, h1, h2, h3⟩ => ⟨hS, ?_⟩
  · obtain ⟨p, _, rfl⟩ := List.mem_map.mp hx
    obtain ⟨t, S1, e, hS1⟩ := wpC_ok (.ye cond) _ S _ (hc p S hS)
    have hs : slotV ((wipeE E [iv]).set iv (some (.v (pD p)))) iv = some (pD p) := by
      unfold slotV
      rw [List.getElem?_set_self hlt]
    unfold compF
    simp only [asgT]
    rw [if_pos hlt]
    dsimp only
    rw [e]
    cases t with
    | true =>
      show Ok ((ev C (.v iv) _ S1).bind fun y S => .ok (some y) S) _
      unfold ev
      rw [hs]
      exact ⟨_, _, rfl, hS1, .inr rfl⟩
    | false => exact ⟨_, _, rfl, hS1, .inl rfl⟩
  · have hsub := fm_sub h1 h2
    rw [List.nil_append] at h3
    rw [← h3, List.sublist_map_iff] at hsub
    obtain ⟨l', q1, q2⟩ := hsub
    exact ⟨l', q1, q2⟩
/-- what stands behind the memories, behind the ties -/
def ParE (R : Sh) (n : Nat) (most memory kind share : Int) (f : Fl) (E : En) (S : Sh) : Prop := f = .nx ∧ HS R S ∧ ∃ ms : List Nat, ms.length = n ∧ (∀ m ∈ ms, (m : Int) ≤ memory) ∧
  E = [some (.v (.ref 0)), some (.v (.int most)), some (.v (.int memory)), some (.v (.lst (ms.map nD))), none, some (.v (.int (n : Int))), some (.v (.int kind)), some (.v (.int share)), none, none, none]
def ParT (R : Sh) (n : Nat) (E0 : En) (f : Fl) (E : En) (S : Sh) : Prop := f = .nx ∧ HS R S ∧ ∃ ts : List (Nat × Nat), ts.Sublist (prs n) ∧ E = E0.set 8 (some (.v (.lst (ts.map pD))))
theorem parts_ok {C : Calls} {k : Nat} (hC : C.fn = callAt L.pg (k + 2)) {R S : Sh} (h : HS R S) {most memory : Int} (m1 : 0 < most) (m2 : most ≤ 59) (m3 : 0 ≤ memory) (m4 : memory ≤ 30) : Ok (C.fn 17 [.ref 0, .int most, .int memory] S) (PartsR most.toNat R) := by
  rw [hC]
  refine fn_W (fn := f__law_parts) rfl rfl ?_
  unfold f__law_parts b__law_parts
  refine b_consW ?_
  try simp only [wpS, wpT, wpE, wpO, wpEs, wpAs, wpL, wpC, wpI, wpG, wpPar, wpSE, brwW, slotV, slotA, List.getElem?_cons_zero, List.getElem?_cons_succ, List.set_cons_zero, List.set_cons_succ, drf_int, drf_bl, drf_non, drf_str, drf_tup, drf_lst, drf_scr, drf_set, drf_ty, drf_ins, drf_glo, drf_0, ixL0, ixL1, ixL2, ixL3, ixL4, ixT0, ixT1, ixT2, ixAt0, ixAt1, ixAt2, ixAt3, ixAt4, tru_bl, tru_int, tru_tup, tru_lst, c_eq_int, c_ne_int, c_lt, c_le, c_gt, c_ge, c_in2, c_inL, c_inT, c_ninT, c_eq_bl, c_ne_bl, b_len_l, b_len_t, b_len_s, b_abs, b_int, b_tup_l, b_tup_t, b_max, b_min, o_add, o_sub, o_mul, o_fdiv, o_mod, o_pow, o_catT, o_catL, o_repT, o_repL, o_repL2, s_tupX, s_lstX, s_scrX, q_tup, q_lst, qi_tup, qi_lst, qi_scr, at_ins, isNon_int, isNon_non, wpN_nx, wpN_ret, wpN_brk, wpN_cnt, trn_nx, trn_cnt, trn_brk, trn_ret, List.map_cons, List.map_nil, List.length_cons, List.length_nil, Nat.zero_add, Nat.reduceAdd, Nat.reduceLT, true_and, and_true, Option.some.injEq, exists_eq_left', exists_eq_left, exists_and_left, Sl.ol.injEq, Sl.v.injEq, Sl.os.injEq, D.int.injEq, D.bl.injEq, D.tup.injEq, D.lst.injEq, D.ref.injEq, Ob.lst.injEq, List.cons.injEq, decide_eq_true_eq, Bool.not_eq_true', decide_eq_false_iff_not, bne_iff_ne, ne_eq, if_true, if_false, Bool.false_eq_true, Bool.true_eq_false, reduceIte, Bool.not_true, Bool.not_false, decide_true, decide_false, not_true_eq_false, not_false_eq_true, ex2, ex3, lim0, lim1, lim2, lim3, lim4, List.cons_append, List.nil_append, List.map, List.replicate]
  refine (drw (C := L.pg.calls (k + 1)) rfl h m1 (by omega)).mono fun d S1 ⟨⟨n, e, hn⟩, h⟩ => ?_
  subst e
  try simp only [wpS, wpT, wpE, wpO, wpEs, wpAs, wpL, wpC, wpI, wpG, wpPar, wpSE, brwW, slotV, slotA, List.getElem?_cons_zero, List.getElem?_cons_succ, List.set_cons_zero, List.set_cons_succ, drf_int, drf_bl, drf_non, drf_str, drf_tup, drf_lst, drf_scr, drf_set, drf_ty, drf_ins, drf_glo, drf_0, ixL0, ixL1, ixL2, ixL3, ixL4, ixT0, ixT1, ixT2, ixAt0, ixAt1, ixAt2, ixAt3, ixAt4, tru_bl, tru_int, tru_tup, tru_lst, c_eq_int, c_ne_int, c_lt, c_le, c_gt, c_ge, c_in2, c_inL, c_inT, c_ninT, c_eq_bl, c_ne_bl, b_len_l, b_len_t, b_len_s, b_abs, b_int, b_tup_l, b_tup_t, b_max, b_min, o_add, o_sub, o_mul, o_fdiv, o_mod, o_pow, o_catT, o_catL, o_repT, o_repL, o_repL2, s_tupX, s_lstX, s_scrX, q_tup, q_lst, qi_tup, qi_lst, qi_scr, at_ins, isNon_int, isNon_non, wpN_nx, wpN_ret, wpN_brk, wpN_cnt, trn_nx, trn_cnt, trn_brk, trn_ret, List.map_cons, List.map_nil, List.length_cons, List.length_nil, Nat.zero_add, Nat.reduceAdd, Nat.reduceLT, true_and, and_true, Option.some.injEq, exists_eq_left', exists_eq_left, exists_and_left, Sl.ol.injEq, Sl.v.injEq, Sl.os.injEq, D.int.injEq, D.bl.injEq, D.tup.injEq, D.lst.injEq, D.ref.injEq, Ob.lst.injEq, List.cons.injEq, decide_eq_true_eq, Bool.not_eq_true', decide_eq_false_iff_not, bne_iff_ne, ne_eq, if_true, if_false, Bool.false_eq_true, Bool.true_eq_false, reduceIte, Bool.not_true, Bool.not_false, decide_true, decide_false, not_true_eq_false, not_false_eq_true, ex2, ex3, lim0, lim1, lim2, lim3, lim4, List.cons_append, List.nil_append, List.map, List.replicate]
  refine (drw (C := L.pg.calls (k + 1)) rfl h (by omega) (by omega)).mono fun d S2 ⟨⟨kind, e, hk⟩, h⟩ => ?_
  subst e
  try simp only [wpS, wpT, wpE, wpO, wpEs, wpAs, wpL, wpC, wpI, wpG, wpPar, wpSE, brwW, slotV, slotA, List.getElem?_cons_zero, List.getElem?_cons_succ, List.set_cons_zero, List.set_cons_succ, drf_int, drf_bl, drf_non, drf_str, drf_tup, drf_lst, drf_scr, drf_set, drf_ty, drf_ins, drf_glo, drf_0, ixL0, ixL1, ixL2, ixL3, ixL4, ixT0, ixT1, ixT2, ixAt0, ixAt1, ixAt2, ixAt3, ixAt4, tru_bl, tru_int, tru_tup, tru_lst, c_eq_int, c_ne_int, c_lt, c_le, c_gt, c_ge, c_in2, c_inL, c_inT, c_ninT, c_eq_bl, c_ne_bl, b_len_l, b_len_t, b_len_s, b_abs, b_int, b_tup_l, b_tup_t, b_max, b_min, o_add, o_sub, o_mul, o_fdiv, o_mod, o_pow, o_catT, o_catL, o_repT, o_repL, o_repL2, s_tupX, s_lstX, s_scrX, q_tup, q_lst, qi_tup, qi_lst, qi_scr, at_ins, isNon_int, isNon_non, wpN_nx, wpN_ret, wpN_brk, wpN_cnt, trn_nx, trn_cnt, trn_brk, trn_ret, List.map_cons, List.map_nil, List.length_cons, List.length_nil, Nat.zero_add, Nat.reduceAdd, Nat.reduceLT, true_and, and_true, Option.some.injEq, exists_eq_left', exists_eq_left, exists_and_left, Sl.ol.injEq, Sl.v.injEq, Sl.os.injEq, D.int.injEq, D.bl.injEq, D.tup.injEq, D.lst.injEq, D.ref.injEq, Ob.lst.injEq, List.cons.injEq, decide_eq_true_eq, Bool.not_eq_true', decide_eq_false_iff_not, bne_iff_ne, ne_eq, if_true, if_false, Bool.false_eq_true, Bool.true_eq_false, reduceIte, Bool.not_true, Bool.not_false, decide_true, decide_false, not_true_eq_false, not_false_eq_true, ex2, ex3, lim0, lim1, lim2, lim3, lim4, List.cons_append, List.nil_append, List.map, List.replicate]
  refine (drw (C := L.pg.calls (k + 1)) rfl h (by omega) (by omega)).mono fun d S3 ⟨⟨sh, e, hs⟩, h⟩ => ?_
  subst e
  rw [show (1 : Int) + (n : Int) = ((n + 1 : Nat) : Int) by omega]
  try simp only [wpS, wpT, wpE, wpO, wpEs, wpAs, wpL, wpC, wpI, wpG, wpPar, wpSE, brwW, slotV, slotA, List.getElem?_cons_zero, List.getElem?_cons_succ, List.set_cons_zero, List.set_cons_succ, drf_int, drf_bl, drf_non, drf_str, drf_tup, drf_lst, drf_scr, drf_set, drf_ty, drf_ins, drf_glo, drf_0, ixL0, ixL1, ixL2, ixL3, ixL4, ixT0, ixT1, ixT2, ixAt0, ixAt1, ixAt2, ixAt3, ixAt4, tru_bl, tru_int, tru_tup, tru_lst, c_eq_int, c_ne_int, c_lt, c_le, c_gt, c_ge, c_in2, c_inL, c_inT, c_ninT, c_eq_bl, c_ne_bl, b_len_l, b_len_t, b_len_s, b_abs, b_int, b_tup_l, b_tup_t, b_max, b_min, o_add, o_sub, o_mul, o_fdiv, o_mod, o_pow, o_catT, o_catL, o_repT, o_repL, o_repL2, s_tupX, s_lstX, s_scrX, q_tup, q_lst, qi_tup, qi_lst, qi_scr, at_ins, isNon_int, isNon_non, wpN_nx, wpN_ret, wpN_brk, wpN_cnt, trn_nx, trn_cnt, trn_brk, trn_ret, List.map_cons, List.map_nil, List.length_cons, List.length_nil, Nat.zero_add, Nat.reduceAdd, Nat.reduceLT, true_and, and_true, Option.some.injEq, exists_eq_left', exists_eq_left, exists_and_left, Sl.ol.injEq, Sl.v.injEq, Sl.os.injEq, D.int.injEq, D.bl.injEq, D.tup.injEq, D.lst.injEq, D.ref.injEq, Ob.lst.injEq, List.cons.injEq, decide_eq_true_eq, Bool.not_eq_true', decide_eq_false_iff_not, bne_iff_ne, ne_eq, if_true, if_false, Bool.false_eq_true, Bool.true_eq_false, reduceIte, Bool.not_true, Bool.not_false, decide_true, decide_false, not_true_eq_false, not_false_eq_true, ex2, ex3, lim0, lim1, lim2, lim3, lim4, List.cons_append, List.nil_append, List.map, List.replicate]
  try refine ⟨by decide, ?_⟩
  refine b_consW ?_
  try simp only [wpS, wpT, wpE, wpO, wpEs, wpAs, wpL, wpC, wpI, wpG, wpPar, wpSE, brwW, slotV, slotA, List.getElem?_cons_zero, List.getElem?_cons_succ, List.set_cons_zero, List.set_cons_succ, drf_int, drf_bl, drf_non, drf_str, drf_tup, drf_lst, drf_scr, drf_set, drf_ty, drf_ins, drf_glo, drf_0, ixL0, ixL1, ixL2, ixL3, ixL4, ixT0, ixT1, ixT2, ixAt0, ixAt1, ixAt2, ixAt3, ixAt4, tru_bl, tru_int, tru_tup, tru_lst, c_eq_int, c_ne_int, c_lt, c_le, c_gt, c_ge, c_in2, c_inL, c_inT, c_ninT, c_eq_bl, c_ne_bl, b_len_l, b_len_t, b_len_s, b_abs, b_int, b_tup_l, b_tup_t, b_max, b_min, o_add, o_sub, o_mul, o_fdiv, o_mod, o_pow, o_catT, o_catL, o_repT, o_repL, o_repL2, s_tupX, s_lstX, s_scrX, q_tup, q_lst, qi_tup, qi_lst, qi_scr, at_ins, isNon_int, isNon_non, wpN_nx, wpN_ret, wpN_brk, wpN_cnt, trn_nx, trn_cnt, trn_brk, trn_ret, List.map_cons, List.map_nil, List.length_cons, List.length_nil, Nat.zero_add, Nat.reduceAdd, Nat.reduceLT, true_and, and_true, Option.some.injEq, exists_eq_left', exists_eq_left, exists_and_left, Sl.ol.injEq, Sl.v.injEq, Sl.os.injEq, D.int.injEq, D.bl.injEq, D.tup.injEq, D.lst.injEq, D.ref.injEq, Ob.lst.injEq, List.cons.injEq, decide_eq_true_eq, Bool.not_eq_true', decide_eq_false_iff_not, bne_iff_ne, ne_eq, if_true, if_false, Bool.false_eq_true, Bool.true_eq_false, reduceIte, Bool.not_true, Bool.not_false, decide_true, decide_false, not_true_eq_false, not_false_eq_true, ex2, ex3, lim0, lim1, lim2, lim3, lim4, List.cons_append, List.nil_append, List.map, List.replicate]
  refine ⟨by unfold LIM; omega, by unfold LIM; omega, ?_⟩
  refine (compL_ok (P := HS R) (R := fun _ o => ∃ m : Nat, o = some (.int (m : Int)) ∧ (m : Int) ≤ memory) _ _ S3 (by rw [rngD_len]; show 0 + _ ≤ 1000000; omega) h fun x hx S hS => ?_).mono fun ys S4 ⟨h, os, o1, o2, o3⟩ => ?_
  · obtain ⟨i, rfl, _⟩ := mem_rngD hx
    refine compF_W ?_
    try simp only [wipeE, wpS, wpT, wpE, wpO, wpEs, wpAs, wpL, wpC, wpI, wpG, wpPar, wpSE, brwW, slotV, slotA, List.getElem?_cons_zero, List.getElem?_cons_succ, List.set_cons_zero, List.set_cons_succ, drf_int, drf_bl, drf_non, drf_str, drf_tup, drf_lst, drf_scr, drf_set, drf_ty, drf_ins, drf_glo, drf_0, ixL0, ixL1, ixL2, ixL3, ixL4, ixT0, ixT1, ixT2, ixAt0, ixAt1, ixAt2, ixAt3, ixAt4, tru_bl, tru_int, tru_tup, tru_lst, c_eq_int, c_ne_int, c_lt, c_le, c_gt, c_ge, c_in2, c_inL, c_inT, c_ninT, c_eq_bl, c_ne_bl, b_len_l, b_len_t, b_len_s, b_abs, b_int, b_tup_l, b_tup_t, b_max, b_min, o_add, o_sub, o_mul, o_fdiv, o_mod, o_pow, o_catT, o_catL, o_repT, o_repL, o_repL2, s_tupX, s_lstX, s_scrX, q_tup, q_lst, qi_tup, qi_lst, qi_scr, at_ins, isNon_int, isNon_non, wpN_nx, wpN_ret, wpN_brk, wpN_cnt, trn_nx, trn_cnt, trn_brk, trn_ret, List.map_cons, List.map_nil, List.length_cons, List.length_nil, Nat.zero_add, Nat.reduceAdd, Nat.reduceLT, true_and, and_true, Option.some.injEq, exists_eq_left', exists_eq_left, exists_and_left, Sl.ol.injEq, Sl.v.injEq, Sl.os.injEq, D.int.injEq, D.bl.injEq, D.tup.injEq, D.lst.injEq, D.ref.injEq, Ob.lst.injEq, List.cons.injEq, decide_eq_true_eq, Bool.not_eq_true', decide_eq_false_iff_not, bne_iff_ne, ne_eq, if_true, if_false, Bool.false_eq_true, Bool.true_eq_false, reduceIte, Bool.not_true, Bool.not_false, decide_true, decide_false, not_true_eq_false, not_false_eq_true, ex2, ex3, lim0, lim1, lim2, lim3, lim4, List.cons_append, List.nil_append, List.map, List.replicate]
    refine (drw (C := L.pg.calls (k + 1)) rfl hS (by omega) (by omega)).mono fun d S1 ⟨⟨n, e, hn⟩, h⟩ => ?_
    subst e
    exact ⟨h, n, rfl, by omega⟩
  obtain ⟨ms, q1, q2, q3⟩ := fm_nats (P := fun m => (m : Int) ≤ memory) (os := os) fun o ho => by
    obtain ⟨i, e⟩ := List.getElem?_of_mem ho
    have hi : i < (rngD 0 ((n + 1 : Nat) : Int)).length := by rw [← o1]; exact (List.getElem?_eq_some_iff.mp e).1
    exact o2 i _ o (List.getElem?_eq_getElem hi) e
  have hml : ms.length = n + 1 := by rw [q2, o1, rngD_len]; omega
  rw [List.nil_append, q1] at o3
  subst o3
  refine b_frzW ?_
  try simp only [frzE, wpS, wpT, wpE, wpO, wpEs, wpAs, wpL, wpC, wpI, wpG, wpPar, wpSE, brwW, slotV, slotA, List.getElem?_cons_zero, List.getElem?_cons_succ, List.set_cons_zero, List.set_cons_succ, drf_int, drf_bl, drf_non, drf_str, drf_tup, drf_lst, drf_scr, drf_set, drf_ty, drf_ins, drf_glo, drf_0, ixL0, ixL1, ixL2, ixL3, ixL4, ixT0, ixT1, ixT2, ixAt0, ixAt1, ixAt2, ixAt3, ixAt4, tru_bl, tru_int, tru_tup, tru_lst, c_eq_int, c_ne_int, c_lt, c_le, c_gt, c_ge, c_in2, c_inL, c_inT, c_ninT, c_eq_bl, c_ne_bl, b_len_l, b_len_t, b_len_s, b_abs, b_int, b_tup_l, b_tup_t, b_max, b_min, o_add, o_sub, o_mul, o_fdiv, o_mod, o_pow, o_catT, o_catL, o_repT, o_repL, o_repL2, s_tupX, s_lstX, s_scrX, q_tup, q_lst, qi_tup, qi_lst, qi_scr, at_ins, isNon_int, isNon_non, wpN_nx, wpN_ret, wpN_brk, wpN_cnt, trn_nx, trn_cnt, trn_brk, trn_ret, List.map_cons, List.map_nil, List.length_cons, List.length_nil, Nat.zero_add, Nat.reduceAdd, Nat.reduceLT, true_and, and_true, Option.some.injEq, exists_eq_left', exists_eq_left, exists_and_left, Sl.ol.injEq, Sl.v.injEq, Sl.os.injEq, D.int.injEq, D.bl.injEq, D.tup.injEq, D.lst.injEq, D.ref.injEq, Ob.lst.injEq, List.cons.injEq, decide_eq_true_eq, Bool.not_eq_true', decide_eq_false_iff_not, bne_iff_ne, ne_eq, if_true, if_false, Bool.false_eq_true, Bool.true_eq_false, reduceIte, Bool.not_true, Bool.not_false, decide_true, decide_false, not_true_eq_false, not_false_eq_true, ex2, ex3, lim0, lim1, lim2, lim3, lim4, List.cons_append, List.nil_append, List.map, List.replicate]
  refine b_consR (ParE R (n + 1) most memory kind (1 + sh)) ?_ ?_
  · try simp only [wpS, wpT, wpE, wpO, wpEs, wpAs, wpL, wpC, wpI, wpG, wpPar, wpSE, brwW, slotV, slotA, List.getElem?_cons_zero, List.getElem?_cons_succ, List.set_cons_zero, List.set_cons_succ, drf_int, drf_bl, drf_non, drf_str, drf_tup, drf_lst, drf_scr, drf_set, drf_ty, drf_ins, drf_glo, drf_0, ixL0, ixL1, ixL2, ixL3, ixL4, ixT0, ixT1, ixT2, ixAt0, ixAt1, ixAt2, ixAt3, ixAt4, tru_bl, tru_int, tru_tup, tru_lst, c_eq_int, c_ne_int, c_lt, c_le, c_gt, c_ge, c_in2, c_inL, c_inT, c_ninT, c_eq_bl, c_ne_bl, b_len_l, b_len_t, b_len_s, b_abs, b_int, b_tup_l, b_tup_t, b_max, b_min, o_add, o_sub, o_mul, o_fdiv, o_mod, o_pow, o_catT, o_catL, o_repT, o_repL, o_repL2, s_tupX, s_lstX, s_scrX, q_tup, q_lst, qi_tup, qi_lst, qi_scr, at_ins, isNon_int, isNon_non, wpN_nx, wpN_ret, wpN_brk, wpN_cnt, trn_nx, trn_cnt, trn_brk, trn_ret, List.map_cons, List.map_nil, List.length_cons, List.length_nil, Nat.zero_add, Nat.reduceAdd, Nat.reduceLT, true_and, and_true, Option.some.injEq, exists_eq_left', exists_eq_left, exists_and_left, Sl.ol.injEq, Sl.v.injEq, Sl.os.injEq, D.int.injEq, D.bl.injEq, D.tup.injEq, D.lst.injEq, D.ref.injEq, Ob.lst.injEq, List.cons.injEq, decide_eq_true_eq, Bool.not_eq_true', decide_eq_false_iff_not, bne_iff_ne, ne_eq, if_true, if_false, Bool.false_eq_true, Bool.true_eq_false, reduceIte, Bool.not_true, Bool.not_false, decide_true, decide_false, not_true_eq_false, not_false_eq_true, ex2, ex3, lim0, lim1, lim2, lim3, lim4, List.cons_append, List.nil_append, List.map, List.replicate]
    refine (drw (C := L.pg.calls (k + 1)) rfl h (by omega) (by omega)).mono fun d S1 ⟨⟨n2, e, hn2⟩, h⟩ => ?_
    subst e
    try simp only [wpS, wpT, wpE, wpO, wpEs, wpAs, wpL, wpC, wpI, wpG, wpPar, wpSE, brwW, slotV, slotA, List.getElem?_cons_zero, List.getElem?_cons_succ, List.set_cons_zero, List.set_cons_succ, drf_int, drf_bl, drf_non, drf_str, drf_tup, drf_lst, drf_scr, drf_set, drf_ty, drf_ins, drf_glo, drf_0, ixL0, ixL1, ixL2, ixL3, ixL4, ixT0, ixT1, ixT2, ixAt0, ixAt1, ixAt2, ixAt3, ixAt4, tru_bl, tru_int, tru_tup, tru_lst, c_eq_int, c_ne_int, c_lt, c_le, c_gt, c_ge, c_in2, c_inL, c_inT, c_ninT, c_eq_bl, c_ne_bl, b_len_l, b_len_t, b_len_s, b_abs, b_int, b_tup_l, b_tup_t, b_max, b_min, o_add, o_sub, o_mul, o_fdiv, o_mod, o_pow, o_catT, o_catL, o_repT, o_repL, o_repL2, s_tupX, s_lstX, s_scrX, q_tup, q_lst, qi_tup, qi_lst, qi_scr, at_ins, isNon_int, isNon_non, wpN_nx, wpN_ret, wpN_brk, wpN_cnt, trn_nx, trn_cnt, trn_brk, trn_ret, List.map_cons, List.map_nil, List.length_cons, List.length_nil, Nat.zero_add, Nat.reduceAdd, Nat.reduceLT, true_and, and_true, Option.some.injEq, exists_eq_left', exists_eq_left, exists_and_left, Sl.ol.injEq, Sl.v.injEq, Sl.os.injEq, D.int.injEq, D.bl.injEq, D.tup.injEq, D.lst.injEq, D.ref.injEq, Ob.lst.injEq, List.cons.injEq, decide_eq_true_eq, Bool.not_eq_true', decide_eq_false_iff_not, bne_iff_ne, ne_eq, if_true, if_false, Bool.false_eq_true, Bool.true_eq_false, reduceIte, Bool.not_true, Bool.not_false, decide_true, decide_false, not_true_eq_false, not_false_eq_true, ex2, ex3, lim0, lim1, lim2, lim3, lim4, List.cons_append, List.nil_append, List.map, List.replicate]
    split
    · refine b_consW ?_
      have e0 : (ms.map nD)[0]? = some (nD (ms[0]'(by omega))) := by rw [List.getElem?_map, List.getElem?_eq_getElem (by omega)]; rfl
      have e1 : ixD (.lst (ms.map nD)) (.int 0) = some (nD (ms[0]'(by omega))) := ixLn (n := 0) e0
      try simp only [e1, wpS, wpT, wpE, wpO, wpEs, wpAs, wpL, wpC, wpI, wpG, wpPar, wpSE, brwW, slotV, slotA, List.getElem?_cons_zero, List.getElem?_cons_succ, List.set_cons_zero, List.set_cons_succ, drf_int, drf_bl, drf_non, drf_str, drf_tup, drf_lst, drf_scr, drf_set, drf_ty, drf_ins, drf_glo, drf_0, ixL0, ixL1, ixL2, ixL3, ixL4, ixT0, ixT1, ixT2, ixAt0, ixAt1, ixAt2, ixAt3, ixAt4, tru_bl, tru_int, tru_tup, tru_lst, c_eq_int, c_ne_int, c_lt, c_le, c_gt, c_ge, c_in2, c_inL, c_inT, c_ninT, c_eq_bl, c_ne_bl, b_len_l, b_len_t, b_len_s, b_abs, b_int, b_tup_l, b_tup_t, b_max, b_min, o_add, o_sub, o_mul, o_fdiv, o_mod, o_pow, o_catT, o_catL, o_repT, o_repL, o_repL2, s_tupX, s_lstX, s_scrX, q_tup, q_lst, qi_tup, qi_lst, qi_scr, at_ins, isNon_int, isNon_non, wpN_nx, wpN_ret, wpN_brk, wpN_cnt, trn_nx, trn_cnt, trn_brk, trn_ret, List.map_cons, List.map_nil, List.length_cons, List.length_nil, Nat.zero_add, Nat.reduceAdd, Nat.reduceLT, true_and, and_true, Option.some.injEq, exists_eq_left', exists_eq_left, exists_and_left, Sl.ol.injEq, Sl.v.injEq, Sl.os.injEq, D.int.injEq, D.bl.injEq, D.tup.injEq, D.lst.injEq, D.ref.injEq, Ob.lst.injEq, List.cons.injEq, decide_eq_true_eq, Bool.not_eq_true', decide_eq_false_iff_not, bne_iff_ne, ne_eq, if_true, if_false, Bool.false_eq_true, Bool.true_eq_false, reduceIte, Bool.not_true, Bool.not_false, decide_true, decide_false, not_true_eq_false, not_false_eq_true, ex2, ex3, lim0, lim1, lim2, lim3, lim4, List.cons_append, List.nil_append, List.map, List.replicate]
      refine ⟨⟨by omega, by omega, by decide⟩, ?_⟩
      refine b_nilW ⟨rfl, h, List.replicate (n + 1) (ms[0]'(by omega)), by simp, fun m hm => ?_, ?_⟩
      · rw [List.eq_of_mem_replicate hm]
        exact q3 _ (List.getElem_mem _)
      · have e3 : (List.replicate ((n + 1 : Nat) : Int).toNat [nD (ms[0]'(by omega))]).flatten = (List.replicate (n + 1) (ms[0]'(by omega))).map nD := by simp
        rw [e3]
    · exact b_nilW ⟨rfl, h, ms, hml, q3, rfl⟩
  · rintro f E S' ⟨rfl, h, ms, hml, q3, rfl⟩
    rw [wpN_nx]
    refine b_consW ?_
    try simp only [wpS, wpT, wpE, wpO, wpEs, wpAs, wpL, wpC, wpI, wpG, wpPar, wpSE, brwW, slotV, slotA, List.getElem?_cons_zero, List.getElem?_cons_succ, List.set_cons_zero, List.set_cons_succ, drf_int, drf_bl, drf_non, drf_str, drf_tup, drf_lst, drf_scr, drf_set, drf_ty, drf_ins, drf_glo, drf_0, ixL0, ixL1, ixL2, ixL3, ixL4, ixT0, ixT1, ixT2, ixAt0, ixAt1, ixAt2, ixAt3, ixAt4, tru_bl, tru_int, tru_tup, tru_lst, c_eq_int, c_ne_int, c_lt, c_le, c_gt, c_ge, c_in2, c_inL, c_inT, c_ninT, c_eq_bl, c_ne_bl, b_len_l, b_len_t, b_len_s, b_abs, b_int, b_tup_l, b_tup_t, b_max, b_min, o_add, o_sub, o_mul, o_fdiv, o_mod, o_pow, o_catT, o_catL, o_repT, o_repL, o_repL2, s_tupX, s_lstX, s_scrX, q_tup, q_lst, qi_tup, qi_lst, qi_scr, at_ins, isNon_int, isNon_non, wpN_nx, wpN_ret, wpN_brk, wpN_cnt, trn_nx, trn_cnt, trn_brk, trn_ret, List.map_cons, List.map_nil, List.length_cons, List.length_nil, Nat.zero_add, Nat.reduceAdd, Nat.reduceLT, true_and, and_true, Option.some.injEq, exists_eq_left', exists_eq_left, exists_and_left, Sl.ol.injEq, Sl.v.injEq, Sl.os.injEq, D.int.injEq, D.bl.injEq, D.tup.injEq, D.lst.injEq, D.ref.injEq, Ob.lst.injEq, List.cons.injEq, decide_eq_true_eq, Bool.not_eq_true', decide_eq_false_iff_not, bne_iff_ne, ne_eq, if_true, if_false, Bool.false_eq_true, Bool.true_eq_false, reduceIte, Bool.not_true, Bool.not_false, decide_true, decide_false, not_true_eq_false, not_false_eq_true, ex2, ex3, lim0, lim1, lim2, lim3, lim4, List.cons_append, List.nil_append, List.map, List.replicate]
    refine (pairs_ok (C := L.pg.calls (k + 1)) rfl (n + 1) (by omega) S').mono fun d S5 ⟨e1, e2⟩ => ?_
    subst e1 e2
    refine b_consR (ParT R (n + 1) [some (.v (.ref 0)), some (.v (.int most)), some (.v (.int memory)), some (.v (.lst (ms.map nD))), some (.v (.lst ((prs (n + 1)).map pD))), some (.v (.int ((n + 1 : Nat) : Int))), some (.v (.int kind)), some (.v (.int (1 + sh))), none, none, none]) ?_ ?_
    · have fin : ∀ {ys : List D} {S6 : Sh}, TiesR (n + 1) R ys S6 → ∀ {E : En}, E = [some (.v (.ref 0)), some (.v (.int most)), some (.v (.int memory)), some (.v (.lst (ms.map nD))), some (.v (.lst ((prs (n + 1)).map pD))), some (.v (.int ((n + 1 : Nat) : Int))), some (.v (.int kind)), some (.v (.int (1 + sh))), none, none, none] → ∀ {Q0 : Fl → En → Sh → Prop}, (∀ ts : List (Nat × Nat), ts.Sublist (prs (n + 1)) → HS R S6 → Q0 .nx (E.set 8 (some (.v (.lst (ts.map pD))))) S6) → 8 < E.length ∧ wpB (L.pg.calls (k + 1)) (.frz 8 .nil) (E.set 8 (some (.ol ys))) S6 Q0 := by
        rintro ys S6 ⟨h, ts, q1, rfl⟩ E rfl Q0 hq
        refine ⟨by simp, b_frzW ?_⟩
        try simp only [frzE, wpS, wpT, wpE, wpO, wpEs, wpAs, wpL, wpC, wpI, wpG, wpPar, wpSE, brwW, slotV, slotA, List.getElem?_cons_zero, List.getElem?_cons_succ, List.set_cons_zero, List.set_cons_succ, drf_int, drf_bl, drf_non, drf_str, drf_tup, drf_lst, drf_scr, drf_set, drf_ty, drf_ins, drf_glo, drf_0, ixL0, ixL1, ixL2, ixL3, ixL4, ixT0, ixT1, ixT2, ixAt0, ixAt1, ixAt2, ixAt3, ixAt4, tru_bl, tru_int, tru_tup, tru_lst, c_eq_int, c_ne_int, c_lt, c_le, c_gt, c_ge, c_in2, c_inL, c_inT, c_ninT, c_eq_bl, c_ne_bl, b_len_l, b_len_t, b_len_s, b_abs, b_int, b_tup_l, b_tup_t, b_max, b_min, o_add, o_sub, o_mul, o_fdiv, o_mod, o_pow, o_catT, o_catL, o_repT, o_repL, o_repL2, s_tupX, s_lstX, s_scrX, q_tup, q_lst, qi_tup, qi_lst, qi_scr, at_ins, isNon_int, isNon_non, wpN_nx, wpN_ret, wpN_brk, wpN_cnt, trn_nx, trn_cnt, trn_brk, trn_ret, List.map_cons, List.map_nil, List.length_cons, List.length_nil, Nat.zero_add, Nat.reduceAdd, Nat.reduceLT, true_and, and_true, Option.some.injEq, exists_eq_left', exists_eq_left, exists_and_left, Sl.ol.injEq, Sl.v.injEq, Sl.os.injEq, D.int.injEq, D.bl.injEq, D.tup.injEq, D.lst.injEq, D.ref.injEq, Ob.lst.injEq, List.cons.injEq, decide_eq_true_eq, Bool.not_eq_true', decide_eq_false_iff_not, bne_iff_ne, ne_eq, if_true, if_false, Bool.false_eq_true, Bool.true_eq_false, reduceIte, Bool.not_true, Bool.not_false, decide_true, decide_false, not_true_eq_false, not_false_eq_true, ex2, ex3, lim0, lim1, lim2, lim3, lim4, List.cons_append, List.nil_append, List.map, List.replicate]
        exact b_nilW (hq ts q1 h)
      try simp only [wpS, wpT, wpE, wpO, wpEs, wpAs, wpL, wpC, wpI, wpG, wpPar, wpSE, brwW, slotV, slotA, List.getElem?_cons_zero, List.getElem?_cons_succ, List.set_cons_zero, List.set_cons_succ, drf_int, drf_bl, drf_non, drf_str, drf_tup, drf_lst, drf_scr, drf_set, drf_ty, drf_ins, drf_glo, drf_0, ixL0, ixL1, ixL2, ixL3, ixL4, ixT0, ixT1, ixT2, ixAt0, ixAt1, ixAt2, ixAt3, ixAt4, tru_bl, tru_int, tru_tup, tru_lst, c_eq_int, c_ne_int, c_lt, c_le, c_gt, c_ge, c_in2, c_inL, c_inT, c_ninT, c_eq_bl, c_ne_bl, b_len_l, b_len_t, b_len_s, b_abs, b_int, b_tup_l, b_tup_t, b_max, b_min, o_add, o_sub, o_mul, o_fdiv, o_mod, o_pow, o_catT, o_catL, o_repT, o_repL, o_repL2, s_tupX, s_lstX, s_scrX, q_tup, q_lst, qi_tup, qi_lst, qi_scr, at_ins, isNon_int, isNon_non, wpN_nx, wpN_ret, wpN_brk, wpN_cnt, trn_nx, trn_cnt, trn_brk, trn_ret, List.map_cons, List.map_nil, List.length_cons, List.length_nil, Nat.zero_add, Nat.reduceAdd, Nat.reduceLT, true_and, and_true, Option.some.injEq, exists_eq_left', exists_eq_left, exists_and_left, Sl.ol.injEq, Sl.v.injEq, Sl.os.injEq, D.int.injEq, D.bl.injEq, D.tup.injEq, D.lst.injEq, D.ref.injEq, Ob.lst.injEq, List.cons.injEq, decide_eq_true_eq, Bool.not_eq_true', decide_eq_false_iff_not, bne_iff_ne, ne_eq, if_true, if_false, Bool.false_eq_true, Bool.true_eq_false, reduceIte, Bool.not_true, Bool.not_false, decide_true, decide_false, not_true_eq_false, not_false_eq_true, ex2, ex3, lim0, lim1, lim2, lim3, lim4, List.cons_append, List.nil_append, List.map, List.replicate]
      split
      · refine b_ownR (TiesR (n + 1) R) (ties_comp (by omega) rfl h (by simp [wipeE, slotV]) fun p S hS => ?_) fun ys S6 hy => fin hy rfl fun ts q1 h => ⟨rfl, h, ts, q1, rfl⟩
        try simp only [wipeE, pD, wpS, wpT, wpE, wpO, wpEs, wpAs, wpL, wpC, wpI, wpG, wpPar, wpSE, brwW, slotV, slotA, List.getElem?_cons_zero, List.getElem?_cons_succ, List.set_cons_zero, List.set_cons_succ, drf_int, drf_bl, drf_non, drf_str, drf_tup, drf_lst, drf_scr, drf_set, drf_ty, drf_ins, drf_glo, drf_0, ixL0, ixL1, ixL2, ixL3, ixL4, ixT0, ixT1, ixT2, ixAt0, ixAt1, ixAt2, ixAt3, ixAt4, tru_bl, tru_int, tru_tup, tru_lst, c_eq_int, c_ne_int, c_lt, c_le, c_gt, c_ge, c_in2, c_inL, c_inT, c_ninT, c_eq_bl, c_ne_bl, b_len_l, b_len_t, b_len_s, b_abs, b_int, b_tup_l, b_tup_t, b_max, b_min, o_add, o_sub, o_mul, o_fdiv, o_mod, o_pow, o_catT, o_catL, o_repT, o_repL, o_repL2, s_tupX, s_lstX, s_scrX, q_tup, q_lst, qi_tup, qi_lst, qi_scr, at_ins, isNon_int, isNon_non, wpN_nx, wpN_ret, wpN_brk, wpN_cnt, trn_nx, trn_cnt, trn_brk, trn_ret, List.map_cons, List.map_nil, List.length_cons, List.length_nil, Nat.zero_add, Nat.reduceAdd, Nat.reduceLT, true_and, and_true, Option.some.injEq, exists_eq_left', exists_eq_left, exists_and_left, Sl.ol.injEq, Sl.v.injEq, Sl.os.injEq, D.int.injEq, D.bl.injEq, D.tup.injEq, D.lst.injEq, D.ref.injEq, Ob.lst.injEq, List.cons.injEq, decide_eq_true_eq, Bool.not_eq_true', decide_eq_false_iff_not, bne_iff_ne, ne_eq, if_true, if_false, Bool.false_eq_true, Bool.true_eq_false, reduceIte, Bool.not_true, Bool.not_false, decide_true, decide_false, not_true_eq_false, not_false_eq_true, ex2, ex3, lim0, lim1, lim2, lim3, lim4, List.cons_append, List.nil_append, List.map, List.replicate]
        exact hS
      · refine b_consW ?_
        try simp only [wpS, wpT, wpE, wpO, wpEs, wpAs, wpL, wpC, wpI, wpG, wpPar, wpSE, brwW, slotV, slotA, List.getElem?_cons_zero, List.getElem?_cons_succ, List.set_cons_zero, List.set_cons_succ, drf_int, drf_bl, drf_non, drf_str, drf_tup, drf_lst, drf_scr, drf_set, drf_ty, drf_ins, drf_glo, drf_0, ixL0, ixL1, ixL2, ixL3, ixL4, ixT0, ixT1, ixT2, ixAt0, ixAt1, ixAt2, ixAt3, ixAt4, tru_bl, tru_int, tru_tup, tru_lst, c_eq_int, c_ne_int, c_lt, c_le, c_gt, c_ge, c_in2, c_inL, c_inT, c_ninT, c_eq_bl, c_ne_bl, b_len_l, b_len_t, b_len_s, b_abs, b_int, b_tup_l, b_tup_t, b_max, b_min, o_add, o_sub, o_mul, o_fdiv, o_mod, o_pow, o_catT, o_catL, o_repT, o_repL, o_repL2, s_tupX, s_lstX, s_scrX, q_tup, q_lst, qi_tup, qi_lst, qi_scr, at_ins, isNon_int, isNon_non, wpN_nx, wpN_ret, wpN_brk, wpN_cnt, trn_nx, trn_cnt, trn_brk, trn_ret, List.map_cons, List.map_nil, List.length_cons, List.length_nil, Nat.zero_add, Nat.reduceAdd, Nat.reduceLT, true_and, and_true, Option.some.injEq, exists_eq_left', exists_eq_left, exists_and_left, Sl.ol.injEq, Sl.v.injEq, Sl.os.injEq, D.int.injEq, D.bl.injEq, D.tup.injEq, D.lst.injEq, D.ref.injEq, Ob.lst.injEq, List.cons.injEq, decide_eq_true_eq, Bool.not_eq_true', decide_eq_false_iff_not, bne_iff_ne, ne_eq, if_true, if_false, Bool.false_eq_true, Bool.true_eq_false, reduceIte, Bool.not_true, Bool.not_false, decide_true, decide_false, not_true_eq_false, not_false_eq_true, ex2, ex3, lim0, lim1, lim2, lim3, lim4, List.cons_append, List.nil_append, List.map, List.replicate]
        split
        · refine b_ownR (TiesR (n + 1) R) (ties_comp (by omega) rfl h (by simp [wipeE, slotV]) fun p S hS => ?_) fun ys S6 hy => fin hy rfl fun ts q1 h => b_nilW ⟨rfl, h, ts, q1, rfl⟩
          try simp only [wipeE, pD, wpS, wpT, wpE, wpO, wpEs, wpAs, wpL, wpC, wpI, wpG, wpPar, wpSE, brwW, slotV, slotA, List.getElem?_cons_zero, List.getElem?_cons_succ, List.set_cons_zero, List.set_cons_succ, drf_int, drf_bl, drf_non, drf_str, drf_tup, drf_lst, drf_scr, drf_set, drf_ty, drf_ins, drf_glo, drf_0, ixL0, ixL1, ixL2, ixL3, ixL4, ixT0, ixT1, ixT2, ixAt0, ixAt1, ixAt2, ixAt3, ixAt4, tru_bl, tru_int, tru_tup, tru_lst, c_eq_int, c_ne_int, c_lt, c_le, c_gt, c_ge, c_in2, c_inL, c_inT, c_ninT, c_eq_bl, c_ne_bl, b_len_l, b_len_t, b_len_s, b_abs, b_int, b_tup_l, b_tup_t, b_max, b_min, o_add, o_sub, o_mul, o_fdiv, o_mod, o_pow, o_catT, o_catL, o_repT, o_repL, o_repL2, s_tupX, s_lstX, s_scrX, q_tup, q_lst, qi_tup, qi_lst, qi_scr, at_ins, isNon_int, isNon_non, wpN_nx, wpN_ret, wpN_brk, wpN_cnt, trn_nx, trn_cnt, trn_brk, trn_ret, List.map_cons, List.map_nil, List.length_cons, List.length_nil, Nat.zero_add, Nat.reduceAdd, Nat.reduceLT, true_and, and_true, Option.some.injEq, exists_eq_left', exists_eq_left, exists_and_left, Sl.ol.injEq, Sl.v.injEq, Sl.os.injEq, D.int.injEq, D.bl.injEq, D.tup.injEq, D.lst.injEq, D.ref.injEq, Ob.lst.injEq, List.cons.injEq, decide_eq_true_eq, Bool.not_eq_true', decide_eq_false_iff_not, bne_iff_ne, ne_eq, if_true, if_false, Bool.false_eq_true, Bool.true_eq_false, reduceIte, Bool.not_true, Bool.not_false, decide_true, decide_false, not_true_eq_false, not_false_eq_true, ex2, ex3, lim0, lim1, lim2, lim3, lim4, List.cons_append, List.nil_append, List.map, List.replicate]
          exact hS
        · refine b_consW ?_
          try simp only [wpS, wpT, wpE, wpO, wpEs, wpAs, wpL, wpC, wpI, wpG, wpPar, wpSE, brwW, slotV, slotA, List.getElem?_cons_zero, List.getElem?_cons_succ, List.set_cons_zero, List.set_cons_succ, drf_int, drf_bl, drf_non, drf_str, drf_tup, drf_lst, drf_scr, drf_set, drf_ty, drf_ins, drf_glo, drf_0, ixL0, ixL1, ixL2, ixL3, ixL4, ixT0, ixT1, ixT2, ixAt0, ixAt1, ixAt2, ixAt3, ixAt4, tru_bl, tru_int, tru_tup, tru_lst, c_eq_int, c_ne_int, c_lt, c_le, c_gt, c_ge, c_in2, c_inL, c_inT, c_ninT, c_eq_bl, c_ne_bl, b_len_l, b_len_t, b_len_s, b_abs, b_int, b_tup_l, b_tup_t, b_max, b_min, o_add, o_sub, o_mul, o_fdiv, o_mod, o_pow, o_catT, o_catL, o_repT, o_repL, o_repL2, s_tupX, s_lstX, s_scrX, q_tup, q_lst, qi_tup, qi_lst, qi_scr, at_ins, isNon_int, isNon_non, wpN_nx, wpN_ret, wpN_brk, wpN_cnt, trn_nx, trn_cnt, trn_brk, trn_ret, List.map_cons, List.map_nil, List.length_cons, List.length_nil, Nat.zero_add, Nat.reduceAdd, Nat.reduceLT, true_and, and_true, Option.some.injEq, exists_eq_left', exists_eq_left, exists_and_left, Sl.ol.injEq, Sl.v.injEq, Sl.os.injEq, D.int.injEq, D.bl.injEq, D.tup.injEq, D.lst.injEq, D.ref.injEq, Ob.lst.injEq, List.cons.injEq, decide_eq_true_eq, Bool.not_eq_true', decide_eq_false_iff_not, bne_iff_ne, ne_eq, if_true, if_false, Bool.false_eq_true, Bool.true_eq_false, reduceIte, Bool.not_true, Bool.not_false, decide_true, decide_false, not_true_eq_false, not_false_eq_true, ex2, ex3, lim0, lim1, lim2, lim3, lim4, List.cons_append, List.nil_append, List.map, List.replicate]
          split
          · refine b_ownR (TiesR (n + 1) R) (ties_comp (by omega) rfl h (by simp [wipeE, slotV]) fun p S hS => ?_) fun ys S6 hy => fin hy rfl fun ts q1 h => b_nilN (b_nilW ⟨rfl, h, ts, q1, rfl⟩)
            try simp only [wipeE, pD, wpS, wpT, wpE, wpO, wpEs, wpAs, wpL, wpC, wpI, wpG, wpPar, wpSE, brwW, slotV, slotA, List.getElem?_cons_zero, List.getElem?_cons_succ, List.set_cons_zero, List.set_cons_succ, drf_int, drf_bl, drf_non, drf_str, drf_tup, drf_lst, drf_scr, drf_set, drf_ty, drf_ins, drf_glo, drf_0, ixL0, ixL1, ixL2, ixL3, ixL4, ixT0, ixT1, ixT2, ixAt0, ixAt1, ixAt2, ixAt3, ixAt4, tru_bl, tru_int, tru_tup, tru_lst, c_eq_int, c_ne_int, c_lt, c_le, c_gt, c_ge, c_in2, c_inL, c_inT, c_ninT, c_eq_bl, c_ne_bl, b_len_l, b_len_t, b_len_s, b_abs, b_int, b_tup_l, b_tup_t, b_max, b_min, o_add, o_sub, o_mul, o_fdiv, o_mod, o_pow, o_catT, o_catL, o_repT, o_repL, o_repL2, s_tupX, s_lstX, s_scrX, q_tup, q_lst, qi_tup, qi_lst, qi_scr, at_ins, isNon_int, isNon_non, wpN_nx, wpN_ret, wpN_brk, wpN_cnt, trn_nx, trn_cnt, trn_brk, trn_ret, List.map_cons, List.map_nil, List.length_cons, List.length_nil, Nat.zero_add, Nat.reduceAdd, Nat.reduceLT, true_and, and_true, Option.some.injEq, exists_eq_left', exists_eq_left, exists_and_left, Sl.ol.injEq, Sl.v.injEq, Sl.os.injEq, D.int.injEq, D.bl.injEq, D.tup.injEq, D.lst.injEq, D.ref.injEq, Ob.lst.injEq, List.cons.injEq, decide_eq_true_eq, Bool.not_eq_true', decide_eq_false_iff_not, bne_iff_ne, ne_eq, if_true, if_false, Bool.false_eq_true, Bool.true_eq_false, reduceIte, Bool.not_true, Bool.not_false, decide_true, decide_false, not_true_eq_false, not_false_eq_true, ex2, ex3, lim0, lim1, lim2, lim3, lim4, List.cons_append, List.nil_append, List.map, List.replicate]
            try refine ⟨by decide, ?_⟩
            split
            · refine (drw (C := L.pg.calls (k + 1)) rfl hS (by omega) (by omega)).mono fun d S1 ⟨⟨n2, e, hn2⟩, h⟩ => ?_
              subst e
              try simp only [wpS, wpT, wpE, wpO, wpEs, wpAs, wpL, wpC, wpI, wpG, wpPar, wpSE, brwW, slotV, slotA, List.getElem?_cons_zero, List.getElem?_cons_succ, List.set_cons_zero, List.set_cons_succ, drf_int, drf_bl, drf_non, drf_str, drf_tup, drf_lst, drf_scr, drf_set, drf_ty, drf_ins, drf_glo, drf_0, ixL0, ixL1, ixL2, ixL3, ixL4, ixT0, ixT1, ixT2, ixAt0, ixAt1, ixAt2, ixAt3, ixAt4, tru_bl, tru_int, tru_tup, tru_lst, c_eq_int, c_ne_int, c_lt, c_le, c_gt, c_ge, c_in2, c_inL, c_inT, c_ninT, c_eq_bl, c_ne_bl, b_len_l, b_len_t, b_len_s, b_abs, b_int, b_tup_l, b_tup_t, b_max, b_min, o_add, o_sub, o_mul, o_fdiv, o_mod, o_pow, o_catT, o_catL, o_repT, o_repL, o_repL2, s_tupX, s_lstX, s_scrX, q_tup, q_lst, qi_tup, qi_lst, qi_scr, at_ins, isNon_int, isNon_non, wpN_nx, wpN_ret, wpN_brk, wpN_cnt, trn_nx, trn_cnt, trn_brk, trn_ret, List.map_cons, List.map_nil, List.length_cons, List.length_nil, Nat.zero_add, Nat.reduceAdd, Nat.reduceLT, true_and, and_true, Option.some.injEq, exists_eq_left', exists_eq_left, exists_and_left, Sl.ol.injEq, Sl.v.injEq, Sl.os.injEq, D.int.injEq, D.bl.injEq, D.tup.injEq, D.lst.injEq, D.ref.injEq, Ob.lst.injEq, List.cons.injEq, decide_eq_true_eq, Bool.not_eq_true', decide_eq_false_iff_not, bne_iff_ne, ne_eq, if_true, if_false, Bool.false_eq_true, Bool.true_eq_false, reduceIte, Bool.not_true, Bool.not_false, decide_true, decide_false, not_true_eq_false, not_false_eq_true, ex2, ex3, lim0, lim1, lim2, lim3, lim4, List.cons_append, List.nil_append, List.map, List.replicate]
              exact h
            · exact hS
          · refine b_consW ?_
            try simp only [wpS, wpT, wpE, wpO, wpEs, wpAs, wpL, wpC, wpI, wpG, wpPar, wpSE, brwW, slotV, slotA, List.getElem?_cons_zero, List.getElem?_cons_succ, List.set_cons_zero, List.set_cons_succ, drf_int, drf_bl, drf_non, drf_str, drf_tup, drf_lst, drf_scr, drf_set, drf_ty, drf_ins, drf_glo, drf_0, ixL0, ixL1, ixL2, ixL3, ixL4, ixT0, ixT1, ixT2, ixAt0, ixAt1, ixAt2, ixAt3, ixAt4, tru_bl, tru_int, tru_tup, tru_lst, c_eq_int, c_ne_int, c_lt, c_le, c_gt, c_ge, c_in2, c_inL, c_inT, c_ninT, c_eq_bl, c_ne_bl, b_len_l, b_len_t, b_len_s, b_abs, b_int, b_tup_l, b_tup_t, b_max, b_min, o_add, o_sub, o_mul, o_fdiv, o_mod, o_pow, o_catT, o_catL, o_repT, o_repL, o_repL2, s_tupX, s_lstX, s_scrX, q_tup, q_lst, qi_tup, qi_lst, qi_scr, at_ins, isNon_int, isNon_non, wpN_nx, wpN_ret, wpN_brk, wpN_cnt, trn_nx, trn_cnt, trn_brk, trn_ret, List.map_cons, List.map_nil, List.length_cons, List.length_nil, Nat.zero_add, Nat.reduceAdd, Nat.reduceLT, true_and, and_true, Option.some.injEq, exists_eq_left', exists_eq_left, exists_and_left, Sl.ol.injEq, Sl.v.injEq, Sl.os.injEq, D.int.injEq, D.bl.injEq, D.tup.injEq, D.lst.injEq, D.ref.injEq, Ob.lst.injEq, List.cons.injEq, decide_eq_true_eq, Bool.not_eq_true', decide_eq_false_iff_not, bne_iff_ne, ne_eq, if_true, if_false, Bool.false_eq_true, Bool.true_eq_false, reduceIte, Bool.not_true, Bool.not_false, decide_true, decide_false, not_true_eq_false, not_false_eq_true, ex2, ex3, lim0, lim1, lim2, lim3, lim4, List.cons_append, List.nil_append, List.map, List.replicate]
            split
            · refine b_ownR (TiesR (n + 1) R) (ties_comp (by omega) rfl h (by simp [wipeE, slotV]) fun p S hS => ?_) fun ys S6 hy => fin hy rfl fun ts q1 h => b_nilN (b_nilN (b_nilW ⟨rfl, h, ts, q1, rfl⟩))
              try simp only [wipeE, pD, wpS, wpT, wpE, wpO, wpEs, wpAs, wpL, wpC, wpI, wpG, wpPar, wpSE, brwW, slotV, slotA, List.getElem?_cons_zero, List.getElem?_cons_succ, List.set_cons_zero, List.set_cons_succ, drf_int, drf_bl, drf_non, drf_str, drf_tup, drf_lst, drf_scr, drf_set, drf_ty, drf_ins, drf_glo, drf_0, ixL0, ixL1, ixL2, ixL3, ixL4, ixT0, ixT1, ixT2, ixAt0, ixAt1, ixAt2, ixAt3, ixAt4, tru_bl, tru_int, tru_tup, tru_lst, c_eq_int, c_ne_int, c_lt, c_le, c_gt, c_ge, c_in2, c_inL, c_inT, c_ninT, c_eq_bl, c_ne_bl, b_len_l, b_len_t, b_len_s, b_abs, b_int, b_tup_l, b_tup_t, b_max, b_min, o_add, o_sub, o_mul, o_fdiv, o_mod, o_pow, o_catT, o_catL, o_repT, o_repL, o_repL2, s_tupX, s_lstX, s_scrX, q_tup, q_lst, qi_tup, qi_lst, qi_scr, at_ins, isNon_int, isNon_non, wpN_nx, wpN_ret, wpN_brk, wpN_cnt, trn_nx, trn_cnt, trn_brk, trn_ret, List.map_cons, List.map_nil, List.length_cons, List.length_nil, Nat.zero_add, Nat.reduceAdd, Nat.reduceLT, true_and, and_true, Option.some.injEq, exists_eq_left', exists_eq_left, exists_and_left, Sl.ol.injEq, Sl.v.injEq, Sl.os.injEq, D.int.injEq, D.bl.injEq, D.tup.injEq, D.lst.injEq, D.ref.injEq, Ob.lst.injEq, List.cons.injEq, decide_eq_true_eq, Bool.not_eq_true', decide_eq_false_iff_not, bne_iff_ne, ne_eq, if_true, if_false, Bool.false_eq_true, Bool.true_eq_false, reduceIte, Bool.not_true, Bool.not_false, decide_true, decide_false, not_true_eq_false, not_false_eq_true, ex2, ex3, lim0, lim1, lim2, lim3, lim4, List.cons_append, List.nil_append, List.map, List.replicate]
              exact hS
            · refine b_ownR (TiesR (n + 1) R) (ties_comp (by omega) rfl h (by simp [wipeE, slotV]) fun p S hS => ?_) fun ys S6 hy => fin hy rfl fun ts q1 h => b_nilN (b_nilN (b_nilW ⟨rfl, h, ts, q1, rfl⟩))
              try simp only [wipeE, pD, wpS, wpT, wpE, wpO, wpEs, wpAs, wpL, wpC, wpI, wpG, wpPar, wpSE, brwW, slotV, slotA, List.getElem?_cons_zero, List.getElem?_cons_succ, List.set_cons_zero, List.set_cons_succ, drf_int, drf_bl, drf_non, drf_str, drf_tup, drf_lst, drf_scr, drf_set, drf_ty, drf_ins, drf_glo, drf_0, ixL0, ixL1, ixL2, ixL3, ixL4, ixT0, ixT1, ixT2, ixAt0, ixAt1, ixAt2, ixAt3, ixAt4, tru_bl, tru_int, tru_tup, tru_lst, c_eq_int, c_ne_int, c_lt, c_le, c_gt, c_ge, c_in2, c_inL, c_inT, c_ninT, c_eq_bl, c_ne_bl, b_len_l, b_len_t, b_len_s, b_abs, b_int, b_tup_l, b_tup_t, b_max, b_min, o_add, o_sub, o_mul, o_fdiv, o_mod, o_pow, o_catT, o_catL, o_repT, o_repL, o_repL2, s_tupX, s_lstX, s_scrX, q_tup, q_lst, qi_tup, qi_lst, qi_scr, at_ins, isNon_int, isNon_non, wpN_nx, wpN_ret, wpN_brk, wpN_cnt, trn_nx, trn_cnt, trn_brk, trn_ret, List.map_cons, List.map_nil, List.length_cons, List.length_nil, Nat.zero_add, Nat.reduceAdd, Nat.reduceLT, true_and, and_true, Option.some.injEq, exists_eq_left', exists_eq_left, exists_and_left, Sl.ol.injEq, Sl.v.injEq, Sl.os.injEq, D.int.injEq, D.bl.injEq, D.tup.injEq, D.lst.injEq, D.ref.injEq, Ob.lst.injEq, List.cons.injEq, decide_eq_true_eq, Bool.not_eq_true', decide_eq_false_iff_not, bne_iff_ne, ne_eq, if_true, if_false, Bool.false_eq_true, Bool.true_eq_false, reduceIte, Bool.not_true, Bool.not_false, decide_true, decide_false, not_true_eq_false, not_false_eq_true, ex2, ex3, lim0, lim1, lim2, lim3, lim4, List.cons_append, List.nil_append, List.map, List.replicate]
              refine (drw (C := L.pg.calls (k + 1)) rfl hS (by omega) (by omega)).mono fun d S1 ⟨⟨n2, e, hn2⟩, h⟩ => ?_
              subst e
              try simp only [wpS, wpT, wpE, wpO, wpEs, wpAs, wpL, wpC, wpI, wpG, wpPar, wpSE, brwW, slotV, slotA, List.getElem?_cons_zero, List.getElem?_cons_succ, List.set_cons_zero, List.set_cons_succ, drf_int, drf_bl, drf_non, drf_str, drf_tup, drf_lst, drf_scr, drf_set, drf_ty, drf_ins, drf_glo, drf_0, ixL0, ixL1, ixL2, ixL3, ixL4, ixT0, ixT1, ixT2, ixAt0, ixAt1, ixAt2, ixAt3, ixAt4, tru_bl, tru_int, tru_tup, tru_lst, c_eq_int, c_ne_int, c_lt, c_le, c_gt, c_ge, c_in2, c_inL, c_inT, c_ninT, c_eq_bl, c_ne_bl, b_len_l, b_len_t, b_len_s, b_abs, b_int, b_tup_l, b_tup_t, b_max, b_min, o_add, o_sub, o_mul, o_fdiv, o_mod, o_pow, o_catT, o_catL, o_repT, o_repL, o_repL2, s_tupX, s_lstX, s_scrX, q_tup, q_lst, qi_tup, qi_lst, qi_scr, at_ins, isNon_int, isNon_non, wpN_nx, wpN_ret, wpN_brk, wpN_cnt, trn_nx, trn_cnt, trn_brk, trn_ret, List.map_cons, List.map_nil, List.length_cons, List.length_nil, Nat.zero_add, Nat.reduceAdd, Nat.reduceLT, true_and, and_true, Option.some.injEq, exists_eq_left', exists_eq_left, exists_and_left, Sl.ol.injEq, Sl.v.injEq, Sl.os.injEq, D.int.injEq, D.bl.injEq, D.tup.injEq, D.lst.injEq, D.ref.injEq, Ob.lst.injEq, List.cons.injEq, decide_eq_true_eq, Bool.not_eq_true', decide_eq_false_iff_not, bne_iff_ne, ne_eq, if_true, if_false, Bool.false_eq_true, Bool.true_eq_false, reduceIte, Bool.not_true, Bool.not_false, decide_true, decide_false, not_true_eq_false, not_false_eq_true, ex2, ex3, lim0, lim1, lim2, lim3, lim4, List.cons_append, List.nil_append, List.map, List.replicate]
              exact h
    · rintro f E S' ⟨rfl, h, ts, ht, rfl⟩
      try simp only [wpS, wpT, wpE, wpO, wpEs, wpAs, wpL, wpC, wpI, wpG, wpPar, wpSE, brwW, slotV, slotA, List.getElem?_cons_zero, List.getElem?_cons_succ, List.set_cons_zero, List.set_cons_succ, drf_int, drf_bl, drf_non, drf_str, drf_tup, drf_lst, drf_scr, drf_set, drf_ty, drf_ins, drf_glo, drf_0, ixL0, ixL1, ixL2, ixL3, ixL4, ixT0, ixT1, ixT2, ixAt0, ixAt1, ixAt2, ixAt3, ixAt4, tru_bl, tru_int, tru_tup, tru_lst, c_eq_int, c_ne_int, c_lt, c_le, c_gt, c_ge, c_in2, c_inL, c_inT, c_ninT, c_eq_bl, c_ne_bl, b_len_l, b_len_t, b_len_s, b_abs, b_int, b_tup_l, b_tup_t, b_max, b_min, o_add, o_sub, o_mul, o_fdiv, o_mod, o_pow, o_catT, o_catL, o_repT, o_repL, o_repL2, s_tupX, s_lstX, s_scrX, q_tup, q_lst, qi_tup, qi_lst, qi_scr, at_ins, isNon_int, isNon_non, wpN_nx, wpN_ret, wpN_brk, wpN_cnt, trn_nx, trn_cnt, trn_brk, trn_ret, List.map_cons, List.map_nil, List.length_cons, List.length_nil, Nat.zero_add, Nat.reduceAdd, Nat.reduceLT, true_and, and_true, Option.some.injEq, exists_eq_left', exists_eq_left, exists_and_left, Sl.ol.injEq, Sl.v.injEq, Sl.os.injEq, D.int.injEq, D.bl.injEq, D.tup.injEq, D.lst.injEq, D.ref.injEq, Ob.lst.injEq, List.cons.injEq, decide_eq_true_eq, Bool.not_eq_true', decide_eq_false_iff_not, bne_iff_ne, ne_eq, if_true, if_false, Bool.false_eq_true, Bool.true_eq_false, reduceIte, Bool.not_true, Bool.not_false, decide_true, decide_false, not_true_eq_false, not_false_eq_true, ex2, ex3, lim0, lim1, lim2, lim3, lim4, List.cons_append, List.nil_append, List.map, List.replicate]
      refine b_consW ?_
      try simp only [wpS, wpT, wpE, wpO, wpEs, wpAs, wpL, wpC, wpI, wpG, wpPar, wpSE, brwW, slotV, slotA, List.getElem?_cons_zero, List.getElem?_cons_succ, List.set_cons_zero, List.set_cons_succ, drf_int, drf_bl, drf_non, drf_str, drf_tup, drf_lst, drf_scr, drf_set, drf_ty, drf_ins, drf_glo, drf_0, ixL0, ixL1, ixL2, ixL3, ixL4, ixT0, ixT1, ixT2, ixAt0, ixAt1, ixAt2, ixAt3, ixAt4, tru_bl, tru_int, tru_tup, tru_lst, c_eq_int, c_ne_int, c_lt, c_le, c_gt, c_ge, c_in2, c_inL, c_inT, c_ninT, c_eq_bl, c_ne_bl, b_len_l, b_len_t, b_len_s, b_abs, b_int, b_tup_l, b_tup_t, b_max, b_min, o_add, o_sub, o_mul, o_fdiv, o_mod, o_pow, o_catT, o_catL, o_repT, o_repL, o_repL2, s_tupX, s_lstX, s_scrX, q_tup, q_lst, qi_tup, qi_lst, qi_scr, at_ins, isNon_int, isNon_non, wpN_nx, wpN_ret, wpN_brk, wpN_cnt, trn_nx, trn_cnt, trn_brk, trn_ret, List.map_cons, List.map_nil, List.length_cons, List.length_nil, Nat.zero_add, Nat.reduceAdd, Nat.reduceLT, true_and, and_true, Option.some.injEq, exists_eq_left', exists_eq_left, exists_and_left, Sl.ol.injEq, Sl.v.injEq, Sl.os.injEq, D.int.injEq, D.bl.injEq, D.tup.injEq, D.lst.injEq, D.ref.injEq, Ob.lst.injEq, List.cons.injEq, decide_eq_true_eq, Bool.not_eq_true', decide_eq_false_iff_not, bne_iff_ne, ne_eq, if_true, if_false, Bool.false_eq_true, Bool.true_eq_false, reduceIte, Bool.not_true, Bool.not_false, decide_true, decide_false, not_true_eq_false, not_false_eq_true, ex2, ex3, lim0, lim1, lim2, lim3, lim4, List.cons_append, List.nil_append, List.map, List.replicate]
      refine ⟨ms, ts, rfl, ⟨by omega, by omega, fun m hm => ?_, by rw [hml]; exact ht⟩, by omega, h⟩
      have := q3 m hm
      omega
end Qv.Law
set_option Elab.async false
set_option linter.all false
set_option maxRecDepth 100000
set_option maxHeartbeats 4000000
namespace Qv.Law
open Qv

theorem deep_ok {C : Calls} {k : Nat} (hC : C.fn = callAt L.pg (k + 3)) {R S : Sh} (h : HS R S) : Ok (C.fn 9 [.ref 0, .int 3] S) (PartsR 3 R) := by
  rw [hC]
  refine fn_W (fn := f__law_deep_parts) rfl rfl ?_
  unfold f__law_deep_parts b__law_deep_parts
  refine b_consW ?_
  try simp only [wpS, wpT, wpE, wpO, wpEs, wpAs, wpL, wpC, wpI, wpG, wpPar, wpSE, brwW, slotV, slotA, List.getElem?_cons_zero, List.getElem?_cons_succ, List.set_cons_zero, List.set_cons_succ, drf_int, drf_bl, drf_non, drf_str, drf_tup, drf_lst, drf_scr, drf_set, drf_ty, drf_ins, drf_glo, drf_0, ixL0, ixL1, ixL2, ixL3, ixL4, ixT0, ixT1, ixT2, ixAt0, ixAt1, ixAt2, ixAt3, ixAt4, tru_bl, tru_int, tru_tup, tru_lst, c_eq_int, c_ne_int, c_lt, c_le, c_gt, c_ge, c_in2, c_inL, c_inT, c_ninT, c_eq_bl, c_ne_bl, b_len_l, b_len_t, b_len_s, b_abs, b_int, b_tup_l, b_tup_t, b_max, b_min, o_add, o_sub, o_mul, o_fdiv, o_mod, o_pow, o_catT, o_catL, o_repT, o_repL, o_repL2, s_tupX, s_lstX, s_scrX, q_tup, q_lst, qi_tup, qi_lst, qi_scr, at_ins, isNon_int, isNon_non, wpN_nx, wpN_ret, wpN_brk, wpN_cnt, trn_nx, trn_cnt, trn_brk, trn_ret, List.map_cons, List.map_nil, List.length_cons, List.length_nil, Nat.zero_add, Nat.reduceAdd, Nat.reduceLT, true_and, and_true, Option.some.injEq, exists_eq_left', exists_eq_left, exists_and_left, Sl.ol.injEq, Sl.v.injEq, Sl.os.injEq, D.int.injEq, D.bl.injEq, D.tup.injEq, D.lst.injEq, D.ref.injEq, Ob.lst.injEq, List.cons.injEq, decide_eq_true_eq, Bool.not_eq_true', decide_eq_false_iff_not, bne_iff_ne, ne_eq, if_true, if_false, Bool.false_eq_true, Bool.true_eq_false, reduceIte, Bool.not_true, Bool.not_false, decide_true, decide_false, not_true_eq_false, not_false_eq_true, ex2, ex3, lim0, lim1, lim2, lim3, lim4, List.cons_append, List.nil_append, List.map, List.replicate]
  refine (drw (C := L.pg.calls (k + 2)) rfl h (by omega) (by omega)).mono fun d S1 ⟨⟨n, e, hn⟩, h⟩ => ?_
  subst e
  try simp only [wpS, wpT, wpE, wpO, wpEs, wpAs, wpL, wpC, wpI, wpG, wpPar, wpSE, brwW, slotV, slotA, List.getElem?_cons_zero, List.getElem?_cons_succ, List.set_cons_zero, List.set_cons_succ, drf_int, drf_bl, drf_non, drf_str, drf_tup, drf_lst, drf_scr, drf_set, drf_ty, drf_ins, drf_glo, drf_0, ixL0, ixL1, ixL2, ixL3, ixL4, ixT0, ixT1, ixT2, ixAt0, ixAt1, ixAt2, ixAt3, ixAt4, tru_bl, tru_int, tru_tup, tru_lst, c_eq_int, c_ne_int, c_lt, c_le, c_gt, c_ge, c_in2, c_inL, c_inT, c_ninT, c_eq_bl, c_ne_bl, b_len_l, b_len_t, b_len_s, b_abs, b_int, b_tup_l, b_tup_t, b_max, b_min, o_add, o_sub, o_mul, o_fdiv, o_mod, o_pow, o_catT, o_catL, o_repT, o_repL, o_repL2, s_tupX, s_lstX, s_scrX, q_tup, q_lst, qi_tup, qi_lst, qi_scr, at_ins, isNon_int, isNon_non, wpN_nx, wpN_ret, wpN_brk, wpN_cnt, trn_nx, trn_cnt, trn_brk, trn_ret, List.map_cons, List.map_nil, List.length_cons, List.length_nil, Nat.zero_add, Nat.reduceAdd, Nat.reduceLT, true_and, and_true, Option.some.injEq, exists_eq_left', exists_eq_left, exists_and_left, Sl.ol.injEq, Sl.v.injEq, Sl.os.injEq, D.int.injEq, D.bl.injEq, D.tup.injEq, D.lst.injEq, D.ref.injEq, Ob.lst.injEq, List.cons.injEq, decide_eq_true_eq, Bool.not_eq_true', decide_eq_false_iff_not, bne_iff_ne, ne_eq, if_true, if_false, Bool.false_eq_true, Bool.true_eq_false, reduceIte, Bool.not_true, Bool.not_false, decide_true, decide_false, not_true_eq_false, not_false_eq_true, ex2, ex3, lim0, lim1, lim2, lim3, lim4, List.cons_append, List.nil_append, List.map, List.replicate]
  rw [show (1 : Int) + (n : Int) = ((n + 1 : Nat) : Int) by omega]
  refine b_consW ?_
  try simp only [wpS, wpT, wpE, wpO, wpEs, wpAs, wpL, wpC, wpI, wpG, wpPar, wpSE, brwW, slotV, slotA, List.getElem?_cons_zero, List.getElem?_cons_succ, List.set_cons_zero, List.set_cons_succ, drf_int, drf_bl, drf_non, drf_str, drf_tup, drf_lst, drf_scr, drf_set, drf_ty, drf_ins, drf_glo, drf_0, ixL0, ixL1, ixL2, ixL3, ixL4, ixT0, ixT1, ixT2, ixAt0, ixAt1, ixAt2, ixAt3, ixAt4, tru_bl, tru_int, tru_tup, tru_lst, c_eq_int, c_ne_int, c_lt, c_le, c_gt, c_ge, c_in2, c_inL, c_inT, c_ninT, c_eq_bl, c_ne_bl, b_len_l, b_len_t, b_len_s, b_abs, b_int, b_tup_l, b_tup_t, b_max, b_min, o_add, o_sub, o_mul, o_fdiv, o_mod, o_pow, o_catT, o_catL, o_repT, o_repL, o_repL2, s_tupX, s_lstX, s_scrX, q_tup, q_lst, qi_tup, qi_lst, qi_scr, at_ins, isNon_int, isNon_non, wpN_nx, wpN_ret, wpN_brk, wpN_cnt, trn_nx, trn_cnt, trn_brk, trn_ret, List.map_cons, List.map_nil, List.length_cons, List.length_nil, Nat.zero_add, Nat.reduceAdd, Nat.reduceLT, true_and, and_true, Option.some.injEq, exists_eq_left', exists_eq_left, exists_and_left, Sl.ol.injEq, Sl.v.injEq, Sl.os.injEq, D.int.injEq, D.bl.injEq, D.tup.injEq, D.lst.injEq, D.ref.injEq, Ob.lst.injEq, List.cons.injEq, decide_eq_true_eq, Bool.not_eq_true', decide_eq_false_iff_not, bne_iff_ne, ne_eq, if_true, if_false, Bool.false_eq_true, Bool.true_eq_false, reduceIte, Bool.not_true, Bool.not_false, decide_true, decide_false, not_true_eq_false, not_false_eq_true, ex2, ex3, lim0, lim1, lim2, lim3, lim4, List.cons_append, List.nil_append, List.map, List.replicate]
  refine ⟨by unfold LIM; omega, by unfold LIM; omega, ?_⟩
  refine (compL_ok (P := HS R) (R := fun _ o => ∃ m : Nat, o = some (.int (m : Int)) ∧ m ≤ 30) _ _ S1 (by rw [rngD_len]; show 0 + _ ≤ 1000000; omega) h fun x hx S hS => ?_).mono fun ys S4 ⟨h, os, o1, o2, o3⟩ => ?_
  · obtain ⟨i, rfl, _⟩ := mem_rngD hx
    refine compF_W ?_
    try simp only [wipeE, wpS, wpT, wpE, wpO, wpEs, wpAs, wpL, wpC, wpI, wpG, wpPar, wpSE, brwW, slotV, slotA, List.getElem?_cons_zero, List.getElem?_cons_succ, List.set_cons_zero, List.set_cons_succ, drf_int, drf_bl, drf_non, drf_str, drf_tup, drf_lst, drf_scr, drf_set, drf_ty, drf_ins, drf_glo, drf_0, ixL0, ixL1, ixL2, ixL3, ixL4, ixT0, ixT1, ixT2, ixAt0, ixAt1, ixAt2, ixAt3, ixAt4, tru_bl, tru_int, tru_tup, tru_lst, c_eq_int, c_ne_int, c_lt, c_le, c_gt, c_ge, c_in2, c_inL, c_inT, c_ninT, c_eq_bl, c_ne_bl, b_len_l, b_len_t, b_len_s, b_abs, b_int, b_tup_l, b_tup_t, b_max, b_min, o_add, o_sub, o_mul, o_fdiv, o_mod, o_pow, o_catT, o_catL, o_repT, o_repL, o_repL2, s_tupX, s_lstX, s_scrX, q_tup, q_lst, qi_tup, qi_lst, qi_scr, at_ins, isNon_int, isNon_non, wpN_nx, wpN_ret, wpN_brk, wpN_cnt, trn_nx, trn_cnt, trn_brk, trn_ret, List.map_cons, List.map_nil, List.length_cons, List.length_nil, Nat.zero_add, Nat.reduceAdd, Nat.reduceLT, true_and, and_true, Option.some.injEq, exists_eq_left', exists_eq_left, exists_and_left, Sl.ol.injEq, Sl.v.injEq, Sl.os.injEq, D.int.injEq, D.bl.injEq, D.tup.injEq, D.lst.injEq, D.ref.injEq, Ob.lst.injEq, List.cons.injEq, decide_eq_true_eq, Bool.not_eq_true', decide_eq_false_iff_not, bne_iff_ne, ne_eq, if_true, if_false, Bool.false_eq_true, Bool.true_eq_false, reduceIte, Bool.not_true, Bool.not_false, decide_true, decide_false, not_true_eq_false, not_false_eq_true, ex2, ex3, lim0, lim1, lim2, lim3, lim4, List.cons_append, List.nil_append, List.map, List.replicate]
    refine (drw (C := L.pg.calls (k + 2)) rfl hS (by omega) (by omega)).mono fun d S1 ⟨⟨n, e, hn⟩, h⟩ => ?_
    subst e
    try simp only [wpS, wpT, wpE, wpO, wpEs, wpAs, wpL, wpC, wpI, wpG, wpPar, wpSE, brwW, slotV, slotA, List.getElem?_cons_zero, List.getElem?_cons_succ, List.set_cons_zero, List.set_cons_succ, drf_int, drf_bl, drf_non, drf_str, drf_tup, drf_lst, drf_scr, drf_set, drf_ty, drf_ins, drf_glo, drf_0, ixL0, ixL1, ixL2, ixL3, ixL4, ixT0, ixT1, ixT2, ixAt0, ixAt1, ixAt2, ixAt3, ixAt4, tru_bl, tru_int, tru_tup, tru_lst, c_eq_int, c_ne_int, c_lt, c_le, c_gt, c_ge, c_in2, c_inL, c_inT, c_ninT, c_eq_bl, c_ne_bl, b_len_l, b_len_t, b_len_s, b_abs, b_int, b_tup_l, b_tup_t, b_max, b_min, o_add, o_sub, o_mul, o_fdiv, o_mod, o_pow, o_catT, o_catL, o_repT, o_repL, o_repL2, s_tupX, s_lstX, s_scrX, q_tup, q_lst, qi_tup, qi_lst, qi_scr, at_ins, isNon_int, isNon_non, wpN_nx, wpN_ret, wpN_brk, wpN_cnt, trn_nx, trn_cnt, trn_brk, trn_ret, List.map_cons, List.map_nil, List.length_cons, List.length_nil, Nat.zero_add, Nat.reduceAdd, Nat.reduceLT, true_and, and_true, Option.some.injEq, exists_eq_left', exists_eq_left, exists_and_left, Sl.ol.injEq, Sl.v.injEq, Sl.os.injEq, D.int.injEq, D.bl.injEq, D.tup.injEq, D.lst.injEq, D.ref.injEq, Ob.lst.injEq, List.cons.injEq, decide_eq_true_eq, Bool.not_eq_true', decide_eq_false_iff_not, bne_iff_ne, ne_eq, if_true, if_false, Bool.false_eq_true, Bool.true_eq_false, reduceIte, Bool.not_true, Bool.not_false, decide_true, decide_false, not_true_eq_false, not_false_eq_true, ex2, ex3, lim0, lim1, lim2, lim3, lim4, List.cons_append, List.nil_append, List.map, List.replicate]
    try refine ⟨by decide, ?_⟩
    refine (any_ok (C := L.pg.calls (k + 2)) (k := k) rfl h (by simp) (by simp)).mono fun d S2 ⟨hd, h⟩ => ⟨h, ?_⟩
    simp only [List.mem_cons, List.mem_nil_iff, or_false] at hd
    rcases hd with rfl | rfl | rfl | rfl | rfl | rfl
    · exact ⟨5, rfl, by omega⟩
    · exact ⟨7, rfl, by omega⟩
    · exact ⟨9, rfl, by omega⟩
    · exact ⟨16, rfl, by omega⟩
    · exact ⟨30, rfl, by omega⟩
    · exact ⟨5 + n, by simp, by omega⟩
  obtain ⟨ms, q1, q2, q3⟩ := fm_nats (P := fun m => m ≤ 30) (os := os) fun o ho => by
    obtain ⟨i, e⟩ := List.getElem?_of_mem ho
    have hi : i < (rngD 0 ((n + 1 : Nat) : Int)).length := by rw [← o1]; exact (List.getElem?_eq_some_iff.mp e).1
    exact o2 i _ o (List.getElem?_eq_getElem hi) e
  have hml : ms.length = n + 1 := by rw [q2, o1, rngD_len]; omega
  rw [List.nil_append, q1] at o3
  subst o3
  refine b_frzW ?_
  try simp only [frzE, wpS, wpT, wpE, wpO, wpEs, wpAs, wpL, wpC, wpI, wpG, wpPar, wpSE, brwW, slotV, slotA, List.getElem?_cons_zero, List.getElem?_cons_succ, List.set_cons_zero, List.set_cons_succ, drf_int, drf_bl, drf_non, drf_str, drf_tup, drf_lst, drf_scr, drf_set, drf_ty, drf_ins, drf_glo, drf_0, ixL0, ixL1, ixL2, ixL3, ixL4, ixT0, ixT1, ixT2, ixAt0, ixAt1, ixAt2, ixAt3, ixAt4, tru_bl, tru_int, tru_tup, tru_lst, c_eq_int, c_ne_int, c_lt, c_le, c_gt, c_ge, c_in2, c_inL, c_inT, c_ninT, c_eq_bl, c_ne_bl, b_len_l, b_len_t, b_len_s, b_abs, b_int, b_tup_l, b_tup_t, b_max, b_min, o_add, o_sub, o_mul, o_fdiv, o_mod, o_pow, o_catT, o_catL, o_repT, o_repL, o_repL2, s_tupX, s_lstX, s_scrX, q_tup, q_lst, qi_tup, qi_lst, qi_scr, at_ins, isNon_int, isNon_non, wpN_nx, wpN_ret, wpN_brk, wpN_cnt, trn_nx, trn_cnt, trn_brk, trn_ret, List.map_cons, List.map_nil, List.length_cons, List.length_nil, Nat.zero_add, Nat.reduceAdd, Nat.reduceLT, true_and, and_true, Option.some.injEq, exists_eq_left', exists_eq_left, exists_and_left, Sl.ol.injEq, Sl.v.injEq, Sl.os.injEq, D.int.injEq, D.bl.injEq, D.tup.injEq, D.lst.injEq, D.ref.injEq, Ob.lst.injEq, List.cons.injEq, decide_eq_true_eq, Bool.not_eq_true', decide_eq_false_iff_not, bne_iff_ne, ne_eq, if_true, if_false, Bool.false_eq_true, Bool.true_eq_false, reduceIte, Bool.not_true, Bool.not_false, decide_true, decide_false, not_true_eq_false, not_false_eq_true, ex2, ex3, lim0, lim1, lim2, lim3, lim4, List.cons_append, List.nil_append, List.map, List.replicate]
  refine b_consW ?_
  try simp only [wpS, wpT, wpE, wpO, wpEs, wpAs, wpL, wpC, wpI, wpG, wpPar, wpSE, brwW, slotV, slotA, List.getElem?_cons_zero, List.getElem?_cons_succ, List.set_cons_zero, List.set_cons_succ, drf_int, drf_bl, drf_non, drf_str, drf_tup, drf_lst, drf_scr, drf_set, drf_ty, drf_ins, drf_glo, drf_0, ixL0, ixL1, ixL2, ixL3, ixL4, ixT0, ixT1, ixT2, ixAt0, ixAt1, ixAt2, ixAt3, ixAt4, tru_bl, tru_int, tru_tup, tru_lst, c_eq_int, c_ne_int, c_lt, c_le, c_gt, c_ge, c_in2, c_inL, c_inT, c_ninT, c_eq_bl, c_ne_bl, b_len_l, b_len_t, b_len_s, b_abs, b_int, b_tup_l, b_tup_t, b_max, b_min, o_add, o_sub, o_mul, o_fdiv, o_mod, o_pow, o_catT, o_catL, o_repT, o_repL, o_repL2, s_tupX, s_lstX, s_scrX, q_tup, q_lst, qi_tup, qi_lst, qi_scr, at_ins, isNon_int, isNon_non, wpN_nx, wpN_ret, wpN_brk, wpN_cnt, trn_nx, trn_cnt, trn_brk, trn_ret, List.map_cons, List.map_nil, List.length_cons, List.length_nil, Nat.zero_add, Nat.reduceAdd, Nat.reduceLT, true_and, and_true, Option.some.injEq, exists_eq_left', exists_eq_left, exists_and_left, Sl.ol.injEq, Sl.v.injEq, Sl.os.injEq, D.int.injEq, D.bl.injEq, D.tup.injEq, D.lst.injEq, D.ref.injEq, Ob.lst.injEq, List.cons.injEq, decide_eq_true_eq, Bool.not_eq_true', decide_eq_false_iff_not, bne_iff_ne, ne_eq, if_true, if_false, Bool.false_eq_true, Bool.true_eq_false, reduceIte, Bool.not_true, Bool.not_false, decide_true, decide_false, not_true_eq_false, not_false_eq_true, ex2, ex3, lim0, lim1, lim2, lim3, lim4, List.cons_append, List.nil_append, List.map, List.replicate]
  refine (drw (C := L.pg.calls (k + 2)) rfl h (by omega) (by omega)).mono fun d S1 ⟨⟨n2, e, hn2⟩, h⟩ => ?_
  subst e
  try simp only [wpS, wpT, wpE, wpO, wpEs, wpAs, wpL, wpC, wpI, wpG, wpPar, wpSE, brwW, slotV, slotA, List.getElem?_cons_zero, List.getElem?_cons_succ, List.set_cons_zero, List.set_cons_succ, drf_int, drf_bl, drf_non, drf_str, drf_tup, drf_lst, drf_scr, drf_set, drf_ty, drf_ins, drf_glo, drf_0, ixL0, ixL1, ixL2, ixL3, ixL4, ixT0, ixT1, ixT2, ixAt0, ixAt1, ixAt2, ixAt3, ixAt4, tru_bl, tru_int, tru_tup, tru_lst, c_eq_int, c_ne_int, c_lt, c_le, c_gt, c_ge, c_in2, c_inL, c_inT, c_ninT, c_eq_bl, c_ne_bl, b_len_l, b_len_t, b_len_s, b_abs, b_int, b_tup_l, b_tup_t, b_max, b_min, o_add, o_sub, o_mul, o_fdiv, o_mod, o_pow, o_catT, o_catL, o_repT, o_repL, o_repL2, s_tupX, s_lstX, s_scrX, q_tup, q_lst, qi_tup, qi_lst, qi_scr, at_ins, isNon_int, isNon_non, wpN_nx, wpN_ret, wpN_brk, wpN_cnt, trn_nx, trn_cnt, trn_brk, trn_ret, List.map_cons, List.map_nil, List.length_cons, List.length_nil, Nat.zero_add, Nat.reduceAdd, Nat.reduceLT, true_and, and_true, Option.some.injEq, exists_eq_left', exists_eq_left, exists_and_left, Sl.ol.injEq, Sl.v.injEq, Sl.os.injEq, D.int.injEq, D.bl.injEq, D.tup.injEq, D.lst.injEq, D.ref.injEq, Ob.lst.injEq, List.cons.injEq, decide_eq_true_eq, Bool.not_eq_true', decide_eq_false_iff_not, bne_iff_ne, ne_eq, if_true, if_false, Bool.false_eq_true, Bool.true_eq_false, reduceIte, Bool.not_true, Bool.not_false, decide_true, decide_false, not_true_eq_false, not_false_eq_true, ex2, ex3, lim0, lim1, lim2, lim3, lim4, List.cons_append, List.nil_append, List.map, List.replicate]
  split
  · refine (pairs_ok (C := L.pg.calls (k + 2)) rfl (n + 1) (by omega) S1).mono fun d S5 ⟨e1, e2⟩ => ?_
    subst e1 e2
    try simp only [wpS, wpT, wpE, wpO, wpEs, wpAs, wpL, wpC, wpI, wpG, wpPar, wpSE, brwW, slotV, slotA, List.getElem?_cons_zero, List.getElem?_cons_succ, List.set_cons_zero, List.set_cons_succ, drf_int, drf_bl, drf_non, drf_str, drf_tup, drf_lst, drf_scr, drf_set, drf_ty, drf_ins, drf_glo, drf_0, ixL0, ixL1, ixL2, ixL3, ixL4, ixT0, ixT1, ixT2, ixAt0, ixAt1, ixAt2, ixAt3, ixAt4, tru_bl, tru_int, tru_tup, tru_lst, c_eq_int, c_ne_int, c_lt, c_le, c_gt, c_ge, c_in2, c_inL, c_inT, c_ninT, c_eq_bl, c_ne_bl, b_len_l, b_len_t, b_len_s, b_abs, b_int, b_tup_l, b_tup_t, b_max, b_min, o_add, o_sub, o_mul, o_fdiv, o_mod, o_pow, o_catT, o_catL, o_repT, o_repL, o_repL2, s_tupX, s_lstX, s_scrX, q_tup, q_lst, qi_tup, qi_lst, qi_scr, at_ins, isNon_int, isNon_non, wpN_nx, wpN_ret, wpN_brk, wpN_cnt, trn_nx, trn_cnt, trn_brk, trn_ret, List.map_cons, List.map_nil, List.length_cons, List.length_nil, Nat.zero_add, Nat.reduceAdd, Nat.reduceLT, true_and, and_true, Option.some.injEq, exists_eq_left', exists_eq_left, exists_and_left, Sl.ol.injEq, Sl.v.injEq, Sl.os.injEq, D.int.injEq, D.bl.injEq, D.tup.injEq, D.lst.injEq, D.ref.injEq, Ob.lst.injEq, List.cons.injEq, decide_eq_true_eq, Bool.not_eq_true', decide_eq_false_iff_not, bne_iff_ne, ne_eq, if_true, if_false, Bool.false_eq_true, Bool.true_eq_false, reduceIte, Bool.not_true, Bool.not_false, decide_true, decide_false, not_true_eq_false, not_false_eq_true, ex2, ex3, lim0, lim1, lim2, lim3, lim4, List.cons_append, List.nil_append, List.map, List.replicate]
    exact ⟨ms, prs (n + 1), rfl, ⟨by omega, by omega, q3, by rw [hml]; exact List.Sublist.refl _⟩, by omega, h⟩
  · exact ⟨ms, [], rfl, ⟨by omega, by omega, q3, List.nil_sublist _⟩, by omega, h⟩

/-! ### rooms near, states -/
/-- the rooms tied to a room -/
def nearF (r : Nat) (p : Nat × Nat) : Option Int := if (p.1 : Int) = r ∨ (p.2 : Int) = r then some ((p.1 : Int) + p.2 - r) else none
def nearL (ts : List (Nat × Nat)) (r : Nat) : List Int := sortI (ts.filterMap (nearF r))
theorem near_ok {C : Calls} {k : Nat} (hC : C.fn = callAt L.pg (k + 1)) (ms : List Nat) (ts : List (Nat × Nat)) (hl : ts.length ≤ 3600) (r : Nat) (S : Sh) : Ok (C.fn 18 [partsD ms ts, .int (r : Int)] S) fun d S' => d = .lst ((nearL ts r).map .int) ∧ S' = S := by
  rw [hC]
  refine fn_W (fn := f__law_near) rfl rfl ?_
  unfold f__law_near b__law_near partsD
  refine b_consW ?_
  try simp only [wpS, wpT, wpE, wpO, wpEs, wpAs, wpL, wpC, wpI, wpG, wpPar, wpSE, brwW, slotV, slotA, List.getElem?_cons_zero, List.getElem?_cons_succ, List.set_cons_zero, List.set_cons_succ, drf_int, drf_bl, drf_non, drf_str, drf_tup, drf_lst, drf_scr, drf_set, drf_ty, drf_ins, drf_glo, drf_0, ixL0, ixL1, ixL2, ixL3, ixL4, ixT0, ixT1, ixT2, ixAt0, ixAt1, ixAt2, ixAt3, ixAt4, tru_bl, tru_int, tru_tup, tru_lst, c_eq_int, c_ne_int, c_lt, c_le, c_gt, c_ge, c_in2, c_inL, c_inT, c_ninT, c_eq_bl, c_ne_bl, b_len_l, b_len_t, b_len_s, b_abs, b_int, b_tup_l, b_tup_t, b_max, b_min, o_add, o_sub, o_mul, o_fdiv, o_mod, o_pow, o_catT, o_catL, o_repT, o_repL, o_repL2, s_tupX, s_lstX, s_scrX, q_tup, q_lst, qi_tup, qi_lst, qi_scr, at_ins, isNon_int, isNon_non, wpN_nx, wpN_ret, wpN_brk, wpN_cnt, trn_nx, trn_cnt, trn_brk, trn_ret, List.map_cons, List.map_nil, List.length_cons, List.length_nil, Nat.zero_add, Nat.reduceAdd, Nat.reduceLT, true_and, and_true, Option.some.injEq, exists_eq_left', exists_eq_left, exists_and_left, Sl.ol.injEq, Sl.v.injEq, Sl.os.injEq, D.int.injEq, D.bl.injEq, D.tup.injEq, D.lst.injEq, D.ref.injEq, Ob.lst.injEq, List.cons.injEq, decide_eq_true_eq, Bool.not_eq_true', decide_eq_false_iff_not, bne_iff_ne, ne_eq, if_true, if_false, Bool.false_eq_true, Bool.true_eq_false, reduceIte, Bool.not_true, Bool.not_false, decide_true, decide_false, not_true_eq_false, not_false_eq_true, ex2, ex3, lim0, lim1, lim2, lim3, lim4, List.cons_append, List.nil_append, List.map, List.replicate]
  refine compL_map2 (g := fun d => match d with
    | .tup [.int a, .int b] => if a = r ∨ b = r then some (.int (a + b - r)) else none
    | _ => none) _ (by rw [List.length_map]; unfold LIM; omega) (fun x hx => ?_) ?_
  · obtain ⟨p, _, rfl⟩ := List.mem_map.mp hx
    unfold pD
    refine compF_W ?_
    try simp only [wipeE, wpS, wpT, wpE, wpO, wpEs, wpAs, wpL, wpC, wpI, wpG, wpPar, wpSE, brwW, slotV, slotA, List.getElem?_cons_zero, List.getElem?_cons_succ, List.set_cons_zero, List.set_cons_succ, drf_int, drf_bl, drf_non, drf_str, drf_tup, drf_lst, drf_scr, drf_set, drf_ty, drf_ins, drf_glo, drf_0, ixL0, ixL1, ixL2, ixL3, ixL4, ixT0, ixT1, ixT2, ixAt0, ixAt1, ixAt2, ixAt3, ixAt4, tru_bl, tru_int, tru_tup, tru_lst, c_eq_int, c_ne_int, c_lt, c_le, c_gt, c_ge, c_in2, c_inL, c_inT, c_ninT, c_eq_bl, c_ne_bl, b_len_l, b_len_t, b_len_s, b_abs, b_int, b_tup_l, b_tup_t, b_max, b_min, o_add, o_sub, o_mul, o_fdiv, o_mod, o_pow, o_catT, o_catL, o_repT, o_repL, o_repL2, s_tupX, s_lstX, s_scrX, q_tup, q_lst, qi_tup, qi_lst, qi_scr, at_ins, isNon_int, isNon_non, wpN_nx, wpN_ret, wpN_brk, wpN_cnt, trn_nx, trn_cnt, trn_brk, trn_ret, List.map_cons, List.map_nil, List.length_cons, List.length_nil, Nat.zero_add, Nat.reduceAdd, Nat.reduceLT, true_and, and_true, Option.some.injEq, exists_eq_left', exists_eq_left, exists_and_left, Sl.ol.injEq, Sl.v.injEq, Sl.os.injEq, D.int.injEq, D.bl.injEq, D.tup.injEq, D.lst.injEq, D.ref.injEq, Ob.lst.injEq, List.cons.injEq, decide_eq_true_eq, Bool.not_eq_true', decide_eq_false_iff_not, bne_iff_ne, ne_eq, if_true, if_false, Bool.false_eq_true, Bool.true_eq_false, reduceIte, Bool.not_true, Bool.not_false, decide_true, decide_false, not_true_eq_false, not_false_eq_true, ex2, ex3, lim0, lim1, lim2, lim3, lim4, List.cons_append, List.nil_append, List.map, List.replicate]
    split
    · rename_i h
      rw [if_pos (by simpa using h)]
    · rename_i h
      rw [if_neg (by simpa using h)]
  · have e : (ts.map pD).filterMap (fun d => match d with
        | .tup [.int a, .int b] => if a = r ∨ b = r then some (.int (a + b - r)) else none
        | _ => none) = (ts.filterMap (nearF r)).map D.int := by
      rw [List.filterMap_map, List.map_filterMap]
      congr 1
      funext p
      unfold nearF
      show (if _ then _ else _) = Option.map D.int _
      split <;> rfl
    rw [e]
    refine .inl ⟨_, intsOf_map _, rfl, rfl⟩
theorem mem_near {ts : List (Nat × Nat)} {r : Nat} {o : Int} : o ∈ nearL ts r ↔ ∃ p ∈ ts, (p.1 = r ∧ o = p.2) ∨ (p.2 = r ∧ o = p.1) := by
  unfold nearL
  rw [mem_sortI, List.mem_filterMap]
  constructor
  · rintro ⟨p, hp, e⟩
    refine ⟨p, hp, ?_⟩
    unfold nearF at e
    split at e
    · simp only [Option.some.injEq] at e
      rename_i h
      rcases h with h | h
      · exact .inl ⟨by omega, by omega⟩
      · exact .inr ⟨by omega, by omega⟩
    · cases e
  · rintro ⟨p, hp, h⟩
    refine ⟨p, hp, ?_⟩
    unfold nearF
    rcases h with ⟨h1, h2⟩ | ⟨h1, h2⟩
    · rw [if_pos (.inl (by omega))]
      congr 1
      omega
    · rw [if_pos (.inr (by omega))]
      congr 1
      omega
theorem len_near {ts : List (Nat × Nat)} {r : Nat} : (nearL ts r).length ≤ ts.length := by
  unfold nearL
  rw [len_sortI]
  exact List.length_filterMap_le _ _
end Qv.Law
set_option Elab.async false
set_option linter.all false
set_option maxRecDepth 100000
set_option maxHeartbeats 4000000
namespace Qv.Law
open Qv PySem

theorem eqGG : cmpD .eq (.str (Str.ofString "give")) (.str (Str.ofString "give")) = some true := by decide +kernel
theorem eqBG : cmpD .eq (.str (Str.ofString "back")) (.str (Str.ofString "give")) = some false := by decide +kernel
abbrev Rm := Bool × List Int
abbrev St := List Rm
inductive Deed where
  | give (r : Nat) (t : Int)
  | back (r : Nat)
def Deed.room : Deed → Nat
  | .give r _ => r
  | .back r => r
def rmD (x : Rm) : D := .tup [.bl x.1, .tup (x.2.map .int)]
def stD (st : St) : D := .lst (st.map rmD)
def stT (st : St) : D := .tup (st.map rmD)
def giveD (r : Nat) (t : Int) : D := .tup [.str (Str.ofString "give"), .int (r : Int), .int t]
def backD (r : Nat) : D := .tup [.str (Str.ofString "back"), .int (r : Int)]
def deedD : Deed → D
  | .give r t => giveD r t
  | .back r => backD r
def tagsAt (st : St) (r : Nat) : List Int := (st[r]?.getD (false, [])).2
def heldAt (st : St) (r : Nat) : Bool := (st[r]?.getD (false, [])).1
def done (st : St) : Deed → St
  | .give r t => st.set r (true, t :: tagsAt st r)
  | .back r => st.set r (false, tagsAt st r)
/-- a state of n rooms, each with at most N tags -/
structure StOk (N n : Nat) (st : St) : Prop where
  len : st.length = n
  few : ∀ x ∈ st, x.2.length ≤ N
  tag : ∀ x ∈ st, x.1 = true → x.2 ≠ []
theorem tagsAt_of {st : St} {r : Nat} {x : Rm} (h : st[r]? = some x) : tagsAt st r = x.2 := by unfold tagsAt; rw [h]; rfl
theorem heldAt_of {st : St} {r : Nat} {x : Rm} (h : st[r]? = some x) : heldAt st r = x.1 := by unfold heldAt; rw [h]; rfl
theorem StOk.at {N n : Nat} {st : St} (h : StOk N n st) {r : Nat} (hr : r < n) : st[r]? = some (heldAt st r, tagsAt st r) := by
  have : r < st.length := by rw [h.len]; exact hr
  unfold heldAt tagsAt
  rw [List.getElem?_eq_getElem this]
  rfl
theorem StOk.fewAt {N n : Nat} {st : St} (h : StOk N n st) (r : Nat) : (tagsAt st r).length ≤ N := by
  unfold tagsAt
  cases e : st[r]? with
  | none => simp
  | some x => exact h.few x (List.mem_of_getElem? e)
theorem StOk.newAt {N n : Nat} {st : St} (h : StOk N n st) {r : Nat} (hh : heldAt st r = true) : ∃ t l, tagsAt st r = t :: l := by
  unfold heldAt at hh
  cases e : st[r]? with
  | none => rw [e] at hh; cases hh
  | some x =>
    rw [e] at hh
    rw [tagsAt_of e]
    have := h.tag x (List.mem_of_getElem? e) hh
    cases q : x.2 with
    | nil => exact absurd q this
    | cons t l => exact ⟨t, l, rfl⟩
theorem StOk.done {N n : Nat} {st : St} (h : StOk N n st) (d : Deed) : StOk (N + 1) n (done st d) := by
  cases d with
  | give r t =>
    refine ⟨by simp [Law.done, h.len], fun x hx => ?_, fun x hx hh => ?_⟩
    · rcases List.mem_or_eq_of_mem_set hx with hx | rfl
      · have := h.few x hx; omega
      · have := h.fewAt r; simp; exact this
    · rcases List.mem_or_eq_of_mem_set hx with hx | rfl
      · exact h.tag x hx hh
      · simp
  | back r =>
    refine ⟨by simp [Law.done, h.len], fun x hx => ?_, fun x hx hh => ?_⟩
    · rcases List.mem_or_eq_of_mem_set hx with hx | rfl
      · have := h.few x hx; omega
      · have := h.fewAt r; simp; omega
    · rcases List.mem_or_eq_of_mem_set hx with hx | rfl
      · exact h.tag x hx hh
      · cases hh
theorem ix_st {N n : Nat} {st : St} (h : StOk N n st) {r : Nat} (hr : r < n) : ixD (.lst (st.map rmD)) (.int (r : Int)) = some (.tup [.bl (heldAt st r), .tup ((tagsAt st r).map .int)]) := ixLn (by rw [List.getElem?_map, h.at hr]; rfl)
theorem ix_stT {N n : Nat} {st : St} (h : StOk N n st) {r : Nat} (hr : r < n) : ixD (.tup (st.map rmD)) (.int (r : Int)) = some (.tup [.bl (heldAt st r), .tup ((tagsAt st r).map .int)]) := ixTn (by rw [List.getElem?_map, h.at hr]; rfl)
theorem start_ok {C : Calls} {k : Nat} (hC : C.fn = callAt L.pg (k + 1)) {ms : List Nat} {ts : List (Nat × Nat)} (h : PartsOk ms ts) (S : Sh) : Ok (C.fn 24 [partsD ms ts] S) fun d S' => d = stD (List.replicate ms.length (false, [])) ∧ S' = S := by
  rw [hC]
  refine fn_W (fn := f__law_start) rfl rfl ?_
  unfold f__law_start b__law_start partsD
  refine b_consW ?_
  try simp only [List.length_map, wpS, wpT, wpE, wpO, wpEs, wpAs, wpL, wpC, wpI, wpG, wpPar, wpSE, brwW, slotV, slotA, List.getElem?_cons_zero, List.getElem?_cons_succ, List.set_cons_zero, List.set_cons_succ, drf_int, drf_bl, drf_non, drf_str, drf_tup, drf_lst, drf_scr, drf_set, drf_ty, drf_ins, drf_glo, drf_0, ixL0, ixL1, ixL2, ixL3, ixL4, ixT0, ixT1, ixT2, ixAt0, ixAt1, ixAt2, ixAt3, ixAt4, tru_bl, tru_int, tru_tup, tru_lst, c_eq_int, c_ne_int, c_lt, c_le, c_gt, c_ge, c_in2, c_inL, c_inT, c_ninT, c_eq_bl, c_ne_bl, b_len_l, b_len_t, b_len_s, b_abs, b_int, b_tup_l, b_tup_t, b_max, b_min, o_add, o_sub, o_mul, o_fdiv, o_mod, o_pow, o_catT, o_catL, o_repT, o_repL, o_repL2, s_tupX, s_lstX, s_scrX, q_tup, q_lst, qi_tup, qi_lst, qi_scr, at_ins, isNon_int, isNon_non, wpN_nx, wpN_ret, wpN_brk, wpN_cnt, trn_nx, trn_cnt, trn_brk, trn_ret, List.map_cons, List.map_nil, List.length_cons, List.length_nil, Nat.zero_add, Nat.reduceAdd, Nat.reduceLT, true_and, and_true, Option.some.injEq, exists_eq_left', exists_eq_left, exists_and_left, Sl.ol.injEq, Sl.v.injEq, Sl.os.injEq, D.int.injEq, D.bl.injEq, D.tup.injEq, D.lst.injEq, D.ref.injEq, Ob.lst.injEq, List.cons.injEq, decide_eq_true_eq, Bool.not_eq_true', decide_eq_false_iff_not, bne_iff_ne, ne_eq, if_true, if_false, Bool.false_eq_true, Bool.true_eq_false, reduceIte, Bool.not_true, Bool.not_false, decide_true, decide_false, not_true_eq_false, not_false_eq_true, ex2, ex3, lim0, lim1, lim2, lim3, lim4, List.cons_append, List.nil_append, List.map, List.replicate]
  refine ⟨⟨by omega, by have := h.few; omega, by decide⟩, ?_⟩
  have e : (List.replicate (ms.length : Int).toNat [D.tup [.bl false, .tup []]]).flatten = (List.replicate ms.length ((false, []) : Rm)).map rmD := by
    simp [rmD]
  rw [e]
  rfl
theorem start_St {n : Nat} : StOk 0 n (List.replicate n (false, [])) := ⟨by simp, fun x hx => by rw [List.eq_of_mem_replicate hx]; simp, fun x hx hh => by rw [List.eq_of_mem_replicate hx] at hh; cases hh⟩
theorem done_ok {C : Calls} {k : Nat} (hC : C.fn = callAt L.pg (k + 1)) {N n : Nat} {st : St} (h : StOk N n st) (hN : N < 1000) {d : Deed} (hd : d.room < n) (S : Sh) : Ok (C.fn 20 [stD st, deedD d] S) fun x S' => x = stD (done st d) ∧ S' = S := by
  rw [hC]
  have hl := h.len
  refine fn_W (fn := f__law_done) rfl rfl ?_
  unfold f__law_done b__law_done stD
  have f1 := h.fewAt d.room
  cases d with
  | give r t =>
    have i1 := ix_st h (r := r) hd
    have hr : r < n := hd
    unfold deedD giveD
    refine b_consW ?_
    try simp only [i1, wpS, wpT, wpE, wpO, wpEs, wpAs, wpL, wpC, wpI, wpG, wpPar, wpSE, brwW, slotV, slotA, List.getElem?_cons_zero, List.getElem?_cons_succ, List.set_cons_zero, List.set_cons_succ, drf_int, drf_bl, drf_non, drf_str, drf_tup, drf_lst, drf_scr, drf_set, drf_ty, drf_ins, drf_glo, drf_0, ixL0, ixL1, ixL2, ixL3, ixL4, ixT0, ixT1, ixT2, ixAt0, ixAt1, ixAt2, ixAt3, ixAt4, tru_bl, tru_int, tru_tup, tru_lst, c_eq_int, c_ne_int, c_lt, c_le, c_gt, c_ge, c_in2, c_inL, c_inT, c_ninT, c_eq_bl, c_ne_bl, b_len_l, b_len_t, b_len_s, b_abs, b_int, b_tup_l, b_tup_t, b_max, b_min, o_add, o_sub, o_mul, o_fdiv, o_mod, o_pow, o_catT, o_catL, o_repT, o_repL, o_repL2, s_tupX, s_lstX, s_scrX, q_tup, q_lst, qi_tup, qi_lst, qi_scr, at_ins, isNon_int, isNon_non, wpN_nx, wpN_ret, wpN_brk, wpN_cnt, trn_nx, trn_cnt, trn_brk, trn_ret, List.map_cons, List.map_nil, List.length_cons, List.length_nil, Nat.zero_add, Nat.reduceAdd, Nat.reduceLT, true_and, and_true, Option.some.injEq, exists_eq_left', exists_eq_left, exists_and_left, Sl.ol.injEq, Sl.v.injEq, Sl.os.injEq, D.int.injEq, D.bl.injEq, D.tup.injEq, D.lst.injEq, D.ref.injEq, Ob.lst.injEq, List.cons.injEq, decide_eq_true_eq, Bool.not_eq_true', decide_eq_false_iff_not, bne_iff_ne, ne_eq, if_true, if_false, Bool.false_eq_true, Bool.true_eq_false, reduceIte, Bool.not_true, Bool.not_false, decide_true, decide_false, not_true_eq_false, not_false_eq_true, ex2, ex3, lim0, lim1, lim2, lim3, lim4, List.cons_append, List.nil_append, List.map, List.replicate]
    refine b_consW ?_
    try simp only [wpS, wpT, wpE, wpO, wpEs, wpAs, wpL, wpC, wpI, wpG, wpPar, wpSE, brwW, slotV, slotA, List.getElem?_cons_zero, List.getElem?_cons_succ, List.set_cons_zero, List.set_cons_succ, drf_int, drf_bl, drf_non, drf_str, drf_tup, drf_lst, drf_scr, drf_set, drf_ty, drf_ins, drf_glo, drf_0, ixL0, ixL1, ixL2, ixL3, ixL4, ixT0, ixT1, ixT2, ixAt0, ixAt1, ixAt2, ixAt3, ixAt4, tru_bl, tru_int, tru_tup, tru_lst, c_eq_int, c_ne_int, c_lt, c_le, c_gt, c_ge, c_in2, c_inL, c_inT, c_ninT, c_eq_bl, c_ne_bl, b_len_l, b_len_t, b_len_s, b_abs, b_int, b_tup_l, b_tup_t, b_max, b_min, o_add, o_sub, o_mul, o_fdiv, o_mod, o_pow, o_catT, o_catL, o_repT, o_repL, o_repL2, s_tupX, s_lstX, s_scrX, q_tup, q_lst, qi_tup, qi_lst, qi_scr, at_ins, isNon_int, isNon_non, wpN_nx, wpN_ret, wpN_brk, wpN_cnt, trn_nx, trn_cnt, trn_brk, trn_ret, List.map_cons, List.map_nil, List.length_cons, List.length_nil, Nat.zero_add, Nat.reduceAdd, Nat.reduceLT, true_and, and_true, Option.some.injEq, exists_eq_left', exists_eq_left, exists_and_left, Sl.ol.injEq, Sl.v.injEq, Sl.os.injEq, D.int.injEq, D.bl.injEq, D.tup.injEq, D.lst.injEq, D.ref.injEq, Ob.lst.injEq, List.cons.injEq, decide_eq_true_eq, Bool.not_eq_true', decide_eq_false_iff_not, bne_iff_ne, ne_eq, if_true, if_false, Bool.false_eq_true, Bool.true_eq_false, reduceIte, Bool.not_true, Bool.not_false, decide_true, decide_false, not_true_eq_false, not_false_eq_true, ex2, ex3, lim0, lim1, lim2, lim3, lim4, List.cons_append, List.nil_append, List.map, List.replicate]
    refine b_consW ?_
    try simp only [eqGG, i1, wpS, wpT, wpE, wpO, wpEs, wpAs, wpL, wpC, wpI, wpG, wpPar, wpSE, brwW, slotV, slotA, List.getElem?_cons_zero, List.getElem?_cons_succ, List.set_cons_zero, List.set_cons_succ, drf_int, drf_bl, drf_non, drf_str, drf_tup, drf_lst, drf_scr, drf_set, drf_ty, drf_ins, drf_glo, drf_0, ixL0, ixL1, ixL2, ixL3, ixL4, ixT0, ixT1, ixT2, ixAt0, ixAt1, ixAt2, ixAt3, ixAt4, tru_bl, tru_int, tru_tup, tru_lst, c_eq_int, c_ne_int, c_lt, c_le, c_gt, c_ge, c_in2, c_inL, c_inT, c_ninT, c_eq_bl, c_ne_bl, b_len_l, b_len_t, b_len_s, b_abs, b_int, b_tup_l, b_tup_t, b_max, b_min, o_add, o_sub, o_mul, o_fdiv, o_mod, o_pow, o_catT, o_catL, o_repT, o_repL, o_repL2, s_tupX, s_lstX, s_scrX, q_tup, q_lst, qi_tup, qi_lst, qi_scr, at_ins, isNon_int, isNon_non, wpN_nx, wpN_ret, wpN_brk, wpN_cnt, trn_nx, trn_cnt, trn_brk, trn_ret, List.map_cons, List.map_nil, List.length_cons, List.length_nil, Nat.zero_add, Nat.reduceAdd, Nat.reduceLT, true_and, and_true, Option.some.injEq, exists_eq_left', exists_eq_left, exists_and_left, Sl.ol.injEq, Sl.v.injEq, Sl.os.injEq, D.int.injEq, D.bl.injEq, D.tup.injEq, D.lst.injEq, D.ref.injEq, Ob.lst.injEq, List.cons.injEq, decide_eq_true_eq, Bool.not_eq_true', decide_eq_false_iff_not, bne_iff_ne, ne_eq, if_true, if_false, Bool.false_eq_true, Bool.true_eq_false, reduceIte, Bool.not_true, Bool.not_false, decide_true, decide_false, not_true_eq_false, not_false_eq_true, ex2, ex3, lim0, lim1, lim2, lim3, lim4, List.cons_append, List.nil_append, List.map, List.replicate]
    refine ⟨by rw [List.length_map]; unfold LIM; show 1 + (tagsAt st r).length ≤ _; have : (tagsAt st r).length ≤ N := f1; omega, r, ?_⟩
    refine ⟨ixAt_nat (by rw [List.length_map, hl]; exact hr), ?_⟩
    refine b_frzW ?_
    try simp only [frzE, wpS, wpT, wpE, wpO, wpEs, wpAs, wpL, wpC, wpI, wpG, wpPar, wpSE, brwW, slotV, slotA, List.getElem?_cons_zero, List.getElem?_cons_succ, List.set_cons_zero, List.set_cons_succ, drf_int, drf_bl, drf_non, drf_str, drf_tup, drf_lst, drf_scr, drf_set, drf_ty, drf_ins, drf_glo, drf_0, ixL0, ixL1, ixL2, ixL3, ixL4, ixT0, ixT1, ixT2, ixAt0, ixAt1, ixAt2, ixAt3, ixAt4, tru_bl, tru_int, tru_tup, tru_lst, c_eq_int, c_ne_int, c_lt, c_le, c_gt, c_ge, c_in2, c_inL, c_inT, c_ninT, c_eq_bl, c_ne_bl, b_len_l, b_len_t, b_len_s, b_abs, b_int, b_tup_l, b_tup_t, b_max, b_min, o_add, o_sub, o_mul, o_fdiv, o_mod, o_pow, o_catT, o_catL, o_repT, o_repL, o_repL2, s_tupX, s_lstX, s_scrX, q_tup, q_lst, qi_tup, qi_lst, qi_scr, at_ins, isNon_int, isNon_non, wpN_nx, wpN_ret, wpN_brk, wpN_cnt, trn_nx, trn_cnt, trn_brk, trn_ret, List.map_cons, List.map_nil, List.length_cons, List.length_nil, Nat.zero_add, Nat.reduceAdd, Nat.reduceLT, true_and, and_true, Option.some.injEq, exists_eq_left', exists_eq_left, exists_and_left, Sl.ol.injEq, Sl.v.injEq, Sl.os.injEq, D.int.injEq, D.bl.injEq, D.tup.injEq, D.lst.injEq, D.ref.injEq, Ob.lst.injEq, List.cons.injEq, decide_eq_true_eq, Bool.not_eq_true', decide_eq_false_iff_not, bne_iff_ne, ne_eq, if_true, if_false, Bool.false_eq_true, Bool.true_eq_false, reduceIte, Bool.not_true, Bool.not_false, decide_true, decide_false, not_true_eq_false, not_false_eq_true, ex2, ex3, lim0, lim1, lim2, lim3, lim4, List.cons_append, List.nil_append, List.map, List.replicate]
    refine b_consW ?_
    try simp only [wpS, wpT, wpE, wpO, wpEs, wpAs, wpL, wpC, wpI, wpG, wpPar, wpSE, brwW, slotV, slotA, List.getElem?_cons_zero, List.getElem?_cons_succ, List.set_cons_zero, List.set_cons_succ, drf_int, drf_bl, drf_non, drf_str, drf_tup, drf_lst, drf_scr, drf_set, drf_ty, drf_ins, drf_glo, drf_0, ixL0, ixL1, ixL2, ixL3, ixL4, ixT0, ixT1, ixT2, ixAt0, ixAt1, ixAt2, ixAt3, ixAt4, tru_bl, tru_int, tru_tup, tru_lst, c_eq_int, c_ne_int, c_lt, c_le, c_gt, c_ge, c_in2, c_inL, c_inT, c_ninT, c_eq_bl, c_ne_bl, b_len_l, b_len_t, b_len_s, b_abs, b_int, b_tup_l, b_tup_t, b_max, b_min, o_add, o_sub, o_mul, o_fdiv, o_mod, o_pow, o_catT, o_catL, o_repT, o_repL, o_repL2, s_tupX, s_lstX, s_scrX, q_tup, q_lst, qi_tup, qi_lst, qi_scr, at_ins, isNon_int, isNon_non, wpN_nx, wpN_ret, wpN_brk, wpN_cnt, trn_nx, trn_cnt, trn_brk, trn_ret, List.map_cons, List.map_nil, List.length_cons, List.length_nil, Nat.zero_add, Nat.reduceAdd, Nat.reduceLT, true_and, and_true, Option.some.injEq, exists_eq_left', exists_eq_left, exists_and_left, Sl.ol.injEq, Sl.v.injEq, Sl.os.injEq, D.int.injEq, D.bl.injEq, D.tup.injEq, D.lst.injEq, D.ref.injEq, Ob.lst.injEq, List.cons.injEq, decide_eq_true_eq, Bool.not_eq_true', decide_eq_false_iff_not, bne_iff_ne, ne_eq, if_true, if_false, Bool.false_eq_true, Bool.true_eq_false, reduceIte, Bool.not_true, Bool.not_false, decide_true, decide_false, not_true_eq_false, not_false_eq_true, ex2, ex3, lim0, lim1, lim2, lim3, lim4, List.cons_append, List.nil_append, List.map, List.replicate]
    unfold done
    rw [List.map_set]
    rfl
  | back r =>
    have i1 := ix_st h (r := r) hd
    have hr : r < n := hd
    unfold deedD backD
    refine b_consW ?_
    try simp only [i1, wpS, wpT, wpE, wpO, wpEs, wpAs, wpL, wpC, wpI, wpG, wpPar, wpSE, brwW, slotV, slotA, List.getElem?_cons_zero, List.getElem?_cons_succ, List.set_cons_zero, List.set_cons_succ, drf_int, drf_bl, drf_non, drf_str, drf_tup, drf_lst, drf_scr, drf_set, drf_ty, drf_ins, drf_glo, drf_0, ixL0, ixL1, ixL2, ixL3, ixL4, ixT0, ixT1, ixT2, ixAt0, ixAt1, ixAt2, ixAt3, ixAt4, tru_bl, tru_int, tru_tup, tru_lst, c_eq_int, c_ne_int, c_lt, c_le, c_gt, c_ge, c_in2, c_inL, c_inT, c_ninT, c_eq_bl, c_ne_bl, b_len_l, b_len_t, b_len_s, b_abs, b_int, b_tup_l, b_tup_t, b_max, b_min, o_add, o_sub, o_mul, o_fdiv, o_mod, o_pow, o_catT, o_catL, o_repT, o_repL, o_repL2, s_tupX, s_lstX, s_scrX, q_tup, q_lst, qi_tup, qi_lst, qi_scr, at_ins, isNon_int, isNon_non, wpN_nx, wpN_ret, wpN_brk, wpN_cnt, trn_nx, trn_cnt, trn_brk, trn_ret, List.map_cons, List.map_nil, List.length_cons, List.length_nil, Nat.zero_add, Nat.reduceAdd, Nat.reduceLT, true_and, and_true, Option.some.injEq, exists_eq_left', exists_eq_left, exists_and_left, Sl.ol.injEq, Sl.v.injEq, Sl.os.injEq, D.int.injEq, D.bl.injEq, D.tup.injEq, D.lst.injEq, D.ref.injEq, Ob.lst.injEq, List.cons.injEq, decide_eq_true_eq, Bool.not_eq_true', decide_eq_false_iff_not, bne_iff_ne, ne_eq, if_true, if_false, Bool.false_eq_true, Bool.true_eq_false, reduceIte, Bool.not_true, Bool.not_false, decide_true, decide_false, not_true_eq_false, not_false_eq_true, ex2, ex3, lim0, lim1, lim2, lim3, lim4, List.cons_append, List.nil_append, List.map, List.replicate]
    refine b_consW ?_
    try simp only [wpS, wpT, wpE, wpO, wpEs, wpAs, wpL, wpC, wpI, wpG, wpPar, wpSE, brwW, slotV, slotA, List.getElem?_cons_zero, List.getElem?_cons_succ, List.set_cons_zero, List.set_cons_succ, drf_int, drf_bl, drf_non, drf_str, drf_tup, drf_lst, drf_scr, drf_set, drf_ty, drf_ins, drf_glo, drf_0, ixL0, ixL1, ixL2, ixL3, ixL4, ixT0, ixT1, ixT2, ixAt0, ixAt1, ixAt2, ixAt3, ixAt4, tru_bl, tru_int, tru_tup, tru_lst, c_eq_int, c_ne_int, c_lt, c_le, c_gt, c_ge, c_in2, c_inL, c_inT, c_ninT, c_eq_bl, c_ne_bl, b_len_l, b_len_t, b_len_s, b_abs, b_int, b_tup_l, b_tup_t, b_max, b_min, o_add, o_sub, o_mul, o_fdiv, o_mod, o_pow, o_catT, o_catL, o_repT, o_repL, o_repL2, s_tupX, s_lstX, s_scrX, q_tup, q_lst, qi_tup, qi_lst, qi_scr, at_ins, isNon_int, isNon_non, wpN_nx, wpN_ret, wpN_brk, wpN_cnt, trn_nx, trn_cnt, trn_brk, trn_ret, List.map_cons, List.map_nil, List.length_cons, List.length_nil, Nat.zero_add, Nat.reduceAdd, Nat.reduceLT, true_and, and_true, Option.some.injEq, exists_eq_left', exists_eq_left, exists_and_left, Sl.ol.injEq, Sl.v.injEq, Sl.os.injEq, D.int.injEq, D.bl.injEq, D.tup.injEq, D.lst.injEq, D.ref.injEq, Ob.lst.injEq, List.cons.injEq, decide_eq_true_eq, Bool.not_eq_true', decide_eq_false_iff_not, bne_iff_ne, ne_eq, if_true, if_false, Bool.false_eq_true, Bool.true_eq_false, reduceIte, Bool.not_true, Bool.not_false, decide_true, decide_false, not_true_eq_false, not_false_eq_true, ex2, ex3, lim0, lim1, lim2, lim3, lim4, List.cons_append, List.nil_append, List.map, List.replicate]
    refine b_consW ?_
    try simp only [eqBG, i1, wpS, wpT, wpE, wpO, wpEs, wpAs, wpL, wpC, wpI, wpG, wpPar, wpSE, brwW, slotV, slotA, List.getElem?_cons_zero, List.getElem?_cons_succ, List.set_cons_zero, List.set_cons_succ, drf_int, drf_bl, drf_non, drf_str, drf_tup, drf_lst, drf_scr, drf_set, drf_ty, drf_ins, drf_glo, drf_0, ixL0, ixL1, ixL2, ixL3, ixL4, ixT0, ixT1, ixT2, ixAt0, ixAt1, ixAt2, ixAt3, ixAt4, tru_bl, tru_int, tru_tup, tru_lst, c_eq_int, c_ne_int, c_lt, c_le, c_gt, c_ge, c_in2, c_inL, c_inT, c_ninT, c_eq_bl, c_ne_bl, b_len_l, b_len_t, b_len_s, b_abs, b_int, b_tup_l, b_tup_t, b_max, b_min, o_add, o_sub, o_mul, o_fdiv, o_mod, o_pow, o_catT, o_catL, o_repT, o_repL, o_repL2, s_tupX, s_lstX, s_scrX, q_tup, q_lst, qi_tup, qi_lst, qi_scr, at_ins, isNon_int, isNon_non, wpN_nx, wpN_ret, wpN_brk, wpN_cnt, trn_nx, trn_cnt, trn_brk, trn_ret, List.map_cons, List.map_nil, List.length_cons, List.length_nil, Nat.zero_add, Nat.reduceAdd, Nat.reduceLT, true_and, and_true, Option.some.injEq, exists_eq_left', exists_eq_left, exists_and_left, Sl.ol.injEq, Sl.v.injEq, Sl.os.injEq, D.int.injEq, D.bl.injEq, D.tup.injEq, D.lst.injEq, D.ref.injEq, Ob.lst.injEq, List.cons.injEq, decide_eq_true_eq, Bool.not_eq_true', decide_eq_false_iff_not, bne_iff_ne, ne_eq, if_true, if_false, Bool.false_eq_true, Bool.true_eq_false, reduceIte, Bool.not_true, Bool.not_false, decide_true, decide_false, not_true_eq_false, not_false_eq_true, ex2, ex3, lim0, lim1, lim2, lim3, lim4, List.cons_append, List.nil_append, List.map, List.replicate]
    refine ⟨r, ixAt_nat (by rw [List.length_map, hl]; exact hr), ?_⟩
    refine b_frzW ?_
    try simp only [frzE, wpS, wpT, wpE, wpO, wpEs, wpAs, wpL, wpC, wpI, wpG, wpPar, wpSE, brwW, slotV, slotA, List.getElem?_cons_zero, List.getElem?_cons_succ, List.set_cons_zero, List.set_cons_succ, drf_int, drf_bl, drf_non, drf_str, drf_tup, drf_lst, drf_scr, drf_set, drf_ty, drf_ins, drf_glo, drf_0, ixL0, ixL1, ixL2, ixL3, ixL4, ixT0, ixT1, ixT2, ixAt0, ixAt1, ixAt2, ixAt3, ixAt4, tru_bl, tru_int, tru_tup, tru_lst, c_eq_int, c_ne_int, c_lt, c_le, c_gt, c_ge, c_in2, c_inL, c_inT, c_ninT, c_eq_bl, c_ne_bl, b_len_l, b_len_t, b_len_s, b_abs, b_int, b_tup_l, b_tup_t, b_max, b_min, o_add, o_sub, o_mul, o_fdiv, o_mod, o_pow, o_catT, o_catL, o_repT, o_repL, o_repL2, s_tupX, s_lstX, s_scrX, q_tup, q_lst, qi_tup, qi_lst, qi_scr, at_ins, isNon_int, isNon_non, wpN_nx, wpN_ret, wpN_brk, wpN_cnt, trn_nx, trn_cnt, trn_brk, trn_ret, List.map_cons, List.map_nil, List.length_cons, List.length_nil, Nat.zero_add, Nat.reduceAdd, Nat.reduceLT, true_and, and_true, Option.some.injEq, exists_eq_left', exists_eq_left, exists_and_left, Sl.ol.injEq, Sl.v.injEq, Sl.os.injEq, D.int.injEq, D.bl.injEq, D.tup.injEq, D.lst.injEq, D.ref.injEq, Ob.lst.injEq, List.cons.injEq, decide_eq_true_eq, Bool.not_eq_true', decide_eq_false_iff_not, bne_iff_ne, ne_eq, if_true, if_false, Bool.false_eq_true, Bool.true_eq_false, reduceIte, Bool.not_true, Bool.not_false, decide_true, decide_false, not_true_eq_false, not_false_eq_true, ex2, ex3, lim0, lim1, lim2, lim3, lim4, List.cons_append, List.nil_append, List.map, List.replicate]
    refine b_consW ?_
    try simp only [wpS, wpT, wpE, wpO, wpEs, wpAs, wpL, wpC, wpI, wpG, wpPar, wpSE, brwW, slotV, slotA, List.getElem?_cons_zero, List.getElem?_cons_succ, List.set_cons_zero, List.set_cons_succ, drf_int, drf_bl, drf_non, drf_str, drf_tup, drf_lst, drf_scr, drf_set, drf_ty, drf_ins, drf_glo, drf_0, ixL0, ixL1, ixL2, ixL3, ixL4, ixT0, ixT1, ixT2, ixAt0, ixAt1, ixAt2, ixAt3, ixAt4, tru_bl, tru_int, tru_tup, tru_lst, c_eq_int, c_ne_int, c_lt, c_le, c_gt, c_ge, c_in2, c_inL, c_inT, c_ninT, c_eq_bl, c_ne_bl, b_len_l, b_len_t, b_len_s, b_abs, b_int, b_tup_l, b_tup_t, b_max, b_min, o_add, o_sub, o_mul, o_fdiv, o_mod, o_pow, o_catT, o_catL, o_repT, o_repL, o_repL2, s_tupX, s_lstX, s_scrX, q_tup, q_lst, qi_tup, qi_lst, qi_scr, at_ins, isNon_int, isNon_non, wpN_nx, wpN_ret, wpN_brk, wpN_cnt, trn_nx, trn_cnt, trn_brk, trn_ret, List.map_cons, List.map_nil, List.length_cons, List.length_nil, Nat.zero_add, Nat.reduceAdd, Nat.reduceLT, true_and, and_true, Option.some.injEq, exists_eq_left', exists_eq_left, exists_and_left, Sl.ol.injEq, Sl.v.injEq, Sl.os.injEq, D.int.injEq, D.bl.injEq, D.tup.injEq, D.lst.injEq, D.ref.injEq, Ob.lst.injEq, List.cons.injEq, decide_eq_true_eq, Bool.not_eq_true', decide_eq_false_iff_not, bne_iff_ne, ne_eq, if_true, if_false, Bool.false_eq_true, Bool.true_eq_false, reduceIte, Bool.not_true, Bool.not_false, decide_true, decide_false, not_true_eq_false, not_false_eq_true, ex2, ex3, lim0, lim1, lim2, lim3, lim4, List.cons_append, List.nil_append, List.map, List.replicate]
    unfold done
    rw [List.map_set]
    rfl
def newest (st : St) (o : Int) : List Int := if heldAt st o.toNat = true then (tagsAt st o.toNat).take 1 else []
def memAt (ms : List Nat) (r : Nat) : Nat := ms[r]?.getD 0
def barsL (ms : List Nat) (ts : List (Nat × Nat)) (st : St) (r : Nat) : List Int := (tagsAt st r).take (memAt ms r) ++ (nearL ts r).flatMap (newest st)
theorem ix_mem {ms : List Nat} {r : Nat} (h : r < ms.length) : ixD (.tup (ms.map nD)) (.int (r : Int)) = some (.int (memAt ms r : Int)) := ixTn (by
  unfold memAt
  rw [List.getElem?_map, List.getElem?_eq_getElem h]
  rfl)
theorem mem_prow {n a : Nat} {p : Nat × Nat} (h : p ∈ prow n a) : p.1 = a ∧ a < p.2 ∧ p.2 < n := by
  unfold prow at h
  obtain ⟨b, hb, rfl⟩ := List.mem_map.mp h
  have := List.mem_range.mp hb
  exact ⟨rfl, by dsimp only; omega, by dsimp only; omega⟩
theorem mem_prs {n : Nat} {p : Nat × Nat} (h : p ∈ prs n) : p.1 < p.2 ∧ p.2 < n := by
  unfold prs prs' at h
  obtain ⟨a, _, h⟩ := List.mem_flatMap.mp h
  obtain ⟨h1, h2, h3⟩ := mem_prow h
  exact ⟨by omega, h3⟩
/-- a room near is another room -/
theorem near_room {ms : List Nat} {ts : List (Nat × Nat)} (h : PartsOk ms ts) {r : Nat} {o : Int} (ho : o ∈ nearL ts r) : ∃ j : Nat, o = (j : Int) ∧ j < ms.length ∧ j ≠ r := by
  obtain ⟨p, hp, q⟩ := mem_near.mp ho
  have := mem_prs (h.ties.subset hp)
  rcases q with ⟨q1, q2⟩ | ⟨q1, q2⟩
  · exact ⟨p.2, q2, by omega, by omega⟩
  · exact ⟨p.1, q2, by omega, by omega⟩
theorem PartsOk.many {ms : List Nat} {ts : List (Nat × Nat)} (h : PartsOk ms ts) : ts.length ≤ 3600 := Nat.le_trans h.ties.length_le (prs_le h.few)
theorem prs_8 {n : Nat} (h : n ≤ 8) : (prs n).length ≤ 28 := by
  have : ∀ n, n < 9 → (prs n).length ≤ 28 := by decide
  exact this n (by omega)
theorem len_flat {st : St} : ∀ {l : List Int}, (l.flatMap (newest st)).length ≤ l.length
  | [] => by simp
  | o :: l => by
    rw [List.flatMap_cons, List.length_append]
    have := len_flat (st := st) (l := l)
    have : (newest st o).length ≤ 1 := by
      unfold newest
      split
      · simp; omega
      · simp
    simp only [List.length_cons]
    omega
theorem take_succ {α : Type} {xs : List α} {i : Nat} {x : α} (e : xs[i]? = some x) : xs.take (i + 1) = xs.take i ++ [x] := by
  rw [List.take_succ, e]
  rfl
def BarsI (ms : List Nat) (ts : List (Nat × Nat)) (st : St) (r : Nat) (S : Sh) (i : Nat) (E : En) (S' : Sh) : Prop := S' = S ∧ ∃ x4, E = [some (.v (partsD ms ts)), some (.v (stD st)), some (.v (.int (r : Int))), some (.ol (((tagsAt st r).take (memAt ms r) ++ ((nearL ts r).take i).flatMap (newest st)).map .int)), x4]
def BarsM (ms : List Nat) (ts : List (Nat × Nat)) (st : St) (r : Nat) (S : Sh) (f : Fl) (E : En) (S' : Sh) : Prop := f = .nx ∧ BarsI ms ts st r S (nearL ts r).length E S'
theorem bars_ok {C : Calls} {k : Nat} (hC : C.fn = callAt L.pg (k + 2)) {ms : List Nat} {ts : List (Nat × Nat)} (h : PartsOk ms ts) (h8 : ms.length ≤ 8) {N : Nat} {st : St} (hs : StOk N ms.length st) (hN : N < 1000) {r : Nat} (hr : r < ms.length) (S : Sh) :
    Ok (C.fn 19 [partsD ms ts, stD st, .int (r : Int)] S) fun d S' => (∃ l : List Int, d = .tup (l.map .int) ∧ ∀ t, t ∈ l ↔ t ∈ barsL ms ts st r) ∧ S' = S := by
  rw [hC]
  refine fn_W (fn := f__law_bars) rfl rfl ?_
  unfold f__law_bars b__law_bars
  have i1 := ix_st hs hr
  have i2 := ix_mem hr
  have hml : memAt ms r ≤ 30 := by
    unfold memAt
    rw [List.getElem?_eq_getElem hr]
    exact h.mem _ (List.getElem_mem hr)
  have nl : (nearL ts r).length ≤ 28 := Nat.le_trans (Nat.le_trans len_near h.ties.length_le) (prs_8 h8)
  refine b_consW ?_
  unfold stD partsD
  try simp only [i1, i2, cut_hi, wpS, wpT, wpE, wpO, wpEs, wpAs, wpL, wpC, wpI, wpG, wpPar, wpSE, brwW, slotV, slotA, List.getElem?_cons_zero, List.getElem?_cons_succ, List.set_cons_zero, List.set_cons_succ, drf_int, drf_bl, drf_non, drf_str, drf_tup, drf_lst, drf_scr, drf_set, drf_ty, drf_ins, drf_glo, drf_0, ixL0, ixL1, ixL2, ixL3, ixL4, ixT0, ixT1, ixT2, ixAt0, ixAt1, ixAt2, ixAt3, ixAt4, tru_bl, tru_int, tru_tup, tru_lst, c_eq_int, c_ne_int, c_lt, c_le, c_gt, c_ge, c_in2, c_inL, c_inT, c_ninT, c_eq_bl, c_ne_bl, b_len_l, b_len_t, b_len_s, b_abs, b_int, b_tup_l, b_tup_t, b_max, b_min, o_add, o_sub, o_mul, o_fdiv, o_mod, o_pow, o_catT, o_catL, o_repT, o_repL, o_repL2, s_tupX, s_lstX, s_scrX, q_tup, q_lst, qi_tup, qi_lst, qi_scr, at_ins, isNon_int, isNon_non, wpN_nx, wpN_ret, wpN_brk, wpN_cnt, trn_nx, trn_cnt, trn_brk, trn_ret, List.map_cons, List.map_nil, List.length_cons, List.length_nil, Nat.zero_add, Nat.reduceAdd, Nat.reduceLT, true_and, and_true, Option.some.injEq, exists_eq_left', exists_eq_left, exists_and_left, Sl.ol.injEq, Sl.v.injEq, Sl.os.injEq, D.int.injEq, D.bl.injEq, D.tup.injEq, D.lst.injEq, D.ref.injEq, Ob.lst.injEq, List.cons.injEq, decide_eq_true_eq, Bool.not_eq_true', decide_eq_false_iff_not, bne_iff_ne, ne_eq, if_true, if_false, Bool.false_eq_true, Bool.true_eq_false, reduceIte, Bool.not_true, Bool.not_false, decide_true, decide_false, not_true_eq_false, not_false_eq_true, ex2, ex3, lim0, lim1, lim2, lim3, lim4, List.cons_append, List.nil_append, List.map, List.replicate]
  rw [← List.map_take]
  refine b_consR (BarsM ms ts st r S) ?_ ?_
  · try simp only [wpS, wpT, wpE, wpO, wpEs, wpAs, wpL, wpC, wpI, wpG, wpPar, wpSE, brwW, slotV, slotA, List.getElem?_cons_zero, List.getElem?_cons_succ, List.set_cons_zero, List.set_cons_succ, drf_int, drf_bl, drf_non, drf_str, drf_tup, drf_lst, drf_scr, drf_set, drf_ty, drf_ins, drf_glo, drf_0, ixL0, ixL1, ixL2, ixL3, ixL4, ixT0, ixT1, ixT2, ixAt0, ixAt1, ixAt2, ixAt3, ixAt4, tru_bl, tru_int, tru_tup, tru_lst, c_eq_int, c_ne_int, c_lt, c_le, c_gt, c_ge, c_in2, c_inL, c_inT, c_ninT, c_eq_bl, c_ne_bl, b_len_l, b_len_t, b_len_s, b_abs, b_int, b_tup_l, b_tup_t, b_max, b_min, o_add, o_sub, o_mul, o_fdiv, o_mod, o_pow, o_catT, o_catL, o_repT, o_repL, o_repL2, s_tupX, s_lstX, s_scrX, q_tup, q_lst, qi_tup, qi_lst, qi_scr, at_ins, isNon_int, isNon_non, wpN_nx, wpN_ret, wpN_brk, wpN_cnt, trn_nx, trn_cnt, trn_brk, trn_ret, List.map_cons, List.map_nil, List.length_cons, List.length_nil, Nat.zero_add, Nat.reduceAdd, Nat.reduceLT, true_and, and_true, Option.some.injEq, exists_eq_left', exists_eq_left, exists_and_left, Sl.ol.injEq, Sl.v.injEq, Sl.os.injEq, D.int.injEq, D.bl.injEq, D.tup.injEq, D.lst.injEq, D.ref.injEq, Ob.lst.injEq, List.cons.injEq, decide_eq_true_eq, Bool.not_eq_true', decide_eq_false_iff_not, bne_iff_ne, ne_eq, if_true, if_false, Bool.false_eq_true, Bool.true_eq_false, reduceIte, Bool.not_true, Bool.not_false, decide_true, decide_false, not_true_eq_false, not_false_eq_true, ex2, ex3, lim0, lim1, lim2, lim3, lim4, List.cons_append, List.nil_append, List.map, List.replicate]
    refine (near_ok (C := L.pg.calls (k + 1)) rfl ms ts h.many r S).mono fun d S1 ⟨e1, e2⟩ => ?_
    subst e1 e2
    try simp only [wpS, wpT, wpE, wpO, wpEs, wpAs, wpL, wpC, wpI, wpG, wpPar, wpSE, brwW, slotV, slotA, List.getElem?_cons_zero, List.getElem?_cons_succ, List.set_cons_zero, List.set_cons_succ, drf_int, drf_bl, drf_non, drf_str, drf_tup, drf_lst, drf_scr, drf_set, drf_ty, drf_ins, drf_glo, drf_0, ixL0, ixL1, ixL2, ixL3, ixL4, ixT0, ixT1, ixT2, ixAt0, ixAt1, ixAt2, ixAt3, ixAt4, tru_bl, tru_int, tru_tup, tru_lst, c_eq_int, c_ne_int, c_lt, c_le, c_gt, c_ge, c_in2, c_inL, c_inT, c_ninT, c_eq_bl, c_ne_bl, b_len_l, b_len_t, b_len_s, b_abs, b_int, b_tup_l, b_tup_t, b_max, b_min, o_add, o_sub, o_mul, o_fdiv, o_mod, o_pow, o_catT, o_catL, o_repT, o_repL, o_repL2, s_tupX, s_lstX, s_scrX, q_tup, q_lst, qi_tup, qi_lst, qi_scr, at_ins, isNon_int, isNon_non, wpN_nx, wpN_ret, wpN_brk, wpN_cnt, trn_nx, trn_cnt, trn_brk, trn_ret, List.map_cons, List.map_nil, List.length_cons, List.length_nil, Nat.zero_add, Nat.reduceAdd, Nat.reduceLT, true_and, and_true, Option.some.injEq, exists_eq_left', exists_eq_left, exists_and_left, Sl.ol.injEq, Sl.v.injEq, Sl.os.injEq, D.int.injEq, D.bl.injEq, D.tup.injEq, D.lst.injEq, D.ref.injEq, Ob.lst.injEq, List.cons.injEq, decide_eq_true_eq, Bool.not_eq_true', decide_eq_false_iff_not, bne_iff_ne, ne_eq, if_true, if_false, Bool.false_eq_true, Bool.true_eq_false, reduceIte, Bool.not_true, Bool.not_false, decide_true, decide_false, not_true_eq_false, not_false_eq_true, ex2, ex3, lim0, lim1, lim2, lim3, lim4, List.cons_append, List.nil_append, List.map, List.replicate]
    refine for_W (I := BarsI ms ts st r S1) _ ⟨rfl, none, by simp [partsD, stD]⟩ (fun i x E S' hx ⟨e1, x4, e2⟩ => ?_) (fun E S' h => ⟨rfl, by rw [List.length_map] at h; exact h⟩)
    subst e1 e2
    rw [List.getElem?_map] at hx
    obtain ⟨o, ho, rfl⟩ := Option.map_eq_some_iff.mp hx
    obtain ⟨j, rfl, hj, _⟩ := near_room h (List.mem_of_getElem? ho)
    have i3 := ix_st hs hj
    have tk := take_succ ho
    have nj : newest st (j : Int) = if heldAt st j = true then (tagsAt st j).take 1 else [] := by unfold newest; rfl
    unfold stD
    try simp only [wpS, wpT, wpE, wpO, wpEs, wpAs, wpL, wpC, wpI, wpG, wpPar, wpSE, brwW, slotV, slotA, List.getElem?_cons_zero, List.getElem?_cons_succ, List.set_cons_zero, List.set_cons_succ, drf_int, drf_bl, drf_non, drf_str, drf_tup, drf_lst, drf_scr, drf_set, drf_ty, drf_ins, drf_glo, drf_0, ixL0, ixL1, ixL2, ixL3, ixL4, ixT0, ixT1, ixT2, ixAt0, ixAt1, ixAt2, ixAt3, ixAt4, tru_bl, tru_int, tru_tup, tru_lst, c_eq_int, c_ne_int, c_lt, c_le, c_gt, c_ge, c_in2, c_inL, c_inT, c_ninT, c_eq_bl, c_ne_bl, b_len_l, b_len_t, b_len_s, b_abs, b_int, b_tup_l, b_tup_t, b_max, b_min, o_add, o_sub, o_mul, o_fdiv, o_mod, o_pow, o_catT, o_catL, o_repT, o_repL, o_repL2, s_tupX, s_lstX, s_scrX, q_tup, q_lst, qi_tup, qi_lst, qi_scr, at_ins, isNon_int, isNon_non, wpN_nx, wpN_ret, wpN_brk, wpN_cnt, trn_nx, trn_cnt, trn_brk, trn_ret, List.map_cons, List.map_nil, List.length_cons, List.length_nil, Nat.zero_add, Nat.reduceAdd, Nat.reduceLT, true_and, and_true, Option.some.injEq, exists_eq_left', exists_eq_left, exists_and_left, Sl.ol.injEq, Sl.v.injEq, Sl.os.injEq, D.int.injEq, D.bl.injEq, D.tup.injEq, D.lst.injEq, D.ref.injEq, Ob.lst.injEq, List.cons.injEq, decide_eq_true_eq, Bool.not_eq_true', decide_eq_false_iff_not, bne_iff_ne, ne_eq, if_true, if_false, Bool.false_eq_true, Bool.true_eq_false, reduceIte, Bool.not_true, Bool.not_false, decide_true, decide_false, not_true_eq_false, not_false_eq_true, ex2, ex3, lim0, lim1, lim2, lim3, lim4, List.cons_append, List.nil_append, List.map, List.replicate]
    refine b_consW ?_
    try simp only [i3, wpS, wpT, wpE, wpO, wpEs, wpAs, wpL, wpC, wpI, wpG, wpPar, wpSE, brwW, slotV, slotA, List.getElem?_cons_zero, List.getElem?_cons_succ, List.set_cons_zero, List.set_cons_succ, drf_int, drf_bl, drf_non, drf_str, drf_tup, drf_lst, drf_scr, drf_set, drf_ty, drf_ins, drf_glo, drf_0, ixL0, ixL1, ixL2, ixL3, ixL4, ixT0, ixT1, ixT2, ixAt0, ixAt1, ixAt2, ixAt3, ixAt4, tru_bl, tru_int, tru_tup, tru_lst, c_eq_int, c_ne_int, c_lt, c_le, c_gt, c_ge, c_in2, c_inL, c_inT, c_ninT, c_eq_bl, c_ne_bl, b_len_l, b_len_t, b_len_s, b_abs, b_int, b_tup_l, b_tup_t, b_max, b_min, o_add, o_sub, o_mul, o_fdiv, o_mod, o_pow, o_catT, o_catL, o_repT, o_repL, o_repL2, s_tupX, s_lstX, s_scrX, q_tup, q_lst, qi_tup, qi_lst, qi_scr, at_ins, isNon_int, isNon_non, wpN_nx, wpN_ret, wpN_brk, wpN_cnt, trn_nx, trn_cnt, trn_brk, trn_ret, List.map_cons, List.map_nil, List.length_cons, List.length_nil, Nat.zero_add, Nat.reduceAdd, Nat.reduceLT, true_and, and_true, Option.some.injEq, exists_eq_left', exists_eq_left, exists_and_left, Sl.ol.injEq, Sl.v.injEq, Sl.os.injEq, D.int.injEq, D.bl.injEq, D.tup.injEq, D.lst.injEq, D.ref.injEq, Ob.lst.injEq, List.cons.injEq, decide_eq_true_eq, Bool.not_eq_true', decide_eq_false_iff_not, bne_iff_ne, ne_eq, if_true, if_false, Bool.false_eq_true, Bool.true_eq_false, reduceIte, Bool.not_true, Bool.not_false, decide_true, decide_false, not_true_eq_false, not_false_eq_true, ex2, ex3, lim0, lim1, lim2, lim3, lim4, List.cons_append, List.nil_append, List.map, List.replicate]
    split
    · rename_i hh
      obtain ⟨t, l, e⟩ := hs.newAt hh
      refine b_consW ?_
      try simp only [i3, e, wpS, wpT, wpE, wpO, wpEs, wpAs, wpL, wpC, wpI, wpG, wpPar, wpSE, brwW, slotV, slotA, List.getElem?_cons_zero, List.getElem?_cons_succ, List.set_cons_zero, List.set_cons_succ, drf_int, drf_bl, drf_non, drf_str, drf_tup, drf_lst, drf_scr, drf_set, drf_ty, drf_ins, drf_glo, drf_0, ixL0, ixL1, ixL2, ixL3, ixL4, ixT0, ixT1, ixT2, ixAt0, ixAt1, ixAt2, ixAt3, ixAt4, tru_bl, tru_int, tru_tup, tru_lst, c_eq_int, c_ne_int, c_lt, c_le, c_gt, c_ge, c_in2, c_inL, c_inT, c_ninT, c_eq_bl, c_ne_bl, b_len_l, b_len_t, b_len_s, b_abs, b_int, b_tup_l, b_tup_t, b_max, b_min, o_add, o_sub, o_mul, o_fdiv, o_mod, o_pow, o_catT, o_catL, o_repT, o_repL, o_repL2, s_tupX, s_lstX, s_scrX, q_tup, q_lst, qi_tup, qi_lst, qi_scr, at_ins, isNon_int, isNon_non, wpN_nx, wpN_ret, wpN_brk, wpN_cnt, trn_nx, trn_cnt, trn_brk, trn_ret, List.map_cons, List.map_nil, List.length_cons, List.length_nil, Nat.zero_add, Nat.reduceAdd, Nat.reduceLT, true_and, and_true, Option.some.injEq, exists_eq_left', exists_eq_left, exists_and_left, Sl.ol.injEq, Sl.v.injEq, Sl.os.injEq, D.int.injEq, D.bl.injEq, D.tup.injEq, D.lst.injEq, D.ref.injEq, Ob.lst.injEq, List.cons.injEq, decide_eq_true_eq, Bool.not_eq_true', decide_eq_false_iff_not, bne_iff_ne, ne_eq, if_true, if_false, Bool.false_eq_true, Bool.true_eq_false, reduceIte, Bool.not_true, Bool.not_false, decide_true, decide_false, not_true_eq_false, not_false_eq_true, ex2, ex3, lim0, lim1, lim2, lim3, lim4, List.cons_append, List.nil_append, List.map, List.replicate]
      refine ⟨?_, b_nilN (b_nilW ⟨rfl, some (.v (.int (j : Int))), ?_⟩)⟩
      · have := len_flat (st := st) (l := (nearL ts r).take i)
        have : ((nearL ts r).take i).length ≤ (nearL ts r).length := by simp; omega
        simp only [List.length_map, List.length_append, List.length_take] at *
        unfold LIM
        omega
      · rw [tk, List.flatMap_append]
        simp [nj, hh, stD, e]
    · rename_i hh
      refine b_nilN (b_nilW ⟨rfl, some (.v (.int (j : Int))), ?_⟩)
      rw [tk, List.flatMap_append]
      simp [nj, hh, stD]
  · rintro f E S' ⟨rfl, rfl, x4, rfl⟩
    rw [wpN_nx, List.take_length]
    refine b_consW ?_
    try simp only [wpS, wpT, wpE, wpO, wpEs, wpAs, wpL, wpC, wpI, wpG, wpPar, wpSE, brwW, slotV, slotA, List.getElem?_cons_zero, List.getElem?_cons_succ, List.set_cons_zero, List.set_cons_succ, drf_int, drf_bl, drf_non, drf_str, drf_tup, drf_lst, drf_scr, drf_set, drf_ty, drf_ins, drf_glo, drf_0, ixL0, ixL1, ixL2, ixL3, ixL4, ixT0, ixT1, ixT2, ixAt0, ixAt1, ixAt2, ixAt3, ixAt4, tru_bl, tru_int, tru_tup, tru_lst, c_eq_int, c_ne_int, c_lt, c_le, c_gt, c_ge, c_in2, c_inL, c_inT, c_ninT, c_eq_bl, c_ne_bl, b_len_l, b_len_t, b_len_s, b_abs, b_int, b_tup_l, b_tup_t, b_max, b_min, o_add, o_sub, o_mul, o_fdiv, o_mod, o_pow, o_catT, o_catL, o_repT, o_repL, o_repL2, s_tupX, s_lstX, s_scrX, q_tup, q_lst, qi_tup, qi_lst, qi_scr, at_ins, isNon_int, isNon_non, wpN_nx, wpN_ret, wpN_brk, wpN_cnt, trn_nx, trn_cnt, trn_brk, trn_ret, List.map_cons, List.map_nil, List.length_cons, List.length_nil, Nat.zero_add, Nat.reduceAdd, Nat.reduceLT, true_and, and_true, Option.some.injEq, exists_eq_left', exists_eq_left, exists_and_left, Sl.ol.injEq, Sl.v.injEq, Sl.os.injEq, D.int.injEq, D.bl.injEq, D.tup.injEq, D.lst.injEq, D.ref.injEq, Ob.lst.injEq, List.cons.injEq, decide_eq_true_eq, Bool.not_eq_true', decide_eq_false_iff_not, bne_iff_ne, ne_eq, if_true, if_false, Bool.false_eq_true, Bool.true_eq_false, reduceIte, Bool.not_true, Bool.not_false, decide_true, decide_false, not_true_eq_false, not_false_eq_true, ex2, ex3, lim0, lim1, lim2, lim3, lim4, List.cons_append, List.nil_append, List.map, List.replicate]
    have ll : ((tagsAt st r).take (memAt ms r) ++ (nearL ts r).flatMap (newest st)).length ≤ 58 := by
      have := len_flat (st := st) (l := nearL ts r)
      simp only [List.length_append, List.length_take] at *
      omega
    refine ⟨_, setOf_l (by omega), .inr ⟨_, rfl, ?_, _, rfl, fun t => ?_⟩⟩
    · have := len_fold (l := (tagsAt st r).take (memAt ms r) ++ (nearL ts r).flatMap (newest st)) (acc := [])
      simp only [List.length_nil] at this
      omega
    · rw [mem_sortI, mem_fold]
      unfold barsL
      simp
end Qv.Law
set_option Elab.async false
set_option linter.all false
set_option maxRecDepth 100000
set_option maxHeartbeats 4000000
namespace Qv.Law
open Qv PySem

def backs (st : St) : D → Option D
  | .int i => if heldAt st i.toNat = true then some (.tup [.str (Str.ofString "back"), .int i]) else none
  | _ => none
def gives (st : St) : D → Option D
  | .int i => if heldAt st i.toNat = true then none else some (.tup [.str (Str.ofString "give"), .int i])
  | _ => none
/-- what may be asked for: a room's give or back -/
def IsAsk (n : Nat) (d : D) : Prop := ∃ r : Nat, r < n ∧ (d = .tup [.str (Str.ofString "give"), .int (r : Int)] ∨ d = .tup [.str (Str.ofString "back"), .int (r : Int)])
def AsksR (n : Nat) (S : Sh) (d : D) (S' : Sh) : Prop := (∃ xs, d = .lst xs ∧ xs ≠ [] ∧ xs.length < 1000000 ∧ ∀ x ∈ xs, IsAsk n x) ∧ S' = S
theorem asks_ok {C : Calls} {k : Nat} (hC : C.fn = callAt L.pg (k + 1)) {N n : Nat} (h0 : 0 < n) (h60 : n ≤ 60) {st : St} (h : StOk N n st) (S : Sh) : Ok (C.fn 21 [stD st] S) (AsksR n S) := by
  rw [hC]
  refine fn_W (fn := f__law_asks) rfl rfl ?_
  unfold f__law_asks b__law_asks stD
  refine b_consW ?_
  try simp only [List.length_map, h.len, wpS, wpT, wpE, wpO, wpEs, wpAs, wpL, wpC, wpI, wpG, wpPar, wpSE, brwW, slotV, slotA, List.getElem?_cons_zero, List.getElem?_cons_succ, List.set_cons_zero, List.set_cons_succ, drf_int, drf_bl, drf_non, drf_str, drf_tup, drf_lst, drf_scr, drf_set, drf_ty, drf_ins, drf_glo, drf_0, ixL0, ixL1, ixL2, ixL3, ixL4, ixT0, ixT1, ixT2, ixAt0, ixAt1, ixAt2, ixAt3, ixAt4, tru_bl, tru_int, tru_tup, tru_lst, c_eq_int, c_ne_int, c_lt, c_le, c_gt, c_ge, c_in2, c_inL, c_inT, c_ninT, c_eq_bl, c_ne_bl, b_len_l, b_len_t, b_len_s, b_abs, b_int, b_tup_l, b_tup_t, b_max, b_min, o_add, o_sub, o_mul, o_fdiv, o_mod, o_pow, o_catT, o_catL, o_repT, o_repL, o_repL2, s_tupX, s_lstX, s_scrX, q_tup, q_lst, qi_tup, qi_lst, qi_scr, at_ins, isNon_int, isNon_non, wpN_nx, wpN_ret, wpN_brk, wpN_cnt, trn_nx, trn_cnt, trn_brk, trn_ret, List.map_cons, List.map_nil, List.length_cons, List.length_nil, Nat.zero_add, Nat.reduceAdd, Nat.reduceLT, true_and, and_true, Option.some.injEq, exists_eq_left', exists_eq_left, exists_and_left, Sl.ol.injEq, Sl.v.injEq, Sl.os.injEq, D.int.injEq, D.bl.injEq, D.tup.injEq, D.lst.injEq, D.ref.injEq, Ob.lst.injEq, List.cons.injEq, decide_eq_true_eq, Bool.not_eq_true', decide_eq_false_iff_not, bne_iff_ne, ne_eq, if_true, if_false, Bool.false_eq_true, Bool.true_eq_false, reduceIte, Bool.not_true, Bool.not_false, decide_true, decide_false, not_true_eq_false, not_false_eq_true, ex2, ex3, lim0, lim1, lim2, lim3, lim4, List.cons_append, List.nil_append, List.map, List.replicate]
  refine ⟨by unfold LIM; omega, by unfold LIM; omega, ?_⟩
  have rl : (rngD 0 (n : Int)).length = n := by rw [rngD_len]; omega
  refine compL_map2 (g := backs st) _ (by rw [rl]; unfold LIM; omega) (fun x hx => ?_) ?_
  · obtain ⟨i, rfl, hi⟩ := mem_rngD hx
    rw [Int.zero_add] at *
    have i1 := ix_st h (r := i) (by omega)
    refine compF_W ?_
    try simp only [wipeE, i1, wpS, wpT, wpE, wpO, wpEs, wpAs, wpL, wpC, wpI, wpG, wpPar, wpSE, brwW, slotV, slotA, List.getElem?_cons_zero, List.getElem?_cons_succ, List.set_cons_zero, List.set_cons_succ, drf_int, drf_bl, drf_non, drf_str, drf_tup, drf_lst, drf_scr, drf_set, drf_ty, drf_ins, drf_glo, drf_0, ixL0, ixL1, ixL2, ixL3, ixL4, ixT0, ixT1, ixT2, ixAt0, ixAt1, ixAt2, ixAt3, ixAt4, tru_bl, tru_int, tru_tup, tru_lst, c_eq_int, c_ne_int, c_lt, c_le, c_gt, c_ge, c_in2, c_inL, c_inT, c_ninT, c_eq_bl, c_ne_bl, b_len_l, b_len_t, b_len_s, b_abs, b_int, b_tup_l, b_tup_t, b_max, b_min, o_add, o_sub, o_mul, o_fdiv, o_mod, o_pow, o_catT, o_catL, o_repT, o_repL, o_repL2, s_tupX, s_lstX, s_scrX, q_tup, q_lst, qi_tup, qi_lst, qi_scr, at_ins, isNon_int, isNon_non, wpN_nx, wpN_ret, wpN_brk, wpN_cnt, trn_nx, trn_cnt, trn_brk, trn_ret, List.map_cons, List.map_nil, List.length_cons, List.length_nil, Nat.zero_add, Nat.reduceAdd, Nat.reduceLT, true_and, and_true, Option.some.injEq, exists_eq_left', exists_eq_left, exists_and_left, Sl.ol.injEq, Sl.v.injEq, Sl.os.injEq, D.int.injEq, D.bl.injEq, D.tup.injEq, D.lst.injEq, D.ref.injEq, Ob.lst.injEq, List.cons.injEq, decide_eq_true_eq, Bool.not_eq_true', decide_eq_false_iff_not, bne_iff_ne, ne_eq, if_true, if_false, Bool.false_eq_true, Bool.true_eq_false, reduceIte, Bool.not_true, Bool.not_false, decide_true, decide_false, not_true_eq_false, not_false_eq_true, ex2, ex3, lim0, lim1, lim2, lim3, lim4, List.cons_append, List.nil_append, List.map, List.replicate]
    simp [backs]
  · refine b_frzW ?_
    try simp only [frzE, wpS, wpT, wpE, wpO, wpEs, wpAs, wpL, wpC, wpI, wpG, wpPar, wpSE, brwW, slotV, slotA, List.getElem?_cons_zero, List.getElem?_cons_succ, List.set_cons_zero, List.set_cons_succ, drf_int, drf_bl, drf_non, drf_str, drf_tup, drf_lst, drf_scr, drf_set, drf_ty, drf_ins, drf_glo, drf_0, ixL0, ixL1, ixL2, ixL3, ixL4, ixT0, ixT1, ixT2, ixAt0, ixAt1, ixAt2, ixAt3, ixAt4, tru_bl, tru_int, tru_tup, tru_lst, c_eq_int, c_ne_int, c_lt, c_le, c_gt, c_ge, c_in2, c_inL, c_inT, c_ninT, c_eq_bl, c_ne_bl, b_len_l, b_len_t, b_len_s, b_abs, b_int, b_tup_l, b_tup_t, b_max, b_min, o_add, o_sub, o_mul, o_fdiv, o_mod, o_pow, o_catT, o_catL, o_repT, o_repL, o_repL2, s_tupX, s_lstX, s_scrX, q_tup, q_lst, qi_tup, qi_lst, qi_scr, at_ins, isNon_int, isNon_non, wpN_nx, wpN_ret, wpN_brk, wpN_cnt, trn_nx, trn_cnt, trn_brk, trn_ret, List.map_cons, List.map_nil, List.length_cons, List.length_nil, Nat.zero_add, Nat.reduceAdd, Nat.reduceLT, true_and, and_true, Option.some.injEq, exists_eq_left', exists_eq_left, exists_and_left, Sl.ol.injEq, Sl.v.injEq, Sl.os.injEq, D.int.injEq, D.bl.injEq, D.tup.injEq, D.lst.injEq, D.ref.injEq, Ob.lst.injEq, List.cons.injEq, decide_eq_true_eq, Bool.not_eq_true', decide_eq_false_iff_not, bne_iff_ne, ne_eq, if_true, if_false, Bool.false_eq_true, Bool.true_eq_false, reduceIte, Bool.not_true, Bool.not_false, decide_true, decide_false, not_true_eq_false, not_false_eq_true, ex2, ex3, lim0, lim1, lim2, lim3, lim4, List.cons_append, List.nil_append, List.map, List.replicate]
    refine b_consW ?_
    try simp only [List.length_map, h.len, wpS, wpT, wpE, wpO, wpEs, wpAs, wpL, wpC, wpI, wpG, wpPar, wpSE, brwW, slotV, slotA, List.getElem?_cons_zero, List.getElem?_cons_succ, List.set_cons_zero, List.set_cons_succ, drf_int, drf_bl, drf_non, drf_str, drf_tup, drf_lst, drf_scr, drf_set, drf_ty, drf_ins, drf_glo, drf_0, ixL0, ixL1, ixL2, ixL3, ixL4, ixT0, ixT1, ixT2, ixAt0, ixAt1, ixAt2, ixAt3, ixAt4, tru_bl, tru_int, tru_tup, tru_lst, c_eq_int, c_ne_int, c_lt, c_le, c_gt, c_ge, c_in2, c_inL, c_inT, c_ninT, c_eq_bl, c_ne_bl, b_len_l, b_len_t, b_len_s, b_abs, b_int, b_tup_l, b_tup_t, b_max, b_min, o_add, o_sub, o_mul, o_fdiv, o_mod, o_pow, o_catT, o_catL, o_repT, o_repL, o_repL2, s_tupX, s_lstX, s_scrX, q_tup, q_lst, qi_tup, qi_lst, qi_scr, at_ins, isNon_int, isNon_non, wpN_nx, wpN_ret, wpN_brk, wpN_cnt, trn_nx, trn_cnt, trn_brk, trn_ret, List.map_cons, List.map_nil, List.length_cons, List.length_nil, Nat.zero_add, Nat.reduceAdd, Nat.reduceLT, true_and, and_true, Option.some.injEq, exists_eq_left', exists_eq_left, exists_and_left, Sl.ol.injEq, Sl.v.injEq, Sl.os.injEq, D.int.injEq, D.bl.injEq, D.tup.injEq, D.lst.injEq, D.ref.injEq, Ob.lst.injEq, List.cons.injEq, decide_eq_true_eq, Bool.not_eq_true', decide_eq_false_iff_not, bne_iff_ne, ne_eq, if_true, if_false, Bool.false_eq_true, Bool.true_eq_false, reduceIte, Bool.not_true, Bool.not_false, decide_true, decide_false, not_true_eq_false, not_false_eq_true, ex2, ex3, lim0, lim1, lim2, lim3, lim4, List.cons_append, List.nil_append, List.map, List.replicate]
    refine ⟨by unfold LIM; omega, by unfold LIM; omega, ?_⟩
    refine compL_map2 (g := gives st) _ (by rw [rl]; unfold LIM; omega) (fun x hx => ?_) ?_
    · obtain ⟨i, rfl, hi⟩ := mem_rngD hx
      rw [Int.zero_add] at *
      have i1 := ix_st h (r := i) (by omega)
      refine compF_W ?_
      try simp only [wipeE, i1, wpS, wpT, wpE, wpO, wpEs, wpAs, wpL, wpC, wpI, wpG, wpPar, wpSE, brwW, slotV, slotA, List.getElem?_cons_zero, List.getElem?_cons_succ, List.set_cons_zero, List.set_cons_succ, drf_int, drf_bl, drf_non, drf_str, drf_tup, drf_lst, drf_scr, drf_set, drf_ty, drf_ins, drf_glo, drf_0, ixL0, ixL1, ixL2, ixL3, ixL4, ixT0, ixT1, ixT2, ixAt0, ixAt1, ixAt2, ixAt3, ixAt4, tru_bl, tru_int, tru_tup, tru_lst, c_eq_int, c_ne_int, c_lt, c_le, c_gt, c_ge, c_in2, c_inL, c_inT, c_ninT, c_eq_bl, c_ne_bl, b_len_l, b_len_t, b_len_s, b_abs, b_int, b_tup_l, b_tup_t, b_max, b_min, o_add, o_sub, o_mul, o_fdiv, o_mod, o_pow, o_catT, o_catL, o_repT, o_repL, o_repL2, s_tupX, s_lstX, s_scrX, q_tup, q_lst, qi_tup, qi_lst, qi_scr, at_ins, isNon_int, isNon_non, wpN_nx, wpN_ret, wpN_brk, wpN_cnt, trn_nx, trn_cnt, trn_brk, trn_ret, List.map_cons, List.map_nil, List.length_cons, List.length_nil, Nat.zero_add, Nat.reduceAdd, Nat.reduceLT, true_and, and_true, Option.some.injEq, exists_eq_left', exists_eq_left, exists_and_left, Sl.ol.injEq, Sl.v.injEq, Sl.os.injEq, D.int.injEq, D.bl.injEq, D.tup.injEq, D.lst.injEq, D.ref.injEq, Ob.lst.injEq, List.cons.injEq, decide_eq_true_eq, Bool.not_eq_true', decide_eq_false_iff_not, bne_iff_ne, ne_eq, if_true, if_false, Bool.false_eq_true, Bool.true_eq_false, reduceIte, Bool.not_true, Bool.not_false, decide_true, decide_false, not_true_eq_false, not_false_eq_true, ex2, ex3, lim0, lim1, lim2, lim3, lim4, List.cons_append, List.nil_append, List.map, List.replicate]
      cases e : heldAt st i <;> simp [gives, e]
    · try simp only [wpS, wpT, wpE, wpO, wpEs, wpAs, wpL, wpC, wpI, wpG, wpPar, wpSE, brwW, slotV, slotA, List.getElem?_cons_zero, List.getElem?_cons_succ, List.set_cons_zero, List.set_cons_succ, drf_int, drf_bl, drf_non, drf_str, drf_tup, drf_lst, drf_scr, drf_set, drf_ty, drf_ins, drf_glo, drf_0, ixL0, ixL1, ixL2, ixL3, ixL4, ixT0, ixT1, ixT2, ixAt0, ixAt1, ixAt2, ixAt3, ixAt4, tru_bl, tru_int, tru_tup, tru_lst, c_eq_int, c_ne_int, c_lt, c_le, c_gt, c_ge, c_in2, c_inL, c_inT, c_ninT, c_eq_bl, c_ne_bl, b_len_l, b_len_t, b_len_s, b_abs, b_int, b_tup_l, b_tup_t, b_max, b_min, o_add, o_sub, o_mul, o_fdiv, o_mod, o_pow, o_catT, o_catL, o_repT, o_repL, o_repL2, s_tupX, s_lstX, s_scrX, q_tup, q_lst, qi_tup, qi_lst, qi_scr, at_ins, isNon_int, isNon_non, wpN_nx, wpN_ret, wpN_brk, wpN_cnt, trn_nx, trn_cnt, trn_brk, trn_ret, List.map_cons, List.map_nil, List.length_cons, List.length_nil, Nat.zero_add, Nat.reduceAdd, Nat.reduceLT, true_and, and_true, Option.some.injEq, exists_eq_left', exists_eq_left, exists_and_left, Sl.ol.injEq, Sl.v.injEq, Sl.os.injEq, D.int.injEq, D.bl.injEq, D.tup.injEq, D.lst.injEq, D.ref.injEq, Ob.lst.injEq, List.cons.injEq, decide_eq_true_eq, Bool.not_eq_true', decide_eq_false_iff_not, bne_iff_ne, ne_eq, if_true, if_false, Bool.false_eq_true, Bool.true_eq_false, reduceIte, Bool.not_true, Bool.not_false, decide_true, decide_false, not_true_eq_false, not_false_eq_true, ex2, ex3, lim0, lim1, lim2, lim3, lim4, List.cons_append, List.nil_append, List.map, List.replicate]
      have b1 : ((rngD 0 (n : Int)).filterMap (backs st)).length ≤ n := Nat.le_trans (List.length_filterMap_le _ _) (by rw [rl]; exact Nat.le_refl _)
      have b2 : ((rngD 0 (n : Int)).filterMap (gives st)).length ≤ n := Nat.le_trans (List.length_filterMap_le _ _) (by rw [rl]; exact Nat.le_refl _)
      refine ⟨by unfold LIM; omega, ⟨_, rfl, ?_, by rw [List.length_append]; omega, ?_⟩, rfl⟩
      · have m0 : (D.int 0) ∈ rngD 0 (n : Int) := by
          unfold rngD
          exact List.mem_map.mpr ⟨0, List.mem_range.mpr (by omega), rfl⟩
        intro e
        obtain ⟨e1, e2⟩ := List.append_eq_nil_iff.mp e
        cases q : heldAt st 0 with
        | true =>
          have : D.tup [.str (Str.ofString "back"), .int 0] ∈ (rngD 0 (n : Int)).filterMap (backs st) := List.mem_filterMap.mpr ⟨_, m0, by simp [backs, q]⟩
          rw [e1] at this
          cases this
        | false =>
          have : D.tup [.str (Str.ofString "give"), .int 0] ∈ (rngD 0 (n : Int)).filterMap (gives st) := List.mem_filterMap.mpr ⟨_, m0, by simp [gives, q]⟩
          rw [e2] at this
          cases this
      · intro x hx
        rcases List.mem_append.mp hx with hx | hx
        · obtain ⟨d, hd, e⟩ := List.mem_filterMap.mp hx
          obtain ⟨i, rfl, hi⟩ := mem_rngD hd
          rw [Int.zero_add] at *
          simp only [backs] at e
          split at e <;> cases e
          exact ⟨i, by omega, .inr rfl⟩
        · obtain ⟨d, hd, e⟩ := List.mem_filterMap.mp hx
          obtain ⟨i, rfl, hi⟩ := mem_rngD hd
          rw [Int.zero_add] at *
          simp only [gives] at e
          split at e <;> cases e
          exact ⟨i, by omega, .inl rfl⟩
/-- a list of deeds, as a tuple -/
def pastD (ds : List Deed) : D := .tup (ds.map deedD)
def PastR (n : Nat) (many : Int) (R : Sh) (d : D) (S : Sh) : Prop := ∃ ds : List Deed, d = pastD ds ∧ (ds.length : Int) = many ∧ (∀ x ∈ ds, x.room < n) ∧ HS R S
def PastI (ms : List Nat) (ts : List (Nat × Nat)) (kk many careful : Int) (R : Sh) (i : Nat) (E : En) (S : Sh) : Prop := HS R S ∧ ∃ (ds : List Deed) (st : St) (x5 x8 x9 x10 : Option Sl), ds.length = i ∧ (∀ x ∈ ds, x.room < ms.length) ∧ StOk i ms.length st ∧
  E = [some (.v (.ref 0)), some (.v (partsD ms ts)), some (.v (.int kk)), some (.v (.int many)), some (.v (.int careful)), x5, some (.v (stD st)), some (.v (pastD ds)), x8, x9, x10]
def PastM (ms : List Nat) (ts : List (Nat × Nat)) (kk many careful : Int) (R : Sh) (f : Fl) (E : En) (S : Sh) : Prop := f = .nx ∧ PastI ms ts kk many careful R many.toNat E S
/-- the deed that is done in a turn -/
def PastT (ms : List Nat) (ts : List (Nat × Nat)) (kk many careful : Int) (R : Sh) (ds : List Deed) (st : St) (f : Fl) (E : En) (S : Sh) : Prop := f = .nx ∧ HS R S ∧ ∃ (d : Deed) (x5 x9 x10 : Option Sl), d.room < ms.length ∧
  E = [some (.v (.ref 0)), some (.v (partsD ms ts)), some (.v (.int kk)), some (.v (.int many)), some (.v (.int careful)), x5, some (.v (stD st)), some (.v (pastD ds)), some (.v (deedD d)), x9, x10]
theorem past_ok {C : Calls} {k : Nat} (hC : C.fn = callAt L.pg (k + 4)) {ms : List Nat} {ts : List (Nat × Nat)} (h : PartsOk ms ts) (h8 : ms.length ≤ 8) {R S : Sh} (hS : HS R S) {kk many careful : Int} (k1 : 0 < kk) (k2 : kk ≤ 1000) (m1 : 0 ≤ many) (m2 : many ≤ 500) (c1 : 0 < careful) (c2 : careful < 1000000) :
    Ok (C.fn 25 [.ref 0, partsD ms ts, .int kk, .int many, .int careful] S) (PastR ms.length many R) := by
  rw [hC]
  refine fn_W (fn := f__law_past) rfl rfl ?_
  unfold f__law_past b__law_past
  refine b_consW ?_
  try simp only [wpS, wpT, wpE, wpO, wpEs, wpAs, wpL, wpC, wpI, wpG, wpPar, wpSE, brwW, slotV, slotA, List.getElem?_cons_zero, List.getElem?_cons_succ, List.set_cons_zero, List.set_cons_succ, drf_int, drf_bl, drf_non, drf_str, drf_tup, drf_lst, drf_scr, drf_set, drf_ty, drf_ins, drf_glo, drf_0, ixL0, ixL1, ixL2, ixL3, ixL4, ixT0, ixT1, ixT2, ixAt0, ixAt1, ixAt2, ixAt3, ixAt4, tru_bl, tru_int, tru_tup, tru_lst, c_eq_int, c_ne_int, c_lt, c_le, c_gt, c_ge, c_in2, c_inL, c_inT, c_ninT, c_eq_bl, c_ne_bl, b_len_l, b_len_t, b_len_s, b_abs, b_int, b_tup_l, b_tup_t, b_max, b_min, o_add, o_sub, o_mul, o_fdiv, o_mod, o_pow, o_catT, o_catL, o_repT, o_repL, o_repL2, s_tupX, s_lstX, s_scrX, q_tup, q_lst, qi_tup, qi_lst, qi_scr, at_ins, isNon_int, isNon_non, wpN_nx, wpN_ret, wpN_brk, wpN_cnt, trn_nx, trn_cnt, trn_brk, trn_ret, List.map_cons, List.map_nil, List.length_cons, List.length_nil, Nat.zero_add, Nat.reduceAdd, Nat.reduceLT, true_and, and_true, Option.some.injEq, exists_eq_left', exists_eq_left, exists_and_left, Sl.ol.injEq, Sl.v.injEq, Sl.os.injEq, D.int.injEq, D.bl.injEq, D.tup.injEq, D.lst.injEq, D.ref.injEq, Ob.lst.injEq, List.cons.injEq, decide_eq_true_eq, Bool.not_eq_true', decide_eq_false_iff_not, bne_iff_ne, ne_eq, if_true, if_false, Bool.false_eq_true, Bool.true_eq_false, reduceIte, Bool.not_true, Bool.not_false, decide_true, decide_false, not_true_eq_false, not_false_eq_true, ex2, ex3, lim0, lim1, lim2, lim3, lim4, List.cons_append, List.nil_append, List.map, List.replicate]
  refine (start_ok (C := L.pg.calls (k + 3)) rfl h S).mono fun d S1 ⟨e1, e2⟩ => ?_
  subst e1 e2
  try simp only [wpS, wpT, wpE, wpO, wpEs, wpAs, wpL, wpC, wpI, wpG, wpPar, wpSE, brwW, slotV, slotA, List.getElem?_cons_zero, List.getElem?_cons_succ, List.set_cons_zero, List.set_cons_succ, drf_int, drf_bl, drf_non, drf_str, drf_tup, drf_lst, drf_scr, drf_set, drf_ty, drf_ins, drf_glo, drf_0, ixL0, ixL1, ixL2, ixL3, ixL4, ixT0, ixT1, ixT2, ixAt0, ixAt1, ixAt2, ixAt3, ixAt4, tru_bl, tru_int, tru_tup, tru_lst, c_eq_int, c_ne_int, c_lt, c_le, c_gt, c_ge, c_in2, c_inL, c_inT, c_ninT, c_eq_bl, c_ne_bl, b_len_l, b_len_t, b_len_s, b_abs, b_int, b_tup_l, b_tup_t, b_max, b_min, o_add, o_sub, o_mul, o_fdiv, o_mod, o_pow, o_catT, o_catL, o_repT, o_repL, o_repL2, s_tupX, s_lstX, s_scrX, q_tup, q_lst, qi_tup, qi_lst, qi_scr, at_ins, isNon_int, isNon_non, wpN_nx, wpN_ret, wpN_brk, wpN_cnt, trn_nx, trn_cnt, trn_brk, trn_ret, List.map_cons, List.map_nil, List.length_cons, List.length_nil, Nat.zero_add, Nat.reduceAdd, Nat.reduceLT, true_and, and_true, Option.some.injEq, exists_eq_left', exists_eq_left, exists_and_left, Sl.ol.injEq, Sl.v.injEq, Sl.os.injEq, D.int.injEq, D.bl.injEq, D.tup.injEq, D.lst.injEq, D.ref.injEq, Ob.lst.injEq, List.cons.injEq, decide_eq_true_eq, Bool.not_eq_true', decide_eq_false_iff_not, bne_iff_ne, ne_eq, if_true, if_false, Bool.false_eq_true, Bool.true_eq_false, reduceIte, Bool.not_true, Bool.not_false, decide_true, decide_false, not_true_eq_false, not_false_eq_true, ex2, ex3, lim0, lim1, lim2, lim3, lim4, List.cons_append, List.nil_append, List.map, List.replicate]
  have pos := h.pos
  refine b_consR (PastM ms ts kk many careful R) ?_ ?_
  · try simp only [wpS, wpT, wpE, wpO, wpEs, wpAs, wpL, wpC, wpI, wpG, wpPar, wpSE, brwW, slotV, slotA, List.getElem?_cons_zero, List.getElem?_cons_succ, List.set_cons_zero, List.set_cons_succ, drf_int, drf_bl, drf_non, drf_str, drf_tup, drf_lst, drf_scr, drf_set, drf_ty, drf_ins, drf_glo, drf_0, ixL0, ixL1, ixL2, ixL3, ixL4, ixT0, ixT1, ixT2, ixAt0, ixAt1, ixAt2, ixAt3, ixAt4, tru_bl, tru_int, tru_tup, tru_lst, c_eq_int, c_ne_int, c_lt, c_le, c_gt, c_ge, c_in2, c_inL, c_inT, c_ninT, c_eq_bl, c_ne_bl, b_len_l, b_len_t, b_len_s, b_abs, b_int, b_tup_l, b_tup_t, b_max, b_min, o_add, o_sub, o_mul, o_fdiv, o_mod, o_pow, o_catT, o_catL, o_repT, o_repL, o_repL2, s_tupX, s_lstX, s_scrX, q_tup, q_lst, qi_tup, qi_lst, qi_scr, at_ins, isNon_int, isNon_non, wpN_nx, wpN_ret, wpN_brk, wpN_cnt, trn_nx, trn_cnt, trn_brk, trn_ret, List.map_cons, List.map_nil, List.length_cons, List.length_nil, Nat.zero_add, Nat.reduceAdd, Nat.reduceLT, true_and, and_true, Option.some.injEq, exists_eq_left', exists_eq_left, exists_and_left, Sl.ol.injEq, Sl.v.injEq, Sl.os.injEq, D.int.injEq, D.bl.injEq, D.tup.injEq, D.lst.injEq, D.ref.injEq, Ob.lst.injEq, List.cons.injEq, decide_eq_true_eq, Bool.not_eq_true', decide_eq_false_iff_not, bne_iff_ne, ne_eq, if_true, if_false, Bool.false_eq_true, Bool.true_eq_false, reduceIte, Bool.not_true, Bool.not_false, decide_true, decide_false, not_true_eq_false, not_false_eq_true, ex2, ex3, lim0, lim1, lim2, lim3, lim4, List.cons_append, List.nil_append, List.map, List.replicate]
    refine ⟨by unfold LIM; omega, by unfold LIM; omega, ?_⟩
    refine for_W (I := PastI ms ts kk many careful R) _ ⟨hS, [], _, none, none, none, none, rfl, by simp, start_St, rfl⟩ (fun i x E S' hx ⟨hS', ds, st, x5, x8, x9, x10, q1, q2, q3, q4⟩ => ?_) (fun E S' h => ⟨rfl, by
      have e : (rngD 0 many).length = many.toNat := by rw [rngD_len]; congr 1; omega
      rw [e] at h
      exact h⟩)
    subst q4
    obtain ⟨rfl, hlt⟩ := rngD_at hx
    try simp only [wpS, wpT, wpE, wpO, wpEs, wpAs, wpL, wpC, wpI, wpG, wpPar, wpSE, brwW, slotV, slotA, List.getElem?_cons_zero, List.getElem?_cons_succ, List.set_cons_zero, List.set_cons_succ, drf_int, drf_bl, drf_non, drf_str, drf_tup, drf_lst, drf_scr, drf_set, drf_ty, drf_ins, drf_glo, drf_0, ixL0, ixL1, ixL2, ixL3, ixL4, ixT0, ixT1, ixT2, ixAt0, ixAt1, ixAt2, ixAt3, ixAt4, tru_bl, tru_int, tru_tup, tru_lst, c_eq_int, c_ne_int, c_lt, c_le, c_gt, c_ge, c_in2, c_inL, c_inT, c_ninT, c_eq_bl, c_ne_bl, b_len_l, b_len_t, b_len_s, b_abs, b_int, b_tup_l, b_tup_t, b_max, b_min, o_add, o_sub, o_mul, o_fdiv, o_mod, o_pow, o_catT, o_catL, o_repT, o_repL, o_repL2, s_tupX, s_lstX, s_scrX, q_tup, q_lst, qi_tup, qi_lst, qi_scr, at_ins, isNon_int, isNon_non, wpN_nx, wpN_ret, wpN_brk, wpN_cnt, trn_nx, trn_cnt, trn_brk, trn_ret, List.map_cons, List.map_nil, List.length_cons, List.length_nil, Nat.zero_add, Nat.reduceAdd, Nat.reduceLT, true_and, and_true, Option.some.injEq, exists_eq_left', exists_eq_left, exists_and_left, Sl.ol.injEq, Sl.v.injEq, Sl.os.injEq, D.int.injEq, D.bl.injEq, D.tup.injEq, D.lst.injEq, D.ref.injEq, Ob.lst.injEq, List.cons.injEq, decide_eq_true_eq, Bool.not_eq_true', decide_eq_false_iff_not, bne_iff_ne, ne_eq, if_true, if_false, Bool.false_eq_true, Bool.true_eq_false, reduceIte, Bool.not_true, Bool.not_false, decide_true, decide_false, not_true_eq_false, not_false_eq_true, ex2, ex3, lim0, lim1, lim2, lim3, lim4, List.cons_append, List.nil_append, List.map, List.replicate]
    refine b_consW ?_
    try simp only [wpS, wpT, wpE, wpO, wpEs, wpAs, wpL, wpC, wpI, wpG, wpPar, wpSE, brwW, slotV, slotA, List.getElem?_cons_zero, List.getElem?_cons_succ, List.set_cons_zero, List.set_cons_succ, drf_int, drf_bl, drf_non, drf_str, drf_tup, drf_lst, drf_scr, drf_set, drf_ty, drf_ins, drf_glo, drf_0, ixL0, ixL1, ixL2, ixL3, ixL4, ixT0, ixT1, ixT2, ixAt0, ixAt1, ixAt2, ixAt3, ixAt4, tru_bl, tru_int, tru_tup, tru_lst, c_eq_int, c_ne_int, c_lt, c_le, c_gt, c_ge, c_in2, c_inL, c_inT, c_ninT, c_eq_bl, c_ne_bl, b_len_l, b_len_t, b_len_s, b_abs, b_int, b_tup_l, b_tup_t, b_max, b_min, o_add, o_sub, o_mul, o_fdiv, o_mod, o_pow, o_catT, o_catL, o_repT, o_repL, o_repL2, s_tupX, s_lstX, s_scrX, q_tup, q_lst, qi_tup, qi_lst, qi_scr, at_ins, isNon_int, isNon_non, wpN_nx, wpN_ret, wpN_brk, wpN_cnt, trn_nx, trn_cnt, trn_brk, trn_ret, List.map_cons, List.map_nil, List.length_cons, List.length_nil, Nat.zero_add, Nat.reduceAdd, Nat.reduceLT, true_and, and_true, Option.some.injEq, exists_eq_left', exists_eq_left, exists_and_left, Sl.ol.injEq, Sl.v.injEq, Sl.os.injEq, D.int.injEq, D.bl.injEq, D.tup.injEq, D.lst.injEq, D.ref.injEq, Ob.lst.injEq, List.cons.injEq, decide_eq_true_eq, Bool.not_eq_true', decide_eq_false_iff_not, bne_iff_ne, ne_eq, if_true, if_false, Bool.false_eq_true, Bool.true_eq_false, reduceIte, Bool.not_true, Bool.not_false, decide_true, decide_false, not_true_eq_false, not_false_eq_true, ex2, ex3, lim0, lim1, lim2, lim3, lim4, List.cons_append, List.nil_append, List.map, List.replicate]
    refine (asks_ok (C := L.pg.calls (k + 3)) rfl pos (by omega) q3 S').mono fun d S2 ⟨⟨xs, e1, e2, e3, e4⟩, e5⟩ => ?_
    subst e1 e5
    try simp only [wpS, wpT, wpE, wpO, wpEs, wpAs, wpL, wpC, wpI, wpG, wpPar, wpSE, brwW, slotV, slotA, List.getElem?_cons_zero, List.getElem?_cons_succ, List.set_cons_zero, List.set_cons_succ, drf_int, drf_bl, drf_non, drf_str, drf_tup, drf_lst, drf_scr, drf_set, drf_ty, drf_ins, drf_glo, drf_0, ixL0, ixL1, ixL2, ixL3, ixL4, ixT0, ixT1, ixT2, ixAt0, ixAt1, ixAt2, ixAt3, ixAt4, tru_bl, tru_int, tru_tup, tru_lst, c_eq_int, c_ne_int, c_lt, c_le, c_gt, c_ge, c_in2, c_inL, c_inT, c_ninT, c_eq_bl, c_ne_bl, b_len_l, b_len_t, b_len_s, b_abs, b_int, b_tup_l, b_tup_t, b_max, b_min, o_add, o_sub, o_mul, o_fdiv, o_mod, o_pow, o_catT, o_catL, o_repT, o_repL, o_repL2, s_tupX, s_lstX, s_scrX, q_tup, q_lst, qi_tup, qi_lst, qi_scr, at_ins, isNon_int, isNon_non, wpN_nx, wpN_ret, wpN_brk, wpN_cnt, trn_nx, trn_cnt, trn_brk, trn_ret, List.map_cons, List.map_nil, List.length_cons, List.length_nil, Nat.zero_add, Nat.reduceAdd, Nat.reduceLT, true_and, and_true, Option.some.injEq, exists_eq_left', exists_eq_left, exists_and_left, Sl.ol.injEq, Sl.v.injEq, Sl.os.injEq, D.int.injEq, D.bl.injEq, D.tup.injEq, D.lst.injEq, D.ref.injEq, Ob.lst.injEq, List.cons.injEq, decide_eq_true_eq, Bool.not_eq_true', decide_eq_false_iff_not, bne_iff_ne, ne_eq, if_true, if_false, Bool.false_eq_true, Bool.true_eq_false, reduceIte, Bool.not_true, Bool.not_false, decide_true, decide_false, not_true_eq_false, not_false_eq_true, ex2, ex3, lim0, lim1, lim2, lim3, lim4, List.cons_append, List.nil_append, List.map, List.replicate]
    refine (any_ok (C := L.pg.calls (k + 3)) rfl hS' e2 e3).mono fun d S3 ⟨hd, hS3⟩ => ?_
    obtain ⟨r, hr, hd⟩ := e4 d hd
    refine b_consR (PastT ms ts kk many careful R ds st) ?_ ?_
    · rcases hd with rfl | rfl
      · try simp only [eqGG, wpS, wpT, wpE, wpO, wpEs, wpAs, wpL, wpC, wpI, wpG, wpPar, wpSE, brwW, slotV, slotA, List.getElem?_cons_zero, List.getElem?_cons_succ, List.set_cons_zero, List.set_cons_succ, drf_int, drf_bl, drf_non, drf_str, drf_tup, drf_lst, drf_scr, drf_set, drf_ty, drf_ins, drf_glo, drf_0, ixL0, ixL1, ixL2, ixL3, ixL4, ixT0, ixT1, ixT2, ixAt0, ixAt1, ixAt2, ixAt3, ixAt4, tru_bl, tru_int, tru_tup, tru_lst, c_eq_int, c_ne_int, c_lt, c_le, c_gt, c_ge, c_in2, c_inL, c_inT, c_ninT, c_eq_bl, c_ne_bl, b_len_l, b_len_t, b_len_s, b_abs, b_int, b_tup_l, b_tup_t, b_max, b_min, o_add, o_sub, o_mul, o_fdiv, o_mod, o_pow, o_catT, o_catL, o_repT, o_repL, o_repL2, s_tupX, s_lstX, s_scrX, q_tup, q_lst, qi_tup, qi_lst, qi_scr, at_ins, isNon_int, isNon_non, wpN_nx, wpN_ret, wpN_brk, wpN_cnt, trn_nx, trn_cnt, trn_brk, trn_ret, List.map_cons, List.map_nil, List.length_cons, List.length_nil, Nat.zero_add, Nat.reduceAdd, Nat.reduceLT, true_and, and_true, Option.some.injEq, exists_eq_left', exists_eq_left, exists_and_left, Sl.ol.injEq, Sl.v.injEq, Sl.os.injEq, D.int.injEq, D.bl.injEq, D.tup.injEq, D.lst.injEq, D.ref.injEq, Ob.lst.injEq, List.cons.injEq, decide_eq_true_eq, Bool.not_eq_true', decide_eq_false_iff_not, bne_iff_ne, ne_eq, if_true, if_false, Bool.false_eq_true, Bool.true_eq_false, reduceIte, Bool.not_true, Bool.not_false, decide_true, decide_false, not_true_eq_false, not_false_eq_true, ex2, ex3, lim0, lim1, lim2, lim3, lim4, List.cons_append, List.nil_append, List.map, List.replicate]
        refine b_consW ?_
        try simp only [wpS, wpT, wpE, wpO, wpEs, wpAs, wpL, wpC, wpI, wpG, wpPar, wpSE, brwW, slotV, slotA, List.getElem?_cons_zero, List.getElem?_cons_succ, List.set_cons_zero, List.set_cons_succ, drf_int, drf_bl, drf_non, drf_str, drf_tup, drf_lst, drf_scr, drf_set, drf_ty, drf_ins, drf_glo, drf_0, ixL0, ixL1, ixL2, ixL3, ixL4, ixT0, ixT1, ixT2, ixAt0, ixAt1, ixAt2, ixAt3, ixAt4, tru_bl, tru_int, tru_tup, tru_lst, c_eq_int, c_ne_int, c_lt, c_le, c_gt, c_ge, c_in2, c_inL, c_inT, c_ninT, c_eq_bl, c_ne_bl, b_len_l, b_len_t, b_len_s, b_abs, b_int, b_tup_l, b_tup_t, b_max, b_min, o_add, o_sub, o_mul, o_fdiv, o_mod, o_pow, o_catT, o_catL, o_repT, o_repL, o_repL2, s_tupX, s_lstX, s_scrX, q_tup, q_lst, qi_tup, qi_lst, qi_scr, at_ins, isNon_int, isNon_non, wpN_nx, wpN_ret, wpN_brk, wpN_cnt, trn_nx, trn_cnt, trn_brk, trn_ret, List.map_cons, List.map_nil, List.length_cons, List.length_nil, Nat.zero_add, Nat.reduceAdd, Nat.reduceLT, true_and, and_true, Option.some.injEq, exists_eq_left', exists_eq_left, exists_and_left, Sl.ol.injEq, Sl.v.injEq, Sl.os.injEq, D.int.injEq, D.bl.injEq, D.tup.injEq, D.lst.injEq, D.ref.injEq, Ob.lst.injEq, List.cons.injEq, decide_eq_true_eq, Bool.not_eq_true', decide_eq_false_iff_not, bne_iff_ne, ne_eq, if_true, if_false, Bool.false_eq_true, Bool.true_eq_false, reduceIte, Bool.not_true, Bool.not_false, decide_true, decide_false, not_true_eq_false, not_false_eq_true, ex2, ex3, lim0, lim1, lim2, lim3, lim4, List.cons_append, List.nil_append, List.map, List.replicate]
        refine ⟨by unfold LIM; omega, by unfold LIM; omega, ?_⟩
        refine (compL_ok (P := fun S => S = S3) (R := fun x o => o = none ∨ o = some x) _ _ S3 (by rw [rngD_len]; show 0 + _ ≤ 1000000; omega) rfl fun x hx S eS => ?_).mono fun ys S4 ⟨e, os, o1, o2, o3⟩ => ?_
        · subst eS
          obtain ⟨t, rfl, _⟩ := mem_rngD hx
          refine compF_W ?_
          try simp only [wipeE, wpS, wpT, wpE, wpO, wpEs, wpAs, wpL, wpC, wpI, wpG, wpPar, wpSE, brwW, slotV, slotA, List.getElem?_cons_zero, List.getElem?_cons_succ, List.set_cons_zero, List.set_cons_succ, drf_int, drf_bl, drf_non, drf_str, drf_tup, drf_lst, drf_scr, drf_set, drf_ty, drf_ins, drf_glo, drf_0, ixL0, ixL1, ixL2, ixL3, ixL4, ixT0, ixT1, ixT2, ixAt0, ixAt1, ixAt2, ixAt3, ixAt4, tru_bl, tru_int, tru_tup, tru_lst, c_eq_int, c_ne_int, c_lt, c_le, c_gt, c_ge, c_in2, c_inL, c_inT, c_ninT, c_eq_bl, c_ne_bl, b_len_l, b_len_t, b_len_s, b_abs, b_int, b_tup_l, b_tup_t, b_max, b_min, o_add, o_sub, o_mul, o_fdiv, o_mod, o_pow, o_catT, o_catL, o_repT, o_repL, o_repL2, s_tupX, s_lstX, s_scrX, q_tup, q_lst, qi_tup, qi_lst, qi_scr, at_ins, isNon_int, isNon_non, wpN_nx, wpN_ret, wpN_brk, wpN_cnt, trn_nx, trn_cnt, trn_brk, trn_ret, List.map_cons, List.map_nil, List.length_cons, List.length_nil, Nat.zero_add, Nat.reduceAdd, Nat.reduceLT, true_and, and_true, Option.some.injEq, exists_eq_left', exists_eq_left, exists_and_left, Sl.ol.injEq, Sl.v.injEq, Sl.os.injEq, D.int.injEq, D.bl.injEq, D.tup.injEq, D.lst.injEq, D.ref.injEq, Ob.lst.injEq, List.cons.injEq, decide_eq_true_eq, Bool.not_eq_true', decide_eq_false_iff_not, bne_iff_ne, ne_eq, if_true, if_false, Bool.false_eq_true, Bool.true_eq_false, reduceIte, Bool.not_true, Bool.not_false, decide_true, decide_false, not_true_eq_false, not_false_eq_true, ex2, ex3, lim0, lim1, lim2, lim3, lim4, List.cons_append, List.nil_append, List.map, List.replicate]
          refine (bars_ok (C := L.pg.calls (k + 3)) rfl h h8 q3 (by omega) hr S).mono fun d S1 ⟨⟨l, e1, _⟩, e2⟩ => ?_
          subst e1 e2
          try simp only [wpS, wpT, wpE, wpO, wpEs, wpAs, wpL, wpC, wpI, wpG, wpPar, wpSE, brwW, slotV, slotA, List.getElem?_cons_zero, List.getElem?_cons_succ, List.set_cons_zero, List.set_cons_succ, drf_int, drf_bl, drf_non, drf_str, drf_tup, drf_lst, drf_scr, drf_set, drf_ty, drf_ins, drf_glo, drf_0, ixL0, ixL1, ixL2, ixL3, ixL4, ixT0, ixT1, ixT2, ixAt0, ixAt1, ixAt2, ixAt3, ixAt4, tru_bl, tru_int, tru_tup, tru_lst, c_eq_int, c_ne_int, c_lt, c_le, c_gt, c_ge, c_in2, c_inL, c_inT, c_ninT, c_eq_bl, c_ne_bl, b_len_l, b_len_t, b_len_s, b_abs, b_int, b_tup_l, b_tup_t, b_max, b_min, o_add, o_sub, o_mul, o_fdiv, o_mod, o_pow, o_catT, o_catL, o_repT, o_repL, o_repL2, s_tupX, s_lstX, s_scrX, q_tup, q_lst, qi_tup, qi_lst, qi_scr, at_ins, isNon_int, isNon_non, wpN_nx, wpN_ret, wpN_brk, wpN_cnt, trn_nx, trn_cnt, trn_brk, trn_ret, List.map_cons, List.map_nil, List.length_cons, List.length_nil, Nat.zero_add, Nat.reduceAdd, Nat.reduceLT, true_and, and_true, Option.some.injEq, exists_eq_left', exists_eq_left, exists_and_left, Sl.ol.injEq, Sl.v.injEq, Sl.os.injEq, D.int.injEq, D.bl.injEq, D.tup.injEq, D.lst.injEq, D.ref.injEq, Ob.lst.injEq, List.cons.injEq, decide_eq_true_eq, Bool.not_eq_true', decide_eq_false_iff_not, bne_iff_ne, ne_eq, if_true, if_false, Bool.false_eq_true, Bool.true_eq_false, reduceIte, Bool.not_true, Bool.not_false, decide_true, decide_false, not_true_eq_false, not_false_eq_true, ex2, ex3, lim0, lim1, lim2, lim3, lim4, List.cons_append, List.nil_append, List.map, List.replicate]
          split <;> simp
        · subst e
          have hsub := fm_sub o1 o2
          rw [List.nil_append] at o3
          rw [← o3] at hsub
          have ysI : ∀ y ∈ ys, ∃ t : Int, y = .int t := fun y hy => by
            obtain ⟨t, e, _⟩ := mem_rngD (hsub.subset hy)
            exact ⟨_, e⟩
          have ysL : ys.length < 1000000 := Nat.lt_of_le_of_lt hsub.length_le (by rw [rngD_len]; omega)
          refine b_frzW ?_
          try simp only [frzE, wpS, wpT, wpE, wpO, wpEs, wpAs, wpL, wpC, wpI, wpG, wpPar, wpSE, brwW, slotV, slotA, List.getElem?_cons_zero, List.getElem?_cons_succ, List.set_cons_zero, List.set_cons_succ, drf_int, drf_bl, drf_non, drf_str, drf_tup, drf_lst, drf_scr, drf_set, drf_ty, drf_ins, drf_glo, drf_0, ixL0, ixL1, ixL2, ixL3, ixL4, ixT0, ixT1, ixT2, ixAt0, ixAt1, ixAt2, ixAt3, ixAt4, tru_bl, tru_int, tru_tup, tru_lst, c_eq_int, c_ne_int, c_lt, c_le, c_gt, c_ge, c_in2, c_inL, c_inT, c_ninT, c_eq_bl, c_ne_bl, b_len_l, b_len_t, b_len_s, b_abs, b_int, b_tup_l, b_tup_t, b_max, b_min, o_add, o_sub, o_mul, o_fdiv, o_mod, o_pow, o_catT, o_catL, o_repT, o_repL, o_repL2, s_tupX, s_lstX, s_scrX, q_tup, q_lst, qi_tup, qi_lst, qi_scr, at_ins, isNon_int, isNon_non, wpN_nx, wpN_ret, wpN_brk, wpN_cnt, trn_nx, trn_cnt, trn_brk, trn_ret, List.map_cons, List.map_nil, List.length_cons, List.length_nil, Nat.zero_add, Nat.reduceAdd, Nat.reduceLT, true_and, and_true, Option.some.injEq, exists_eq_left', exists_eq_left, exists_and_left, Sl.ol.injEq, Sl.v.injEq, Sl.os.injEq, D.int.injEq, D.bl.injEq, D.tup.injEq, D.lst.injEq, D.ref.injEq, Ob.lst.injEq, List.cons.injEq, decide_eq_true_eq, Bool.not_eq_true', decide_eq_false_iff_not, bne_iff_ne, ne_eq, if_true, if_false, Bool.false_eq_true, Bool.true_eq_false, reduceIte, Bool.not_true, Bool.not_false, decide_true, decide_false, not_true_eq_false, not_false_eq_true, ex2, ex3, lim0, lim1, lim2, lim3, lim4, List.cons_append, List.nil_append, List.map, List.replicate]
          refine b_consW ?_
          try simp only [wpS, wpT, wpE, wpO, wpEs, wpAs, wpL, wpC, wpI, wpG, wpPar, wpSE, brwW, slotV, slotA, List.getElem?_cons_zero, List.getElem?_cons_succ, List.set_cons_zero, List.set_cons_succ, drf_int, drf_bl, drf_non, drf_str, drf_tup, drf_lst, drf_scr, drf_set, drf_ty, drf_ins, drf_glo, drf_0, ixL0, ixL1, ixL2, ixL3, ixL4, ixT0, ixT1, ixT2, ixAt0, ixAt1, ixAt2, ixAt3, ixAt4, tru_bl, tru_int, tru_tup, tru_lst, c_eq_int, c_ne_int, c_lt, c_le, c_gt, c_ge, c_in2, c_inL, c_inT, c_ninT, c_eq_bl, c_ne_bl, b_len_l, b_len_t, b_len_s, b_abs, b_int, b_tup_l, b_tup_t, b_max, b_min, o_add, o_sub, o_mul, o_fdiv, o_mod, o_pow, o_catT, o_catL, o_repT, o_repL, o_repL2, s_tupX, s_lstX, s_scrX, q_tup, q_lst, qi_tup, qi_lst, qi_scr, at_ins, isNon_int, isNon_non, wpN_nx, wpN_ret, wpN_brk, wpN_cnt, trn_nx, trn_cnt, trn_brk, trn_ret, List.map_cons, List.map_nil, List.length_cons, List.length_nil, Nat.zero_add, Nat.reduceAdd, Nat.reduceLT, true_and, and_true, Option.some.injEq, exists_eq_left', exists_eq_left, exists_and_left, Sl.ol.injEq, Sl.v.injEq, Sl.os.injEq, D.int.injEq, D.bl.injEq, D.tup.injEq, D.lst.injEq, D.ref.injEq, Ob.lst.injEq, List.cons.injEq, decide_eq_true_eq, Bool.not_eq_true', decide_eq_false_iff_not, bne_iff_ne, ne_eq, if_true, if_false, Bool.false_eq_true, Bool.true_eq_false, reduceIte, Bool.not_true, Bool.not_false, decide_true, decide_false, not_true_eq_false, not_false_eq_true, ex2, ex3, lim0, lim1, lim2, lim3, lim4, List.cons_append, List.nil_append, List.map, List.replicate]
          refine (drw (C := L.pg.calls (k + 3)) rfl hS3 k1 (by omega)).mono fun d S5 ⟨⟨t0, e, _⟩, hS5⟩ => ?_
          subst e
          try simp only [wpS, wpT, wpE, wpO, wpEs, wpAs, wpL, wpC, wpI, wpG, wpPar, wpSE, brwW, slotV, slotA, List.getElem?_cons_zero, List.getElem?_cons_succ, List.set_cons_zero, List.set_cons_succ, drf_int, drf_bl, drf_non, drf_str, drf_tup, drf_lst, drf_scr, drf_set, drf_ty, drf_ins, drf_glo, drf_0, ixL0, ixL1, ixL2, ixL3, ixL4, ixT0, ixT1, ixT2, ixAt0, ixAt1, ixAt2, ixAt3, ixAt4, tru_bl, tru_int, tru_tup, tru_lst, c_eq_int, c_ne_int, c_lt, c_le, c_gt, c_ge, c_in2, c_inL, c_inT, c_ninT, c_eq_bl, c_ne_bl, b_len_l, b_len_t, b_len_s, b_abs, b_int, b_tup_l, b_tup_t, b_max, b_min, o_add, o_sub, o_mul, o_fdiv, o_mod, o_pow, o_catT, o_catL, o_repT, o_repL, o_repL2, s_tupX, s_lstX, s_scrX, q_tup, q_lst, qi_tup, qi_lst, qi_scr, at_ins, isNon_int, isNon_non, wpN_nx, wpN_ret, wpN_brk, wpN_cnt, trn_nx, trn_cnt, trn_brk, trn_ret, List.map_cons, List.map_nil, List.length_cons, List.length_nil, Nat.zero_add, Nat.reduceAdd, Nat.reduceLT, true_and, and_true, Option.some.injEq, exists_eq_left', exists_eq_left, exists_and_left, Sl.ol.injEq, Sl.v.injEq, Sl.os.injEq, D.int.injEq, D.bl.injEq, D.tup.injEq, D.lst.injEq, D.ref.injEq, Ob.lst.injEq, List.cons.injEq, decide_eq_true_eq, Bool.not_eq_true', decide_eq_false_iff_not, bne_iff_ne, ne_eq, if_true, if_false, Bool.false_eq_true, Bool.true_eq_false, reduceIte, Bool.not_true, Bool.not_false, decide_true, decide_false, not_true_eq_false, not_false_eq_true, ex2, ex3, lim0, lim1, lim2, lim3, lim4, List.cons_append, List.nil_append, List.map, List.replicate]
          have last : ∀ {t : Int} {x9 : Option Sl} {S : Sh}, HS R S → wpB (L.pg.calls (k + 3)) (.cons (.asg (.n 8) (.bin .add (.v 8) (.tup (.cons (.v 10) .nil)))) .nil) [some (Sl.v (D.ref 0)), some (Sl.v (partsD ms ts)), some (Sl.v (D.int kk)), some (Sl.v (D.int many)), some (Sl.v (D.int careful)), some (Sl.v (D.int (0 + i))), some (Sl.v (stD st)), some (Sl.v (pastD ds)), some (Sl.v (D.tup [D.str (Str.ofString "give"), D.int r])), x9, some (.v (.int t))] S (PastT ms ts kk many careful R ds st) := fun {t x9 S} hS => by
            refine b_consW ?_
            try simp only [wpS, wpT, wpE, wpO, wpEs, wpAs, wpL, wpC, wpI, wpG, wpPar, wpSE, brwW, slotV, slotA, List.getElem?_cons_zero, List.getElem?_cons_succ, List.set_cons_zero, List.set_cons_succ, drf_int, drf_bl, drf_non, drf_str, drf_tup, drf_lst, drf_scr, drf_set, drf_ty, drf_ins, drf_glo, drf_0, ixL0, ixL1, ixL2, ixL3, ixL4, ixT0, ixT1, ixT2, ixAt0, ixAt1, ixAt2, ixAt3, ixAt4, tru_bl, tru_int, tru_tup, tru_lst, c_eq_int, c_ne_int, c_lt, c_le, c_gt, c_ge, c_in2, c_inL, c_inT, c_ninT, c_eq_bl, c_ne_bl, b_len_l, b_len_t, b_len_s, b_abs, b_int, b_tup_l, b_tup_t, b_max, b_min, o_add, o_sub, o_mul, o_fdiv, o_mod, o_pow, o_catT, o_catL, o_repT, o_repL, o_repL2, s_tupX, s_lstX, s_scrX, q_tup, q_lst, qi_tup, qi_lst, qi_scr, at_ins, isNon_int, isNon_non, wpN_nx, wpN_ret, wpN_brk, wpN_cnt, trn_nx, trn_cnt, trn_brk, trn_ret, List.map_cons, List.map_nil, List.length_cons, List.length_nil, Nat.zero_add, Nat.reduceAdd, Nat.reduceLT, true_and, and_true, Option.some.injEq, exists_eq_left', exists_eq_left, exists_and_left, Sl.ol.injEq, Sl.v.injEq, Sl.os.injEq, D.int.injEq, D.bl.injEq, D.tup.injEq, D.lst.injEq, D.ref.injEq, Ob.lst.injEq, List.cons.injEq, decide_eq_true_eq, Bool.not_eq_true', decide_eq_false_iff_not, bne_iff_ne, ne_eq, if_true, if_false, Bool.false_eq_true, Bool.true_eq_false, reduceIte, Bool.not_true, Bool.not_false, decide_true, decide_false, not_true_eq_false, not_false_eq_true, ex2, ex3, lim0, lim1, lim2, lim3, lim4, List.cons_append, List.nil_append, List.map, List.replicate]
            exact b_nilW ⟨rfl, hS, .give r t, _, _, _, hr, rfl⟩
          refine b_consW ?_
          try simp only [wpS, wpT, wpE, wpO, wpEs, wpAs, wpL, wpC, wpI, wpG, wpPar, wpSE, brwW, slotV, slotA, List.getElem?_cons_zero, List.getElem?_cons_succ, List.set_cons_zero, List.set_cons_succ, drf_int, drf_bl, drf_non, drf_str, drf_tup, drf_lst, drf_scr, drf_set, drf_ty, drf_ins, drf_glo, drf_0, ixL0, ixL1, ixL2, ixL3, ixL4, ixT0, ixT1, ixT2, ixAt0, ixAt1, ixAt2, ixAt3, ixAt4, tru_bl, tru_int, tru_tup, tru_lst, c_eq_int, c_ne_int, c_lt, c_le, c_gt, c_ge, c_in2, c_inL, c_inT, c_ninT, c_eq_bl, c_ne_bl, b_len_l, b_len_t, b_len_s, b_abs, b_int, b_tup_l, b_tup_t, b_max, b_min, o_add, o_sub, o_mul, o_fdiv, o_mod, o_pow, o_catT, o_catL, o_repT, o_repL, o_repL2, s_tupX, s_lstX, s_scrX, q_tup, q_lst, qi_tup, qi_lst, qi_scr, at_ins, isNon_int, isNon_non, wpN_nx, wpN_ret, wpN_brk, wpN_cnt, trn_nx, trn_cnt, trn_brk, trn_ret, List.map_cons, List.map_nil, List.length_cons, List.length_nil, Nat.zero_add, Nat.reduceAdd, Nat.reduceLT, true_and, and_true, Option.some.injEq, exists_eq_left', exists_eq_left, exists_and_left, Sl.ol.injEq, Sl.v.injEq, Sl.os.injEq, D.int.injEq, D.bl.injEq, D.tup.injEq, D.lst.injEq, D.ref.injEq, Ob.lst.injEq, List.cons.injEq, decide_eq_true_eq, Bool.not_eq_true', decide_eq_false_iff_not, bne_iff_ne, ne_eq, if_true, if_false, Bool.false_eq_true, Bool.true_eq_false, reduceIte, Bool.not_true, Bool.not_false, decide_true, decide_false, not_true_eq_false, not_false_eq_true, ex2, ex3, lim0, lim1, lim2, lim3, lim4, List.cons_append, List.nil_append, List.map, List.replicate]
          split
          · rename_i h1
            refine (drw (C := L.pg.calls (k + 3)) rfl hS5 c1 (by omega)).mono fun d S6 ⟨⟨t1, e, _⟩, hS6⟩ => ?_
            subst e
            try simp only [wpS, wpT, wpE, wpO, wpEs, wpAs, wpL, wpC, wpI, wpG, wpPar, wpSE, brwW, slotV, slotA, List.getElem?_cons_zero, List.getElem?_cons_succ, List.set_cons_zero, List.set_cons_succ, drf_int, drf_bl, drf_non, drf_str, drf_tup, drf_lst, drf_scr, drf_set, drf_ty, drf_ins, drf_glo, drf_0, ixL0, ixL1, ixL2, ixL3, ixL4, ixT0, ixT1, ixT2, ixAt0, ixAt1, ixAt2, ixAt3, ixAt4, tru_bl, tru_int, tru_tup, tru_lst, c_eq_int, c_ne_int, c_lt, c_le, c_gt, c_ge, c_in2, c_inL, c_inT, c_ninT, c_eq_bl, c_ne_bl, b_len_l, b_len_t, b_len_s, b_abs, b_int, b_tup_l, b_tup_t, b_max, b_min, o_add, o_sub, o_mul, o_fdiv, o_mod, o_pow, o_catT, o_catL, o_repT, o_repL, o_repL2, s_tupX, s_lstX, s_scrX, q_tup, q_lst, qi_tup, qi_lst, qi_scr, at_ins, isNon_int, isNon_non, wpN_nx, wpN_ret, wpN_brk, wpN_cnt, trn_nx, trn_cnt, trn_brk, trn_ret, List.map_cons, List.map_nil, List.length_cons, List.length_nil, Nat.zero_add, Nat.reduceAdd, Nat.reduceLT, true_and, and_true, Option.some.injEq, exists_eq_left', exists_eq_left, exists_and_left, Sl.ol.injEq, Sl.v.injEq, Sl.os.injEq, D.int.injEq, D.bl.injEq, D.tup.injEq, D.lst.injEq, D.ref.injEq, Ob.lst.injEq, List.cons.injEq, decide_eq_true_eq, Bool.not_eq_true', decide_eq_false_iff_not, bne_iff_ne, ne_eq, if_true, if_false, Bool.false_eq_true, Bool.true_eq_false, reduceIte, Bool.not_true, Bool.not_false, decide_true, decide_false, not_true_eq_false, not_false_eq_true, ex2, ex3, lim0, lim1, lim2, lim3, lim4, List.cons_append, List.nil_append, List.map, List.replicate]
            split
            · refine b_consW ?_
              try simp only [wpS, wpT, wpE, wpO, wpEs, wpAs, wpL, wpC, wpI, wpG, wpPar, wpSE, brwW, slotV, slotA, List.getElem?_cons_zero, List.getElem?_cons_succ, List.set_cons_zero, List.set_cons_succ, drf_int, drf_bl, drf_non, drf_str, drf_tup, drf_lst, drf_scr, drf_set, drf_ty, drf_ins, drf_glo, drf_0, ixL0, ixL1, ixL2, ixL3, ixL4, ixT0, ixT1, ixT2, ixAt0, ixAt1, ixAt2, ixAt3, ixAt4, tru_bl, tru_int, tru_tup, tru_lst, c_eq_int, c_ne_int, c_lt, c_le, c_gt, c_ge, c_in2, c_inL, c_inT, c_ninT, c_eq_bl, c_ne_bl, b_len_l, b_len_t, b_len_s, b_abs, b_int, b_tup_l, b_tup_t, b_max, b_min, o_add, o_sub, o_mul, o_fdiv, o_mod, o_pow, o_catT, o_catL, o_repT, o_repL, o_repL2, s_tupX, s_lstX, s_scrX, q_tup, q_lst, qi_tup, qi_lst, qi_scr, at_ins, isNon_int, isNon_non, wpN_nx, wpN_ret, wpN_brk, wpN_cnt, trn_nx, trn_cnt, trn_brk, trn_ret, List.map_cons, List.map_nil, List.length_cons, List.length_nil, Nat.zero_add, Nat.reduceAdd, Nat.reduceLT, true_and, and_true, Option.some.injEq, exists_eq_left', exists_eq_left, exists_and_left, Sl.ol.injEq, Sl.v.injEq, Sl.os.injEq, D.int.injEq, D.bl.injEq, D.tup.injEq, D.lst.injEq, D.ref.injEq, Ob.lst.injEq, List.cons.injEq, decide_eq_true_eq, Bool.not_eq_true', decide_eq_false_iff_not, bne_iff_ne, ne_eq, if_true, if_false, Bool.false_eq_true, Bool.true_eq_false, reduceIte, Bool.not_true, Bool.not_false, decide_true, decide_false, not_true_eq_false, not_false_eq_true, ex2, ex3, lim0, lim1, lim2, lim3, lim4, List.cons_append, List.nil_append, List.map, List.replicate]
              have yn : ys ≠ [] := by
                rintro e
                rw [e] at h1
                simp at h1
              refine (any_ok (C := L.pg.calls (k + 3)) rfl hS6 yn ysL).mono fun d S7 ⟨hd7, hS7⟩ => ?_
              obtain ⟨t, rfl⟩ := ysI d hd7
              try simp only [wpS, wpT, wpE, wpO, wpEs, wpAs, wpL, wpC, wpI, wpG, wpPar, wpSE, brwW, slotV, slotA, List.getElem?_cons_zero, List.getElem?_cons_succ, List.set_cons_zero, List.set_cons_succ, drf_int, drf_bl, drf_non, drf_str, drf_tup, drf_lst, drf_scr, drf_set, drf_ty, drf_ins, drf_glo, drf_0, ixL0, ixL1, ixL2, ixL3, ixL4, ixT0, ixT1, ixT2, ixAt0, ixAt1, ixAt2, ixAt3, ixAt4, tru_bl, tru_int, tru_tup, tru_lst, c_eq_int, c_ne_int, c_lt, c_le, c_gt, c_ge, c_in2, c_inL, c_inT, c_ninT, c_eq_bl, c_ne_bl, b_len_l, b_len_t, b_len_s, b_abs, b_int, b_tup_l, b_tup_t, b_max, b_min, o_add, o_sub, o_mul, o_fdiv, o_mod, o_pow, o_catT, o_catL, o_repT, o_repL, o_repL2, s_tupX, s_lstX, s_scrX, q_tup, q_lst, qi_tup, qi_lst, qi_scr, at_ins, isNon_int, isNon_non, wpN_nx, wpN_ret, wpN_brk, wpN_cnt, trn_nx, trn_cnt, trn_brk, trn_ret, List.map_cons, List.map_nil, List.length_cons, List.length_nil, Nat.zero_add, Nat.reduceAdd, Nat.reduceLT, true_and, and_true, Option.some.injEq, exists_eq_left', exists_eq_left, exists_and_left, Sl.ol.injEq, Sl.v.injEq, Sl.os.injEq, D.int.injEq, D.bl.injEq, D.tup.injEq, D.lst.injEq, D.ref.injEq, Ob.lst.injEq, List.cons.injEq, decide_eq_true_eq, Bool.not_eq_true', decide_eq_false_iff_not, bne_iff_ne, ne_eq, if_true, if_false, Bool.false_eq_true, Bool.true_eq_false, reduceIte, Bool.not_true, Bool.not_false, decide_true, decide_false, not_true_eq_false, not_false_eq_true, ex2, ex3, lim0, lim1, lim2, lim3, lim4, List.cons_append, List.nil_append, List.map, List.replicate]
              exact b_nilN (last hS7)
            · exact b_nilN (last hS6)
          · exact b_nilN (last hS5)
      · try simp only [eqBG, wpS, wpT, wpE, wpO, wpEs, wpAs, wpL, wpC, wpI, wpG, wpPar, wpSE, brwW, slotV, slotA, List.getElem?_cons_zero, List.getElem?_cons_succ, List.set_cons_zero, List.set_cons_succ, drf_int, drf_bl, drf_non, drf_str, drf_tup, drf_lst, drf_scr, drf_set, drf_ty, drf_ins, drf_glo, drf_0, ixL0, ixL1, ixL2, ixL3, ixL4, ixT0, ixT1, ixT2, ixAt0, ixAt1, ixAt2, ixAt3, ixAt4, tru_bl, tru_int, tru_tup, tru_lst, c_eq_int, c_ne_int, c_lt, c_le, c_gt, c_ge, c_in2, c_inL, c_inT, c_ninT, c_eq_bl, c_ne_bl, b_len_l, b_len_t, b_len_s, b_abs, b_int, b_tup_l, b_tup_t, b_max, b_min, o_add, o_sub, o_mul, o_fdiv, o_mod, o_pow, o_catT, o_catL, o_repT, o_repL, o_repL2, s_tupX, s_lstX, s_scrX, q_tup, q_lst, qi_tup, qi_lst, qi_scr, at_ins, isNon_int, isNon_non, wpN_nx, wpN_ret, wpN_brk, wpN_cnt, trn_nx, trn_cnt, trn_brk, trn_ret, List.map_cons, List.map_nil, List.length_cons, List.length_nil, Nat.zero_add, Nat.reduceAdd, Nat.reduceLT, true_and, and_true, Option.some.injEq, exists_eq_left', exists_eq_left, exists_and_left, Sl.ol.injEq, Sl.v.injEq, Sl.os.injEq, D.int.injEq, D.bl.injEq, D.tup.injEq, D.lst.injEq, D.ref.injEq, Ob.lst.injEq, List.cons.injEq, decide_eq_true_eq, Bool.not_eq_true', decide_eq_false_iff_not, bne_iff_ne, ne_eq, if_true, if_false, Bool.false_eq_true, Bool.true_eq_false, reduceIte, Bool.not_true, Bool.not_false, decide_true, decide_false, not_true_eq_false, not_false_eq_true, ex2, ex3, lim0, lim1, lim2, lim3, lim4, List.cons_append, List.nil_append, List.map, List.replicate]
        exact b_nilW ⟨rfl, hS3, .back r, _, _, _, hr, rfl⟩
    · rintro f E S' ⟨rfl, hS4, d, x5, x9, x10, hd, rfl⟩
      rw [wpN_nx]
      refine b_consW ?_
      unfold pastD
      try simp only [wpS, wpT, wpE, wpO, wpEs, wpAs, wpL, wpC, wpI, wpG, wpPar, wpSE, brwW, slotV, slotA, List.getElem?_cons_zero, List.getElem?_cons_succ, List.set_cons_zero, List.set_cons_succ, drf_int, drf_bl, drf_non, drf_str, drf_tup, drf_lst, drf_scr, drf_set, drf_ty, drf_ins, drf_glo, drf_0, ixL0, ixL1, ixL2, ixL3, ixL4, ixT0, ixT1, ixT2, ixAt0, ixAt1, ixAt2, ixAt3, ixAt4, tru_bl, tru_int, tru_tup, tru_lst, c_eq_int, c_ne_int, c_lt, c_le, c_gt, c_ge, c_in2, c_inL, c_inT, c_ninT, c_eq_bl, c_ne_bl, b_len_l, b_len_t, b_len_s, b_abs, b_int, b_tup_l, b_tup_t, b_max, b_min, o_add, o_sub, o_mul, o_fdiv, o_mod, o_pow, o_catT, o_catL, o_repT, o_repL, o_repL2, s_tupX, s_lstX, s_scrX, q_tup, q_lst, qi_tup, qi_lst, qi_scr, at_ins, isNon_int, isNon_non, wpN_nx, wpN_ret, wpN_brk, wpN_cnt, trn_nx, trn_cnt, trn_brk, trn_ret, List.map_cons, List.map_nil, List.length_cons, List.length_nil, Nat.zero_add, Nat.reduceAdd, Nat.reduceLT, true_and, and_true, Option.some.injEq, exists_eq_left', exists_eq_left, exists_and_left, Sl.ol.injEq, Sl.v.injEq, Sl.os.injEq, D.int.injEq, D.bl.injEq, D.tup.injEq, D.lst.injEq, D.ref.injEq, Ob.lst.injEq, List.cons.injEq, decide_eq_true_eq, Bool.not_eq_true', decide_eq_false_iff_not, bne_iff_ne, ne_eq, if_true, if_false, Bool.false_eq_true, Bool.true_eq_false, reduceIte, Bool.not_true, Bool.not_false, decide_true, decide_false, not_true_eq_false, not_false_eq_true, ex2, ex3, lim0, lim1, lim2, lim3, lim4, List.cons_append, List.nil_append, List.map, List.replicate]
      refine ⟨by rw [List.length_map]; unfold LIM; omega, ?_⟩
      refine (done_ok (C := L.pg.calls (k + 3)) rfl q3 (by omega) hd S').mono fun x S6 ⟨e1, e2⟩ => ?_
      subst e1 e2
      refine b_nilW ⟨hS4, ds ++ [d], done st d, x5, some (.v (deedD d)), x9, x10, by simp [q1], fun x hx => ?_, q3.done d, ?_⟩
      · rcases List.mem_append.mp hx with hx | hx
        · exact q2 x hx
        · rw [List.mem_singleton.mp hx]
          exact hd
      · unfold pastD
        rw [List.map_append]
        rfl
  · rintro f E S' ⟨rfl, hS, ds, st, x5, x8, x9, x10, q1, q2, q3, rfl⟩
    rw [wpN_nx]
    refine b_consW ?_
    try simp only [wpS, wpT, wpE, wpO, wpEs, wpAs, wpL, wpC, wpI, wpG, wpPar, wpSE, brwW, slotV, slotA, List.getElem?_cons_zero, List.getElem?_cons_succ, List.set_cons_zero, List.set_cons_succ, drf_int, drf_bl, drf_non, drf_str, drf_tup, drf_lst, drf_scr, drf_set, drf_ty, drf_ins, drf_glo, drf_0, ixL0, ixL1, ixL2, ixL3, ixL4, ixT0, ixT1, ixT2, ixAt0, ixAt1, ixAt2, ixAt3, ixAt4, tru_bl, tru_int, tru_tup, tru_lst, c_eq_int, c_ne_int, c_lt, c_le, c_gt, c_ge, c_in2, c_inL, c_inT, c_ninT, c_eq_bl, c_ne_bl, b_len_l, b_len_t, b_len_s, b_abs, b_int, b_tup_l, b_tup_t, b_max, b_min, o_add, o_sub, o_mul, o_fdiv, o_mod, o_pow, o_catT, o_catL, o_repT, o_repL, o_repL2, s_tupX, s_lstX, s_scrX, q_tup, q_lst, qi_tup, qi_lst, qi_scr, at_ins, isNon_int, isNon_non, wpN_nx, wpN_ret, wpN_brk, wpN_cnt, trn_nx, trn_cnt, trn_brk, trn_ret, List.map_cons, List.map_nil, List.length_cons, List.length_nil, Nat.zero_add, Nat.reduceAdd, Nat.reduceLT, true_and, and_true, Option.some.injEq, exists_eq_left', exists_eq_left, exists_and_left, Sl.ol.injEq, Sl.v.injEq, Sl.os.injEq, D.int.injEq, D.bl.injEq, D.tup.injEq, D.lst.injEq, D.ref.injEq, Ob.lst.injEq, List.cons.injEq, decide_eq_true_eq, Bool.not_eq_true', decide_eq_false_iff_not, bne_iff_ne, ne_eq, if_true, if_false, Bool.false_eq_true, Bool.true_eq_false, reduceIte, Bool.not_true, Bool.not_false, decide_true, decide_false, not_true_eq_false, not_false_eq_true, ex2, ex3, lim0, lim1, lim2, lim3, lim4, List.cons_append, List.nil_append, List.map, List.replicate]
    exact ⟨ds, rfl, by omega, q2, hS⟩
end Qv.Law
set_option Elab.async false
set_option linter.all false
set_option maxRecDepth 100000
set_option maxHeartbeats 4000000
namespace Qv.Law
open Qv PySem

theorem isi_ii {i : Int} : biD .isi [.int i, .ty "int"] = some (.bl true) := by rfl
theorem isi_ib {i : Int} : biD .isi [.int i, .ty "bool"] = some (.bl false) := by rfl
theorem isi_tt {xs : List D} : biD .isi [.tup xs, .ty "tuple"] = some (.bl true) := by rfl
theorem gl_int {k : Nat} : (L.pg.calls k).gl 4 = some (.ty "int") := by rfl
theorem gl_bool {k : Nat} : (L.pg.calls k).gl 3 = some (.ty "bool") := by rfl
theorem gl_tup {k : Nat} : (L.pg.calls k).gl 2 = some (.ty "tuple") := by rfl
theorem gl_rooms {k : Nat} : (L.pg.calls k).gl 5 = some (.int 60) := by rfl
theorem gl_mem {k : Nat} : (L.pg.calls k).gl 6 = some (.int 30) := by rfl
theorem integer_ok {C : Calls} {k : Nat} (hC : C.fn = callAt L.pg (k + 1)) {i : Int} (S : Sh) : Ok (C.fn 12 [.int i] S) fun d S' => d = .bl true ∧ S' = S := by
  rw [hC]
  refine fn_W (fn := f_is_integer) rfl rfl ?_
  unfold f_is_integer b_is_integer
  refine b_consW ?_
  try simp only [gl_int, gl_bool, isi_ii, isi_ib, wpS, wpT, wpE, wpO, wpEs, wpAs, wpL, wpC, wpI, wpG, wpPar, wpSE, brwW, slotV, slotA, List.getElem?_cons_zero, List.getElem?_cons_succ, List.set_cons_zero, List.set_cons_succ, drf_int, drf_bl, drf_non, drf_str, drf_tup, drf_lst, drf_scr, drf_set, drf_ty, drf_ins, drf_glo, drf_0, ixL0, ixL1, ixL2, ixL3, ixL4, ixT0, ixT1, ixT2, ixAt0, ixAt1, ixAt2, ixAt3, ixAt4, tru_bl, tru_int, tru_tup, tru_lst, c_eq_int, c_ne_int, c_lt, c_le, c_gt, c_ge, c_in2, c_inL, c_inT, c_ninT, c_eq_bl, c_ne_bl, b_len_l, b_len_t, b_len_s, b_abs, b_int, b_tup_l, b_tup_t, b_max, b_min, o_add, o_sub, o_mul, o_fdiv, o_mod, o_pow, o_catT, o_catL, o_repT, o_repL, o_repL2, s_tupX, s_lstX, s_scrX, q_tup, q_lst, qi_tup, qi_lst, qi_scr, at_ins, isNon_int, isNon_non, wpN_nx, wpN_ret, wpN_brk, wpN_cnt, trn_nx, trn_cnt, trn_brk, trn_ret, List.map_cons, List.map_nil, List.length_cons, List.length_nil, Nat.zero_add, Nat.reduceAdd, Nat.reduceLT, true_and, and_true, Option.some.injEq, exists_eq_left', exists_eq_left, exists_and_left, Sl.ol.injEq, Sl.v.injEq, Sl.os.injEq, D.int.injEq, D.bl.injEq, D.tup.injEq, D.lst.injEq, D.ref.injEq, Ob.lst.injEq, List.cons.injEq, decide_eq_true_eq, Bool.not_eq_true', decide_eq_false_iff_not, bne_iff_ne, ne_eq, if_true, if_false, Bool.false_eq_true, Bool.true_eq_false, reduceIte, Bool.not_true, Bool.not_false, decide_true, decide_false, not_true_eq_false, not_false_eq_true, ex2, ex3, lim0, lim1, lim2, lim3, lim4, List.cons_append, List.nil_append, List.map, List.replicate]
theorem within_ok {C : Calls} {k : Nat} (hC : C.fn = callAt L.pg (k + 2)) {i a b : Int} (h1 : a ≤ i) (h2 : i ≤ b) (S : Sh) : Ok (C.fn 13 [.int i, .int a, .int b] S) fun d S' => d = .bl true ∧ S' = S := by
  rw [hC]
  refine fn_W (fn := f_is_within) rfl rfl ?_
  unfold f_is_within b_is_within
  refine b_consW ?_
  try simp only [wpS, wpT, wpE, wpO, wpEs, wpAs, wpL, wpC, wpI, wpG, wpPar, wpSE, brwW, slotV, slotA, List.getElem?_cons_zero, List.getElem?_cons_succ, List.set_cons_zero, List.set_cons_succ, drf_int, drf_bl, drf_non, drf_str, drf_tup, drf_lst, drf_scr, drf_set, drf_ty, drf_ins, drf_glo, drf_0, ixL0, ixL1, ixL2, ixL3, ixL4, ixT0, ixT1, ixT2, ixAt0, ixAt1, ixAt2, ixAt3, ixAt4, tru_bl, tru_int, tru_tup, tru_lst, c_eq_int, c_ne_int, c_lt, c_le, c_gt, c_ge, c_in2, c_inL, c_inT, c_ninT, c_eq_bl, c_ne_bl, b_len_l, b_len_t, b_len_s, b_abs, b_int, b_tup_l, b_tup_t, b_max, b_min, o_add, o_sub, o_mul, o_fdiv, o_mod, o_pow, o_catT, o_catL, o_repT, o_repL, o_repL2, s_tupX, s_lstX, s_scrX, q_tup, q_lst, qi_tup, qi_lst, qi_scr, at_ins, isNon_int, isNon_non, wpN_nx, wpN_ret, wpN_brk, wpN_cnt, trn_nx, trn_cnt, trn_brk, trn_ret, List.map_cons, List.map_nil, List.length_cons, List.length_nil, Nat.zero_add, Nat.reduceAdd, Nat.reduceLT, true_and, and_true, Option.some.injEq, exists_eq_left', exists_eq_left, exists_and_left, Sl.ol.injEq, Sl.v.injEq, Sl.os.injEq, D.int.injEq, D.bl.injEq, D.tup.injEq, D.lst.injEq, D.ref.injEq, Ob.lst.injEq, List.cons.injEq, decide_eq_true_eq, Bool.not_eq_true', decide_eq_false_iff_not, bne_iff_ne, ne_eq, if_true, if_false, Bool.false_eq_true, Bool.true_eq_false, reduceIte, Bool.not_true, Bool.not_false, decide_true, decide_false, not_true_eq_false, not_false_eq_true, ex2, ex3, lim0, lim1, lim2, lim3, lim4, List.cons_append, List.nil_append, List.map, List.replicate]
  refine (integer_ok (C := L.pg.calls (k + 1)) rfl S).mono fun d S1 ⟨e1, e2⟩ => ?_
  subst e1 e2
  try simp only [h1, h2, wpS, wpT, wpE, wpO, wpEs, wpAs, wpL, wpC, wpI, wpG, wpPar, wpSE, brwW, slotV, slotA, List.getElem?_cons_zero, List.getElem?_cons_succ, List.set_cons_zero, List.set_cons_succ, drf_int, drf_bl, drf_non, drf_str, drf_tup, drf_lst, drf_scr, drf_set, drf_ty, drf_ins, drf_glo, drf_0, ixL0, ixL1, ixL2, ixL3, ixL4, ixT0, ixT1, ixT2, ixAt0, ixAt1, ixAt2, ixAt3, ixAt4, tru_bl, tru_int, tru_tup, tru_lst, c_eq_int, c_ne_int, c_lt, c_le, c_gt, c_ge, c_in2, c_inL, c_inT, c_ninT, c_eq_bl, c_ne_bl, b_len_l, b_len_t, b_len_s, b_abs, b_int, b_tup_l, b_tup_t, b_max, b_min, o_add, o_sub, o_mul, o_fdiv, o_mod, o_pow, o_catT, o_catL, o_repT, o_repL, o_repL2, s_tupX, s_lstX, s_scrX, q_tup, q_lst, qi_tup, qi_lst, qi_scr, at_ins, isNon_int, isNon_non, wpN_nx, wpN_ret, wpN_brk, wpN_cnt, trn_nx, trn_cnt, trn_brk, trn_ret, List.map_cons, List.map_nil, List.length_cons, List.length_nil, Nat.zero_add, Nat.reduceAdd, Nat.reduceLT, true_and, and_true, Option.some.injEq, exists_eq_left', exists_eq_left, exists_and_left, Sl.ol.injEq, Sl.v.injEq, Sl.os.injEq, D.int.injEq, D.bl.injEq, D.tup.injEq, D.lst.injEq, D.ref.injEq, Ob.lst.injEq, List.cons.injEq, decide_eq_true_eq, Bool.not_eq_true', decide_eq_false_iff_not, bne_iff_ne, ne_eq, if_true, if_false, Bool.false_eq_true, Bool.true_eq_false, reduceIte, Bool.not_true, Bool.not_false, decide_true, decide_false, not_true_eq_false, not_false_eq_true, ex2, ex3, lim0, lim1, lim2, lim3, lim4, List.cons_append, List.nil_append, List.map, List.replicate]
theorem tuple_of_ok {C : Calls} {k : Nat} (hC : C.fn = callAt L.pg (k + 1)) {xs : List D} {n : Nat} (h : xs.length = n) (S : Sh) : Ok (C.fn 10 [.tup xs, .int (n : Int)] S) fun d S' => d = .bl true ∧ S' = S := by
  rw [hC]
  refine fn_W (fn := f_is_tuple_of) rfl rfl ?_
  unfold f_is_tuple_of b_is_tuple_of
  refine b_consW ?_
  try simp only [gl_tup, isi_tt, h, wpS, wpT, wpE, wpO, wpEs, wpAs, wpL, wpC, wpI, wpG, wpPar, wpSE, brwW, slotV, slotA, List.getElem?_cons_zero, List.getElem?_cons_succ, List.set_cons_zero, List.set_cons_succ, drf_int, drf_bl, drf_non, drf_str, drf_tup, drf_lst, drf_scr, drf_set, drf_ty, drf_ins, drf_glo, drf_0, ixL0, ixL1, ixL2, ixL3, ixL4, ixT0, ixT1, ixT2, ixAt0, ixAt1, ixAt2, ixAt3, ixAt4, tru_bl, tru_int, tru_tup, tru_lst, c_eq_int, c_ne_int, c_lt, c_le, c_gt, c_ge, c_in2, c_inL, c_inT, c_ninT, c_eq_bl, c_ne_bl, b_len_l, b_len_t, b_len_s, b_abs, b_int, b_tup_l, b_tup_t, b_max, b_min, o_add, o_sub, o_mul, o_fdiv, o_mod, o_pow, o_catT, o_catL, o_repT, o_repL, o_repL2, s_tupX, s_lstX, s_scrX, q_tup, q_lst, qi_tup, qi_lst, qi_scr, at_ins, isNon_int, isNon_non, wpN_nx, wpN_ret, wpN_brk, wpN_cnt, trn_nx, trn_cnt, trn_brk, trn_ret, List.map_cons, List.map_nil, List.length_cons, List.length_nil, Nat.zero_add, Nat.reduceAdd, Nat.reduceLT, true_and, and_true, Option.some.injEq, exists_eq_left', exists_eq_left, exists_and_left, Sl.ol.injEq, Sl.v.injEq, Sl.os.injEq, D.int.injEq, D.bl.injEq, D.tup.injEq, D.lst.injEq, D.ref.injEq, Ob.lst.injEq, List.cons.injEq, decide_eq_true_eq, Bool.not_eq_true', decide_eq_false_iff_not, bne_iff_ne, ne_eq, if_true, if_false, Bool.false_eq_true, Bool.true_eq_false, reduceIte, Bool.not_true, Bool.not_false, decide_true, decide_false, not_true_eq_false, not_false_eq_true, ex2, ex3, lim0, lim1, lim2, lim3, lim4, List.cons_append, List.nil_append, List.map, List.replicate]
theorem tie_ok {C : Calls} {k : Nat} (hC : C.fn = callAt L.pg (k + 3)) {p : Nat × Nat} {n : Nat} (h1 : p.1 < p.2) (h2 : p.2 < n) (S : Sh) : Ok (C.fn 11 [pD p, .int (n : Int)] S) fun d S' => d = .bl true ∧ S' = S := by
  rw [hC]
  refine fn_W (fn := f_is_tie) rfl rfl ?_
  unfold f_is_tie b_is_tie pD
  refine b_consW ?_
  try simp only [wpS, wpT, wpE, wpO, wpEs, wpAs, wpL, wpC, wpI, wpG, wpPar, wpSE, brwW, slotV, slotA, List.getElem?_cons_zero, List.getElem?_cons_succ, List.set_cons_zero, List.set_cons_succ, drf_int, drf_bl, drf_non, drf_str, drf_tup, drf_lst, drf_scr, drf_set, drf_ty, drf_ins, drf_glo, drf_0, ixL0, ixL1, ixL2, ixL3, ixL4, ixT0, ixT1, ixT2, ixAt0, ixAt1, ixAt2, ixAt3, ixAt4, tru_bl, tru_int, tru_tup, tru_lst, c_eq_int, c_ne_int, c_lt, c_le, c_gt, c_ge, c_in2, c_inL, c_inT, c_ninT, c_eq_bl, c_ne_bl, b_len_l, b_len_t, b_len_s, b_abs, b_int, b_tup_l, b_tup_t, b_max, b_min, o_add, o_sub, o_mul, o_fdiv, o_mod, o_pow, o_catT, o_catL, o_repT, o_repL, o_repL2, s_tupX, s_lstX, s_scrX, q_tup, q_lst, qi_tup, qi_lst, qi_scr, at_ins, isNon_int, isNon_non, wpN_nx, wpN_ret, wpN_brk, wpN_cnt, trn_nx, trn_cnt, trn_brk, trn_ret, List.map_cons, List.map_nil, List.length_cons, List.length_nil, Nat.zero_add, Nat.reduceAdd, Nat.reduceLT, true_and, and_true, Option.some.injEq, exists_eq_left', exists_eq_left, exists_and_left, Sl.ol.injEq, Sl.v.injEq, Sl.os.injEq, D.int.injEq, D.bl.injEq, D.tup.injEq, D.lst.injEq, D.ref.injEq, Ob.lst.injEq, List.cons.injEq, decide_eq_true_eq, Bool.not_eq_true', decide_eq_false_iff_not, bne_iff_ne, ne_eq, if_true, if_false, Bool.false_eq_true, Bool.true_eq_false, reduceIte, Bool.not_true, Bool.not_false, decide_true, decide_false, not_true_eq_false, not_false_eq_true, ex2, ex3, lim0, lim1, lim2, lim3, lim4, List.cons_append, List.nil_append, List.map, List.replicate]
  refine (tuple_of_ok (C := L.pg.calls (k + 2)) rfl (n := 2) rfl S).mono fun d S1 ⟨e1, e2⟩ => ?_
  subst e1 e2
  try simp only [wpS, wpT, wpE, wpO, wpEs, wpAs, wpL, wpC, wpI, wpG, wpPar, wpSE, brwW, slotV, slotA, List.getElem?_cons_zero, List.getElem?_cons_succ, List.set_cons_zero, List.set_cons_succ, drf_int, drf_bl, drf_non, drf_str, drf_tup, drf_lst, drf_scr, drf_set, drf_ty, drf_ins, drf_glo, drf_0, ixL0, ixL1, ixL2, ixL3, ixL4, ixT0, ixT1, ixT2, ixAt0, ixAt1, ixAt2, ixAt3, ixAt4, tru_bl, tru_int, tru_tup, tru_lst, c_eq_int, c_ne_int, c_lt, c_le, c_gt, c_ge, c_in2, c_inL, c_inT, c_ninT, c_eq_bl, c_ne_bl, b_len_l, b_len_t, b_len_s, b_abs, b_int, b_tup_l, b_tup_t, b_max, b_min, o_add, o_sub, o_mul, o_fdiv, o_mod, o_pow, o_catT, o_catL, o_repT, o_repL, o_repL2, s_tupX, s_lstX, s_scrX, q_tup, q_lst, qi_tup, qi_lst, qi_scr, at_ins, isNon_int, isNon_non, wpN_nx, wpN_ret, wpN_brk, wpN_cnt, trn_nx, trn_cnt, trn_brk, trn_ret, List.map_cons, List.map_nil, List.length_cons, List.length_nil, Nat.zero_add, Nat.reduceAdd, Nat.reduceLT, true_and, and_true, Option.some.injEq, exists_eq_left', exists_eq_left, exists_and_left, Sl.ol.injEq, Sl.v.injEq, Sl.os.injEq, D.int.injEq, D.bl.injEq, D.tup.injEq, D.lst.injEq, D.ref.injEq, Ob.lst.injEq, List.cons.injEq, decide_eq_true_eq, Bool.not_eq_true', decide_eq_false_iff_not, bne_iff_ne, ne_eq, if_true, if_false, Bool.false_eq_true, Bool.true_eq_false, reduceIte, Bool.not_true, Bool.not_false, decide_true, decide_false, not_true_eq_false, not_false_eq_true, ex2, ex3, lim0, lim1, lim2, lim3, lim4, List.cons_append, List.nil_append, List.map, List.replicate]
  refine (within_ok (C := L.pg.calls (k + 2)) rfl (by omega) (by omega) S1).mono fun d S2 ⟨e1, e2⟩ => ?_
  subst e1 e2
  try simp only [wpS, wpT, wpE, wpO, wpEs, wpAs, wpL, wpC, wpI, wpG, wpPar, wpSE, brwW, slotV, slotA, List.getElem?_cons_zero, List.getElem?_cons_succ, List.set_cons_zero, List.set_cons_succ, drf_int, drf_bl, drf_non, drf_str, drf_tup, drf_lst, drf_scr, drf_set, drf_ty, drf_ins, drf_glo, drf_0, ixL0, ixL1, ixL2, ixL3, ixL4, ixT0, ixT1, ixT2, ixAt0, ixAt1, ixAt2, ixAt3, ixAt4, tru_bl, tru_int, tru_tup, tru_lst, c_eq_int, c_ne_int, c_lt, c_le, c_gt, c_ge, c_in2, c_inL, c_inT, c_ninT, c_eq_bl, c_ne_bl, b_len_l, b_len_t, b_len_s, b_abs, b_int, b_tup_l, b_tup_t, b_max, b_min, o_add, o_sub, o_mul, o_fdiv, o_mod, o_pow, o_catT, o_catL, o_repT, o_repL, o_repL2, s_tupX, s_lstX, s_scrX, q_tup, q_lst, qi_tup, qi_lst, qi_scr, at_ins, isNon_int, isNon_non, wpN_nx, wpN_ret, wpN_brk, wpN_cnt, trn_nx, trn_cnt, trn_brk, trn_ret, List.map_cons, List.map_nil, List.length_cons, List.length_nil, Nat.zero_add, Nat.reduceAdd, Nat.reduceLT, true_and, and_true, Option.some.injEq, exists_eq_left', exists_eq_left, exists_and_left, Sl.ol.injEq, Sl.v.injEq, Sl.os.injEq, D.int.injEq, D.bl.injEq, D.tup.injEq, D.lst.injEq, D.ref.injEq, Ob.lst.injEq, List.cons.injEq, decide_eq_true_eq, Bool.not_eq_true', decide_eq_false_iff_not, bne_iff_ne, ne_eq, if_true, if_false, Bool.false_eq_true, Bool.true_eq_false, reduceIte, Bool.not_true, Bool.not_false, decide_true, decide_false, not_true_eq_false, not_false_eq_true, ex2, ex3, lim0, lim1, lim2, lim3, lim4, List.cons_append, List.nil_append, List.map, List.replicate]
  refine b_nilN ?_
  refine b_consW ?_
  try simp only [wpS, wpT, wpE, wpO, wpEs, wpAs, wpL, wpC, wpI, wpG, wpPar, wpSE, brwW, slotV, slotA, List.getElem?_cons_zero, List.getElem?_cons_succ, List.set_cons_zero, List.set_cons_succ, drf_int, drf_bl, drf_non, drf_str, drf_tup, drf_lst, drf_scr, drf_set, drf_ty, drf_ins, drf_glo, drf_0, ixL0, ixL1, ixL2, ixL3, ixL4, ixT0, ixT1, ixT2, ixAt0, ixAt1, ixAt2, ixAt3, ixAt4, tru_bl, tru_int, tru_tup, tru_lst, c_eq_int, c_ne_int, c_lt, c_le, c_gt, c_ge, c_in2, c_inL, c_inT, c_ninT, c_eq_bl, c_ne_bl, b_len_l, b_len_t, b_len_s, b_abs, b_int, b_tup_l, b_tup_t, b_max, b_min, o_add, o_sub, o_mul, o_fdiv, o_mod, o_pow, o_catT, o_catL, o_repT, o_repL, o_repL2, s_tupX, s_lstX, s_scrX, q_tup, q_lst, qi_tup, qi_lst, qi_scr, at_ins, isNon_int, isNon_non, wpN_nx, wpN_ret, wpN_brk, wpN_cnt, trn_nx, trn_cnt, trn_brk, trn_ret, List.map_cons, List.map_nil, List.length_cons, List.length_nil, Nat.zero_add, Nat.reduceAdd, Nat.reduceLT, true_and, and_true, Option.some.injEq, exists_eq_left', exists_eq_left, exists_and_left, Sl.ol.injEq, Sl.v.injEq, Sl.os.injEq, D.int.injEq, D.bl.injEq, D.tup.injEq, D.lst.injEq, D.ref.injEq, Ob.lst.injEq, List.cons.injEq, decide_eq_true_eq, Bool.not_eq_true', decide_eq_false_iff_not, bne_iff_ne, ne_eq, if_true, if_false, Bool.false_eq_true, Bool.true_eq_false, reduceIte, Bool.not_true, Bool.not_false, decide_true, decide_false, not_true_eq_false, not_false_eq_true, ex2, ex3, lim0, lim1, lim2, lim3, lim4, List.cons_append, List.nil_append, List.map, List.replicate]
  refine (within_ok (C := L.pg.calls (k + 2)) rfl (by omega) (by omega) S2).mono fun d S3 ⟨e1, e2⟩ => ?_
  subst e1 e2
  try simp only [wpS, wpT, wpE, wpO, wpEs, wpAs, wpL, wpC, wpI, wpG, wpPar, wpSE, brwW, slotV, slotA, List.getElem?_cons_zero, List.getElem?_cons_succ, List.set_cons_zero, List.set_cons_succ, drf_int, drf_bl, drf_non, drf_str, drf_tup, drf_lst, drf_scr, drf_set, drf_ty, drf_ins, drf_glo, drf_0, ixL0, ixL1, ixL2, ixL3, ixL4, ixT0, ixT1, ixT2, ixAt0, ixAt1, ixAt2, ixAt3, ixAt4, tru_bl, tru_int, tru_tup, tru_lst, c_eq_int, c_ne_int, c_lt, c_le, c_gt, c_ge, c_in2, c_inL, c_inT, c_ninT, c_eq_bl, c_ne_bl, b_len_l, b_len_t, b_len_s, b_abs, b_int, b_tup_l, b_tup_t, b_max, b_min, o_add, o_sub, o_mul, o_fdiv, o_mod, o_pow, o_catT, o_catL, o_repT, o_repL, o_repL2, s_tupX, s_lstX, s_scrX, q_tup, q_lst, qi_tup, qi_lst, qi_scr, at_ins, isNon_int, isNon_non, wpN_nx, wpN_ret, wpN_brk, wpN_cnt, trn_nx, trn_cnt, trn_brk, trn_ret, List.map_cons, List.map_nil, List.length_cons, List.length_nil, Nat.zero_add, Nat.reduceAdd, Nat.reduceLT, true_and, and_true, Option.some.injEq, exists_eq_left', exists_eq_left, exists_and_left, Sl.ol.injEq, Sl.v.injEq, Sl.os.injEq, D.int.injEq, D.bl.injEq, D.tup.injEq, D.lst.injEq, D.ref.injEq, Ob.lst.injEq, List.cons.injEq, decide_eq_true_eq, Bool.not_eq_true', decide_eq_false_iff_not, bne_iff_ne, ne_eq, if_true, if_false, Bool.false_eq_true, Bool.true_eq_false, reduceIte, Bool.not_true, Bool.not_false, decide_true, decide_false, not_true_eq_false, not_false_eq_true, ex2, ex3, lim0, lim1, lim2, lim3, lim4, List.cons_append, List.nil_append, List.map, List.replicate]
/-! ### ties ascend -/
def ltP (p q : Nat × Nat) : Prop := p.1 < q.1 ∨ (p.1 = q.1 ∧ p.2 < q.2)
theorem prow_pw (n a : Nat) : (prow n a).Pairwise ltP := by
  unfold prow
  rw [List.pairwise_map]
  exact List.pairwise_lt_range.imp fun h => .inr ⟨rfl, by dsimp only; omega⟩
theorem prs_pw (n : Nat) : ∀ i, (prs' n i).Pairwise ltP ∧ ∀ p ∈ prs' n i, p.1 < i
  | 0 => by simp [prs']
  | i + 1 => by
    obtain ⟨h1, h2⟩ := prs_pw n i
    rw [prs_succ]
    refine ⟨List.pairwise_append.mpr ⟨h1, prow_pw n i, fun p hp q hq => .inl ?_⟩, fun p hp => ?_⟩
    · have := h2 p hp
      have := (mem_prow hq).1
      omega
    · rcases List.mem_append.mp hp with hp | hp
      · have := h2 p hp; omega
      · have := (mem_prow hp).1; omega
theorem PartsOk.asc {ms : List Nat} {ts : List (Nat × Nat)} (h : PartsOk ms ts) : ts.Pairwise ltP := (prs_pw ms.length ms.length).1.sublist h.ties
theorem enum_at : ∀ {l : List D} {k i : Nat}, (enumD k l)[i]? = (l[i]?).map fun x => .tup [.int ((k + i : Nat) : Int), x]
  | [], k, i => by simp [enumD]
  | x :: r, k, 0 => by simp [enumD]
  | x :: r, k, i + 1 => by
    simp only [enumD, List.getElem?_cons_succ]
    rw [enum_at (l := r)]
    congr 1
    funext x
    rw [show k + 1 + i = k + (i + 1) by omega]
theorem enum_len : ∀ {l : List D} {k : Nat}, (enumD k l).length = l.length
  | [], k => rfl
  | x :: r, k => by simp only [enumD, List.length_cons]; rw [enum_len (l := r)]
/-! ### the web -/
def webD (ms : List Nat) (ts : List (Nat × Nat)) : D := .ins 7 [(1, .tup (ms.map nD)), (0, .tup (ts.map pD))]
/-- nothing shared stands in it -/
def LowR (R : Sh) : Prop := ∀ o ∈ R, ∀ n, Ob.low n o = true
theorem lows_map {α : Type} {f : α → D} {n : Nat} (h : ∀ x, D.low n (f x) = true) : ∀ l : List α, D.lows n (l.map f) = true
  | [] => rfl
  | x :: l => by
    show (D.low n (f x) && D.lows n (l.map f)) = true
    rw [h x, lows_map h l]
    rfl
theorem low_nD {n m : Nat} : D.low n (nD m) = true := rfl
theorem low_pD {n : Nat} {p : Nat × Nat} : D.low n (pD p) = true := rfl
theorem low_hand {o : Ob} (h : IsHand o) (n : Nat) : Ob.low n o = true := by
  obtain ⟨cells, p, w, s, c, rfl, _⟩ := h
  unfold hd
  show (D.lows n (cells.map .int) && true) = true
  rw [lows_map (fun _ => rfl)]
  rfl
theorem HS.low {R S : Sh} (h : HS R S) (hR : LowR R) : LowR S := by
  obtain ⟨o, ho, rfl⟩ := h
  intro x hx n
  rcases List.mem_cons.mp hx with rfl | hx
  · exact low_hand ho n
  · exact hR x hx n
theorem mk_W {k c f : Nat} {ds : List D} {S : Sh} {Q : D → Sh → Prop} (e : L.pg.ini c = some f) (h : Ok (callAt L.pg k f (.ref S.length :: ds) (S ++ [.ins c []])) fun r S1 => r = .non ∧ ∃ fs, S1 = S ++ [.ins c fs] ∧ D.lowF S.length fs = true ∧ LowR S ∧ Q (.ins c fs) S) : Ok ((L.pg.calls k).new c ds S) Q := by
  show Ok (mkI (callAt L.pg k) L.pg.ini c ds S) Q
  unfold mkI
  rw [e]
  obtain ⟨r, S1, e1, rfl, fs, rfl, h1, h2, q⟩ := h
  dsimp only
  rw [e1]
  refine ⟨_, _, ?_, q⟩
  show mkK c S.length .non (S ++ [.ins c fs]) = _
  unfold mkK
  have e2 : (S ++ [Ob.ins c fs])[S.length]? = some (.ins c fs) := by simp
  rw [e2]
  dsimp only
  rw [if_pos ⟨rfl, by simp, h1, by rw [List.take_left']; exact List.all_eq_true.mpr fun x hx => h2 x hx _; rfl⟩, List.take_left']
  rfl
theorem last_at {S : Sh} {o : Ob} : (S ++ [o])[S.length]? = some o := by simp
theorem last_set {S : Sh} {o o2 : Ob} : (S ++ [o]).set S.length o2 = S ++ [o2] := by simp
theorem all_true : ∀ n : Nat, blsOf (List.replicate n (.bl true)) = some (List.replicate n true)
  | 0 => rfl
  | n + 1 => by
    show (blsOf (List.replicate n (.bl true))).map _ = _
    rw [all_true n]
    rfl
theorem b_allT {n : Nat} : biD .all [.lst (List.replicate n (.bl true))] = some (.bl true) := by
  rw [b_all, all_true]
  show some (D.bl _) = _
  congr 2
  rw [List.all_eq_true]
  intro x hx
  exact List.eq_of_mem_replicate hx
def InitI (ms : List Nat) (ts : List (Nat × Nat)) (S : Sh) (c : Nat) (i : Nat) (E : En) (S' : Sh) : Prop := S' = S ++ [.ins c []] ∧ ∃ x3 x4 x5 : Option Sl, E = [some (.v (.ref S.length)), some (.v (.tup (ms.map nD))), some (.v (.tup (ts.map pD))), x3, x4, x5]
def InitM (ms : List Nat) (ts : List (Nat × Nat)) (S : Sh) (c : Nat) (f : Fl) (E : En) (S' : Sh) : Prop := f = .nx ∧ InitI ms ts S c ts.length E S'
theorem c_leT {a b c d : Int} : cmpD .le (.tup [.int a, .int b]) (.tup [.int c, .int d]) = some (if a = c then (if b = d then true else decide (b < d)) else decide (a < c)) := rfl
theorem made_ok {C : Calls} {k : Nat} (hC : C.fn = callAt L.pg (k + 5)) (hN : C.new = (L.pg.calls (k + 5)).new) {ms : List Nat} {ts : List (Nat × Nat)} (h : PartsOk ms ts) {S : Sh} (hS : LowR S) : Ok (C.fn 15 [partsD ms ts] S) fun d S' => d = webD ms ts ∧ S' = S := by
  rw [hC]
  have pos := h.pos
  have few := h.few
  refine fn_W (fn := f__law_made) rfl rfl ?_
  unfold f__law_made b__law_made partsD
  refine b_consW ?_
  try simp only [wpS, wpT, wpE, wpO, wpEs, wpAs, wpL, wpC, wpI, wpG, wpPar, wpSE, brwW, slotV, slotA, List.getElem?_cons_zero, List.getElem?_cons_succ, List.set_cons_zero, List.set_cons_succ, drf_int, drf_bl, drf_non, drf_str, drf_tup, drf_lst, drf_scr, drf_set, drf_ty, drf_ins, drf_glo, drf_0, ixL0, ixL1, ixL2, ixL3, ixL4, ixT0, ixT1, ixT2, ixAt0, ixAt1, ixAt2, ixAt3, ixAt4, tru_bl, tru_int, tru_tup, tru_lst, c_eq_int, c_ne_int, c_lt, c_le, c_gt, c_ge, c_in2, c_inL, c_inT, c_ninT, c_eq_bl, c_ne_bl, b_len_l, b_len_t, b_len_s, b_abs, b_int, b_tup_l, b_tup_t, b_max, b_min, o_add, o_sub, o_mul, o_fdiv, o_mod, o_pow, o_catT, o_catL, o_repT, o_repL, o_repL2, s_tupX, s_lstX, s_scrX, q_tup, q_lst, qi_tup, qi_lst, qi_scr, at_ins, isNon_int, isNon_non, wpN_nx, wpN_ret, wpN_brk, wpN_cnt, trn_nx, trn_cnt, trn_brk, trn_ret, List.map_cons, List.map_nil, List.length_cons, List.length_nil, Nat.zero_add, Nat.reduceAdd, Nat.reduceLT, true_and, and_true, Option.some.injEq, exists_eq_left', exists_eq_left, exists_and_left, Sl.ol.injEq, Sl.v.injEq, Sl.os.injEq, D.int.injEq, D.bl.injEq, D.tup.injEq, D.lst.injEq, D.ref.injEq, Ob.lst.injEq, List.cons.injEq, decide_eq_true_eq, Bool.not_eq_true', decide_eq_false_iff_not, bne_iff_ne, ne_eq, if_true, if_false, Bool.false_eq_true, Bool.true_eq_false, reduceIte, Bool.not_true, Bool.not_false, decide_true, decide_false, not_true_eq_false, not_false_eq_true, ex2, ex3, lim0, lim1, lim2, lim3, lim4, List.cons_append, List.nil_append, List.map, List.replicate]
  refine mk_W (f := 14) rfl ?_
  refine fn_W (fn := f_Web___init__) rfl rfl ?_
  unfold f_Web___init__ b_Web___init__
  refine b_consW ?_
  try simp only [gl_tup, gl_rooms, isi_tt, List.length_map, wpS, wpT, wpE, wpO, wpEs, wpAs, wpL, wpC, wpI, wpG, wpPar, wpSE, brwW, slotV, slotA, List.getElem?_cons_zero, List.getElem?_cons_succ, List.set_cons_zero, List.set_cons_succ, drf_int, drf_bl, drf_non, drf_str, drf_tup, drf_lst, drf_scr, drf_set, drf_ty, drf_ins, drf_glo, drf_0, ixL0, ixL1, ixL2, ixL3, ixL4, ixT0, ixT1, ixT2, ixAt0, ixAt1, ixAt2, ixAt3, ixAt4, tru_bl, tru_int, tru_tup, tru_lst, c_eq_int, c_ne_int, c_lt, c_le, c_gt, c_ge, c_in2, c_inL, c_inT, c_ninT, c_eq_bl, c_ne_bl, b_len_l, b_len_t, b_len_s, b_abs, b_int, b_tup_l, b_tup_t, b_max, b_min, o_add, o_sub, o_mul, o_fdiv, o_mod, o_pow, o_catT, o_catL, o_repT, o_repL, o_repL2, s_tupX, s_lstX, s_scrX, q_tup, q_lst, qi_tup, qi_lst, qi_scr, at_ins, isNon_int, isNon_non, wpN_nx, wpN_ret, wpN_brk, wpN_cnt, trn_nx, trn_cnt, trn_brk, trn_ret, List.map_cons, List.map_nil, List.length_cons, List.length_nil, Nat.zero_add, Nat.reduceAdd, Nat.reduceLT, true_and, and_true, Option.some.injEq, exists_eq_left', exists_eq_left, exists_and_left, Sl.ol.injEq, Sl.v.injEq, Sl.os.injEq, D.int.injEq, D.bl.injEq, D.tup.injEq, D.lst.injEq, D.ref.injEq, Ob.lst.injEq, List.cons.injEq, decide_eq_true_eq, Bool.not_eq_true', decide_eq_false_iff_not, bne_iff_ne, ne_eq, if_true, if_false, Bool.false_eq_true, Bool.true_eq_false, reduceIte, Bool.not_true, Bool.not_false, decide_true, decide_false, not_true_eq_false, not_false_eq_true, ex2, ex3, lim0, lim1, lim2, lim3, lim4, List.cons_append, List.nil_append, List.map, List.replicate]
  rw [if_pos (by omega), if_neg (by omega)]
  refine b_nilN ?_
  refine b_consW ?_
  try simp only [wpS, wpT, wpE, wpO, wpEs, wpAs, wpL, wpC, wpI, wpG, wpPar, wpSE, brwW, slotV, slotA, List.getElem?_cons_zero, List.getElem?_cons_succ, List.set_cons_zero, List.set_cons_succ, drf_int, drf_bl, drf_non, drf_str, drf_tup, drf_lst, drf_scr, drf_set, drf_ty, drf_ins, drf_glo, drf_0, ixL0, ixL1, ixL2, ixL3, ixL4, ixT0, ixT1, ixT2, ixAt0, ixAt1, ixAt2, ixAt3, ixAt4, tru_bl, tru_int, tru_tup, tru_lst, c_eq_int, c_ne_int, c_lt, c_le, c_gt, c_ge, c_in2, c_inL, c_inT, c_ninT, c_eq_bl, c_ne_bl, b_len_l, b_len_t, b_len_s, b_abs, b_int, b_tup_l, b_tup_t, b_max, b_min, o_add, o_sub, o_mul, o_fdiv, o_mod, o_pow, o_catT, o_catL, o_repT, o_repL, o_repL2, s_tupX, s_lstX, s_scrX, q_tup, q_lst, qi_tup, qi_lst, qi_scr, at_ins, isNon_int, isNon_non, wpN_nx, wpN_ret, wpN_brk, wpN_cnt, trn_nx, trn_cnt, trn_brk, trn_ret, List.map_cons, List.map_nil, List.length_cons, List.length_nil, Nat.zero_add, Nat.reduceAdd, Nat.reduceLT, true_and, and_true, Option.some.injEq, exists_eq_left', exists_eq_left, exists_and_left, Sl.ol.injEq, Sl.v.injEq, Sl.os.injEq, D.int.injEq, D.bl.injEq, D.tup.injEq, D.lst.injEq, D.ref.injEq, Ob.lst.injEq, List.cons.injEq, decide_eq_true_eq, Bool.not_eq_true', decide_eq_false_iff_not, bne_iff_ne, ne_eq, if_true, if_false, Bool.false_eq_true, Bool.true_eq_false, reduceIte, Bool.not_true, Bool.not_false, decide_true, decide_false, not_true_eq_false, not_false_eq_true, ex2, ex3, lim0, lim1, lim2, lim3, lim4, List.cons_append, List.nil_append, List.map, List.replicate]
  refine compL_map2 (g := fun _ => some (.bl true)) _ (by rw [List.length_map]; unfold LIM; omega) (fun x hx => ?_) ?_
  · obtain ⟨m, hm, rfl⟩ := List.mem_map.mp hx
    unfold nD
    have := h.mem m hm
    refine compF_W ?_
    try simp only [wipeE, gl_mem, wpS, wpT, wpE, wpO, wpEs, wpAs, wpL, wpC, wpI, wpG, wpPar, wpSE, brwW, slotV, slotA, List.getElem?_cons_zero, List.getElem?_cons_succ, List.set_cons_zero, List.set_cons_succ, drf_int, drf_bl, drf_non, drf_str, drf_tup, drf_lst, drf_scr, drf_set, drf_ty, drf_ins, drf_glo, drf_0, ixL0, ixL1, ixL2, ixL3, ixL4, ixT0, ixT1, ixT2, ixAt0, ixAt1, ixAt2, ixAt3, ixAt4, tru_bl, tru_int, tru_tup, tru_lst, c_eq_int, c_ne_int, c_lt, c_le, c_gt, c_ge, c_in2, c_inL, c_inT, c_ninT, c_eq_bl, c_ne_bl, b_len_l, b_len_t, b_len_s, b_abs, b_int, b_tup_l, b_tup_t, b_max, b_min, o_add, o_sub, o_mul, o_fdiv, o_mod, o_pow, o_catT, o_catL, o_repT, o_repL, o_repL2, s_tupX, s_lstX, s_scrX, q_tup, q_lst, qi_tup, qi_lst, qi_scr, at_ins, isNon_int, isNon_non, wpN_nx, wpN_ret, wpN_brk, wpN_cnt, trn_nx, trn_cnt, trn_brk, trn_ret, List.map_cons, List.map_nil, List.length_cons, List.length_nil, Nat.zero_add, Nat.reduceAdd, Nat.reduceLT, true_and, and_true, Option.some.injEq, exists_eq_left', exists_eq_left, exists_and_left, Sl.ol.injEq, Sl.v.injEq, Sl.os.injEq, D.int.injEq, D.bl.injEq, D.tup.injEq, D.lst.injEq, D.ref.injEq, Ob.lst.injEq, List.cons.injEq, decide_eq_true_eq, Bool.not_eq_true', decide_eq_false_iff_not, bne_iff_ne, ne_eq, if_true, if_false, Bool.false_eq_true, Bool.true_eq_false, reduceIte, Bool.not_true, Bool.not_false, decide_true, decide_false, not_true_eq_false, not_false_eq_true, ex2, ex3, lim0, lim1, lim2, lim3, lim4, List.cons_append, List.nil_append, List.map, List.replicate]
    refine (within_ok (C := L.pg.calls (k + 3)) rfl (by omega) (by omega) _).mono fun d S1 ⟨e1, e2⟩ => ?_
    subst e1 e2
    exact ⟨rfl, rfl⟩
  rw [List.filterMap_map, show List.filterMap ((fun _ => some (D.bl true)) ∘ nD) ms = List.replicate ms.length (D.bl true) by
    show List.filterMap (fun _ => some (D.bl true)) ms = _
    rw [fm_map (g := fun _ => D.bl true) fun x _ => rfl, List.map_const']]
  try simp only [b_allT, wpS, wpT, wpE, wpO, wpEs, wpAs, wpL, wpC, wpI, wpG, wpPar, wpSE, brwW, slotV, slotA, List.getElem?_cons_zero, List.getElem?_cons_succ, List.set_cons_zero, List.set_cons_succ, drf_int, drf_bl, drf_non, drf_str, drf_tup, drf_lst, drf_scr, drf_set, drf_ty, drf_ins, drf_glo, drf_0, ixL0, ixL1, ixL2, ixL3, ixL4, ixT0, ixT1, ixT2, ixAt0, ixAt1, ixAt2, ixAt3, ixAt4, tru_bl, tru_int, tru_tup, tru_lst, c_eq_int, c_ne_int, c_lt, c_le, c_gt, c_ge, c_in2, c_inL, c_inT, c_ninT, c_eq_bl, c_ne_bl, b_len_l, b_len_t, b_len_s, b_abs, b_int, b_tup_l, b_tup_t, b_max, b_min, o_add, o_sub, o_mul, o_fdiv, o_mod, o_pow, o_catT, o_catL, o_repT, o_repL, o_repL2, s_tupX, s_lstX, s_scrX, q_tup, q_lst, qi_tup, qi_lst, qi_scr, at_ins, isNon_int, isNon_non, wpN_nx, wpN_ret, wpN_brk, wpN_cnt, trn_nx, trn_cnt, trn_brk, trn_ret, List.map_cons, List.map_nil, List.length_cons, List.length_nil, Nat.zero_add, Nat.reduceAdd, Nat.reduceLT, true_and, and_true, Option.some.injEq, exists_eq_left', exists_eq_left, exists_and_left, Sl.ol.injEq, Sl.v.injEq, Sl.os.injEq, D.int.injEq, D.bl.injEq, D.tup.injEq, D.lst.injEq, D.ref.injEq, Ob.lst.injEq, List.cons.injEq, decide_eq_true_eq, Bool.not_eq_true', decide_eq_false_iff_not, bne_iff_ne, ne_eq, if_true, if_false, Bool.false_eq_true, Bool.true_eq_false, reduceIte, Bool.not_true, Bool.not_false, decide_true, decide_false, not_true_eq_false, not_false_eq_true, ex2, ex3, lim0, lim1, lim2, lim3, lim4, List.cons_append, List.nil_append, List.map, List.replicate]
  refine b_nilN ?_
  refine b_consW ?_
  try simp only [gl_tup, isi_tt, wpS, wpT, wpE, wpO, wpEs, wpAs, wpL, wpC, wpI, wpG, wpPar, wpSE, brwW, slotV, slotA, List.getElem?_cons_zero, List.getElem?_cons_succ, List.set_cons_zero, List.set_cons_succ, drf_int, drf_bl, drf_non, drf_str, drf_tup, drf_lst, drf_scr, drf_set, drf_ty, drf_ins, drf_glo, drf_0, ixL0, ixL1, ixL2, ixL3, ixL4, ixT0, ixT1, ixT2, ixAt0, ixAt1, ixAt2, ixAt3, ixAt4, tru_bl, tru_int, tru_tup, tru_lst, c_eq_int, c_ne_int, c_lt, c_le, c_gt, c_ge, c_in2, c_inL, c_inT, c_ninT, c_eq_bl, c_ne_bl, b_len_l, b_len_t, b_len_s, b_abs, b_int, b_tup_l, b_tup_t, b_max, b_min, o_add, o_sub, o_mul, o_fdiv, o_mod, o_pow, o_catT, o_catL, o_repT, o_repL, o_repL2, s_tupX, s_lstX, s_scrX, q_tup, q_lst, qi_tup, qi_lst, qi_scr, at_ins, isNon_int, isNon_non, wpN_nx, wpN_ret, wpN_brk, wpN_cnt, trn_nx, trn_cnt, trn_brk, trn_ret, List.map_cons, List.map_nil, List.length_cons, List.length_nil, Nat.zero_add, Nat.reduceAdd, Nat.reduceLT, true_and, and_true, Option.some.injEq, exists_eq_left', exists_eq_left, exists_and_left, Sl.ol.injEq, Sl.v.injEq, Sl.os.injEq, D.int.injEq, D.bl.injEq, D.tup.injEq, D.lst.injEq, D.ref.injEq, Ob.lst.injEq, List.cons.injEq, decide_eq_true_eq, Bool.not_eq_true', decide_eq_false_iff_not, bne_iff_ne, ne_eq, if_true, if_false, Bool.false_eq_true, Bool.true_eq_false, reduceIte, Bool.not_true, Bool.not_false, decide_true, decide_false, not_true_eq_false, not_false_eq_true, ex2, ex3, lim0, lim1, lim2, lim3, lim4, List.cons_append, List.nil_append, List.map, List.replicate]
  refine b_nilN ?_
  refine b_consR (InitM ms ts S 7) ?_ ?_
  · try simp only [wpS, wpT, wpE, wpO, wpEs, wpAs, wpL, wpC, wpI, wpG, wpPar, wpSE, brwW, slotV, slotA, List.getElem?_cons_zero, List.getElem?_cons_succ, List.set_cons_zero, List.set_cons_succ, drf_int, drf_bl, drf_non, drf_str, drf_tup, drf_lst, drf_scr, drf_set, drf_ty, drf_ins, drf_glo, drf_0, ixL0, ixL1, ixL2, ixL3, ixL4, ixT0, ixT1, ixT2, ixAt0, ixAt1, ixAt2, ixAt3, ixAt4, tru_bl, tru_int, tru_tup, tru_lst, c_eq_int, c_ne_int, c_lt, c_le, c_gt, c_ge, c_in2, c_inL, c_inT, c_ninT, c_eq_bl, c_ne_bl, b_len_l, b_len_t, b_len_s, b_abs, b_int, b_tup_l, b_tup_t, b_max, b_min, o_add, o_sub, o_mul, o_fdiv, o_mod, o_pow, o_catT, o_catL, o_repT, o_repL, o_repL2, s_tupX, s_lstX, s_scrX, q_tup, q_lst, qi_tup, qi_lst, qi_scr, at_ins, isNon_int, isNon_non, wpN_nx, wpN_ret, wpN_brk, wpN_cnt, trn_nx, trn_cnt, trn_brk, trn_ret, List.map_cons, List.map_nil, List.length_cons, List.length_nil, Nat.zero_add, Nat.reduceAdd, Nat.reduceLT, true_and, and_true, Option.some.injEq, exists_eq_left', exists_eq_left, exists_and_left, Sl.ol.injEq, Sl.v.injEq, Sl.os.injEq, D.int.injEq, D.bl.injEq, D.tup.injEq, D.lst.injEq, D.ref.injEq, Ob.lst.injEq, List.cons.injEq, decide_eq_true_eq, Bool.not_eq_true', decide_eq_false_iff_not, bne_iff_ne, ne_eq, if_true, if_false, Bool.false_eq_true, Bool.true_eq_false, reduceIte, Bool.not_true, Bool.not_false, decide_true, decide_false, not_true_eq_false, not_false_eq_true, ex2, ex3, lim0, lim1, lim2, lim3, lim4, List.cons_append, List.nil_append, List.map, List.replicate]
    refine for_W (I := InitI ms ts S 7) _ ⟨rfl, _, _, _, rfl⟩ (fun i x E S' hx ⟨e1, x3, x4, x5, e2⟩ => ?_) (fun E S' h => ⟨rfl, by rw [enum_len, List.length_map] at h; exact h⟩)
    subst e1 e2
    rw [enum_at, List.getElem?_map, Option.map_map] at hx
    obtain ⟨p, hp, rfl⟩ := Option.map_eq_some_iff.mp hx
    have hin := mem_prs (h.ties.subset (List.mem_of_getElem? hp))
    rw [Nat.zero_add]
    try simp only [Function.comp_apply, wpS, wpT, wpE, wpO, wpEs, wpAs, wpL, wpC, wpI, wpG, wpPar, wpSE, brwW, slotV, slotA, List.getElem?_cons_zero, List.getElem?_cons_succ, List.set_cons_zero, List.set_cons_succ, drf_int, drf_bl, drf_non, drf_str, drf_tup, drf_lst, drf_scr, drf_set, drf_ty, drf_ins, drf_glo, drf_0, ixL0, ixL1, ixL2, ixL3, ixL4, ixT0, ixT1, ixT2, ixAt0, ixAt1, ixAt2, ixAt3, ixAt4, tru_bl, tru_int, tru_tup, tru_lst, c_eq_int, c_ne_int, c_lt, c_le, c_gt, c_ge, c_in2, c_inL, c_inT, c_ninT, c_eq_bl, c_ne_bl, b_len_l, b_len_t, b_len_s, b_abs, b_int, b_tup_l, b_tup_t, b_max, b_min, o_add, o_sub, o_mul, o_fdiv, o_mod, o_pow, o_catT, o_catL, o_repT, o_repL, o_repL2, s_tupX, s_lstX, s_scrX, q_tup, q_lst, qi_tup, qi_lst, qi_scr, at_ins, isNon_int, isNon_non, wpN_nx, wpN_ret, wpN_brk, wpN_cnt, trn_nx, trn_cnt, trn_brk, trn_ret, List.map_cons, List.map_nil, List.length_cons, List.length_nil, Nat.zero_add, Nat.reduceAdd, Nat.reduceLT, true_and, and_true, Option.some.injEq, exists_eq_left', exists_eq_left, exists_and_left, Sl.ol.injEq, Sl.v.injEq, Sl.os.injEq, D.int.injEq, D.bl.injEq, D.tup.injEq, D.lst.injEq, D.ref.injEq, Ob.lst.injEq, List.cons.injEq, decide_eq_true_eq, Bool.not_eq_true', decide_eq_false_iff_not, bne_iff_ne, ne_eq, if_true, if_false, Bool.false_eq_true, Bool.true_eq_false, reduceIte, Bool.not_true, Bool.not_false, decide_true, decide_false, not_true_eq_false, not_false_eq_true, ex2, ex3, lim0, lim1, lim2, lim3, lim4, List.cons_append, List.nil_append, List.map, List.replicate]
    refine b_consW ?_
    try simp only [List.length_map, wpS, wpT, wpE, wpO, wpEs, wpAs, wpL, wpC, wpI, wpG, wpPar, wpSE, brwW, slotV, slotA, List.getElem?_cons_zero, List.getElem?_cons_succ, List.set_cons_zero, List.set_cons_succ, drf_int, drf_bl, drf_non, drf_str, drf_tup, drf_lst, drf_scr, drf_set, drf_ty, drf_ins, drf_glo, drf_0, ixL0, ixL1, ixL2, ixL3, ixL4, ixT0, ixT1, ixT2, ixAt0, ixAt1, ixAt2, ixAt3, ixAt4, tru_bl, tru_int, tru_tup, tru_lst, c_eq_int, c_ne_int, c_lt, c_le, c_gt, c_ge, c_in2, c_inL, c_inT, c_ninT, c_eq_bl, c_ne_bl, b_len_l, b_len_t, b_len_s, b_abs, b_int, b_tup_l, b_tup_t, b_max, b_min, o_add, o_sub, o_mul, o_fdiv, o_mod, o_pow, o_catT, o_catL, o_repT, o_repL, o_repL2, s_tupX, s_lstX, s_scrX, q_tup, q_lst, qi_tup, qi_lst, qi_scr, at_ins, isNon_int, isNon_non, wpN_nx, wpN_ret, wpN_brk, wpN_cnt, trn_nx, trn_cnt, trn_brk, trn_ret, List.map_cons, List.map_nil, List.length_cons, List.length_nil, Nat.zero_add, Nat.reduceAdd, Nat.reduceLT, true_and, and_true, Option.some.injEq, exists_eq_left', exists_eq_left, exists_and_left, Sl.ol.injEq, Sl.v.injEq, Sl.os.injEq, D.int.injEq, D.bl.injEq, D.tup.injEq, D.lst.injEq, D.ref.injEq, Ob.lst.injEq, List.cons.injEq, decide_eq_true_eq, Bool.not_eq_true', decide_eq_false_iff_not, bne_iff_ne, ne_eq, if_true, if_false, Bool.false_eq_true, Bool.true_eq_false, reduceIte, Bool.not_true, Bool.not_false, decide_true, decide_false, not_true_eq_false, not_false_eq_true, ex2, ex3, lim0, lim1, lim2, lim3, lim4, List.cons_append, List.nil_append, List.map, List.replicate]
    refine (tie_ok (C := L.pg.calls (k + 3)) (k := k) rfl hin.1 hin.2 _).mono fun d S1 ⟨e1, e2⟩ => ?_
    subst e1 e2
    try simp only [wpS, wpT, wpE, wpO, wpEs, wpAs, wpL, wpC, wpI, wpG, wpPar, wpSE, brwW, slotV, slotA, List.getElem?_cons_zero, List.getElem?_cons_succ, List.set_cons_zero, List.set_cons_succ, drf_int, drf_bl, drf_non, drf_str, drf_tup, drf_lst, drf_scr, drf_set, drf_ty, drf_ins, drf_glo, drf_0, ixL0, ixL1, ixL2, ixL3, ixL4, ixT0, ixT1, ixT2, ixAt0, ixAt1, ixAt2, ixAt3, ixAt4, tru_bl, tru_int, tru_tup, tru_lst, c_eq_int, c_ne_int, c_lt, c_le, c_gt, c_ge, c_in2, c_inL, c_inT, c_ninT, c_eq_bl, c_ne_bl, b_len_l, b_len_t, b_len_s, b_abs, b_int, b_tup_l, b_tup_t, b_max, b_min, o_add, o_sub, o_mul, o_fdiv, o_mod, o_pow, o_catT, o_catL, o_repT, o_repL, o_repL2, s_tupX, s_lstX, s_scrX, q_tup, q_lst, qi_tup, qi_lst, qi_scr, at_ins, isNon_int, isNon_non, wpN_nx, wpN_ret, wpN_brk, wpN_cnt, trn_nx, trn_cnt, trn_brk, trn_ret, List.map_cons, List.map_nil, List.length_cons, List.length_nil, Nat.zero_add, Nat.reduceAdd, Nat.reduceLT, true_and, and_true, Option.some.injEq, exists_eq_left', exists_eq_left, exists_and_left, Sl.ol.injEq, Sl.v.injEq, Sl.os.injEq, D.int.injEq, D.bl.injEq, D.tup.injEq, D.lst.injEq, D.ref.injEq, Ob.lst.injEq, List.cons.injEq, decide_eq_true_eq, Bool.not_eq_true', decide_eq_false_iff_not, bne_iff_ne, ne_eq, if_true, if_false, Bool.false_eq_true, Bool.true_eq_false, reduceIte, Bool.not_true, Bool.not_false, decide_true, decide_false, not_true_eq_false, not_false_eq_true, ex2, ex3, lim0, lim1, lim2, lim3, lim4, List.cons_append, List.nil_append, List.map, List.replicate]
    have fin : ∀ {x3 x4 x5 : Option Sl}, wpB (L.pg.calls (k + 3)) ISs.nil [some (Sl.v (D.ref S.length)), some (Sl.v (D.tup (List.map nD ms))), some (Sl.v (D.tup (List.map pD ts))), x3, x4, x5] (S ++ [Ob.ins 7 []]) (wpN (L.pg.calls (k + 3)) ISs.nil (trn (InitI ms ts S 7 (i + 1)) (InitM ms ts S 7))) := b_nilN (b_nilW ⟨rfl, _, _, _, rfl⟩)
    split
    · rename_i hi
      obtain ⟨j, rfl⟩ : ∃ j, i = j + 1 := ⟨i - 1, by omega⟩
      have hj1 : j + 1 < ts.length := (List.getElem?_eq_some_iff.mp hp).1
      have hj : ts[j]? = some (ts[j]'(by omega)) := List.getElem?_eq_getElem (by omega)
      have lt : ltP (ts[j]'(by omega)) p := by
        have := List.pairwise_iff_getElem.mp h.asc j (j + 1) (by omega) hj1 (by omega)
        rw [(List.getElem?_eq_some_iff.mp hp).2] at this
        exact this
      generalize ts[j]'(by omega) = q at *
      have ix : ixD (.tup (ts.map pD)) (.int (((j + 1 : Nat) : Int) - 1)) = some (pD q) := by
        rw [show ((j + 1 : Nat) : Int) - 1 = (j : Int) by omega]
        exact ixTn (by rw [List.getElem?_map, hj]; rfl)
      refine ⟨_, ix, ?_⟩
      unfold pD
      try simp only [c_leT, wpS, wpT, wpE, wpO, wpEs, wpAs, wpL, wpC, wpI, wpG, wpPar, wpSE, brwW, slotV, slotA, List.getElem?_cons_zero, List.getElem?_cons_succ, List.set_cons_zero, List.set_cons_succ, drf_int, drf_bl, drf_non, drf_str, drf_tup, drf_lst, drf_scr, drf_set, drf_ty, drf_ins, drf_glo, drf_0, ixL0, ixL1, ixL2, ixL3, ixL4, ixT0, ixT1, ixT2, ixAt0, ixAt1, ixAt2, ixAt3, ixAt4, tru_bl, tru_int, tru_tup, tru_lst, c_eq_int, c_ne_int, c_lt, c_le, c_gt, c_ge, c_in2, c_inL, c_inT, c_ninT, c_eq_bl, c_ne_bl, b_len_l, b_len_t, b_len_s, b_abs, b_int, b_tup_l, b_tup_t, b_max, b_min, o_add, o_sub, o_mul, o_fdiv, o_mod, o_pow, o_catT, o_catL, o_repT, o_repL, o_repL2, s_tupX, s_lstX, s_scrX, q_tup, q_lst, qi_tup, qi_lst, qi_scr, at_ins, isNon_int, isNon_non, wpN_nx, wpN_ret, wpN_brk, wpN_cnt, trn_nx, trn_cnt, trn_brk, trn_ret, List.map_cons, List.map_nil, List.length_cons, List.length_nil, Nat.zero_add, Nat.reduceAdd, Nat.reduceLT, true_and, and_true, Option.some.injEq, exists_eq_left', exists_eq_left, exists_and_left, Sl.ol.injEq, Sl.v.injEq, Sl.os.injEq, D.int.injEq, D.bl.injEq, D.tup.injEq, D.lst.injEq, D.ref.injEq, Ob.lst.injEq, List.cons.injEq, decide_eq_true_eq, Bool.not_eq_true', decide_eq_false_iff_not, bne_iff_ne, ne_eq, if_true, if_false, Bool.false_eq_true, Bool.true_eq_false, reduceIte, Bool.not_true, Bool.not_false, decide_true, decide_false, not_true_eq_false, not_false_eq_true, ex2, ex3, lim0, lim1, lim2, lim3, lim4, List.cons_append, List.nil_append, List.map, List.replicate]
      have e : (if (p.1 : Int) = q.1 then (if (p.2 : Int) = q.2 then true else decide ((p.2 : Int) < q.2)) else decide ((p.1 : Int) < q.1)) = false := by
        rcases lt with lt | ⟨l1, l2⟩
        · rw [if_neg (by omega)]
          exact decide_eq_false (by omega)
        · rw [if_pos (by omega), if_neg (by omega)]
          exact decide_eq_false (by omega)
      rw [e]
      exact fin
    · exact fin
  · rintro f E S' ⟨rfl, rfl, x3, x4, x5, rfl⟩
    rw [wpN_nx]
    refine b_consW ?_
    try simp only [wpS, wpT, wpE, wpO, wpEs, wpAs, wpL, wpC, wpI, wpG, wpPar, wpSE, brwW, slotV, slotA, List.getElem?_cons_zero, List.getElem?_cons_succ, List.set_cons_zero, List.set_cons_succ, drf_int, drf_bl, drf_non, drf_str, drf_tup, drf_lst, drf_scr, drf_set, drf_ty, drf_ins, drf_glo, drf_0, ixL0, ixL1, ixL2, ixL3, ixL4, ixT0, ixT1, ixT2, ixAt0, ixAt1, ixAt2, ixAt3, ixAt4, tru_bl, tru_int, tru_tup, tru_lst, c_eq_int, c_ne_int, c_lt, c_le, c_gt, c_ge, c_in2, c_inL, c_inT, c_ninT, c_eq_bl, c_ne_bl, b_len_l, b_len_t, b_len_s, b_abs, b_int, b_tup_l, b_tup_t, b_max, b_min, o_add, o_sub, o_mul, o_fdiv, o_mod, o_pow, o_catT, o_catL, o_repT, o_repL, o_repL2, s_tupX, s_lstX, s_scrX, q_tup, q_lst, qi_tup, qi_lst, qi_scr, at_ins, isNon_int, isNon_non, wpN_nx, wpN_ret, wpN_brk, wpN_cnt, trn_nx, trn_cnt, trn_brk, trn_ret, List.map_cons, List.map_nil, List.length_cons, List.length_nil, Nat.zero_add, Nat.reduceAdd, Nat.reduceLT, true_and, and_true, Option.some.injEq, exists_eq_left', exists_eq_left, exists_and_left, Sl.ol.injEq, Sl.v.injEq, Sl.os.injEq, D.int.injEq, D.bl.injEq, D.tup.injEq, D.lst.injEq, D.ref.injEq, Ob.lst.injEq, List.cons.injEq, decide_eq_true_eq, Bool.not_eq_true', decide_eq_false_iff_not, bne_iff_ne, ne_eq, if_true, if_false, Bool.false_eq_true, Bool.true_eq_false, reduceIte, Bool.not_true, Bool.not_false, decide_true, decide_false, not_true_eq_false, not_false_eq_true, ex2, ex3, lim0, lim1, lim2, lim3, lim4, List.cons_append, List.nil_append, List.map, List.replicate]
    refine ⟨_, _, last_at, by decide, ?_⟩
    rw [last_set]
    refine b_consW ?_
    try simp only [wpS, wpT, wpE, wpO, wpEs, wpAs, wpL, wpC, wpI, wpG, wpPar, wpSE, brwW, slotV, slotA, List.getElem?_cons_zero, List.getElem?_cons_succ, List.set_cons_zero, List.set_cons_succ, drf_int, drf_bl, drf_non, drf_str, drf_tup, drf_lst, drf_scr, drf_set, drf_ty, drf_ins, drf_glo, drf_0, ixL0, ixL1, ixL2, ixL3, ixL4, ixT0, ixT1, ixT2, ixAt0, ixAt1, ixAt2, ixAt3, ixAt4, tru_bl, tru_int, tru_tup, tru_lst, c_eq_int, c_ne_int, c_lt, c_le, c_gt, c_ge, c_in2, c_inL, c_inT, c_ninT, c_eq_bl, c_ne_bl, b_len_l, b_len_t, b_len_s, b_abs, b_int, b_tup_l, b_tup_t, b_max, b_min, o_add, o_sub, o_mul, o_fdiv, o_mod, o_pow, o_catT, o_catL, o_repT, o_repL, o_repL2, s_tupX, s_lstX, s_scrX, q_tup, q_lst, qi_tup, qi_lst, qi_scr, at_ins, isNon_int, isNon_non, wpN_nx, wpN_ret, wpN_brk, wpN_cnt, trn_nx, trn_cnt, trn_brk, trn_ret, List.map_cons, List.map_nil, List.length_cons, List.length_nil, Nat.zero_add, Nat.reduceAdd, Nat.reduceLT, true_and, and_true, Option.some.injEq, exists_eq_left', exists_eq_left, exists_and_left, Sl.ol.injEq, Sl.v.injEq, Sl.os.injEq, D.int.injEq, D.bl.injEq, D.tup.injEq, D.lst.injEq, D.ref.injEq, Ob.lst.injEq, List.cons.injEq, decide_eq_true_eq, Bool.not_eq_true', decide_eq_false_iff_not, bne_iff_ne, ne_eq, if_true, if_false, Bool.false_eq_true, Bool.true_eq_false, reduceIte, Bool.not_true, Bool.not_false, decide_true, decide_false, not_true_eq_false, not_false_eq_true, ex2, ex3, lim0, lim1, lim2, lim3, lim4, List.cons_append, List.nil_append, List.map, List.replicate]
    refine ⟨_, _, last_at, by show 1 < 900; decide, ?_⟩
    rw [last_set]
    refine b_nilW ⟨_, rfl, ?_, hS, rfl⟩
    show (D.lows _ (ms.map nD) && (D.lows _ (ts.map pD) && true)) = true
    rw [lows_map fun _ => rfl, lows_map fun _ => rfl]
    rfl
end Qv.Law
set_option Elab.async false
set_option linter.all false
set_option maxRecDepth 100000
set_option maxHeartbeats 4000000
namespace Qv.Law
open Qv PySem

theorem at_ties {S : Sh} {ms : List Nat} {ts : List (Nat × Nat)} : atD S 0 (webD ms ts) = some (.tup (ts.map pD)) := rfl
theorem at_mems {S : Sh} {ms : List Nat} {ts : List (Nat × Nat)} : atD S 1 (webD ms ts) = some (.tup (ms.map nD)) := rfl
theorem tied_ok {C : Calls} {k : Nat} (hC : C.fn = callAt L.pg (k + 1)) (ms : List Nat) (ts : List (Nat × Nat)) (hl : ts.length ≤ 3600) (r : Nat) (S : Sh) : Ok (C.fn 3 [webD ms ts, .int (r : Int)] S) fun d S' => d = .tup ((nearL ts r).map .int) ∧ S' = S := by
  rw [hC]
  refine fn_W (fn := f_tied_rooms) rfl rfl ?_
  unfold f_tied_rooms b_tied_rooms
  refine b_consW ?_
  try simp only [at_ties, wpS, wpT, wpE, wpO, wpEs, wpAs, wpL, wpC, wpI, wpG, wpPar, wpSE, brwW, slotV, slotA, List.getElem?_cons_zero, List.getElem?_cons_succ, List.set_cons_zero, List.set_cons_succ, drf_int, drf_bl, drf_non, drf_str, drf_tup, drf_lst, drf_scr, drf_set, drf_ty, drf_ins, drf_glo, drf_0, ixL0, ixL1, ixL2, ixL3, ixL4, ixT0, ixT1, ixT2, ixAt0, ixAt1, ixAt2, ixAt3, ixAt4, tru_bl, tru_int, tru_tup, tru_lst, c_eq_int, c_ne_int, c_lt, c_le, c_gt, c_ge, c_in2, c_inL, c_inT, c_ninT, c_eq_bl, c_ne_bl, b_len_l, b_len_t, b_len_s, b_abs, b_int, b_tup_l, b_tup_t, b_max, b_min, o_add, o_sub, o_mul, o_fdiv, o_mod, o_pow, o_catT, o_catL, o_repT, o_repL, o_repL2, s_tupX, s_lstX, s_scrX, q_tup, q_lst, qi_tup, qi_lst, qi_scr, at_ins, isNon_int, isNon_non, wpN_nx, wpN_ret, wpN_brk, wpN_cnt, trn_nx, trn_cnt, trn_brk, trn_ret, List.map_cons, List.map_nil, List.length_cons, List.length_nil, Nat.zero_add, Nat.reduceAdd, Nat.reduceLT, true_and, and_true, Option.some.injEq, exists_eq_left', exists_eq_left, exists_and_left, Sl.ol.injEq, Sl.v.injEq, Sl.os.injEq, D.int.injEq, D.bl.injEq, D.tup.injEq, D.lst.injEq, D.ref.injEq, Ob.lst.injEq, List.cons.injEq, decide_eq_true_eq, Bool.not_eq_true', decide_eq_false_iff_not, bne_iff_ne, ne_eq, if_true, if_false, Bool.false_eq_true, Bool.true_eq_false, reduceIte, Bool.not_true, Bool.not_false, decide_true, decide_false, not_true_eq_false, not_false_eq_true, ex2, ex3, lim0, lim1, lim2, lim3, lim4, List.cons_append, List.nil_append, List.map, List.replicate]
  refine compL_map2 (g := fun d => match d with
    | .tup [.int a, .int b] => if a = r ∨ b = r then some (.int (a + b - r)) else none
    | _ => none) _ (by rw [List.length_map]; unfold LIM; omega) (fun x hx => ?_) ?_
  · obtain ⟨p, _, rfl⟩ := List.mem_map.mp hx
    unfold pD
    refine compF_W ?_
    try simp only [wipeE, wpS, wpT, wpE, wpO, wpEs, wpAs, wpL, wpC, wpI, wpG, wpPar, wpSE, brwW, slotV, slotA, List.getElem?_cons_zero, List.getElem?_cons_succ, List.set_cons_zero, List.set_cons_succ, drf_int, drf_bl, drf_non, drf_str, drf_tup, drf_lst, drf_scr, drf_set, drf_ty, drf_ins, drf_glo, drf_0, ixL0, ixL1, ixL2, ixL3, ixL4, ixT0, ixT1, ixT2, ixAt0, ixAt1, ixAt2, ixAt3, ixAt4, tru_bl, tru_int, tru_tup, tru_lst, c_eq_int, c_ne_int, c_lt, c_le, c_gt, c_ge, c_in2, c_inL, c_inT, c_ninT, c_eq_bl, c_ne_bl, b_len_l, b_len_t, b_len_s, b_abs, b_int, b_tup_l, b_tup_t, b_max, b_min, o_add, o_sub, o_mul, o_fdiv, o_mod, o_pow, o_catT, o_catL, o_repT, o_repL, o_repL2, s_tupX, s_lstX, s_scrX, q_tup, q_lst, qi_tup, qi_lst, qi_scr, at_ins, isNon_int, isNon_non, wpN_nx, wpN_ret, wpN_brk, wpN_cnt, trn_nx, trn_cnt, trn_brk, trn_ret, List.map_cons, List.map_nil, List.length_cons, List.length_nil, Nat.zero_add, Nat.reduceAdd, Nat.reduceLT, true_and, and_true, Option.some.injEq, exists_eq_left', exists_eq_left, exists_and_left, Sl.ol.injEq, Sl.v.injEq, Sl.os.injEq, D.int.injEq, D.bl.injEq, D.tup.injEq, D.lst.injEq, D.ref.injEq, Ob.lst.injEq, List.cons.injEq, decide_eq_true_eq, Bool.not_eq_true', decide_eq_false_iff_not, bne_iff_ne, ne_eq, if_true, if_false, Bool.false_eq_true, Bool.true_eq_false, reduceIte, Bool.not_true, Bool.not_false, decide_true, decide_false, not_true_eq_false, not_false_eq_true, ex2, ex3, lim0, lim1, lim2, lim3, lim4, List.cons_append, List.nil_append, List.map, List.replicate]
    split
    · rename_i h
      rw [if_pos (by simpa using h)]
    · rename_i h
      rw [if_neg (by simpa using h)]
  · have e : (ts.map pD).filterMap (fun d => match d with
        | .tup [.int a, .int b] => if a = r ∨ b = r then some (.int (a + b - r)) else none
        | _ => none) = (ts.filterMap (nearF r)).map D.int := by
      rw [List.filterMap_map, List.map_filterMap]
      congr 1
      funext p
      unfold nearF
      show (if _ then _ else _) = Option.map D.int _
      split <;> rfl
    rw [e]
    refine b_frzW ?_
    try simp only [frzE, wpS, wpT, wpE, wpO, wpEs, wpAs, wpL, wpC, wpI, wpG, wpPar, wpSE, brwW, slotV, slotA, List.getElem?_cons_zero, List.getElem?_cons_succ, List.set_cons_zero, List.set_cons_succ, drf_int, drf_bl, drf_non, drf_str, drf_tup, drf_lst, drf_scr, drf_set, drf_ty, drf_ins, drf_glo, drf_0, ixL0, ixL1, ixL2, ixL3, ixL4, ixT0, ixT1, ixT2, ixAt0, ixAt1, ixAt2, ixAt3, ixAt4, tru_bl, tru_int, tru_tup, tru_lst, c_eq_int, c_ne_int, c_lt, c_le, c_gt, c_ge, c_in2, c_inL, c_inT, c_ninT, c_eq_bl, c_ne_bl, b_len_l, b_len_t, b_len_s, b_abs, b_int, b_tup_l, b_tup_t, b_max, b_min, o_add, o_sub, o_mul, o_fdiv, o_mod, o_pow, o_catT, o_catL, o_repT, o_repL, o_repL2, s_tupX, s_lstX, s_scrX, q_tup, q_lst, qi_tup, qi_lst, qi_scr, at_ins, isNon_int, isNon_non, wpN_nx, wpN_ret, wpN_brk, wpN_cnt, trn_nx, trn_cnt, trn_brk, trn_ret, List.map_cons, List.map_nil, List.length_cons, List.length_nil, Nat.zero_add, Nat.reduceAdd, Nat.reduceLT, true_and, and_true, Option.some.injEq, exists_eq_left', exists_eq_left, exists_and_left, Sl.ol.injEq, Sl.v.injEq, Sl.os.injEq, D.int.injEq, D.bl.injEq, D.tup.injEq, D.lst.injEq, D.ref.injEq, Ob.lst.injEq, List.cons.injEq, decide_eq_true_eq, Bool.not_eq_true', decide_eq_false_iff_not, bne_iff_ne, ne_eq, if_true, if_false, Bool.false_eq_true, Bool.true_eq_false, reduceIte, Bool.not_true, Bool.not_false, decide_true, decide_false, not_true_eq_false, not_false_eq_true, ex2, ex3, lim0, lim1, lim2, lim3, lim4, List.cons_append, List.nil_append, List.map, List.replicate]
    refine b_consW ?_
    try simp only [wpS, wpT, wpE, wpO, wpEs, wpAs, wpL, wpC, wpI, wpG, wpPar, wpSE, brwW, slotV, slotA, List.getElem?_cons_zero, List.getElem?_cons_succ, List.set_cons_zero, List.set_cons_succ, drf_int, drf_bl, drf_non, drf_str, drf_tup, drf_lst, drf_scr, drf_set, drf_ty, drf_ins, drf_glo, drf_0, ixL0, ixL1, ixL2, ixL3, ixL4, ixT0, ixT1, ixT2, ixAt0, ixAt1, ixAt2, ixAt3, ixAt4, tru_bl, tru_int, tru_tup, tru_lst, c_eq_int, c_ne_int, c_lt, c_le, c_gt, c_ge, c_in2, c_inL, c_inT, c_ninT, c_eq_bl, c_ne_bl, b_len_l, b_len_t, b_len_s, b_abs, b_int, b_tup_l, b_tup_t, b_max, b_min, o_add, o_sub, o_mul, o_fdiv, o_mod, o_pow, o_catT, o_catL, o_repT, o_repL, o_repL2, s_tupX, s_lstX, s_scrX, q_tup, q_lst, qi_tup, qi_lst, qi_scr, at_ins, isNon_int, isNon_non, wpN_nx, wpN_ret, wpN_brk, wpN_cnt, trn_nx, trn_cnt, trn_brk, trn_ret, List.map_cons, List.map_nil, List.length_cons, List.length_nil, Nat.zero_add, Nat.reduceAdd, Nat.reduceLT, true_and, and_true, Option.some.injEq, exists_eq_left', exists_eq_left, exists_and_left, Sl.ol.injEq, Sl.v.injEq, Sl.os.injEq, D.int.injEq, D.bl.injEq, D.tup.injEq, D.lst.injEq, D.ref.injEq, Ob.lst.injEq, List.cons.injEq, decide_eq_true_eq, Bool.not_eq_true', decide_eq_false_iff_not, bne_iff_ne, ne_eq, if_true, if_false, Bool.false_eq_true, Bool.true_eq_false, reduceIte, Bool.not_true, Bool.not_false, decide_true, decide_false, not_true_eq_false, not_false_eq_true, ex2, ex3, lim0, lim1, lim2, lim3, lim4, List.cons_append, List.nil_append, List.map, List.replicate]
    exact .inl ⟨_, intsOf_map _, rfl⟩
theorem begun_ok {C : Calls} {k : Nat} (hC : C.fn = callAt L.pg (k + 1)) {ms : List Nat} {ts : List (Nat × Nat)} (h : PartsOk ms ts) (S : Sh) : Ok (C.fn 7 [webD ms ts] S) fun d S' => d = stT (List.replicate ms.length (false, [])) ∧ S' = S := by
  rw [hC]
  have pos := h.pos
  have few := h.few
  refine fn_W (fn := f_begun) rfl rfl ?_
  unfold f_begun b_begun
  refine b_consW ?_
  try simp only [at_mems, List.length_map, wpS, wpT, wpE, wpO, wpEs, wpAs, wpL, wpC, wpI, wpG, wpPar, wpSE, brwW, slotV, slotA, List.getElem?_cons_zero, List.getElem?_cons_succ, List.set_cons_zero, List.set_cons_succ, drf_int, drf_bl, drf_non, drf_str, drf_tup, drf_lst, drf_scr, drf_set, drf_ty, drf_ins, drf_glo, drf_0, ixL0, ixL1, ixL2, ixL3, ixL4, ixT0, ixT1, ixT2, ixAt0, ixAt1, ixAt2, ixAt3, ixAt4, tru_bl, tru_int, tru_tup, tru_lst, c_eq_int, c_ne_int, c_lt, c_le, c_gt, c_ge, c_in2, c_inL, c_inT, c_ninT, c_eq_bl, c_ne_bl, b_len_l, b_len_t, b_len_s, b_abs, b_int, b_tup_l, b_tup_t, b_max, b_min, o_add, o_sub, o_mul, o_fdiv, o_mod, o_pow, o_catT, o_catL, o_repT, o_repL, o_repL2, s_tupX, s_lstX, s_scrX, q_tup, q_lst, qi_tup, qi_lst, qi_scr, at_ins, isNon_int, isNon_non, wpN_nx, wpN_ret, wpN_brk, wpN_cnt, trn_nx, trn_cnt, trn_brk, trn_ret, List.map_cons, List.map_nil, List.length_cons, List.length_nil, Nat.zero_add, Nat.reduceAdd, Nat.reduceLT, true_and, and_true, Option.some.injEq, exists_eq_left', exists_eq_left, exists_and_left, Sl.ol.injEq, Sl.v.injEq, Sl.os.injEq, D.int.injEq, D.bl.injEq, D.tup.injEq, D.lst.injEq, D.ref.injEq, Ob.lst.injEq, List.cons.injEq, decide_eq_true_eq, Bool.not_eq_true', decide_eq_false_iff_not, bne_iff_ne, ne_eq, if_true, if_false, Bool.false_eq_true, Bool.true_eq_false, reduceIte, Bool.not_true, Bool.not_false, decide_true, decide_false, not_true_eq_false, not_false_eq_true, ex2, ex3, lim0, lim1, lim2, lim3, lim4, List.cons_append, List.nil_append, List.map, List.replicate]
  refine ⟨⟨by omega, by omega, by simp, by decide⟩, ?_⟩
  have e : (List.replicate (ms.length : Int).toNat [D.tup [.bl false, .tup []]]).flatten = (List.replicate ms.length ((false, []) : Rm)).map rmD := by
    simp [rmD]
  rw [e]
  rfl
def keepN (ms : List Nat) (r : Nat) : Nat := max 1 (memAt ms r)
theorem kept_ok {C : Calls} {k : Nat} (hC : C.fn = callAt L.pg (k + 1)) {ms : List Nat} {ts : List (Nat × Nat)} {r : Nat} (hr : r < ms.length) (S : Sh) : Ok (C.fn 5 [webD ms ts, .int (r : Int)] S) fun d S' => d = .int (keepN ms r : Int) ∧ S' = S := by
  rw [hC]
  refine fn_W (fn := f_kept_tags) rfl rfl ?_
  unfold f_kept_tags b_kept_tags
  refine b_consW ?_
  try simp only [at_mems, ix_mem hr, wpS, wpT, wpE, wpO, wpEs, wpAs, wpL, wpC, wpI, wpG, wpPar, wpSE, brwW, slotV, slotA, List.getElem?_cons_zero, List.getElem?_cons_succ, List.set_cons_zero, List.set_cons_succ, drf_int, drf_bl, drf_non, drf_str, drf_tup, drf_lst, drf_scr, drf_set, drf_ty, drf_ins, drf_glo, drf_0, ixL0, ixL1, ixL2, ixL3, ixL4, ixT0, ixT1, ixT2, ixAt0, ixAt1, ixAt2, ixAt3, ixAt4, tru_bl, tru_int, tru_tup, tru_lst, c_eq_int, c_ne_int, c_lt, c_le, c_gt, c_ge, c_in2, c_inL, c_inT, c_ninT, c_eq_bl, c_ne_bl, b_len_l, b_len_t, b_len_s, b_abs, b_int, b_tup_l, b_tup_t, b_max, b_min, o_add, o_sub, o_mul, o_fdiv, o_mod, o_pow, o_catT, o_catL, o_repT, o_repL, o_repL2, s_tupX, s_lstX, s_scrX, q_tup, q_lst, qi_tup, qi_lst, qi_scr, at_ins, isNon_int, isNon_non, wpN_nx, wpN_ret, wpN_brk, wpN_cnt, trn_nx, trn_cnt, trn_brk, trn_ret, List.map_cons, List.map_nil, List.length_cons, List.length_nil, Nat.zero_add, Nat.reduceAdd, Nat.reduceLT, true_and, and_true, Option.some.injEq, exists_eq_left', exists_eq_left, exists_and_left, Sl.ol.injEq, Sl.v.injEq, Sl.os.injEq, D.int.injEq, D.bl.injEq, D.tup.injEq, D.lst.injEq, D.ref.injEq, Ob.lst.injEq, List.cons.injEq, decide_eq_true_eq, Bool.not_eq_true', decide_eq_false_iff_not, bne_iff_ne, ne_eq, if_true, if_false, Bool.false_eq_true, Bool.true_eq_false, reduceIte, Bool.not_true, Bool.not_false, decide_true, decide_false, not_true_eq_false, not_false_eq_true, ex2, ex3, lim0, lim1, lim2, lim3, lim4, List.cons_append, List.nil_append, List.map, List.replicate]
  unfold keepN
  split <;> first | omega | (congr 1; omega)
/-- the web's own state: tags are cut -/
def doneW (ms : List Nat) (st : St) : Deed → St
  | .give r t => st.set r (true, (t :: tagsAt st r).take (keepN ms r))
  | .back r => st.set r (false, tagsAt st r)
theorem StOk.doneW {ms : List Nat} {N n : Nat} {st : St} (h : StOk N n st) (d : Deed) : StOk (N + 1) n (doneW ms st d) := by
  cases d with
  | give r t =>
    refine ⟨by simp [Law.doneW, h.len], fun x hx => ?_, fun x hx hh => ?_⟩
    · rcases List.mem_or_eq_of_mem_set hx with hx | rfl
      · have := h.few x hx; omega
      · have := h.fewAt r; simp; omega
    · rcases List.mem_or_eq_of_mem_set hx with hx | rfl
      · exact h.tag x hx hh
      · unfold keepN
        intro e
        have := congrArg List.length e
        rw [List.length_take, List.length_cons] at this
        simp only [List.length_nil] at this
        omega
  | back r =>
    refine ⟨by simp [Law.doneW, h.len], fun x hx => ?_, fun x hx hh => ?_⟩
    · rcases List.mem_or_eq_of_mem_set hx with hx | rfl
      · have := h.few x hx; omega
      · have := h.fewAt r; simp; omega
    · rcases List.mem_or_eq_of_mem_set hx with hx | rfl
      · exact h.tag x hx hh
      · cases hh
theorem set_cut {α : Type} : ∀ {l : List α} {r : Nat} {x : α}, r < l.length → l.take r ++ [x] ++ l.drop (r + 1) = l.set r x
  | [], _, _, h => by simp at h
  | y :: l, 0, x, _ => by simp
  | y :: l, r + 1, x, h => by
    have := set_cut (l := l) (r := r) (x := x) (by simpa using h)
    simp only [List.take_succ_cons, List.drop_succ_cons, List.set_cons_succ, List.cons_append]
    rw [← this]
theorem cut_set {st : St} {r : Nat} {x : Rm} (hr : r < st.length) (h60 : st.length ≤ 60) : (cutD (st.map rmD) none (some (r : Int))).length + 1 ≤ LIM ∧ (cutD (st.map rmD) none (some (r : Int)) ++ [rmD x]).length + (cutD (st.map rmD) (some ((r : Int) + 1)) none).length ≤ LIM ∧
    cutD (st.map rmD) none (some (r : Int)) ++ [rmD x] ++ cutD (st.map rmD) (some ((r : Int) + 1)) none = (st.set r x).map rmD := by
  rw [show (r : Int) + 1 = ((r + 1 : Nat) : Int) by omega, cut_hi, cut_lo]
  refine ⟨?_, ?_, ?_⟩
  · simp only [List.length_take, List.length_map]; unfold LIM; omega
  · simp only [List.length_take, List.length_map, List.length_append, List.length_drop, List.length_singleton]; unfold LIM; omega
  · rw [List.map_set]
    exact set_cut (by rw [List.length_map]; exact hr)
theorem after_ok {C : Calls} {k : Nat} (hC : C.fn = callAt L.pg (k + 2)) {ms : List Nat} {ts : List (Nat × Nat)} (hp : PartsOk ms ts) {N : Nat} {st : St} (h : StOk N ms.length st) (hN : N < 1000) {d : Deed} (hd : d.room < ms.length) (S : Sh) : Ok (C.fn 6 [webD ms ts, stT st, deedD d] S) fun x S' => x = stT (doneW ms st d) ∧ S' = S := by
  rw [hC]
  have hl := h.len
  have few := hp.few
  refine fn_W (fn := f_raw_after) rfl rfl ?_
  unfold f_raw_after b_raw_after stT
  have f1 := h.fewAt d.room
  cases d with
  | give r t =>
    have i1 := ix_stT h (r := r) hd
    have hr : r < ms.length := hd
    unfold deedD giveD
    refine b_consW ?_
    try simp only [wpS, wpT, wpE, wpO, wpEs, wpAs, wpL, wpC, wpI, wpG, wpPar, wpSE, brwW, slotV, slotA, List.getElem?_cons_zero, List.getElem?_cons_succ, List.set_cons_zero, List.set_cons_succ, drf_int, drf_bl, drf_non, drf_str, drf_tup, drf_lst, drf_scr, drf_set, drf_ty, drf_ins, drf_glo, drf_0, ixL0, ixL1, ixL2, ixL3, ixL4, ixT0, ixT1, ixT2, ixAt0, ixAt1, ixAt2, ixAt3, ixAt4, tru_bl, tru_int, tru_tup, tru_lst, c_eq_int, c_ne_int, c_lt, c_le, c_gt, c_ge, c_in2, c_inL, c_inT, c_ninT, c_eq_bl, c_ne_bl, b_len_l, b_len_t, b_len_s, b_abs, b_int, b_tup_l, b_tup_t, b_max, b_min, o_add, o_sub, o_mul, o_fdiv, o_mod, o_pow, o_catT, o_catL, o_repT, o_repL, o_repL2, s_tupX, s_lstX, s_scrX, q_tup, q_lst, qi_tup, qi_lst, qi_scr, at_ins, isNon_int, isNon_non, wpN_nx, wpN_ret, wpN_brk, wpN_cnt, trn_nx, trn_cnt, trn_brk, trn_ret, List.map_cons, List.map_nil, List.length_cons, List.length_nil, Nat.zero_add, Nat.reduceAdd, Nat.reduceLT, true_and, and_true, Option.some.injEq, exists_eq_left', exists_eq_left, exists_and_left, Sl.ol.injEq, Sl.v.injEq, Sl.os.injEq, D.int.injEq, D.bl.injEq, D.tup.injEq, D.lst.injEq, D.ref.injEq, Ob.lst.injEq, List.cons.injEq, decide_eq_true_eq, Bool.not_eq_true', decide_eq_false_iff_not, bne_iff_ne, ne_eq, if_true, if_false, Bool.false_eq_true, Bool.true_eq_false, reduceIte, Bool.not_true, Bool.not_false, decide_true, decide_false, not_true_eq_false, not_false_eq_true, ex2, ex3, lim0, lim1, lim2, lim3, lim4, List.cons_append, List.nil_append, List.map, List.replicate]
    refine b_consW ?_
    try simp only [i1, wpS, wpT, wpE, wpO, wpEs, wpAs, wpL, wpC, wpI, wpG, wpPar, wpSE, brwW, slotV, slotA, List.getElem?_cons_zero, List.getElem?_cons_succ, List.set_cons_zero, List.set_cons_succ, drf_int, drf_bl, drf_non, drf_str, drf_tup, drf_lst, drf_scr, drf_set, drf_ty, drf_ins, drf_glo, drf_0, ixL0, ixL1, ixL2, ixL3, ixL4, ixT0, ixT1, ixT2, ixAt0, ixAt1, ixAt2, ixAt3, ixAt4, tru_bl, tru_int, tru_tup, tru_lst, c_eq_int, c_ne_int, c_lt, c_le, c_gt, c_ge, c_in2, c_inL, c_inT, c_ninT, c_eq_bl, c_ne_bl, b_len_l, b_len_t, b_len_s, b_abs, b_int, b_tup_l, b_tup_t, b_max, b_min, o_add, o_sub, o_mul, o_fdiv, o_mod, o_pow, o_catT, o_catL, o_repT, o_repL, o_repL2, s_tupX, s_lstX, s_scrX, q_tup, q_lst, qi_tup, qi_lst, qi_scr, at_ins, isNon_int, isNon_non, wpN_nx, wpN_ret, wpN_brk, wpN_cnt, trn_nx, trn_cnt, trn_brk, trn_ret, List.map_cons, List.map_nil, List.length_cons, List.length_nil, Nat.zero_add, Nat.reduceAdd, Nat.reduceLT, true_and, and_true, Option.some.injEq, exists_eq_left', exists_eq_left, exists_and_left, Sl.ol.injEq, Sl.v.injEq, Sl.os.injEq, D.int.injEq, D.bl.injEq, D.tup.injEq, D.lst.injEq, D.ref.injEq, Ob.lst.injEq, List.cons.injEq, decide_eq_true_eq, Bool.not_eq_true', decide_eq_false_iff_not, bne_iff_ne, ne_eq, if_true, if_false, Bool.false_eq_true, Bool.true_eq_false, reduceIte, Bool.not_true, Bool.not_false, decide_true, decide_false, not_true_eq_false, not_false_eq_true, ex2, ex3, lim0, lim1, lim2, lim3, lim4, List.cons_append, List.nil_append, List.map, List.replicate]
    refine b_consW ?_
    try simp only [wpS, wpT, wpE, wpO, wpEs, wpAs, wpL, wpC, wpI, wpG, wpPar, wpSE, brwW, slotV, slotA, List.getElem?_cons_zero, List.getElem?_cons_succ, List.set_cons_zero, List.set_cons_succ, drf_int, drf_bl, drf_non, drf_str, drf_tup, drf_lst, drf_scr, drf_set, drf_ty, drf_ins, drf_glo, drf_0, ixL0, ixL1, ixL2, ixL3, ixL4, ixT0, ixT1, ixT2, ixAt0, ixAt1, ixAt2, ixAt3, ixAt4, tru_bl, tru_int, tru_tup, tru_lst, c_eq_int, c_ne_int, c_lt, c_le, c_gt, c_ge, c_in2, c_inL, c_inT, c_ninT, c_eq_bl, c_ne_bl, b_len_l, b_len_t, b_len_s, b_abs, b_int, b_tup_l, b_tup_t, b_max, b_min, o_add, o_sub, o_mul, o_fdiv, o_mod, o_pow, o_catT, o_catL, o_repT, o_repL, o_repL2, s_tupX, s_lstX, s_scrX, q_tup, q_lst, qi_tup, qi_lst, qi_scr, at_ins, isNon_int, isNon_non, wpN_nx, wpN_ret, wpN_brk, wpN_cnt, trn_nx, trn_cnt, trn_brk, trn_ret, List.map_cons, List.map_nil, List.length_cons, List.length_nil, Nat.zero_add, Nat.reduceAdd, Nat.reduceLT, true_and, and_true, Option.some.injEq, exists_eq_left', exists_eq_left, exists_and_left, Sl.ol.injEq, Sl.v.injEq, Sl.os.injEq, D.int.injEq, D.bl.injEq, D.tup.injEq, D.lst.injEq, D.ref.injEq, Ob.lst.injEq, List.cons.injEq, decide_eq_true_eq, Bool.not_eq_true', decide_eq_false_iff_not, bne_iff_ne, ne_eq, if_true, if_false, Bool.false_eq_true, Bool.true_eq_false, reduceIte, Bool.not_true, Bool.not_false, decide_true, decide_false, not_true_eq_false, not_false_eq_true, ex2, ex3, lim0, lim1, lim2, lim3, lim4, List.cons_append, List.nil_append, List.map, List.replicate]
    refine b_consW ?_
    try simp only [eqGG, wpS, wpT, wpE, wpO, wpEs, wpAs, wpL, wpC, wpI, wpG, wpPar, wpSE, brwW, slotV, slotA, List.getElem?_cons_zero, List.getElem?_cons_succ, List.set_cons_zero, List.set_cons_succ, drf_int, drf_bl, drf_non, drf_str, drf_tup, drf_lst, drf_scr, drf_set, drf_ty, drf_ins, drf_glo, drf_0, ixL0, ixL1, ixL2, ixL3, ixL4, ixT0, ixT1, ixT2, ixAt0, ixAt1, ixAt2, ixAt3, ixAt4, tru_bl, tru_int, tru_tup, tru_lst, c_eq_int, c_ne_int, c_lt, c_le, c_gt, c_ge, c_in2, c_inL, c_inT, c_ninT, c_eq_bl, c_ne_bl, b_len_l, b_len_t, b_len_s, b_abs, b_int, b_tup_l, b_tup_t, b_max, b_min, o_add, o_sub, o_mul, o_fdiv, o_mod, o_pow, o_catT, o_catL, o_repT, o_repL, o_repL2, s_tupX, s_lstX, s_scrX, q_tup, q_lst, qi_tup, qi_lst, qi_scr, at_ins, isNon_int, isNon_non, wpN_nx, wpN_ret, wpN_brk, wpN_cnt, trn_nx, trn_cnt, trn_brk, trn_ret, List.map_cons, List.map_nil, List.length_cons, List.length_nil, Nat.zero_add, Nat.reduceAdd, Nat.reduceLT, true_and, and_true, Option.some.injEq, exists_eq_left', exists_eq_left, exists_and_left, Sl.ol.injEq, Sl.v.injEq, Sl.os.injEq, D.int.injEq, D.bl.injEq, D.tup.injEq, D.lst.injEq, D.ref.injEq, Ob.lst.injEq, List.cons.injEq, decide_eq_true_eq, Bool.not_eq_true', decide_eq_false_iff_not, bne_iff_ne, ne_eq, if_true, if_false, Bool.false_eq_true, Bool.true_eq_false, reduceIte, Bool.not_true, Bool.not_false, decide_true, decide_false, not_true_eq_false, not_false_eq_true, ex2, ex3, lim0, lim1, lim2, lim3, lim4, List.cons_append, List.nil_append, List.map, List.replicate]
    refine b_consW ?_
    try simp only [wpS, wpT, wpE, wpO, wpEs, wpAs, wpL, wpC, wpI, wpG, wpPar, wpSE, brwW, slotV, slotA, List.getElem?_cons_zero, List.getElem?_cons_succ, List.set_cons_zero, List.set_cons_succ, drf_int, drf_bl, drf_non, drf_str, drf_tup, drf_lst, drf_scr, drf_set, drf_ty, drf_ins, drf_glo, drf_0, ixL0, ixL1, ixL2, ixL3, ixL4, ixT0, ixT1, ixT2, ixAt0, ixAt1, ixAt2, ixAt3, ixAt4, tru_bl, tru_int, tru_tup, tru_lst, c_eq_int, c_ne_int, c_lt, c_le, c_gt, c_ge, c_in2, c_inL, c_inT, c_ninT, c_eq_bl, c_ne_bl, b_len_l, b_len_t, b_len_s, b_abs, b_int, b_tup_l, b_tup_t, b_max, b_min, o_add, o_sub, o_mul, o_fdiv, o_mod, o_pow, o_catT, o_catL, o_repT, o_repL, o_repL2, s_tupX, s_lstX, s_scrX, q_tup, q_lst, qi_tup, qi_lst, qi_scr, at_ins, isNon_int, isNon_non, wpN_nx, wpN_ret, wpN_brk, wpN_cnt, trn_nx, trn_cnt, trn_brk, trn_ret, List.map_cons, List.map_nil, List.length_cons, List.length_nil, Nat.zero_add, Nat.reduceAdd, Nat.reduceLT, true_and, and_true, Option.some.injEq, exists_eq_left', exists_eq_left, exists_and_left, Sl.ol.injEq, Sl.v.injEq, Sl.os.injEq, D.int.injEq, D.bl.injEq, D.tup.injEq, D.lst.injEq, D.ref.injEq, Ob.lst.injEq, List.cons.injEq, decide_eq_true_eq, Bool.not_eq_true', decide_eq_false_iff_not, bne_iff_ne, ne_eq, if_true, if_false, Bool.false_eq_true, Bool.true_eq_false, reduceIte, Bool.not_true, Bool.not_false, decide_true, decide_false, not_true_eq_false, not_false_eq_true, ex2, ex3, lim0, lim1, lim2, lim3, lim4, List.cons_append, List.nil_append, List.map, List.replicate]
    refine ⟨by rw [List.length_map]; have : (tagsAt st r).length ≤ N := f1; unfold LIM; omega, ?_⟩
    refine (kept_ok (C := L.pg.calls (k + 1)) rfl hr S).mono fun d S1 ⟨e1, e2⟩ => ?_
    subst e1 e2
    refine ⟨_, rfl, b_nilN ?_⟩
    refine b_consW ?_
    try simp only [wpS, wpT, wpE, wpO, wpEs, wpAs, wpL, wpC, wpI, wpG, wpPar, wpSE, brwW, slotV, slotA, List.getElem?_cons_zero, List.getElem?_cons_succ, List.set_cons_zero, List.set_cons_succ, drf_int, drf_bl, drf_non, drf_str, drf_tup, drf_lst, drf_scr, drf_set, drf_ty, drf_ins, drf_glo, drf_0, ixL0, ixL1, ixL2, ixL3, ixL4, ixT0, ixT1, ixT2, ixAt0, ixAt1, ixAt2, ixAt3, ixAt4, tru_bl, tru_int, tru_tup, tru_lst, c_eq_int, c_ne_int, c_lt, c_le, c_gt, c_ge, c_in2, c_inL, c_inT, c_ninT, c_eq_bl, c_ne_bl, b_len_l, b_len_t, b_len_s, b_abs, b_int, b_tup_l, b_tup_t, b_max, b_min, o_add, o_sub, o_mul, o_fdiv, o_mod, o_pow, o_catT, o_catL, o_repT, o_repL, o_repL2, s_tupX, s_lstX, s_scrX, q_tup, q_lst, qi_tup, qi_lst, qi_scr, at_ins, isNon_int, isNon_non, wpN_nx, wpN_ret, wpN_brk, wpN_cnt, trn_nx, trn_cnt, trn_brk, trn_ret, List.map_cons, List.map_nil, List.length_cons, List.length_nil, Nat.zero_add, Nat.reduceAdd, Nat.reduceLT, true_and, and_true, Option.some.injEq, exists_eq_left', exists_eq_left, exists_and_left, Sl.ol.injEq, Sl.v.injEq, Sl.os.injEq, D.int.injEq, D.bl.injEq, D.tup.injEq, D.lst.injEq, D.ref.injEq, Ob.lst.injEq, List.cons.injEq, decide_eq_true_eq, Bool.not_eq_true', decide_eq_false_iff_not, bne_iff_ne, ne_eq, if_true, if_false, Bool.false_eq_true, Bool.true_eq_false, reduceIte, Bool.not_true, Bool.not_false, decide_true, decide_false, not_true_eq_false, not_false_eq_true, ex2, ex3, lim0, lim1, lim2, lim3, lim4, List.cons_append, List.nil_append, List.map, List.replicate]
    rw [cut_hi (xs := D.int t :: (tagsAt st r).map D.int), ← List.map_cons (f := D.int), ← List.map_take]
    exact cut_set (st := st) (r := r) (x := (true, (t :: tagsAt st r).take (keepN ms r))) (by omega) (by omega)
  | back r =>
    have i1 := ix_stT h (r := r) hd
    have hr : r < ms.length := hd
    unfold deedD backD
    refine b_consW ?_
    try simp only [wpS, wpT, wpE, wpO, wpEs, wpAs, wpL, wpC, wpI, wpG, wpPar, wpSE, brwW, slotV, slotA, List.getElem?_cons_zero, List.getElem?_cons_succ, List.set_cons_zero, List.set_cons_succ, drf_int, drf_bl, drf_non, drf_str, drf_tup, drf_lst, drf_scr, drf_set, drf_ty, drf_ins, drf_glo, drf_0, ixL0, ixL1, ixL2, ixL3, ixL4, ixT0, ixT1, ixT2, ixAt0, ixAt1, ixAt2, ixAt3, ixAt4, tru_bl, tru_int, tru_tup, tru_lst, c_eq_int, c_ne_int, c_lt, c_le, c_gt, c_ge, c_in2, c_inL, c_inT, c_ninT, c_eq_bl, c_ne_bl, b_len_l, b_len_t, b_len_s, b_abs, b_int, b_tup_l, b_tup_t, b_max, b_min, o_add, o_sub, o_mul, o_fdiv, o_mod, o_pow, o_catT, o_catL, o_repT, o_repL, o_repL2, s_tupX, s_lstX, s_scrX, q_tup, q_lst, qi_tup, qi_lst, qi_scr, at_ins, isNon_int, isNon_non, wpN_nx, wpN_ret, wpN_brk, wpN_cnt, trn_nx, trn_cnt, trn_brk, trn_ret, List.map_cons, List.map_nil, List.length_cons, List.length_nil, Nat.zero_add, Nat.reduceAdd, Nat.reduceLT, true_and, and_true, Option.some.injEq, exists_eq_left', exists_eq_left, exists_and_left, Sl.ol.injEq, Sl.v.injEq, Sl.os.injEq, D.int.injEq, D.bl.injEq, D.tup.injEq, D.lst.injEq, D.ref.injEq, Ob.lst.injEq, List.cons.injEq, decide_eq_true_eq, Bool.not_eq_true', decide_eq_false_iff_not, bne_iff_ne, ne_eq, if_true, if_false, Bool.false_eq_true, Bool.true_eq_false, reduceIte, Bool.not_true, Bool.not_false, decide_true, decide_false, not_true_eq_false, not_false_eq_true, ex2, ex3, lim0, lim1, lim2, lim3, lim4, List.cons_append, List.nil_append, List.map, List.replicate]
    refine b_consW ?_
    try simp only [i1, wpS, wpT, wpE, wpO, wpEs, wpAs, wpL, wpC, wpI, wpG, wpPar, wpSE, brwW, slotV, slotA, List.getElem?_cons_zero, List.getElem?_cons_succ, List.set_cons_zero, List.set_cons_succ, drf_int, drf_bl, drf_non, drf_str, drf_tup, drf_lst, drf_scr, drf_set, drf_ty, drf_ins, drf_glo, drf_0, ixL0, ixL1, ixL2, ixL3, ixL4, ixT0, ixT1, ixT2, ixAt0, ixAt1, ixAt2, ixAt3, ixAt4, tru_bl, tru_int, tru_tup, tru_lst, c_eq_int, c_ne_int, c_lt, c_le, c_gt, c_ge, c_in2, c_inL, c_inT, c_ninT, c_eq_bl, c_ne_bl, b_len_l, b_len_t, b_len_s, b_abs, b_int, b_tup_l, b_tup_t, b_max, b_min, o_add, o_sub, o_mul, o_fdiv, o_mod, o_pow, o_catT, o_catL, o_repT, o_repL, o_repL2, s_tupX, s_lstX, s_scrX, q_tup, q_lst, qi_tup, qi_lst, qi_scr, at_ins, isNon_int, isNon_non, wpN_nx, wpN_ret, wpN_brk, wpN_cnt, trn_nx, trn_cnt, trn_brk, trn_ret, List.map_cons, List.map_nil, List.length_cons, List.length_nil, Nat.zero_add, Nat.reduceAdd, Nat.reduceLT, true_and, and_true, Option.some.injEq, exists_eq_left', exists_eq_left, exists_and_left, Sl.ol.injEq, Sl.v.injEq, Sl.os.injEq, D.int.injEq, D.bl.injEq, D.tup.injEq, D.lst.injEq, D.ref.injEq, Ob.lst.injEq, List.cons.injEq, decide_eq_true_eq, Bool.not_eq_true', decide_eq_false_iff_not, bne_iff_ne, ne_eq, if_true, if_false, Bool.false_eq_true, Bool.true_eq_false, reduceIte, Bool.not_true, Bool.not_false, decide_true, decide_false, not_true_eq_false, not_false_eq_true, ex2, ex3, lim0, lim1, lim2, lim3, lim4, List.cons_append, List.nil_append, List.map, List.replicate]
    refine b_consW ?_
    try simp only [wpS, wpT, wpE, wpO, wpEs, wpAs, wpL, wpC, wpI, wpG, wpPar, wpSE, brwW, slotV, slotA, List.getElem?_cons_zero, List.getElem?_cons_succ, List.set_cons_zero, List.set_cons_succ, drf_int, drf_bl, drf_non, drf_str, drf_tup, drf_lst, drf_scr, drf_set, drf_ty, drf_ins, drf_glo, drf_0, ixL0, ixL1, ixL2, ixL3, ixL4, ixT0, ixT1, ixT2, ixAt0, ixAt1, ixAt2, ixAt3, ixAt4, tru_bl, tru_int, tru_tup, tru_lst, c_eq_int, c_ne_int, c_lt, c_le, c_gt, c_ge, c_in2, c_inL, c_inT, c_ninT, c_eq_bl, c_ne_bl, b_len_l, b_len_t, b_len_s, b_abs, b_int, b_tup_l, b_tup_t, b_max, b_min, o_add, o_sub, o_mul, o_fdiv, o_mod, o_pow, o_catT, o_catL, o_repT, o_repL, o_repL2, s_tupX, s_lstX, s_scrX, q_tup, q_lst, qi_tup, qi_lst, qi_scr, at_ins, isNon_int, isNon_non, wpN_nx, wpN_ret, wpN_brk, wpN_cnt, trn_nx, trn_cnt, trn_brk, trn_ret, List.map_cons, List.map_nil, List.length_cons, List.length_nil, Nat.zero_add, Nat.reduceAdd, Nat.reduceLT, true_and, and_true, Option.some.injEq, exists_eq_left', exists_eq_left, exists_and_left, Sl.ol.injEq, Sl.v.injEq, Sl.os.injEq, D.int.injEq, D.bl.injEq, D.tup.injEq, D.lst.injEq, D.ref.injEq, Ob.lst.injEq, List.cons.injEq, decide_eq_true_eq, Bool.not_eq_true', decide_eq_false_iff_not, bne_iff_ne, ne_eq, if_true, if_false, Bool.false_eq_true, Bool.true_eq_false, reduceIte, Bool.not_true, Bool.not_false, decide_true, decide_false, not_true_eq_false, not_false_eq_true, ex2, ex3, lim0, lim1, lim2, lim3, lim4, List.cons_append, List.nil_append, List.map, List.replicate]
    refine b_consW ?_
    try simp only [eqBG, wpS, wpT, wpE, wpO, wpEs, wpAs, wpL, wpC, wpI, wpG, wpPar, wpSE, brwW, slotV, slotA, List.getElem?_cons_zero, List.getElem?_cons_succ, List.set_cons_zero, List.set_cons_succ, drf_int, drf_bl, drf_non, drf_str, drf_tup, drf_lst, drf_scr, drf_set, drf_ty, drf_ins, drf_glo, drf_0, ixL0, ixL1, ixL2, ixL3, ixL4, ixT0, ixT1, ixT2, ixAt0, ixAt1, ixAt2, ixAt3, ixAt4, tru_bl, tru_int, tru_tup, tru_lst, c_eq_int, c_ne_int, c_lt, c_le, c_gt, c_ge, c_in2, c_inL, c_inT, c_ninT, c_eq_bl, c_ne_bl, b_len_l, b_len_t, b_len_s, b_abs, b_int, b_tup_l, b_tup_t, b_max, b_min, o_add, o_sub, o_mul, o_fdiv, o_mod, o_pow, o_catT, o_catL, o_repT, o_repL, o_repL2, s_tupX, s_lstX, s_scrX, q_tup, q_lst, qi_tup, qi_lst, qi_scr, at_ins, isNon_int, isNon_non, wpN_nx, wpN_ret, wpN_brk, wpN_cnt, trn_nx, trn_cnt, trn_brk, trn_ret, List.map_cons, List.map_nil, List.length_cons, List.length_nil, Nat.zero_add, Nat.reduceAdd, Nat.reduceLT, true_and, and_true, Option.some.injEq, exists_eq_left', exists_eq_left, exists_and_left, Sl.ol.injEq, Sl.v.injEq, Sl.os.injEq, D.int.injEq, D.bl.injEq, D.tup.injEq, D.lst.injEq, D.ref.injEq, Ob.lst.injEq, List.cons.injEq, decide_eq_true_eq, Bool.not_eq_true', decide_eq_false_iff_not, bne_iff_ne, ne_eq, if_true, if_false, Bool.false_eq_true, Bool.true_eq_false, reduceIte, Bool.not_true, Bool.not_false, decide_true, decide_false, not_true_eq_false, not_false_eq_true, ex2, ex3, lim0, lim1, lim2, lim3, lim4, List.cons_append, List.nil_append, List.map, List.replicate]
    refine b_nilN ?_
    refine b_consW ?_
    try simp only [wpS, wpT, wpE, wpO, wpEs, wpAs, wpL, wpC, wpI, wpG, wpPar, wpSE, brwW, slotV, slotA, List.getElem?_cons_zero, List.getElem?_cons_succ, List.set_cons_zero, List.set_cons_succ, drf_int, drf_bl, drf_non, drf_str, drf_tup, drf_lst, drf_scr, drf_set, drf_ty, drf_ins, drf_glo, drf_0, ixL0, ixL1, ixL2, ixL3, ixL4, ixT0, ixT1, ixT2, ixAt0, ixAt1, ixAt2, ixAt3, ixAt4, tru_bl, tru_int, tru_tup, tru_lst, c_eq_int, c_ne_int, c_lt, c_le, c_gt, c_ge, c_in2, c_inL, c_inT, c_ninT, c_eq_bl, c_ne_bl, b_len_l, b_len_t, b_len_s, b_abs, b_int, b_tup_l, b_tup_t, b_max, b_min, o_add, o_sub, o_mul, o_fdiv, o_mod, o_pow, o_catT, o_catL, o_repT, o_repL, o_repL2, s_tupX, s_lstX, s_scrX, q_tup, q_lst, qi_tup, qi_lst, qi_scr, at_ins, isNon_int, isNon_non, wpN_nx, wpN_ret, wpN_brk, wpN_cnt, trn_nx, trn_cnt, trn_brk, trn_ret, List.map_cons, List.map_nil, List.length_cons, List.length_nil, Nat.zero_add, Nat.reduceAdd, Nat.reduceLT, true_and, and_true, Option.some.injEq, exists_eq_left', exists_eq_left, exists_and_left, Sl.ol.injEq, Sl.v.injEq, Sl.os.injEq, D.int.injEq, D.bl.injEq, D.tup.injEq, D.lst.injEq, D.ref.injEq, Ob.lst.injEq, List.cons.injEq, decide_eq_true_eq, Bool.not_eq_true', decide_eq_false_iff_not, bne_iff_ne, ne_eq, if_true, if_false, Bool.false_eq_true, Bool.true_eq_false, reduceIte, Bool.not_true, Bool.not_false, decide_true, decide_false, not_true_eq_false, not_false_eq_true, ex2, ex3, lim0, lim1, lim2, lim3, lim4, List.cons_append, List.nil_append, List.map, List.replicate]
    exact cut_set (st := st) (r := r) (x := (false, tagsAt st r)) (by omega) (by omega)
def RBarsI (ms : List Nat) (ts : List (Nat × Nat)) (st : St) (r : Nat) (S : Sh) (i : Nat) (E : En) (S' : Sh) : Prop := S' = S ∧ ∃ (l : List Int) (x4 : Option Sl), E = [some (.v (webD ms ts)), some (.v (stT st)), some (.v (.int (r : Int))), some (.os l), x4] ∧
  (∀ t, t ∈ l ↔ t ∈ (tagsAt st r).take (memAt ms r) ++ ((nearL ts r).take i).flatMap (newest st)) ∧ l.length ≤ 30 + i
def RBarsM (ms : List Nat) (ts : List (Nat × Nat)) (st : St) (r : Nat) (S : Sh) (f : Fl) (E : En) (S' : Sh) : Prop := f = .nx ∧ RBarsI ms ts st r S (nearL ts r).length E S'
theorem rbars_ok {C : Calls} {k : Nat} (hC : C.fn = callAt L.pg (k + 2)) {ms : List Nat} {ts : List (Nat × Nat)} (h : PartsOk ms ts) (h8 : ms.length ≤ 8) {N : Nat} {st : St} (hs : StOk N ms.length st) (hN : N < 1000) {r : Nat} (hr : r < ms.length) (S : Sh) :
    Ok (C.fn 4 [webD ms ts, stT st, .int (r : Int)] S) fun d S' => (∃ l : List Int, d = .tup (l.map .int) ∧ ∀ t, t ∈ l ↔ t ∈ barsL ms ts st r) ∧ S' = S := by
  rw [hC]
  refine fn_W (fn := f_raw_barred) rfl rfl ?_
  unfold f_raw_barred b_raw_barred
  have i1 := ix_stT hs hr
  have i2 := ix_mem hr
  have hml : memAt ms r ≤ 30 := by
    unfold memAt
    rw [List.getElem?_eq_getElem hr]
    exact h.mem _ (List.getElem_mem hr)
  have nl : (nearL ts r).length ≤ 28 := Nat.le_trans (Nat.le_trans len_near h.ties.length_le) (prs_8 h8)
  refine b_consW ?_
  unfold stT
  try simp only [i1, at_mems, i2, cut_hi, wpS, wpT, wpE, wpO, wpEs, wpAs, wpL, wpC, wpI, wpG, wpPar, wpSE, brwW, slotV, slotA, List.getElem?_cons_zero, List.getElem?_cons_succ, List.set_cons_zero, List.set_cons_succ, drf_int, drf_bl, drf_non, drf_str, drf_tup, drf_lst, drf_scr, drf_set, drf_ty, drf_ins, drf_glo, drf_0, ixL0, ixL1, ixL2, ixL3, ixL4, ixT0, ixT1, ixT2, ixAt0, ixAt1, ixAt2, ixAt3, ixAt4, tru_bl, tru_int, tru_tup, tru_lst, c_eq_int, c_ne_int, c_lt, c_le, c_gt, c_ge, c_in2, c_inL, c_inT, c_ninT, c_eq_bl, c_ne_bl, b_len_l, b_len_t, b_len_s, b_abs, b_int, b_tup_l, b_tup_t, b_max, b_min, o_add, o_sub, o_mul, o_fdiv, o_mod, o_pow, o_catT, o_catL, o_repT, o_repL, o_repL2, s_tupX, s_lstX, s_scrX, q_tup, q_lst, qi_tup, qi_lst, qi_scr, at_ins, isNon_int, isNon_non, wpN_nx, wpN_ret, wpN_brk, wpN_cnt, trn_nx, trn_cnt, trn_brk, trn_ret, List.map_cons, List.map_nil, List.length_cons, List.length_nil, Nat.zero_add, Nat.reduceAdd, Nat.reduceLT, true_and, and_true, Option.some.injEq, exists_eq_left', exists_eq_left, exists_and_left, Sl.ol.injEq, Sl.v.injEq, Sl.os.injEq, D.int.injEq, D.bl.injEq, D.tup.injEq, D.lst.injEq, D.ref.injEq, Ob.lst.injEq, List.cons.injEq, decide_eq_true_eq, Bool.not_eq_true', decide_eq_false_iff_not, bne_iff_ne, ne_eq, if_true, if_false, Bool.false_eq_true, Bool.true_eq_false, reduceIte, Bool.not_true, Bool.not_false, decide_true, decide_false, not_true_eq_false, not_false_eq_true, ex2, ex3, lim0, lim1, lim2, lim3, lim4, List.cons_append, List.nil_append, List.map, List.replicate]
  rw [← List.map_take]
  have tl : ((tagsAt st r).take (memAt ms r)).length ≤ 30 := by rw [List.length_take]; omega
  refine ⟨_, setOf_t (by omega), ?_⟩
  refine b_consR (RBarsM ms ts st r S) ?_ ?_
  · try simp only [wpS, wpT, wpE, wpO, wpEs, wpAs, wpL, wpC, wpI, wpG, wpPar, wpSE, brwW, slotV, slotA, List.getElem?_cons_zero, List.getElem?_cons_succ, List.set_cons_zero, List.set_cons_succ, drf_int, drf_bl, drf_non, drf_str, drf_tup, drf_lst, drf_scr, drf_set, drf_ty, drf_ins, drf_glo, drf_0, ixL0, ixL1, ixL2, ixL3, ixL4, ixT0, ixT1, ixT2, ixAt0, ixAt1, ixAt2, ixAt3, ixAt4, tru_bl, tru_int, tru_tup, tru_lst, c_eq_int, c_ne_int, c_lt, c_le, c_gt, c_ge, c_in2, c_inL, c_inT, c_ninT, c_eq_bl, c_ne_bl, b_len_l, b_len_t, b_len_s, b_abs, b_int, b_tup_l, b_tup_t, b_max, b_min, o_add, o_sub, o_mul, o_fdiv, o_mod, o_pow, o_catT, o_catL, o_repT, o_repL, o_repL2, s_tupX, s_lstX, s_scrX, q_tup, q_lst, qi_tup, qi_lst, qi_scr, at_ins, isNon_int, isNon_non, wpN_nx, wpN_ret, wpN_brk, wpN_cnt, trn_nx, trn_cnt, trn_brk, trn_ret, List.map_cons, List.map_nil, List.length_cons, List.length_nil, Nat.zero_add, Nat.reduceAdd, Nat.reduceLT, true_and, and_true, Option.some.injEq, exists_eq_left', exists_eq_left, exists_and_left, Sl.ol.injEq, Sl.v.injEq, Sl.os.injEq, D.int.injEq, D.bl.injEq, D.tup.injEq, D.lst.injEq, D.ref.injEq, Ob.lst.injEq, List.cons.injEq, decide_eq_true_eq, Bool.not_eq_true', decide_eq_false_iff_not, bne_iff_ne, ne_eq, if_true, if_false, Bool.false_eq_true, Bool.true_eq_false, reduceIte, Bool.not_true, Bool.not_false, decide_true, decide_false, not_true_eq_false, not_false_eq_true, ex2, ex3, lim0, lim1, lim2, lim3, lim4, List.cons_append, List.nil_append, List.map, List.replicate]
    refine (tied_ok (C := L.pg.calls (k + 1)) rfl ms ts h.many r S).mono fun d S1 ⟨e1, e2⟩ => ?_
    subst e1 e2
    try simp only [wpS, wpT, wpE, wpO, wpEs, wpAs, wpL, wpC, wpI, wpG, wpPar, wpSE, brwW, slotV, slotA, List.getElem?_cons_zero, List.getElem?_cons_succ, List.set_cons_zero, List.set_cons_succ, drf_int, drf_bl, drf_non, drf_str, drf_tup, drf_lst, drf_scr, drf_set, drf_ty, drf_ins, drf_glo, drf_0, ixL0, ixL1, ixL2, ixL3, ixL4, ixT0, ixT1, ixT2, ixAt0, ixAt1, ixAt2, ixAt3, ixAt4, tru_bl, tru_int, tru_tup, tru_lst, c_eq_int, c_ne_int, c_lt, c_le, c_gt, c_ge, c_in2, c_inL, c_inT, c_ninT, c_eq_bl, c_ne_bl, b_len_l, b_len_t, b_len_s, b_abs, b_int, b_tup_l, b_tup_t, b_max, b_min, o_add, o_sub, o_mul, o_fdiv, o_mod, o_pow, o_catT, o_catL, o_repT, o_repL, o_repL2, s_tupX, s_lstX, s_scrX, q_tup, q_lst, qi_tup, qi_lst, qi_scr, at_ins, isNon_int, isNon_non, wpN_nx, wpN_ret, wpN_brk, wpN_cnt, trn_nx, trn_cnt, trn_brk, trn_ret, List.map_cons, List.map_nil, List.length_cons, List.length_nil, Nat.zero_add, Nat.reduceAdd, Nat.reduceLT, true_and, and_true, Option.some.injEq, exists_eq_left', exists_eq_left, exists_and_left, Sl.ol.injEq, Sl.v.injEq, Sl.os.injEq, D.int.injEq, D.bl.injEq, D.tup.injEq, D.lst.injEq, D.ref.injEq, Ob.lst.injEq, List.cons.injEq, decide_eq_true_eq, Bool.not_eq_true', decide_eq_false_iff_not, bne_iff_ne, ne_eq, if_true, if_false, Bool.false_eq_true, Bool.true_eq_false, reduceIte, Bool.not_true, Bool.not_false, decide_true, decide_false, not_true_eq_false, not_false_eq_true, ex2, ex3, lim0, lim1, lim2, lim3, lim4, List.cons_append, List.nil_append, List.map, List.replicate]
    refine for_W (I := RBarsI ms ts st r S1) _ ⟨rfl, _, none, rfl, fun t => by rw [mem_fold]; simp, by have := len_fold (l := (tagsAt st r).take (memAt ms r)) (acc := []); simp only [List.length_nil] at this; omega⟩ (fun i x E S' hx ⟨e1, l, x4, e2, m1, m2⟩ => ?_) (fun E S' h => ⟨rfl, by rw [List.length_map] at h; exact h⟩)
    subst e1 e2
    rw [List.getElem?_map] at hx
    obtain ⟨o, ho, rfl⟩ := Option.map_eq_some_iff.mp hx
    obtain ⟨j, rfl, hj, _⟩ := near_room h (List.mem_of_getElem? ho)
    have hi : i < (nearL ts r).length := (List.getElem?_eq_some_iff.mp ho).1
    have i3 := ix_stT hs hj
    have tk := take_succ ho
    have nj : newest st (j : Int) = if heldAt st j = true then (tagsAt st j).take 1 else [] := by unfold newest; rfl
    unfold stT
    try simp only [wpS, wpT, wpE, wpO, wpEs, wpAs, wpL, wpC, wpI, wpG, wpPar, wpSE, brwW, slotV, slotA, List.getElem?_cons_zero, List.getElem?_cons_succ, List.set_cons_zero, List.set_cons_succ, drf_int, drf_bl, drf_non, drf_str, drf_tup, drf_lst, drf_scr, drf_set, drf_ty, drf_ins, drf_glo, drf_0, ixL0, ixL1, ixL2, ixL3, ixL4, ixT0, ixT1, ixT2, ixAt0, ixAt1, ixAt2, ixAt3, ixAt4, tru_bl, tru_int, tru_tup, tru_lst, c_eq_int, c_ne_int, c_lt, c_le, c_gt, c_ge, c_in2, c_inL, c_inT, c_ninT, c_eq_bl, c_ne_bl, b_len_l, b_len_t, b_len_s, b_abs, b_int, b_tup_l, b_tup_t, b_max, b_min, o_add, o_sub, o_mul, o_fdiv, o_mod, o_pow, o_catT, o_catL, o_repT, o_repL, o_repL2, s_tupX, s_lstX, s_scrX, q_tup, q_lst, qi_tup, qi_lst, qi_scr, at_ins, isNon_int, isNon_non, wpN_nx, wpN_ret, wpN_brk, wpN_cnt, trn_nx, trn_cnt, trn_brk, trn_ret, List.map_cons, List.map_nil, List.length_cons, List.length_nil, Nat.zero_add, Nat.reduceAdd, Nat.reduceLT, true_and, and_true, Option.some.injEq, exists_eq_left', exists_eq_left, exists_and_left, Sl.ol.injEq, Sl.v.injEq, Sl.os.injEq, D.int.injEq, D.bl.injEq, D.tup.injEq, D.lst.injEq, D.ref.injEq, Ob.lst.injEq, List.cons.injEq, decide_eq_true_eq, Bool.not_eq_true', decide_eq_false_iff_not, bne_iff_ne, ne_eq, if_true, if_false, Bool.false_eq_true, Bool.true_eq_false, reduceIte, Bool.not_true, Bool.not_false, decide_true, decide_false, not_true_eq_false, not_false_eq_true, ex2, ex3, lim0, lim1, lim2, lim3, lim4, List.cons_append, List.nil_append, List.map, List.replicate]
    refine b_consW ?_
    try simp only [i3, wpS, wpT, wpE, wpO, wpEs, wpAs, wpL, wpC, wpI, wpG, wpPar, wpSE, brwW, slotV, slotA, List.getElem?_cons_zero, List.getElem?_cons_succ, List.set_cons_zero, List.set_cons_succ, drf_int, drf_bl, drf_non, drf_str, drf_tup, drf_lst, drf_scr, drf_set, drf_ty, drf_ins, drf_glo, drf_0, ixL0, ixL1, ixL2, ixL3, ixL4, ixT0, ixT1, ixT2, ixAt0, ixAt1, ixAt2, ixAt3, ixAt4, tru_bl, tru_int, tru_tup, tru_lst, c_eq_int, c_ne_int, c_lt, c_le, c_gt, c_ge, c_in2, c_inL, c_inT, c_ninT, c_eq_bl, c_ne_bl, b_len_l, b_len_t, b_len_s, b_abs, b_int, b_tup_l, b_tup_t, b_max, b_min, o_add, o_sub, o_mul, o_fdiv, o_mod, o_pow, o_catT, o_catL, o_repT, o_repL, o_repL2, s_tupX, s_lstX, s_scrX, q_tup, q_lst, qi_tup, qi_lst, qi_scr, at_ins, isNon_int, isNon_non, wpN_nx, wpN_ret, wpN_brk, wpN_cnt, trn_nx, trn_cnt, trn_brk, trn_ret, List.map_cons, List.map_nil, List.length_cons, List.length_nil, Nat.zero_add, Nat.reduceAdd, Nat.reduceLT, true_and, and_true, Option.some.injEq, exists_eq_left', exists_eq_left, exists_and_left, Sl.ol.injEq, Sl.v.injEq, Sl.os.injEq, D.int.injEq, D.bl.injEq, D.tup.injEq, D.lst.injEq, D.ref.injEq, Ob.lst.injEq, List.cons.injEq, decide_eq_true_eq, Bool.not_eq_true', decide_eq_false_iff_not, bne_iff_ne, ne_eq, if_true, if_false, Bool.false_eq_true, Bool.true_eq_false, reduceIte, Bool.not_true, Bool.not_false, decide_true, decide_false, not_true_eq_false, not_false_eq_true, ex2, ex3, lim0, lim1, lim2, lim3, lim4, List.cons_append, List.nil_append, List.map, List.replicate]
    split
    · rename_i hh
      obtain ⟨t, l', e⟩ := hs.newAt hh
      refine b_consW ?_
      try simp only [i3, e, wpS, wpT, wpE, wpO, wpEs, wpAs, wpL, wpC, wpI, wpG, wpPar, wpSE, brwW, slotV, slotA, List.getElem?_cons_zero, List.getElem?_cons_succ, List.set_cons_zero, List.set_cons_succ, drf_int, drf_bl, drf_non, drf_str, drf_tup, drf_lst, drf_scr, drf_set, drf_ty, drf_ins, drf_glo, drf_0, ixL0, ixL1, ixL2, ixL3, ixL4, ixT0, ixT1, ixT2, ixAt0, ixAt1, ixAt2, ixAt3, ixAt4, tru_bl, tru_int, tru_tup, tru_lst, c_eq_int, c_ne_int, c_lt, c_le, c_gt, c_ge, c_in2, c_inL, c_inT, c_ninT, c_eq_bl, c_ne_bl, b_len_l, b_len_t, b_len_s, b_abs, b_int, b_tup_l, b_tup_t, b_max, b_min, o_add, o_sub, o_mul, o_fdiv, o_mod, o_pow, o_catT, o_catL, o_repT, o_repL, o_repL2, s_tupX, s_lstX, s_scrX, q_tup, q_lst, qi_tup, qi_lst, qi_scr, at_ins, isNon_int, isNon_non, wpN_nx, wpN_ret, wpN_brk, wpN_cnt, trn_nx, trn_cnt, trn_brk, trn_ret, List.map_cons, List.map_nil, List.length_cons, List.length_nil, Nat.zero_add, Nat.reduceAdd, Nat.reduceLT, true_and, and_true, Option.some.injEq, exists_eq_left', exists_eq_left, exists_and_left, Sl.ol.injEq, Sl.v.injEq, Sl.os.injEq, D.int.injEq, D.bl.injEq, D.tup.injEq, D.lst.injEq, D.ref.injEq, Ob.lst.injEq, List.cons.injEq, decide_eq_true_eq, Bool.not_eq_true', decide_eq_false_iff_not, bne_iff_ne, ne_eq, if_true, if_false, Bool.false_eq_true, Bool.true_eq_false, reduceIte, Bool.not_true, Bool.not_false, decide_true, decide_false, not_true_eq_false, not_false_eq_true, ex2, ex3, lim0, lim1, lim2, lim3, lim4, List.cons_append, List.nil_append, List.map, List.replicate]
      refine ⟨by omega, b_nilN (b_nilW ⟨rfl, _, some (.v (.int (j : Int))), rfl, fun t' => ?_, by have := len_addS (x := t) (l := l); omega⟩)⟩
      rw [mem_addS, m1, tk, List.flatMap_append]
      simp [nj, hh, e]
      constructor
      · rintro (h | h | h) <;> simp [h]
      · rintro (h | h | h) <;> simp [h]
    · rename_i hh
      refine b_nilN (b_nilW ⟨rfl, l, some (.v (.int (j : Int))), rfl, fun t' => ?_, by omega⟩)
      rw [m1, tk, List.flatMap_append]
      simp [nj, hh]
  · rintro f E S' ⟨rfl, rfl, l, x4, rfl, m1, m2⟩
    rw [wpN_nx]
    refine b_consW ?_
    try simp only [wpS, wpT, wpE, wpO, wpEs, wpAs, wpL, wpC, wpI, wpG, wpPar, wpSE, brwW, slotV, slotA, List.getElem?_cons_zero, List.getElem?_cons_succ, List.set_cons_zero, List.set_cons_succ, drf_int, drf_bl, drf_non, drf_str, drf_tup, drf_lst, drf_scr, drf_set, drf_ty, drf_ins, drf_glo, drf_0, ixL0, ixL1, ixL2, ixL3, ixL4, ixT0, ixT1, ixT2, ixAt0, ixAt1, ixAt2, ixAt3, ixAt4, tru_bl, tru_int, tru_tup, tru_lst, c_eq_int, c_ne_int, c_lt, c_le, c_gt, c_ge, c_in2, c_inL, c_inT, c_ninT, c_eq_bl, c_ne_bl, b_len_l, b_len_t, b_len_s, b_abs, b_int, b_tup_l, b_tup_t, b_max, b_min, o_add, o_sub, o_mul, o_fdiv, o_mod, o_pow, o_catT, o_catL, o_repT, o_repL, o_repL2, s_tupX, s_lstX, s_scrX, q_tup, q_lst, qi_tup, qi_lst, qi_scr, at_ins, isNon_int, isNon_non, wpN_nx, wpN_ret, wpN_brk, wpN_cnt, trn_nx, trn_cnt, trn_brk, trn_ret, List.map_cons, List.map_nil, List.length_cons, List.length_nil, Nat.zero_add, Nat.reduceAdd, Nat.reduceLT, true_and, and_true, Option.some.injEq, exists_eq_left', exists_eq_left, exists_and_left, Sl.ol.injEq, Sl.v.injEq, Sl.os.injEq, D.int.injEq, D.bl.injEq, D.tup.injEq, D.lst.injEq, D.ref.injEq, Ob.lst.injEq, List.cons.injEq, decide_eq_true_eq, Bool.not_eq_true', decide_eq_false_iff_not, bne_iff_ne, ne_eq, if_true, if_false, Bool.false_eq_true, Bool.true_eq_false, reduceIte, Bool.not_true, Bool.not_false, decide_true, decide_false, not_true_eq_false, not_false_eq_true, ex2, ex3, lim0, lim1, lim2, lim3, lim4, List.cons_append, List.nil_append, List.map, List.replicate]
    refine .inr ⟨_, rfl, by omega, _, rfl, fun t => ?_⟩
    rw [mem_sortI, m1, List.take_length]
    rfl
end Qv.Law
set_option Elab.async false
set_option linter.all false
set_option maxRecDepth 100000
set_option maxHeartbeats 4000000
namespace Qv.Law
open Qv PySem

def st0 (n : Nat) : St := List.replicate n (false, [])
def runW (ms : List Nat) (ds : List Deed) : St := ds.foldl (doneW ms) (st0 ms.length)
theorem runW_take {ms : List Nat} {ds : List Deed} {i : Nat} {d : Deed} (e : ds[i]? = some d) : runW ms (ds.take (i + 1)) = doneW ms (runW ms (ds.take i)) d := by
  unfold runW
  rw [take_succ e, List.foldl_append]
  rfl
theorem runW_ok {ms : List Nat} {ds : List Deed} : ∀ i, i ≤ ds.length → StOk i ms.length (runW ms (ds.take i))
  | 0, _ => start_St
  | i + 1, h => by
    rw [runW_take (List.getElem?_eq_getElem (by omega))]
    exact (runW_ok i (by omega)).doneW _
def StandI (ms : List Nat) (ts : List (Nat × Nat)) (ds : List Deed) (S : Sh) (i : Nat) (E : En) (S' : Sh) : Prop := S' = S ∧ ∃ x3, E = [some (.v (webD ms ts)), some (.v (pastD ds)), some (.v (stT (runW ms (ds.take i)))), x3]
def StandM (ms : List Nat) (ts : List (Nat × Nat)) (ds : List Deed) (S : Sh) (f : Fl) (E : En) (S' : Sh) : Prop := f = .nx ∧ StandI ms ts ds S ds.length E S'
theorem raw_standing_ok {C : Calls} {k : Nat} (hC : C.fn = callAt L.pg (k + 3)) {ms : List Nat} {ts : List (Nat × Nat)} (hp : PartsOk ms ts) {ds : List Deed} (hd : ∀ d ∈ ds, d.room < ms.length) (h5 : ds.length ≤ 500) (S : Sh) : Ok (C.fn 0 [webD ms ts, pastD ds] S) fun x S' => x = stT (runW ms ds) ∧ S' = S := by
  rw [hC]
  refine fn_W (fn := f_raw_standing_of) rfl rfl ?_
  unfold f_raw_standing_of b_raw_standing_of
  refine b_consW ?_
  try simp only [wpS, wpT, wpE, wpO, wpEs, wpAs, wpL, wpC, wpI, wpG, wpPar, wpSE, brwW, slotV, slotA, List.getElem?_cons_zero, List.getElem?_cons_succ, List.set_cons_zero, List.set_cons_succ, drf_int, drf_bl, drf_non, drf_str, drf_tup, drf_lst, drf_scr, drf_set, drf_ty, drf_ins, drf_glo, drf_0, ixL0, ixL1, ixL2, ixL3, ixL4, ixT0, ixT1, ixT2, ixAt0, ixAt1, ixAt2, ixAt3, ixAt4, tru_bl, tru_int, tru_tup, tru_lst, c_eq_int, c_ne_int, c_lt, c_le, c_gt, c_ge, c_in2, c_inL, c_inT, c_ninT, c_eq_bl, c_ne_bl, b_len_l, b_len_t, b_len_s, b_abs, b_int, b_tup_l, b_tup_t, b_max, b_min, o_add, o_sub, o_mul, o_fdiv, o_mod, o_pow, o_catT, o_catL, o_repT, o_repL, o_repL2, s_tupX, s_lstX, s_scrX, q_tup, q_lst, qi_tup, qi_lst, qi_scr, at_ins, isNon_int, isNon_non, wpN_nx, wpN_ret, wpN_brk, wpN_cnt, trn_nx, trn_cnt, trn_brk, trn_ret, List.map_cons, List.map_nil, List.length_cons, List.length_nil, Nat.zero_add, Nat.reduceAdd, Nat.reduceLT, true_and, and_true, Option.some.injEq, exists_eq_left', exists_eq_left, exists_and_left, Sl.ol.injEq, Sl.v.injEq, Sl.os.injEq, D.int.injEq, D.bl.injEq, D.tup.injEq, D.lst.injEq, D.ref.injEq, Ob.lst.injEq, List.cons.injEq, decide_eq_true_eq, Bool.not_eq_true', decide_eq_false_iff_not, bne_iff_ne, ne_eq, if_true, if_false, Bool.false_eq_true, Bool.true_eq_false, reduceIte, Bool.not_true, Bool.not_false, decide_true, decide_false, not_true_eq_false, not_false_eq_true, ex2, ex3, lim0, lim1, lim2, lim3, lim4, List.cons_append, List.nil_append, List.map, List.replicate]
  refine (begun_ok (C := L.pg.calls (k + 2)) rfl hp S).mono fun x S1 ⟨e1, e2⟩ => ?_
  subst e1 e2
  refine b_consR (StandM ms ts ds S1) ?_ ?_
  · unfold pastD
    try simp only [wpS, wpT, wpE, wpO, wpEs, wpAs, wpL, wpC, wpI, wpG, wpPar, wpSE, brwW, slotV, slotA, List.getElem?_cons_zero, List.getElem?_cons_succ, List.set_cons_zero, List.set_cons_succ, drf_int, drf_bl, drf_non, drf_str, drf_tup, drf_lst, drf_scr, drf_set, drf_ty, drf_ins, drf_glo, drf_0, ixL0, ixL1, ixL2, ixL3, ixL4, ixT0, ixT1, ixT2, ixAt0, ixAt1, ixAt2, ixAt3, ixAt4, tru_bl, tru_int, tru_tup, tru_lst, c_eq_int, c_ne_int, c_lt, c_le, c_gt, c_ge, c_in2, c_inL, c_inT, c_ninT, c_eq_bl, c_ne_bl, b_len_l, b_len_t, b_len_s, b_abs, b_int, b_tup_l, b_tup_t, b_max, b_min, o_add, o_sub, o_mul, o_fdiv, o_mod, o_pow, o_catT, o_catL, o_repT, o_repL, o_repL2, s_tupX, s_lstX, s_scrX, q_tup, q_lst, qi_tup, qi_lst, qi_scr, at_ins, isNon_int, isNon_non, wpN_nx, wpN_ret, wpN_brk, wpN_cnt, trn_nx, trn_cnt, trn_brk, trn_ret, List.map_cons, List.map_nil, List.length_cons, List.length_nil, Nat.zero_add, Nat.reduceAdd, Nat.reduceLT, true_and, and_true, Option.some.injEq, exists_eq_left', exists_eq_left, exists_and_left, Sl.ol.injEq, Sl.v.injEq, Sl.os.injEq, D.int.injEq, D.bl.injEq, D.tup.injEq, D.lst.injEq, D.ref.injEq, Ob.lst.injEq, List.cons.injEq, decide_eq_true_eq, Bool.not_eq_true', decide_eq_false_iff_not, bne_iff_ne, ne_eq, if_true, if_false, Bool.false_eq_true, Bool.true_eq_false, reduceIte, Bool.not_true, Bool.not_false, decide_true, decide_false, not_true_eq_false, not_false_eq_true, ex2, ex3, lim0, lim1, lim2, lim3, lim4, List.cons_append, List.nil_append, List.map, List.replicate]
    refine for_W (I := StandI ms ts ds S1) _ ⟨rfl, _, rfl⟩ (fun i x E S' hx ⟨e1, x3, e2⟩ => ?_) (fun E S' h => ⟨rfl, by rw [List.length_map] at h; exact h⟩)
    subst e1 e2
    rw [List.getElem?_map] at hx
    obtain ⟨d, he, rfl⟩ := Option.map_eq_some_iff.mp hx
    have hi : i < ds.length := (List.getElem?_eq_some_iff.mp he).1
    try simp only [wpS, wpT, wpE, wpO, wpEs, wpAs, wpL, wpC, wpI, wpG, wpPar, wpSE, brwW, slotV, slotA, List.getElem?_cons_zero, List.getElem?_cons_succ, List.set_cons_zero, List.set_cons_succ, drf_int, drf_bl, drf_non, drf_str, drf_tup, drf_lst, drf_scr, drf_set, drf_ty, drf_ins, drf_glo, drf_0, ixL0, ixL1, ixL2, ixL3, ixL4, ixT0, ixT1, ixT2, ixAt0, ixAt1, ixAt2, ixAt3, ixAt4, tru_bl, tru_int, tru_tup, tru_lst, c_eq_int, c_ne_int, c_lt, c_le, c_gt, c_ge, c_in2, c_inL, c_inT, c_ninT, c_eq_bl, c_ne_bl, b_len_l, b_len_t, b_len_s, b_abs, b_int, b_tup_l, b_tup_t, b_max, b_min, o_add, o_sub, o_mul, o_fdiv, o_mod, o_pow, o_catT, o_catL, o_repT, o_repL, o_repL2, s_tupX, s_lstX, s_scrX, q_tup, q_lst, qi_tup, qi_lst, qi_scr, at_ins, isNon_int, isNon_non, wpN_nx, wpN_ret, wpN_brk, wpN_cnt, trn_nx, trn_cnt, trn_brk, trn_ret, List.map_cons, List.map_nil, List.length_cons, List.length_nil, Nat.zero_add, Nat.reduceAdd, Nat.reduceLT, true_and, and_true, Option.some.injEq, exists_eq_left', exists_eq_left, exists_and_left, Sl.ol.injEq, Sl.v.injEq, Sl.os.injEq, D.int.injEq, D.bl.injEq, D.tup.injEq, D.lst.injEq, D.ref.injEq, Ob.lst.injEq, List.cons.injEq, decide_eq_true_eq, Bool.not_eq_true', decide_eq_false_iff_not, bne_iff_ne, ne_eq, if_true, if_false, Bool.false_eq_true, Bool.true_eq_false, reduceIte, Bool.not_true, Bool.not_false, decide_true, decide_false, not_true_eq_false, not_false_eq_true, ex2, ex3, lim0, lim1, lim2, lim3, lim4, List.cons_append, List.nil_append, List.map, List.replicate]
    refine b_consW ?_
    try simp only [wpS, wpT, wpE, wpO, wpEs, wpAs, wpL, wpC, wpI, wpG, wpPar, wpSE, brwW, slotV, slotA, List.getElem?_cons_zero, List.getElem?_cons_succ, List.set_cons_zero, List.set_cons_succ, drf_int, drf_bl, drf_non, drf_str, drf_tup, drf_lst, drf_scr, drf_set, drf_ty, drf_ins, drf_glo, drf_0, ixL0, ixL1, ixL2, ixL3, ixL4, ixT0, ixT1, ixT2, ixAt0, ixAt1, ixAt2, ixAt3, ixAt4, tru_bl, tru_int, tru_tup, tru_lst, c_eq_int, c_ne_int, c_lt, c_le, c_gt, c_ge, c_in2, c_inL, c_inT, c_ninT, c_eq_bl, c_ne_bl, b_len_l, b_len_t, b_len_s, b_abs, b_int, b_tup_l, b_tup_t, b_max, b_min, o_add, o_sub, o_mul, o_fdiv, o_mod, o_pow, o_catT, o_catL, o_repT, o_repL, o_repL2, s_tupX, s_lstX, s_scrX, q_tup, q_lst, qi_tup, qi_lst, qi_scr, at_ins, isNon_int, isNon_non, wpN_nx, wpN_ret, wpN_brk, wpN_cnt, trn_nx, trn_cnt, trn_brk, trn_ret, List.map_cons, List.map_nil, List.length_cons, List.length_nil, Nat.zero_add, Nat.reduceAdd, Nat.reduceLT, true_and, and_true, Option.some.injEq, exists_eq_left', exists_eq_left, exists_and_left, Sl.ol.injEq, Sl.v.injEq, Sl.os.injEq, D.int.injEq, D.bl.injEq, D.tup.injEq, D.lst.injEq, D.ref.injEq, Ob.lst.injEq, List.cons.injEq, decide_eq_true_eq, Bool.not_eq_true', decide_eq_false_iff_not, bne_iff_ne, ne_eq, if_true, if_false, Bool.false_eq_true, Bool.true_eq_false, reduceIte, Bool.not_true, Bool.not_false, decide_true, decide_false, not_true_eq_false, not_false_eq_true, ex2, ex3, lim0, lim1, lim2, lim3, lim4, List.cons_append, List.nil_append, List.map, List.replicate]
    refine (after_ok (C := L.pg.calls (k + 2)) rfl hp (runW_ok (ms := ms) i (by omega)) (by omega) (hd d (List.mem_of_getElem? he)) S').mono fun x S2 ⟨e1, e2⟩ => ?_
    subst e1 e2
    exact b_nilW ⟨rfl, some (.v (deedD d)), by rw [runW_take he]⟩
  · rintro f E S' ⟨rfl, rfl, x3, rfl⟩
    rw [wpN_nx, List.take_length]
    refine b_consW ?_
    try simp only [wpS, wpT, wpE, wpO, wpEs, wpAs, wpL, wpC, wpI, wpG, wpPar, wpSE, brwW, slotV, slotA, List.getElem?_cons_zero, List.getElem?_cons_succ, List.set_cons_zero, List.set_cons_succ, drf_int, drf_bl, drf_non, drf_str, drf_tup, drf_lst, drf_scr, drf_set, drf_ty, drf_ins, drf_glo, drf_0, ixL0, ixL1, ixL2, ixL3, ixL4, ixT0, ixT1, ixT2, ixAt0, ixAt1, ixAt2, ixAt3, ixAt4, tru_bl, tru_int, tru_tup, tru_lst, c_eq_int, c_ne_int, c_lt, c_le, c_gt, c_ge, c_in2, c_inL, c_inT, c_ninT, c_eq_bl, c_ne_bl, b_len_l, b_len_t, b_len_s, b_abs, b_int, b_tup_l, b_tup_t, b_max, b_min, o_add, o_sub, o_mul, o_fdiv, o_mod, o_pow, o_catT, o_catL, o_repT, o_repL, o_repL2, s_tupX, s_lstX, s_scrX, q_tup, q_lst, qi_tup, qi_lst, qi_scr, at_ins, isNon_int, isNon_non, wpN_nx, wpN_ret, wpN_brk, wpN_cnt, trn_nx, trn_cnt, trn_brk, trn_ret, List.map_cons, List.map_nil, List.length_cons, List.length_nil, Nat.zero_add, Nat.reduceAdd, Nat.reduceLT, true_and, and_true, Option.some.injEq, exists_eq_left', exists_eq_left, exists_and_left, Sl.ol.injEq, Sl.v.injEq, Sl.os.injEq, D.int.injEq, D.bl.injEq, D.tup.injEq, D.lst.injEq, D.ref.injEq, Ob.lst.injEq, List.cons.injEq, decide_eq_true_eq, Bool.not_eq_true', decide_eq_false_iff_not, bne_iff_ne, ne_eq, if_true, if_false, Bool.false_eq_true, Bool.true_eq_false, reduceIte, Bool.not_true, Bool.not_false, decide_true, decide_false, not_true_eq_false, not_false_eq_true, ex2, ex3, lim0, lim1, lim2, lim3, lim4, List.cons_append, List.nil_append, List.map, List.replicate]
theorem standing_ok {C : Calls} {k : Nat} (hC : C.fn = callAt L.pg (k + 4)) {ms : List Nat} {ts : List (Nat × Nat)} (hp : PartsOk ms ts) {ds : List Deed} (hd : ∀ d ∈ ds, d.room < ms.length) (h5 : ds.length ≤ 500) (S : Sh) : Ok (C.fn 1 [webD ms ts, pastD ds] S) fun x S' => x = stT (runW ms ds) ∧ S' = S := by
  rw [hC]
  refine fn_W (fn := f_standing_of) rfl rfl ?_
  unfold f_standing_of b_standing_of
  refine b_consW ?_
  try simp only [wpS, wpT, wpE, wpO, wpEs, wpAs, wpL, wpC, wpI, wpG, wpPar, wpSE, brwW, slotV, slotA, List.getElem?_cons_zero, List.getElem?_cons_succ, List.set_cons_zero, List.set_cons_succ, drf_int, drf_bl, drf_non, drf_str, drf_tup, drf_lst, drf_scr, drf_set, drf_ty, drf_ins, drf_glo, drf_0, ixL0, ixL1, ixL2, ixL3, ixL4, ixT0, ixT1, ixT2, ixAt0, ixAt1, ixAt2, ixAt3, ixAt4, tru_bl, tru_int, tru_tup, tru_lst, c_eq_int, c_ne_int, c_lt, c_le, c_gt, c_ge, c_in2, c_inL, c_inT, c_ninT, c_eq_bl, c_ne_bl, b_len_l, b_len_t, b_len_s, b_abs, b_int, b_tup_l, b_tup_t, b_max, b_min, o_add, o_sub, o_mul, o_fdiv, o_mod, o_pow, o_catT, o_catL, o_repT, o_repL, o_repL2, s_tupX, s_lstX, s_scrX, q_tup, q_lst, qi_tup, qi_lst, qi_scr, at_ins, isNon_int, isNon_non, wpN_nx, wpN_ret, wpN_brk, wpN_cnt, trn_nx, trn_cnt, trn_brk, trn_ret, List.map_cons, List.map_nil, List.length_cons, List.length_nil, Nat.zero_add, Nat.reduceAdd, Nat.reduceLT, true_and, and_true, Option.some.injEq, exists_eq_left', exists_eq_left, exists_and_left, Sl.ol.injEq, Sl.v.injEq, Sl.os.injEq, D.int.injEq, D.bl.injEq, D.tup.injEq, D.lst.injEq, D.ref.injEq, Ob.lst.injEq, List.cons.injEq, decide_eq_true_eq, Bool.not_eq_true', decide_eq_false_iff_not, bne_iff_ne, ne_eq, if_true, if_false, Bool.false_eq_true, Bool.true_eq_false, reduceIte, Bool.not_true, Bool.not_false, decide_true, decide_false, not_true_eq_false, not_false_eq_true, ex2, ex3, lim0, lim1, lim2, lim3, lim4, List.cons_append, List.nil_append, List.map, List.replicate]
  exact raw_standing_ok (C := L.pg.calls (k + 3)) rfl hp hd h5 S
/-! ### the first barred giving -/
def bad (ms : List Nat) (ts : List (Nat × Nat)) (st : St) : Deed → Bool
  | .give r t => decide (t ∈ barsL ms ts st r)
  | .back _ => false
def fb (ms : List Nat) (ts : List (Nat × Nat)) : St → Nat → List Deed → Option Nat
  | _, _, [] => none
  | st, n, d :: ds => if bad ms ts st d = true then some n else fb ms ts (doneW ms st d) (n + 1) ds
def optD : Option Nat → D
  | none => .non
  | some n => .int (n : Int)
theorem drop_at {α : Type} {xs : List α} {i : Nat} {x : α} (e : xs[i]? = some x) : xs.drop i = x :: xs.drop (i + 1) := by
  obtain ⟨h, rfl⟩ := List.getElem?_eq_some_iff.mp e
  exact List.drop_eq_getElem_cons h
def FirstR (ms : List Nat) (ts : List (Nat × Nat)) (ds : List Deed) (S : Sh) (d : D) (S' : Sh) : Prop := d = optD (fb ms ts (st0 ms.length) 0 ds) ∧ S' = S
def FirstI (ms : List Nat) (ts : List (Nat × Nat)) (ds : List Deed) (S : Sh) (i : Nat) (E : En) (S' : Sh) : Prop := S' = S ∧ (∃ x3 x4, E = [some (.v (webD ms ts)), some (.v (pastD ds)), some (.v (stT (runW ms (ds.take i)))), x3, x4]) ∧ fb ms ts (st0 ms.length) 0 ds = fb ms ts (runW ms (ds.take i)) i (ds.drop i)
def FirstM (ms : List Nat) (ts : List (Nat × Nat)) (ds : List Deed) (S : Sh) (f : Fl) (E : En) (S' : Sh) : Prop := (f = .nx ∧ FirstI ms ts ds S ds.length E S') ∨ (∃ d, f = .ret d ∧ FirstR ms ts ds S d S')
theorem first_ok {C : Calls} {k : Nat} (hC : C.fn = callAt L.pg (k + 3)) {ms : List Nat} {ts : List (Nat × Nat)} (hp : PartsOk ms ts) (h8 : ms.length ≤ 8) {ds : List Deed} (hd : ∀ d ∈ ds, d.room < ms.length) (h5 : ds.length ≤ 500) (S : Sh) : Ok (C.fn 8 [webD ms ts, pastD ds] S) (FirstR ms ts ds S) := by
  rw [hC]
  refine fn_W (fn := f_first_barred) rfl rfl ?_
  unfold f_first_barred b_first_barred
  refine b_consW ?_
  try simp only [wpS, wpT, wpE, wpO, wpEs, wpAs, wpL, wpC, wpI, wpG, wpPar, wpSE, brwW, slotV, slotA, List.getElem?_cons_zero, List.getElem?_cons_succ, List.set_cons_zero, List.set_cons_succ, drf_int, drf_bl, drf_non, drf_str, drf_tup, drf_lst, drf_scr, drf_set, drf_ty, drf_ins, drf_glo, drf_0, ixL0, ixL1, ixL2, ixL3, ixL4, ixT0, ixT1, ixT2, ixAt0, ixAt1, ixAt2, ixAt3, ixAt4, tru_bl, tru_int, tru_tup, tru_lst, c_eq_int, c_ne_int, c_lt, c_le, c_gt, c_ge, c_in2, c_inL, c_inT, c_ninT, c_eq_bl, c_ne_bl, b_len_l, b_len_t, b_len_s, b_abs, b_int, b_tup_l, b_tup_t, b_max, b_min, o_add, o_sub, o_mul, o_fdiv, o_mod, o_pow, o_catT, o_catL, o_repT, o_repL, o_repL2, s_tupX, s_lstX, s_scrX, q_tup, q_lst, qi_tup, qi_lst, qi_scr, at_ins, isNon_int, isNon_non, wpN_nx, wpN_ret, wpN_brk, wpN_cnt, trn_nx, trn_cnt, trn_brk, trn_ret, List.map_cons, List.map_nil, List.length_cons, List.length_nil, Nat.zero_add, Nat.reduceAdd, Nat.reduceLT, true_and, and_true, Option.some.injEq, exists_eq_left', exists_eq_left, exists_and_left, Sl.ol.injEq, Sl.v.injEq, Sl.os.injEq, D.int.injEq, D.bl.injEq, D.tup.injEq, D.lst.injEq, D.ref.injEq, Ob.lst.injEq, List.cons.injEq, decide_eq_true_eq, Bool.not_eq_true', decide_eq_false_iff_not, bne_iff_ne, ne_eq, if_true, if_false, Bool.false_eq_true, Bool.true_eq_false, reduceIte, Bool.not_true, Bool.not_false, decide_true, decide_false, not_true_eq_false, not_false_eq_true, ex2, ex3, lim0, lim1, lim2, lim3, lim4, List.cons_append, List.nil_append, List.map, List.replicate]
  refine (begun_ok (C := L.pg.calls (k + 2)) rfl hp S).mono fun x S1 ⟨e1, e2⟩ => ?_
  subst e1 e2
  refine b_consR (FirstM ms ts ds S1) ?_ ?_
  · unfold pastD
    try simp only [wpS, wpT, wpE, wpO, wpEs, wpAs, wpL, wpC, wpI, wpG, wpPar, wpSE, brwW, slotV, slotA, List.getElem?_cons_zero, List.getElem?_cons_succ, List.set_cons_zero, List.set_cons_succ, drf_int, drf_bl, drf_non, drf_str, drf_tup, drf_lst, drf_scr, drf_set, drf_ty, drf_ins, drf_glo, drf_0, ixL0, ixL1, ixL2, ixL3, ixL4, ixT0, ixT1, ixT2, ixAt0, ixAt1, ixAt2, ixAt3, ixAt4, tru_bl, tru_int, tru_tup, tru_lst, c_eq_int, c_ne_int, c_lt, c_le, c_gt, c_ge, c_in2, c_inL, c_inT, c_ninT, c_eq_bl, c_ne_bl, b_len_l, b_len_t, b_len_s, b_abs, b_int, b_tup_l, b_tup_t, b_max, b_min, o_add, o_sub, o_mul, o_fdiv, o_mod, o_pow, o_catT, o_catL, o_repT, o_repL, o_repL2, s_tupX, s_lstX, s_scrX, q_tup, q_lst, qi_tup, qi_lst, qi_scr, at_ins, isNon_int, isNon_non, wpN_nx, wpN_ret, wpN_brk, wpN_cnt, trn_nx, trn_cnt, trn_brk, trn_ret, List.map_cons, List.map_nil, List.length_cons, List.length_nil, Nat.zero_add, Nat.reduceAdd, Nat.reduceLT, true_and, and_true, Option.some.injEq, exists_eq_left', exists_eq_left, exists_and_left, Sl.ol.injEq, Sl.v.injEq, Sl.os.injEq, D.int.injEq, D.bl.injEq, D.tup.injEq, D.lst.injEq, D.ref.injEq, Ob.lst.injEq, List.cons.injEq, decide_eq_true_eq, Bool.not_eq_true', decide_eq_false_iff_not, bne_iff_ne, ne_eq, if_true, if_false, Bool.false_eq_true, Bool.true_eq_false, reduceIte, Bool.not_true, Bool.not_false, decide_true, decide_false, not_true_eq_false, not_false_eq_true, ex2, ex3, lim0, lim1, lim2, lim3, lim4, List.cons_append, List.nil_append, List.map, List.replicate]
    refine for_W (I := FirstI ms ts ds S1) _ ⟨rfl, ⟨_, _, rfl⟩, rfl⟩ (fun i x E S' hx ⟨e1, ⟨x3, x4, e2⟩, hf⟩ => ?_) (fun E S' h => .inl ⟨rfl, by rw [enum_len, List.length_map] at h; exact h⟩)
    subst e1 e2
    rw [enum_at, List.getElem?_map, Option.map_map] at hx
    obtain ⟨d, he, rfl⟩ := Option.map_eq_some_iff.mp hx
    have hi : i < ds.length := (List.getElem?_eq_some_iff.mp he).1
    have so := runW_ok (ms := ms) (ds := ds) i (by omega)
    have hdr := hd d (List.mem_of_getElem? he)
    rw [Nat.zero_add]
    have step : bad ms ts (runW ms (ds.take i)) d = false → wpB (L.pg.calls (k + 2)) (.cons (.asg (.n 2) (.call 6 (.cons (.v 0) (.cons (.v 2) (.cons (.v 4) .nil))))) .nil) [some (.v (webD ms ts)), some (.v (pastD ds)), some (.v (stT (runW ms (ds.take i)))), some (.v (.int (i : Int))), some (.v (deedD d))] S' (trn (FirstI ms ts ds S' (i + 1)) (FirstM ms ts ds S')) := fun hb => by
      refine b_consW ?_
      try simp only [wpS, wpT, wpE, wpO, wpEs, wpAs, wpL, wpC, wpI, wpG, wpPar, wpSE, brwW, slotV, slotA, List.getElem?_cons_zero, List.getElem?_cons_succ, List.set_cons_zero, List.set_cons_succ, drf_int, drf_bl, drf_non, drf_str, drf_tup, drf_lst, drf_scr, drf_set, drf_ty, drf_ins, drf_glo, drf_0, ixL0, ixL1, ixL2, ixL3, ixL4, ixT0, ixT1, ixT2, ixAt0, ixAt1, ixAt2, ixAt3, ixAt4, tru_bl, tru_int, tru_tup, tru_lst, c_eq_int, c_ne_int, c_lt, c_le, c_gt, c_ge, c_in2, c_inL, c_inT, c_ninT, c_eq_bl, c_ne_bl, b_len_l, b_len_t, b_len_s, b_abs, b_int, b_tup_l, b_tup_t, b_max, b_min, o_add, o_sub, o_mul, o_fdiv, o_mod, o_pow, o_catT, o_catL, o_repT, o_repL, o_repL2, s_tupX, s_lstX, s_scrX, q_tup, q_lst, qi_tup, qi_lst, qi_scr, at_ins, isNon_int, isNon_non, wpN_nx, wpN_ret, wpN_brk, wpN_cnt, trn_nx, trn_cnt, trn_brk, trn_ret, List.map_cons, List.map_nil, List.length_cons, List.length_nil, Nat.zero_add, Nat.reduceAdd, Nat.reduceLT, true_and, and_true, Option.some.injEq, exists_eq_left', exists_eq_left, exists_and_left, Sl.ol.injEq, Sl.v.injEq, Sl.os.injEq, D.int.injEq, D.bl.injEq, D.tup.injEq, D.lst.injEq, D.ref.injEq, Ob.lst.injEq, List.cons.injEq, decide_eq_true_eq, Bool.not_eq_true', decide_eq_false_iff_not, bne_iff_ne, ne_eq, if_true, if_false, Bool.false_eq_true, Bool.true_eq_false, reduceIte, Bool.not_true, Bool.not_false, decide_true, decide_false, not_true_eq_false, not_false_eq_true, ex2, ex3, lim0, lim1, lim2, lim3, lim4, List.cons_append, List.nil_append, List.map, List.replicate]
      refine (after_ok (C := L.pg.calls (k + 2)) rfl hp so (by omega) hdr S').mono fun x S2 ⟨e1, e2⟩ => ?_
      subst e1 e2
      refine b_nilW ⟨rfl, ⟨some (.v (.int (i : Int))), some (.v (deedD d)), by rw [runW_take he]⟩, ?_⟩
      rw [hf, drop_at he, runW_take he]
      simp only [fb]
      rw [if_neg (by rw [hb]; decide)]
    try simp only [Function.comp_apply, wpS, wpT, wpE, wpO, wpEs, wpAs, wpL, wpC, wpI, wpG, wpPar, wpSE, brwW, slotV, slotA, List.getElem?_cons_zero, List.getElem?_cons_succ, List.set_cons_zero, List.set_cons_succ, drf_int, drf_bl, drf_non, drf_str, drf_tup, drf_lst, drf_scr, drf_set, drf_ty, drf_ins, drf_glo, drf_0, ixL0, ixL1, ixL2, ixL3, ixL4, ixT0, ixT1, ixT2, ixAt0, ixAt1, ixAt2, ixAt3, ixAt4, tru_bl, tru_int, tru_tup, tru_lst, c_eq_int, c_ne_int, c_lt, c_le, c_gt, c_ge, c_in2, c_inL, c_inT, c_ninT, c_eq_bl, c_ne_bl, b_len_l, b_len_t, b_len_s, b_abs, b_int, b_tup_l, b_tup_t, b_max, b_min, o_add, o_sub, o_mul, o_fdiv, o_mod, o_pow, o_catT, o_catL, o_repT, o_repL, o_repL2, s_tupX, s_lstX, s_scrX, q_tup, q_lst, qi_tup, qi_lst, qi_scr, at_ins, isNon_int, isNon_non, wpN_nx, wpN_ret, wpN_brk, wpN_cnt, trn_nx, trn_cnt, trn_brk, trn_ret, List.map_cons, List.map_nil, List.length_cons, List.length_nil, Nat.zero_add, Nat.reduceAdd, Nat.reduceLT, true_and, and_true, Option.some.injEq, exists_eq_left', exists_eq_left, exists_and_left, Sl.ol.injEq, Sl.v.injEq, Sl.os.injEq, D.int.injEq, D.bl.injEq, D.tup.injEq, D.lst.injEq, D.ref.injEq, Ob.lst.injEq, List.cons.injEq, decide_eq_true_eq, Bool.not_eq_true', decide_eq_false_iff_not, bne_iff_ne, ne_eq, if_true, if_false, Bool.false_eq_true, Bool.true_eq_false, reduceIte, Bool.not_true, Bool.not_false, decide_true, decide_false, not_true_eq_false, not_false_eq_true, ex2, ex3, lim0, lim1, lim2, lim3, lim4, List.cons_append, List.nil_append, List.map, List.replicate]
    refine b_consW ?_
    cases d with
    | give r t =>
      unfold deedD giveD
      try simp only [eqGG, wpS, wpT, wpE, wpO, wpEs, wpAs, wpL, wpC, wpI, wpG, wpPar, wpSE, brwW, slotV, slotA, List.getElem?_cons_zero, List.getElem?_cons_succ, List.set_cons_zero, List.set_cons_succ, drf_int, drf_bl, drf_non, drf_str, drf_tup, drf_lst, drf_scr, drf_set, drf_ty, drf_ins, drf_glo, drf_0, ixL0, ixL1, ixL2, ixL3, ixL4, ixT0, ixT1, ixT2, ixAt0, ixAt1, ixAt2, ixAt3, ixAt4, tru_bl, tru_int, tru_tup, tru_lst, c_eq_int, c_ne_int, c_lt, c_le, c_gt, c_ge, c_in2, c_inL, c_inT, c_ninT, c_eq_bl, c_ne_bl, b_len_l, b_len_t, b_len_s, b_abs, b_int, b_tup_l, b_tup_t, b_max, b_min, o_add, o_sub, o_mul, o_fdiv, o_mod, o_pow, o_catT, o_catL, o_repT, o_repL, o_repL2, s_tupX, s_lstX, s_scrX, q_tup, q_lst, qi_tup, qi_lst, qi_scr, at_ins, isNon_int, isNon_non, wpN_nx, wpN_ret, wpN_brk, wpN_cnt, trn_nx, trn_cnt, trn_brk, trn_ret, List.map_cons, List.map_nil, List.length_cons, List.length_nil, Nat.zero_add, Nat.reduceAdd, Nat.reduceLT, true_and, and_true, Option.some.injEq, exists_eq_left', exists_eq_left, exists_and_left, Sl.ol.injEq, Sl.v.injEq, Sl.os.injEq, D.int.injEq, D.bl.injEq, D.tup.injEq, D.lst.injEq, D.ref.injEq, Ob.lst.injEq, List.cons.injEq, decide_eq_true_eq, Bool.not_eq_true', decide_eq_false_iff_not, bne_iff_ne, ne_eq, if_true, if_false, Bool.false_eq_true, Bool.true_eq_false, reduceIte, Bool.not_true, Bool.not_false, decide_true, decide_false, not_true_eq_false, not_false_eq_true, ex2, ex3, lim0, lim1, lim2, lim3, lim4, List.cons_append, List.nil_append, List.map, List.replicate]
      refine (rbars_ok (C := L.pg.calls (k + 2)) (k := k) rfl hp h8 so (by omega) hdr S').mono fun x S2 ⟨⟨l, e1, hl⟩, e2⟩ => ?_
      subst e1 e2
      try simp only [wpS, wpT, wpE, wpO, wpEs, wpAs, wpL, wpC, wpI, wpG, wpPar, wpSE, brwW, slotV, slotA, List.getElem?_cons_zero, List.getElem?_cons_succ, List.set_cons_zero, List.set_cons_succ, drf_int, drf_bl, drf_non, drf_str, drf_tup, drf_lst, drf_scr, drf_set, drf_ty, drf_ins, drf_glo, drf_0, ixL0, ixL1, ixL2, ixL3, ixL4, ixT0, ixT1, ixT2, ixAt0, ixAt1, ixAt2, ixAt3, ixAt4, tru_bl, tru_int, tru_tup, tru_lst, c_eq_int, c_ne_int, c_lt, c_le, c_gt, c_ge, c_in2, c_inL, c_inT, c_ninT, c_eq_bl, c_ne_bl, b_len_l, b_len_t, b_len_s, b_abs, b_int, b_tup_l, b_tup_t, b_max, b_min, o_add, o_sub, o_mul, o_fdiv, o_mod, o_pow, o_catT, o_catL, o_repT, o_repL, o_repL2, s_tupX, s_lstX, s_scrX, q_tup, q_lst, qi_tup, qi_lst, qi_scr, at_ins, isNon_int, isNon_non, wpN_nx, wpN_ret, wpN_brk, wpN_cnt, trn_nx, trn_cnt, trn_brk, trn_ret, List.map_cons, List.map_nil, List.length_cons, List.length_nil, Nat.zero_add, Nat.reduceAdd, Nat.reduceLT, true_and, and_true, Option.some.injEq, exists_eq_left', exists_eq_left, exists_and_left, Sl.ol.injEq, Sl.v.injEq, Sl.os.injEq, D.int.injEq, D.bl.injEq, D.tup.injEq, D.lst.injEq, D.ref.injEq, Ob.lst.injEq, List.cons.injEq, decide_eq_true_eq, Bool.not_eq_true', decide_eq_false_iff_not, bne_iff_ne, ne_eq, if_true, if_false, Bool.false_eq_true, Bool.true_eq_false, reduceIte, Bool.not_true, Bool.not_false, decide_true, decide_false, not_true_eq_false, not_false_eq_true, ex2, ex3, lim0, lim1, lim2, lim3, lim4, List.cons_append, List.nil_append, List.map, List.replicate]
      split
      · rename_i ht
        refine b_consW ?_
        try simp only [wpS, wpT, wpE, wpO, wpEs, wpAs, wpL, wpC, wpI, wpG, wpPar, wpSE, brwW, slotV, slotA, List.getElem?_cons_zero, List.getElem?_cons_succ, List.set_cons_zero, List.set_cons_succ, drf_int, drf_bl, drf_non, drf_str, drf_tup, drf_lst, drf_scr, drf_set, drf_ty, drf_ins, drf_glo, drf_0, ixL0, ixL1, ixL2, ixL3, ixL4, ixT0, ixT1, ixT2, ixAt0, ixAt1, ixAt2, ixAt3, ixAt4, tru_bl, tru_int, tru_tup, tru_lst, c_eq_int, c_ne_int, c_lt, c_le, c_gt, c_ge, c_in2, c_inL, c_inT, c_ninT, c_eq_bl, c_ne_bl, b_len_l, b_len_t, b_len_s, b_abs, b_int, b_tup_l, b_tup_t, b_max, b_min, o_add, o_sub, o_mul, o_fdiv, o_mod, o_pow, o_catT, o_catL, o_repT, o_repL, o_repL2, s_tupX, s_lstX, s_scrX, q_tup, q_lst, qi_tup, qi_lst, qi_scr, at_ins, isNon_int, isNon_non, wpN_nx, wpN_ret, wpN_brk, wpN_cnt, trn_nx, trn_cnt, trn_brk, trn_ret, List.map_cons, List.map_nil, List.length_cons, List.length_nil, Nat.zero_add, Nat.reduceAdd, Nat.reduceLT, true_and, and_true, Option.some.injEq, exists_eq_left', exists_eq_left, exists_and_left, Sl.ol.injEq, Sl.v.injEq, Sl.os.injEq, D.int.injEq, D.bl.injEq, D.tup.injEq, D.lst.injEq, D.ref.injEq, Ob.lst.injEq, List.cons.injEq, decide_eq_true_eq, Bool.not_eq_true', decide_eq_false_iff_not, bne_iff_ne, ne_eq, if_true, if_false, Bool.false_eq_true, Bool.true_eq_false, reduceIte, Bool.not_true, Bool.not_false, decide_true, decide_false, not_true_eq_false, not_false_eq_true, ex2, ex3, lim0, lim1, lim2, lim3, lim4, List.cons_append, List.nil_append, List.map, List.replicate]
        refine .inr ⟨_, rfl, ?_, rfl⟩
        rw [hf, drop_at he]
        simp only [fb]
        rw [if_pos (show bad ms ts (runW ms (ds.take i)) (.give r t) = true from decide_eq_true ((hl t).mp ht))]
        rfl
      · rename_i ht
        exact b_nilN (step (decide_eq_false fun q => ht ((hl t).mpr q)))
    | back r =>
      unfold deedD backD
      try simp only [eqBG, wpS, wpT, wpE, wpO, wpEs, wpAs, wpL, wpC, wpI, wpG, wpPar, wpSE, brwW, slotV, slotA, List.getElem?_cons_zero, List.getElem?_cons_succ, List.set_cons_zero, List.set_cons_succ, drf_int, drf_bl, drf_non, drf_str, drf_tup, drf_lst, drf_scr, drf_set, drf_ty, drf_ins, drf_glo, drf_0, ixL0, ixL1, ixL2, ixL3, ixL4, ixT0, ixT1, ixT2, ixAt0, ixAt1, ixAt2, ixAt3, ixAt4, tru_bl, tru_int, tru_tup, tru_lst, c_eq_int, c_ne_int, c_lt, c_le, c_gt, c_ge, c_in2, c_inL, c_inT, c_ninT, c_eq_bl, c_ne_bl, b_len_l, b_len_t, b_len_s, b_abs, b_int, b_tup_l, b_tup_t, b_max, b_min, o_add, o_sub, o_mul, o_fdiv, o_mod, o_pow, o_catT, o_catL, o_repT, o_repL, o_repL2, s_tupX, s_lstX, s_scrX, q_tup, q_lst, qi_tup, qi_lst, qi_scr, at_ins, isNon_int, isNon_non, wpN_nx, wpN_ret, wpN_brk, wpN_cnt, trn_nx, trn_cnt, trn_brk, trn_ret, List.map_cons, List.map_nil, List.length_cons, List.length_nil, Nat.zero_add, Nat.reduceAdd, Nat.reduceLT, true_and, and_true, Option.some.injEq, exists_eq_left', exists_eq_left, exists_and_left, Sl.ol.injEq, Sl.v.injEq, Sl.os.injEq, D.int.injEq, D.bl.injEq, D.tup.injEq, D.lst.injEq, D.ref.injEq, Ob.lst.injEq, List.cons.injEq, decide_eq_true_eq, Bool.not_eq_true', decide_eq_false_iff_not, bne_iff_ne, ne_eq, if_true, if_false, Bool.false_eq_true, Bool.true_eq_false, reduceIte, Bool.not_true, Bool.not_false, decide_true, decide_false, not_true_eq_false, not_false_eq_true, ex2, ex3, lim0, lim1, lim2, lim3, lim4, List.cons_append, List.nil_append, List.map, List.replicate]
      exact b_nilN (step rfl)
  · rintro f E S' (⟨rfl, rfl, ⟨x3, x4, rfl⟩, hf⟩ | ⟨d, rfl, h⟩)
    · rw [wpN_nx]
      refine b_consW ?_
      try simp only [wpS, wpT, wpE, wpO, wpEs, wpAs, wpL, wpC, wpI, wpG, wpPar, wpSE, brwW, slotV, slotA, List.getElem?_cons_zero, List.getElem?_cons_succ, List.set_cons_zero, List.set_cons_succ, drf_int, drf_bl, drf_non, drf_str, drf_tup, drf_lst, drf_scr, drf_set, drf_ty, drf_ins, drf_glo, drf_0, ixL0, ixL1, ixL2, ixL3, ixL4, ixT0, ixT1, ixT2, ixAt0, ixAt1, ixAt2, ixAt3, ixAt4, tru_bl, tru_int, tru_tup, tru_lst, c_eq_int, c_ne_int, c_lt, c_le, c_gt, c_ge, c_in2, c_inL, c_inT, c_ninT, c_eq_bl, c_ne_bl, b_len_l, b_len_t, b_len_s, b_abs, b_int, b_tup_l, b_tup_t, b_max, b_min, o_add, o_sub, o_mul, o_fdiv, o_mod, o_pow, o_catT, o_catL, o_repT, o_repL, o_repL2, s_tupX, s_lstX, s_scrX, q_tup, q_lst, qi_tup, qi_lst, qi_scr, at_ins, isNon_int, isNon_non, wpN_nx, wpN_ret, wpN_brk, wpN_cnt, trn_nx, trn_cnt, trn_brk, trn_ret, List.map_cons, List.map_nil, List.length_cons, List.length_nil, Nat.zero_add, Nat.reduceAdd, Nat.reduceLT, true_and, and_true, Option.some.injEq, exists_eq_left', exists_eq_left, exists_and_left, Sl.ol.injEq, Sl.v.injEq, Sl.os.injEq, D.int.injEq, D.bl.injEq, D.tup.injEq, D.lst.injEq, D.ref.injEq, Ob.lst.injEq, List.cons.injEq, decide_eq_true_eq, Bool.not_eq_true', decide_eq_false_iff_not, bne_iff_ne, ne_eq, if_true, if_false, Bool.false_eq_true, Bool.true_eq_false, reduceIte, Bool.not_true, Bool.not_false, decide_true, decide_false, not_true_eq_false, not_false_eq_true, ex2, ex3, lim0, lim1, lim2, lim3, lim4, List.cons_append, List.nil_append, List.map, List.replicate]
      unfold FirstR
      rw [hf, List.drop_length]
      exact ⟨rfl, rfl⟩
    · exact h
/-! ### looks -/
abbrev Lg := List (List Int)
def logAt (lg : Lg) (r : Nat) : List Int := lg[r]?.getD []
def tagD (l : List Int) : D := .tup (l.map .int)
/-- each held room has a tag, in the state and in the log -/
structure LgOk (n : Nat) (st : St) (lg : Lg) : Prop where
  len : lg.length = n
  few : ∀ r, (logAt lg r).length ≤ 500
  tag : ∀ r, heldAt st r = true → logAt lg r ≠ []
def Look1 (st : St) (lg : Lg) (r : Nat) (o : Int) : Prop := heldAt st r = true ∧ heldAt st o.toNat = true ∧ (tagsAt st o.toNat)[0]? = (logAt lg r)[0]?
def Look2 (st : St) (lg : Lg) (r a : Nat) : Prop := heldAt st r = true ∧ (tagsAt st r)[0]? = (logAt lg r)[a]?
def Look (ms : List Nat) (ts : List (Nat × Nat)) (st : St) (lg : Lg) (r : Nat) : Prop := (∃ o ∈ nearL ts r, Look1 st lg r o) ∨ ∃ a, 0 < a ∧ a ≤ memAt ms r ∧ a < (logAt lg r).length ∧ Look2 st lg r a
theorem LgOk.at {n : Nat} {st : St} {lg : Lg} (h : LgOk n st lg) {r : Nat} (hr : r < n) : ixD (.lst (lg.map tagD)) (.int (r : Int)) = some (.tup ((logAt lg r).map .int)) := ixLn (by
  rw [List.getElem?_map]
  unfold logAt
  rw [List.getElem?_eq_getElem (by rw [h.len]; exact hr)]
  rfl)
/-- what was found so far is something just when P -/
def Fnd (xs : List D) (P : Prop) (N : Nat) : Prop := (xs ≠ [] ↔ P) ∧ xs.length ≤ N
theorem Fnd.app {xs : List D} {P : Prop} {N : Nat} {d : D} (h : Fnd xs P N) {Q : Prop} (q : Q) : Fnd (xs ++ [d]) (P ∨ Q) (N + 1) := ⟨⟨fun _ => .inr q, fun _ => by simp⟩, by rw [List.length_append]; have := h.2; simp; omega⟩
theorem Fnd.not {xs : List D} {P : Prop} {N : Nat} (h : Fnd xs P N) {Q : Prop} (q : ¬Q) : Fnd xs (P ∨ Q) (N + 1) := ⟨⟨fun e => .inl (h.1.mp e), fun e => h.1.mpr (e.resolve_right q)⟩, by have := h.2; omega⟩
theorem Fnd.iff {xs : List D} {P Q : Prop} {N M : Nat} (h : Fnd xs P N) (e : P ↔ Q) (hm : N ≤ M) : Fnd xs Q M := ⟨h.1.trans e, Nat.le_trans h.2 hm⟩
def LooksR (ms : List Nat) (ts : List (Nat × Nat)) (st : St) (lg : Lg) (S : Sh) (d : D) (S' : Sh) : Prop := (∃ xs, d = .lst xs ∧ (xs ≠ [] ↔ ∃ r, r < ms.length ∧ Look ms ts st lg r)) ∧ S' = S
def LkE (ms : List Nat) (ts : List (Nat × Nat)) (st : St) (l : Nat) (xs : List D) (x4 x5 x6 x7 x8 : Option Sl) : En := [some (.v (partsD ms ts)), some (.v (.ref l)), some (.v (stT st)), some (.ol xs), x4, x5, x6, x7, x8]
def LkI (ms : List Nat) (ts : List (Nat × Nat)) (st : St) (lg : Lg) (l : Nat) (S : Sh) (i : Nat) (E : En) (S' : Sh) : Prop := S' = S ∧ ∃ xs x4 x5 x6 x7 x8, E = LkE ms ts st l xs x4 x5 x6 x7 x8 ∧ Fnd xs (∃ r, r < i ∧ Look ms ts st lg r) (i * 60)
def LkM (ms : List Nat) (ts : List (Nat × Nat)) (st : St) (lg : Lg) (l : Nat) (S : Sh) (f : Fl) (E : En) (S' : Sh) : Prop := f = .nx ∧ LkI ms ts st lg l S ms.length E S'
/-- the rooms near one room -/
def Lk1I (ms : List Nat) (ts : List (Nat × Nat)) (st : St) (lg : Lg) (l : Nat) (S : Sh) (r : Nat) (P : Prop) (N i : Nat) (E : En) (S' : Sh) : Prop := S' = S ∧ ∃ xs x5 x6, E = LkE ms ts st l xs (some (.v (.int (r : Int)))) x5 x6 (some (.v (.bl (heldAt st r)))) (some (.v (.tup ((tagsAt st r).map .int)))) ∧ Fnd xs (P ∨ ∃ o ∈ (nearL ts r).take i, Look1 st lg r o) (N + i)
def Lk1M (ms : List Nat) (ts : List (Nat × Nat)) (st : St) (lg : Lg) (l : Nat) (S : Sh) (r : Nat) (P : Prop) (N : Nat) (f : Fl) (E : En) (S' : Sh) : Prop := f = .nx ∧ Lk1I ms ts st lg l S r P N (nearL ts r).length E S'
/-- the ages of one room's tags -/
def Lk2I (ms : List Nat) (ts : List (Nat × Nat)) (st : St) (lg : Lg) (l : Nat) (S : Sh) (r : Nat) (P : Prop) (N i : Nat) (E : En) (S' : Sh) : Prop := S' = S ∧ ∃ xs x5 x6, E = LkE ms ts st l xs (some (.v (.int (r : Int)))) x5 x6 (some (.v (.bl (heldAt st r)))) (some (.v (.tup ((tagsAt st r).map .int)))) ∧ Fnd xs (P ∨ ∃ a, 0 < a ∧ a ≤ i ∧ Look2 st lg r a) (N + i)
theorem looks_ok {C : Calls} {k : Nat} (hC : C.fn = callAt L.pg (k + 2)) {ms : List Nat} {ts : List (Nat × Nat)} (h : PartsOk ms ts) (h8 : ms.length ≤ 8) {N : Nat} {st : St} (hs : StOk N ms.length st) (hN : N < 1000) {lg : Lg} (hl : LgOk ms.length st lg) {l : Nat} {S : Sh} (hS : S[l]? = some (.lst (lg.map tagD))) :
    Ok (C.fn 2 [partsD ms ts, .ref l, stT st] S) (LooksR ms ts st lg S) := by
  rw [hC]
  refine fn_W (fn := f__law_let_looks) rfl rfl ?_
  unfold f__law_let_looks b__law_let_looks
  have hd : drf S (.ref l) = .lst (lg.map tagD) := drf_of hS
  refine b_consW ?_
  try simp only [wpS, wpT, wpE, wpO, wpEs, wpAs, wpL, wpC, wpI, wpG, wpPar, wpSE, brwW, slotV, slotA, List.getElem?_cons_zero, List.getElem?_cons_succ, List.set_cons_zero, List.set_cons_succ, drf_int, drf_bl, drf_non, drf_str, drf_tup, drf_lst, drf_scr, drf_set, drf_ty, drf_ins, drf_glo, drf_0, ixL0, ixL1, ixL2, ixL3, ixL4, ixT0, ixT1, ixT2, ixAt0, ixAt1, ixAt2, ixAt3, ixAt4, tru_bl, tru_int, tru_tup, tru_lst, c_eq_int, c_ne_int, c_lt, c_le, c_gt, c_ge, c_in2, c_inL, c_inT, c_ninT, c_eq_bl, c_ne_bl, b_len_l, b_len_t, b_len_s, b_abs, b_int, b_tup_l, b_tup_t, b_max, b_min, o_add, o_sub, o_mul, o_fdiv, o_mod, o_pow, o_catT, o_catL, o_repT, o_repL, o_repL2, s_tupX, s_lstX, s_scrX, q_tup, q_lst, qi_tup, qi_lst, qi_scr, at_ins, isNon_int, isNon_non, wpN_nx, wpN_ret, wpN_brk, wpN_cnt, trn_nx, trn_cnt, trn_brk, trn_ret, List.map_cons, List.map_nil, List.length_cons, List.length_nil, Nat.zero_add, Nat.reduceAdd, Nat.reduceLT, true_and, and_true, Option.some.injEq, exists_eq_left', exists_eq_left, exists_and_left, Sl.ol.injEq, Sl.v.injEq, Sl.os.injEq, D.int.injEq, D.bl.injEq, D.tup.injEq, D.lst.injEq, D.ref.injEq, Ob.lst.injEq, List.cons.injEq, decide_eq_true_eq, Bool.not_eq_true', decide_eq_false_iff_not, bne_iff_ne, ne_eq, if_true, if_false, Bool.false_eq_true, Bool.true_eq_false, reduceIte, Bool.not_true, Bool.not_false, decide_true, decide_false, not_true_eq_false, not_false_eq_true, ex2, ex3, lim0, lim1, lim2, lim3, lim4, List.cons_append, List.nil_append, List.map, List.replicate]
  refine b_consR (LkM ms ts st lg l S) ?_ ?_
  · unfold stT
    try simp only [wpS, wpT, wpE, wpO, wpEs, wpAs, wpL, wpC, wpI, wpG, wpPar, wpSE, brwW, slotV, slotA, List.getElem?_cons_zero, List.getElem?_cons_succ, List.set_cons_zero, List.set_cons_succ, drf_int, drf_bl, drf_non, drf_str, drf_tup, drf_lst, drf_scr, drf_set, drf_ty, drf_ins, drf_glo, drf_0, ixL0, ixL1, ixL2, ixL3, ixL4, ixT0, ixT1, ixT2, ixAt0, ixAt1, ixAt2, ixAt3, ixAt4, tru_bl, tru_int, tru_tup, tru_lst, c_eq_int, c_ne_int, c_lt, c_le, c_gt, c_ge, c_in2, c_inL, c_inT, c_ninT, c_eq_bl, c_ne_bl, b_len_l, b_len_t, b_len_s, b_abs, b_int, b_tup_l, b_tup_t, b_max, b_min, o_add, o_sub, o_mul, o_fdiv, o_mod, o_pow, o_catT, o_catL, o_repT, o_repL, o_repL2, s_tupX, s_lstX, s_scrX, q_tup, q_lst, qi_tup, qi_lst, qi_scr, at_ins, isNon_int, isNon_non, wpN_nx, wpN_ret, wpN_brk, wpN_cnt, trn_nx, trn_cnt, trn_brk, trn_ret, List.map_cons, List.map_nil, List.length_cons, List.length_nil, Nat.zero_add, Nat.reduceAdd, Nat.reduceLT, true_and, and_true, Option.some.injEq, exists_eq_left', exists_eq_left, exists_and_left, Sl.ol.injEq, Sl.v.injEq, Sl.os.injEq, D.int.injEq, D.bl.injEq, D.tup.injEq, D.lst.injEq, D.ref.injEq, Ob.lst.injEq, List.cons.injEq, decide_eq_true_eq, Bool.not_eq_true', decide_eq_false_iff_not, bne_iff_ne, ne_eq, if_true, if_false, Bool.false_eq_true, Bool.true_eq_false, reduceIte, Bool.not_true, Bool.not_false, decide_true, decide_false, not_true_eq_false, not_false_eq_true, ex2, ex3, lim0, lim1, lim2, lim3, lim4, List.cons_append, List.nil_append, List.map, List.replicate]
    refine for_W (I := LkI ms ts st lg l S) _ ⟨rfl, [], _, _, _, _, _, rfl, by simp [Fnd]⟩ (fun r x E S' hx ⟨e1, xs, x4, x5, x6, x7, x8, e2, hf⟩ => ?_) (fun E S' h => ⟨rfl, by rw [enum_len, List.length_map, hs.len] at h; exact h⟩)
    subst e1 e2
    rw [enum_at, List.getElem?_map, Option.map_map] at hx
    obtain ⟨x, he, rfl⟩ := Option.map_eq_some_iff.mp hx
    have hr : r < ms.length := by rw [← hs.len]; exact (List.getElem?_eq_some_iff.mp he).1
    have ex := hs.at hr
    rw [he] at ex
    cases ex
    rw [Nat.zero_add]
    unfold LkE
    try simp only [Function.comp_apply, rmD, wpS, wpT, wpE, wpO, wpEs, wpAs, wpL, wpC, wpI, wpG, wpPar, wpSE, brwW, slotV, slotA, List.getElem?_cons_zero, List.getElem?_cons_succ, List.set_cons_zero, List.set_cons_succ, drf_int, drf_bl, drf_non, drf_str, drf_tup, drf_lst, drf_scr, drf_set, drf_ty, drf_ins, drf_glo, drf_0, ixL0, ixL1, ixL2, ixL3, ixL4, ixT0, ixT1, ixT2, ixAt0, ixAt1, ixAt2, ixAt3, ixAt4, tru_bl, tru_int, tru_tup, tru_lst, c_eq_int, c_ne_int, c_lt, c_le, c_gt, c_ge, c_in2, c_inL, c_inT, c_ninT, c_eq_bl, c_ne_bl, b_len_l, b_len_t, b_len_s, b_abs, b_int, b_tup_l, b_tup_t, b_max, b_min, o_add, o_sub, o_mul, o_fdiv, o_mod, o_pow, o_catT, o_catL, o_repT, o_repL, o_repL2, s_tupX, s_lstX, s_scrX, q_tup, q_lst, qi_tup, qi_lst, qi_scr, at_ins, isNon_int, isNon_non, wpN_nx, wpN_ret, wpN_brk, wpN_cnt, trn_nx, trn_cnt, trn_brk, trn_ret, List.map_cons, List.map_nil, List.length_cons, List.length_nil, Nat.zero_add, Nat.reduceAdd, Nat.reduceLT, true_and, and_true, Option.some.injEq, exists_eq_left', exists_eq_left, exists_and_left, Sl.ol.injEq, Sl.v.injEq, Sl.os.injEq, D.int.injEq, D.bl.injEq, D.tup.injEq, D.lst.injEq, D.ref.injEq, Ob.lst.injEq, List.cons.injEq, decide_eq_true_eq, Bool.not_eq_true', decide_eq_false_iff_not, bne_iff_ne, ne_eq, if_true, if_false, Bool.false_eq_true, Bool.true_eq_false, reduceIte, Bool.not_true, Bool.not_false, decide_true, decide_false, not_true_eq_false, not_false_eq_true, ex2, ex3, lim0, lim1, lim2, lim3, lim4, List.cons_append, List.nil_append, List.map, List.replicate]
    have nl : (nearL ts r).length ≤ 28 := Nat.le_trans (Nat.le_trans len_near h.ties.length_le) (prs_8 h8)
    have hml : memAt ms r ≤ 30 := by
      unfold memAt
      rw [List.getElem?_eq_getElem hr]
      exact h.mem _ (List.getElem_mem hr)
    have i1 := ix_mem hr
    have i2 := hl.at hr
    have hfew := hl.few r
    refine b_consR (Lk1M ms ts st lg l S' r (∃ q, q < r ∧ Look ms ts st lg q) (r * 60)) ?_ ?_
    · try simp only [wpS, wpT, wpE, wpO, wpEs, wpAs, wpL, wpC, wpI, wpG, wpPar, wpSE, brwW, slotV, slotA, List.getElem?_cons_zero, List.getElem?_cons_succ, List.set_cons_zero, List.set_cons_succ, drf_int, drf_bl, drf_non, drf_str, drf_tup, drf_lst, drf_scr, drf_set, drf_ty, drf_ins, drf_glo, drf_0, ixL0, ixL1, ixL2, ixL3, ixL4, ixT0, ixT1, ixT2, ixAt0, ixAt1, ixAt2, ixAt3, ixAt4, tru_bl, tru_int, tru_tup, tru_lst, c_eq_int, c_ne_int, c_lt, c_le, c_gt, c_ge, c_in2, c_inL, c_inT, c_ninT, c_eq_bl, c_ne_bl, b_len_l, b_len_t, b_len_s, b_abs, b_int, b_tup_l, b_tup_t, b_max, b_min, o_add, o_sub, o_mul, o_fdiv, o_mod, o_pow, o_catT, o_catL, o_repT, o_repL, o_repL2, s_tupX, s_lstX, s_scrX, q_tup, q_lst, qi_tup, qi_lst, qi_scr, at_ins, isNon_int, isNon_non, wpN_nx, wpN_ret, wpN_brk, wpN_cnt, trn_nx, trn_cnt, trn_brk, trn_ret, List.map_cons, List.map_nil, List.length_cons, List.length_nil, Nat.zero_add, Nat.reduceAdd, Nat.reduceLT, true_and, and_true, Option.some.injEq, exists_eq_left', exists_eq_left, exists_and_left, Sl.ol.injEq, Sl.v.injEq, Sl.os.injEq, D.int.injEq, D.bl.injEq, D.tup.injEq, D.lst.injEq, D.ref.injEq, Ob.lst.injEq, List.cons.injEq, decide_eq_true_eq, Bool.not_eq_true', decide_eq_false_iff_not, bne_iff_ne, ne_eq, if_true, if_false, Bool.false_eq_true, Bool.true_eq_false, reduceIte, Bool.not_true, Bool.not_false, decide_true, decide_false, not_true_eq_false, not_false_eq_true, ex2, ex3, lim0, lim1, lim2, lim3, lim4, List.cons_append, List.nil_append, List.map, List.replicate]
      refine (near_ok (C := L.pg.calls (k + 1)) rfl ms ts h.many r S').mono fun d S1 ⟨e1, e2⟩ => ?_
      subst e1 e2
      try simp only [wpS, wpT, wpE, wpO, wpEs, wpAs, wpL, wpC, wpI, wpG, wpPar, wpSE, brwW, slotV, slotA, List.getElem?_cons_zero, List.getElem?_cons_succ, List.set_cons_zero, List.set_cons_succ, drf_int, drf_bl, drf_non, drf_str, drf_tup, drf_lst, drf_scr, drf_set, drf_ty, drf_ins, drf_glo, drf_0, ixL0, ixL1, ixL2, ixL3, ixL4, ixT0, ixT1, ixT2, ixAt0, ixAt1, ixAt2, ixAt3, ixAt4, tru_bl, tru_int, tru_tup, tru_lst, c_eq_int, c_ne_int, c_lt, c_le, c_gt, c_ge, c_in2, c_inL, c_inT, c_ninT, c_eq_bl, c_ne_bl, b_len_l, b_len_t, b_len_s, b_abs, b_int, b_tup_l, b_tup_t, b_max, b_min, o_add, o_sub, o_mul, o_fdiv, o_mod, o_pow, o_catT, o_catL, o_repT, o_repL, o_repL2, s_tupX, s_lstX, s_scrX, q_tup, q_lst, qi_tup, qi_lst, qi_scr, at_ins, isNon_int, isNon_non, wpN_nx, wpN_ret, wpN_brk, wpN_cnt, trn_nx, trn_cnt, trn_brk, trn_ret, List.map_cons, List.map_nil, List.length_cons, List.length_nil, Nat.zero_add, Nat.reduceAdd, Nat.reduceLT, true_and, and_true, Option.some.injEq, exists_eq_left', exists_eq_left, exists_and_left, Sl.ol.injEq, Sl.v.injEq, Sl.os.injEq, D.int.injEq, D.bl.injEq, D.tup.injEq, D.lst.injEq, D.ref.injEq, Ob.lst.injEq, List.cons.injEq, decide_eq_true_eq, Bool.not_eq_true', decide_eq_false_iff_not, bne_iff_ne, ne_eq, if_true, if_false, Bool.false_eq_true, Bool.true_eq_false, reduceIte, Bool.not_true, Bool.not_false, decide_true, decide_false, not_true_eq_false, not_false_eq_true, ex2, ex3, lim0, lim1, lim2, lim3, lim4, List.cons_append, List.nil_append, List.map, List.replicate]
      refine for_W (I := Lk1I ms ts st lg l S1 r (∃ q, q < r ∧ Look ms ts st lg q) (r * 60)) _ ⟨rfl, xs, x5, x6, rfl, hf.iff (by simp) (by omega)⟩ (fun i x E S' hx ⟨e1, ys, y5, y6, e2, hf⟩ => ?_) (fun E S' h => ⟨rfl, by rw [List.length_map] at h; exact h⟩)
      subst e1 e2
      rw [List.getElem?_map] at hx
      obtain ⟨o, ho, rfl⟩ := Option.map_eq_some_iff.mp hx
      obtain ⟨j, rfl, hj, _⟩ := near_room h (List.mem_of_getElem? ho)
      have hi : i < (nearL ts r).length := (List.getElem?_eq_some_iff.mp ho).1
      have i3 := ix_stT hs hj
      have tk := take_succ ho
      have hlim : ys.length < LIM := by have := hf.2; unfold LIM; omega
      have yes : Look1 st lg r (j : Int) → ∀ d, Fnd (ys ++ [d]) ((∃ q, q < r ∧ Look ms ts st lg q) ∨ ∃ o ∈ (nearL ts r).take (i + 1), Look1 st lg r o) (r * 60 + (i + 1)) := fun q d => (hf.app q).iff (by
        rw [tk]
        simp only [List.mem_append, List.mem_singleton, or_and_right, exists_or, exists_eq_left]
        exact or_assoc) (by omega)
      have no : ¬Look1 st lg r (j : Int) → Fnd ys ((∃ q, q < r ∧ Look ms ts st lg q) ∨ ∃ o ∈ (nearL ts r).take (i + 1), Look1 st lg r o) (r * 60 + (i + 1)) := fun q => (hf.not q).iff (by
        rw [tk]
        simp only [List.mem_append, List.mem_singleton, or_and_right, exists_or, exists_eq_left]
        exact or_assoc) (by omega)
      have stay : ¬Look1 st lg r (j : Int) → wpB (L.pg.calls (k + 1)) ISs.nil (LkE ms ts st l ys (some (.v (.int (r : Int)))) (some (.v (.int (j : Int)))) y6 (some (.v (.bl (heldAt st r)))) (some (.v (.tup ((tagsAt st r).map .int))))) S' (wpN (L.pg.calls (k + 1)) ISs.nil (trn (Lk1I ms ts st lg l S' r (∃ q, q < r ∧ Look ms ts st lg q) (r * 60) (i + 1)) (Lk1M ms ts st lg l S' r (∃ q, q < r ∧ Look ms ts st lg q) (r * 60)))) := fun q => b_nilN (b_nilW ⟨rfl, ys, _, _, rfl, no q⟩)
      unfold LkE stT at stay
      unfold LkE stT
      try simp only [wpS, wpT, wpE, wpO, wpEs, wpAs, wpL, wpC, wpI, wpG, wpPar, wpSE, brwW, slotV, slotA, List.getElem?_cons_zero, List.getElem?_cons_succ, List.set_cons_zero, List.set_cons_succ, drf_int, drf_bl, drf_non, drf_str, drf_tup, drf_lst, drf_scr, drf_set, drf_ty, drf_ins, drf_glo, drf_0, ixL0, ixL1, ixL2, ixL3, ixL4, ixT0, ixT1, ixT2, ixAt0, ixAt1, ixAt2, ixAt3, ixAt4, tru_bl, tru_int, tru_tup, tru_lst, c_eq_int, c_ne_int, c_lt, c_le, c_gt, c_ge, c_in2, c_inL, c_inT, c_ninT, c_eq_bl, c_ne_bl, b_len_l, b_len_t, b_len_s, b_abs, b_int, b_tup_l, b_tup_t, b_max, b_min, o_add, o_sub, o_mul, o_fdiv, o_mod, o_pow, o_catT, o_catL, o_repT, o_repL, o_repL2, s_tupX, s_lstX, s_scrX, q_tup, q_lst, qi_tup, qi_lst, qi_scr, at_ins, isNon_int, isNon_non, wpN_nx, wpN_ret, wpN_brk, wpN_cnt, trn_nx, trn_cnt, trn_brk, trn_ret, List.map_cons, List.map_nil, List.length_cons, List.length_nil, Nat.zero_add, Nat.reduceAdd, Nat.reduceLT, true_and, and_true, Option.some.injEq, exists_eq_left', exists_eq_left, exists_and_left, Sl.ol.injEq, Sl.v.injEq, Sl.os.injEq, D.int.injEq, D.bl.injEq, D.tup.injEq, D.lst.injEq, D.ref.injEq, Ob.lst.injEq, List.cons.injEq, decide_eq_true_eq, Bool.not_eq_true', decide_eq_false_iff_not, bne_iff_ne, ne_eq, if_true, if_false, Bool.false_eq_true, Bool.true_eq_false, reduceIte, Bool.not_true, Bool.not_false, decide_true, decide_false, not_true_eq_false, not_false_eq_true, ex2, ex3, lim0, lim1, lim2, lim3, lim4, List.cons_append, List.nil_append, List.map, List.replicate]
      refine b_consW ?_
      try simp only [i3, hd, wpS, wpT, wpE, wpO, wpEs, wpAs, wpL, wpC, wpI, wpG, wpPar, wpSE, brwW, slotV, slotA, List.getElem?_cons_zero, List.getElem?_cons_succ, List.set_cons_zero, List.set_cons_succ, drf_int, drf_bl, drf_non, drf_str, drf_tup, drf_lst, drf_scr, drf_set, drf_ty, drf_ins, drf_glo, drf_0, ixL0, ixL1, ixL2, ixL3, ixL4, ixT0, ixT1, ixT2, ixAt0, ixAt1, ixAt2, ixAt3, ixAt4, tru_bl, tru_int, tru_tup, tru_lst, c_eq_int, c_ne_int, c_lt, c_le, c_gt, c_ge, c_in2, c_inL, c_inT, c_ninT, c_eq_bl, c_ne_bl, b_len_l, b_len_t, b_len_s, b_abs, b_int, b_tup_l, b_tup_t, b_max, b_min, o_add, o_sub, o_mul, o_fdiv, o_mod, o_pow, o_catT, o_catL, o_repT, o_repL, o_repL2, s_tupX, s_lstX, s_scrX, q_tup, q_lst, qi_tup, qi_lst, qi_scr, at_ins, isNon_int, isNon_non, wpN_nx, wpN_ret, wpN_brk, wpN_cnt, trn_nx, trn_cnt, trn_brk, trn_ret, List.map_cons, List.map_nil, List.length_cons, List.length_nil, Nat.zero_add, Nat.reduceAdd, Nat.reduceLT, true_and, and_true, Option.some.injEq, exists_eq_left', exists_eq_left, exists_and_left, Sl.ol.injEq, Sl.v.injEq, Sl.os.injEq, D.int.injEq, D.bl.injEq, D.tup.injEq, D.lst.injEq, D.ref.injEq, Ob.lst.injEq, List.cons.injEq, decide_eq_true_eq, Bool.not_eq_true', decide_eq_false_iff_not, bne_iff_ne, ne_eq, if_true, if_false, Bool.false_eq_true, Bool.true_eq_false, reduceIte, Bool.not_true, Bool.not_false, decide_true, decide_false, not_true_eq_false, not_false_eq_true, ex2, ex3, lim0, lim1, lim2, lim3, lim4, List.cons_append, List.nil_append, List.map, List.replicate]
      split
      · rename_i hh
        split
        · rename_i hj2
          obtain ⟨t, l1, e1⟩ := hs.newAt hj2
          obtain ⟨t2, l2, e2⟩ : ∃ t2 l2, logAt lg r = t2 :: l2 := by
            cases q : logAt lg r with
            | nil => exact absurd q (hl.tag r hh)
            | cons a b => exact ⟨a, b, rfl⟩
          rw [i2]
          try simp only [e1, e2, wpS, wpT, wpE, wpO, wpEs, wpAs, wpL, wpC, wpI, wpG, wpPar, wpSE, brwW, slotV, slotA, List.getElem?_cons_zero, List.getElem?_cons_succ, List.set_cons_zero, List.set_cons_succ, drf_int, drf_bl, drf_non, drf_str, drf_tup, drf_lst, drf_scr, drf_set, drf_ty, drf_ins, drf_glo, drf_0, ixL0, ixL1, ixL2, ixL3, ixL4, ixT0, ixT1, ixT2, ixAt0, ixAt1, ixAt2, ixAt3, ixAt4, tru_bl, tru_int, tru_tup, tru_lst, c_eq_int, c_ne_int, c_lt, c_le, c_gt, c_ge, c_in2, c_inL, c_inT, c_ninT, c_eq_bl, c_ne_bl, b_len_l, b_len_t, b_len_s, b_abs, b_int, b_tup_l, b_tup_t, b_max, b_min, o_add, o_sub, o_mul, o_fdiv, o_mod, o_pow, o_catT, o_catL, o_repT, o_repL, o_repL2, s_tupX, s_lstX, s_scrX, q_tup, q_lst, qi_tup, qi_lst, qi_scr, at_ins, isNon_int, isNon_non, wpN_nx, wpN_ret, wpN_brk, wpN_cnt, trn_nx, trn_cnt, trn_brk, trn_ret, List.map_cons, List.map_nil, List.length_cons, List.length_nil, Nat.zero_add, Nat.reduceAdd, Nat.reduceLT, true_and, and_true, Option.some.injEq, exists_eq_left', exists_eq_left, exists_and_left, Sl.ol.injEq, Sl.v.injEq, Sl.os.injEq, D.int.injEq, D.bl.injEq, D.tup.injEq, D.lst.injEq, D.ref.injEq, Ob.lst.injEq, List.cons.injEq, decide_eq_true_eq, Bool.not_eq_true', decide_eq_false_iff_not, bne_iff_ne, ne_eq, if_true, if_false, Bool.false_eq_true, Bool.true_eq_false, reduceIte, Bool.not_true, Bool.not_false, decide_true, decide_false, not_true_eq_false, not_false_eq_true, ex2, ex3, lim0, lim1, lim2, lim3, lim4, List.cons_append, List.nil_append, List.map, List.replicate]
          have lk : Look1 st lg r (j : Int) ↔ t = t2 := by
            unfold Look1
            rw [Int.toNat_natCast, e1, e2]
            simp [hh, hj2]
          split
          · rename_i q
            refine b_consW ?_
            try simp only [wpS, wpT, wpE, wpO, wpEs, wpAs, wpL, wpC, wpI, wpG, wpPar, wpSE, brwW, slotV, slotA, List.getElem?_cons_zero, List.getElem?_cons_succ, List.set_cons_zero, List.set_cons_succ, drf_int, drf_bl, drf_non, drf_str, drf_tup, drf_lst, drf_scr, drf_set, drf_ty, drf_ins, drf_glo, drf_0, ixL0, ixL1, ixL2, ixL3, ixL4, ixT0, ixT1, ixT2, ixAt0, ixAt1, ixAt2, ixAt3, ixAt4, tru_bl, tru_int, tru_tup, tru_lst, c_eq_int, c_ne_int, c_lt, c_le, c_gt, c_ge, c_in2, c_inL, c_inT, c_ninT, c_eq_bl, c_ne_bl, b_len_l, b_len_t, b_len_s, b_abs, b_int, b_tup_l, b_tup_t, b_max, b_min, o_add, o_sub, o_mul, o_fdiv, o_mod, o_pow, o_catT, o_catL, o_repT, o_repL, o_repL2, s_tupX, s_lstX, s_scrX, q_tup, q_lst, qi_tup, qi_lst, qi_scr, at_ins, isNon_int, isNon_non, wpN_nx, wpN_ret, wpN_brk, wpN_cnt, trn_nx, trn_cnt, trn_brk, trn_ret, List.map_cons, List.map_nil, List.length_cons, List.length_nil, Nat.zero_add, Nat.reduceAdd, Nat.reduceLT, true_and, and_true, Option.some.injEq, exists_eq_left', exists_eq_left, exists_and_left, Sl.ol.injEq, Sl.v.injEq, Sl.os.injEq, D.int.injEq, D.bl.injEq, D.tup.injEq, D.lst.injEq, D.ref.injEq, Ob.lst.injEq, List.cons.injEq, decide_eq_true_eq, Bool.not_eq_true', decide_eq_false_iff_not, bne_iff_ne, ne_eq, if_true, if_false, Bool.false_eq_true, Bool.true_eq_false, reduceIte, Bool.not_true, Bool.not_false, decide_true, decide_false, not_true_eq_false, not_false_eq_true, ex2, ex3, lim0, lim1, lim2, lim3, lim4, List.cons_append, List.nil_append, List.map, List.replicate]
            refine ⟨hlim, b_nilN (b_nilW ⟨rfl, _, _, _, rfl, yes (lk.mpr q) _⟩)⟩
          · rename_i q
            exact stay fun x => q (lk.mp x)
        · rename_i hj2
          exact stay fun q => hj2 q.2.1
      · rename_i hh
        exact stay fun q => hh q.1
    · rintro f E S' ⟨rfl, rfl, ys, y5, y6, rfl, hf⟩
      rw [wpN_nx]
      unfold LkE partsD
      refine b_consW ?_
      try simp only [i1, i2, hd, List.length_map, wpS, wpT, wpE, wpO, wpEs, wpAs, wpL, wpC, wpI, wpG, wpPar, wpSE, brwW, slotV, slotA, List.getElem?_cons_zero, List.getElem?_cons_succ, List.set_cons_zero, List.set_cons_succ, drf_int, drf_bl, drf_non, drf_str, drf_tup, drf_lst, drf_scr, drf_set, drf_ty, drf_ins, drf_glo, drf_0, ixL0, ixL1, ixL2, ixL3, ixL4, ixT0, ixT1, ixT2, ixAt0, ixAt1, ixAt2, ixAt3, ixAt4, tru_bl, tru_int, tru_tup, tru_lst, c_eq_int, c_ne_int, c_lt, c_le, c_gt, c_ge, c_in2, c_inL, c_inT, c_ninT, c_eq_bl, c_ne_bl, b_len_l, b_len_t, b_len_s, b_abs, b_int, b_tup_l, b_tup_t, b_max, b_min, o_add, o_sub, o_mul, o_fdiv, o_mod, o_pow, o_catT, o_catL, o_repT, o_repL, o_repL2, s_tupX, s_lstX, s_scrX, q_tup, q_lst, qi_tup, qi_lst, qi_scr, at_ins, isNon_int, isNon_non, wpN_nx, wpN_ret, wpN_brk, wpN_cnt, trn_nx, trn_cnt, trn_brk, trn_ret, List.map_cons, List.map_nil, List.length_cons, List.length_nil, Nat.zero_add, Nat.reduceAdd, Nat.reduceLT, true_and, and_true, Option.some.injEq, exists_eq_left', exists_eq_left, exists_and_left, Sl.ol.injEq, Sl.v.injEq, Sl.os.injEq, D.int.injEq, D.bl.injEq, D.tup.injEq, D.lst.injEq, D.ref.injEq, Ob.lst.injEq, List.cons.injEq, decide_eq_true_eq, Bool.not_eq_true', decide_eq_false_iff_not, bne_iff_ne, ne_eq, if_true, if_false, Bool.false_eq_true, Bool.true_eq_false, reduceIte, Bool.not_true, Bool.not_false, decide_true, decide_false, not_true_eq_false, not_false_eq_true, ex2, ex3, lim0, lim1, lim2, lim3, lim4, List.cons_append, List.nil_append, List.map, List.replicate]
      generalize hx : (if ((logAt lg r).length : Int) - 1 < (memAt ms r : Int) then ((logAt lg r).length : Int) - 1 else (memAt ms r : Int)) = x
      have x1 : -1 ≤ x ∧ x ≤ memAt ms r ∧ x < (logAt lg r).length ∧ (x = memAt ms r ∨ x = (logAt lg r).length - 1) := by
        split at hx <;> omega
      refine ⟨by unfold LIM; omega, ?_⟩
      refine for_W (I := Lk2I ms ts st lg l S' r ((∃ q, q < r ∧ Look ms ts st lg q) ∨ ∃ o ∈ (nearL ts r).take (nearL ts r).length, Look1 st lg r o) (r * 60 + (nearL ts r).length)) _ ⟨rfl, ys, y5, y6, rfl, hf.iff ⟨.inl, fun q => q.resolve_right fun ⟨a, a1, a2, _⟩ => by omega⟩ (by omega)⟩ (fun i x' E S' hx' ⟨e1, zs, y5, y6, e2, hf⟩ => ?_) (fun E S' ⟨e1, zs, z5, z6, e2, hf⟩ => ?_)
      · subst e1 e2
        obtain ⟨rfl, hlt⟩ := rngD_at hx'
        have hi : i + 1 < (logAt lg r).length := by omega
        have hlim : zs.length < LIM := by have := hf.2; unfold LIM; omega
        generalize ((∃ q, q < r ∧ Look ms ts st lg q) ∨ ∃ o ∈ (nearL ts r).take (nearL ts r).length, Look1 st lg r o) = P at *
        have i4 : ixD (.tup ((logAt lg r).map .int)) (.int (1 + (i : Int))) = some (.int ((logAt lg r)[i + 1]'hi)) := by
          rw [show 1 + (i : Int) = ((i + 1 : Nat) : Int) by omega]
          exact ixTn (by rw [List.getElem?_map, List.getElem?_eq_getElem hi]; rfl)
        have sh : (P ∨ ∃ a, 0 < a ∧ a ≤ i ∧ Look2 st lg r a) ∨ Look2 st lg r (i + 1) ↔ P ∨ ∃ a, 0 < a ∧ a ≤ i + 1 ∧ Look2 st lg r a := by
          constructor
          · rintro ((q | ⟨a, a1, a2, q⟩) | q)
            · exact .inl q
            · exact .inr ⟨a, a1, by omega, q⟩
            · exact .inr ⟨i + 1, by omega, by omega, q⟩
          · rintro (q | ⟨a, a1, a2, q⟩)
            · exact .inl (.inl q)
            · by_cases e : a = i + 1
              · subst e
                exact .inr q
              · exact .inl (.inr ⟨a, a1, by omega, q⟩)
        unfold LkE partsD
        try simp only [wpS, wpT, wpE, wpO, wpEs, wpAs, wpL, wpC, wpI, wpG, wpPar, wpSE, brwW, slotV, slotA, List.getElem?_cons_zero, List.getElem?_cons_succ, List.set_cons_zero, List.set_cons_succ, drf_int, drf_bl, drf_non, drf_str, drf_tup, drf_lst, drf_scr, drf_set, drf_ty, drf_ins, drf_glo, drf_0, ixL0, ixL1, ixL2, ixL3, ixL4, ixT0, ixT1, ixT2, ixAt0, ixAt1, ixAt2, ixAt3, ixAt4, tru_bl, tru_int, tru_tup, tru_lst, c_eq_int, c_ne_int, c_lt, c_le, c_gt, c_ge, c_in2, c_inL, c_inT, c_ninT, c_eq_bl, c_ne_bl, b_len_l, b_len_t, b_len_s, b_abs, b_int, b_tup_l, b_tup_t, b_max, b_min, o_add, o_sub, o_mul, o_fdiv, o_mod, o_pow, o_catT, o_catL, o_repT, o_repL, o_repL2, s_tupX, s_lstX, s_scrX, q_tup, q_lst, qi_tup, qi_lst, qi_scr, at_ins, isNon_int, isNon_non, wpN_nx, wpN_ret, wpN_brk, wpN_cnt, trn_nx, trn_cnt, trn_brk, trn_ret, List.map_cons, List.map_nil, List.length_cons, List.length_nil, Nat.zero_add, Nat.reduceAdd, Nat.reduceLT, true_and, and_true, Option.some.injEq, exists_eq_left', exists_eq_left, exists_and_left, Sl.ol.injEq, Sl.v.injEq, Sl.os.injEq, D.int.injEq, D.bl.injEq, D.tup.injEq, D.lst.injEq, D.ref.injEq, Ob.lst.injEq, List.cons.injEq, decide_eq_true_eq, Bool.not_eq_true', decide_eq_false_iff_not, bne_iff_ne, ne_eq, if_true, if_false, Bool.false_eq_true, Bool.true_eq_false, reduceIte, Bool.not_true, Bool.not_false, decide_true, decide_false, not_true_eq_false, not_false_eq_true, ex2, ex3, lim0, lim1, lim2, lim3, lim4, List.cons_append, List.nil_append, List.map, List.replicate]
        refine b_consW ?_
        try simp only [i2, hd, i4, wpS, wpT, wpE, wpO, wpEs, wpAs, wpL, wpC, wpI, wpG, wpPar, wpSE, brwW, slotV, slotA, List.getElem?_cons_zero, List.getElem?_cons_succ, List.set_cons_zero, List.set_cons_succ, drf_int, drf_bl, drf_non, drf_str, drf_tup, drf_lst, drf_scr, drf_set, drf_ty, drf_ins, drf_glo, drf_0, ixL0, ixL1, ixL2, ixL3, ixL4, ixT0, ixT1, ixT2, ixAt0, ixAt1, ixAt2, ixAt3, ixAt4, tru_bl, tru_int, tru_tup, tru_lst, c_eq_int, c_ne_int, c_lt, c_le, c_gt, c_ge, c_in2, c_inL, c_inT, c_ninT, c_eq_bl, c_ne_bl, b_len_l, b_len_t, b_len_s, b_abs, b_int, b_tup_l, b_tup_t, b_max, b_min, o_add, o_sub, o_mul, o_fdiv, o_mod, o_pow, o_catT, o_catL, o_repT, o_repL, o_repL2, s_tupX, s_lstX, s_scrX, q_tup, q_lst, qi_tup, qi_lst, qi_scr, at_ins, isNon_int, isNon_non, wpN_nx, wpN_ret, wpN_brk, wpN_cnt, trn_nx, trn_cnt, trn_brk, trn_ret, List.map_cons, List.map_nil, List.length_cons, List.length_nil, Nat.zero_add, Nat.reduceAdd, Nat.reduceLT, true_and, and_true, Option.some.injEq, exists_eq_left', exists_eq_left, exists_and_left, Sl.ol.injEq, Sl.v.injEq, Sl.os.injEq, D.int.injEq, D.bl.injEq, D.tup.injEq, D.lst.injEq, D.ref.injEq, Ob.lst.injEq, List.cons.injEq, decide_eq_true_eq, Bool.not_eq_true', decide_eq_false_iff_not, bne_iff_ne, ne_eq, if_true, if_false, Bool.false_eq_true, Bool.true_eq_false, reduceIte, Bool.not_true, Bool.not_false, decide_true, decide_false, not_true_eq_false, not_false_eq_true, ex2, ex3, lim0, lim1, lim2, lim3, lim4, List.cons_append, List.nil_append, List.map, List.replicate]
        split
        · rename_i hh
          obtain ⟨t, l1, e1⟩ := hs.newAt hh
          have lk : Look2 st lg r (i + 1) ↔ t = (logAt lg r)[i + 1]'hi := by
            unfold Look2
            rw [e1, List.getElem?_eq_getElem hi]
            simp [hh]
          try simp only [e1, i2, i4, wpS, wpT, wpE, wpO, wpEs, wpAs, wpL, wpC, wpI, wpG, wpPar, wpSE, brwW, slotV, slotA, List.getElem?_cons_zero, List.getElem?_cons_succ, List.set_cons_zero, List.set_cons_succ, drf_int, drf_bl, drf_non, drf_str, drf_tup, drf_lst, drf_scr, drf_set, drf_ty, drf_ins, drf_glo, drf_0, ixL0, ixL1, ixL2, ixL3, ixL4, ixT0, ixT1, ixT2, ixAt0, ixAt1, ixAt2, ixAt3, ixAt4, tru_bl, tru_int, tru_tup, tru_lst, c_eq_int, c_ne_int, c_lt, c_le, c_gt, c_ge, c_in2, c_inL, c_inT, c_ninT, c_eq_bl, c_ne_bl, b_len_l, b_len_t, b_len_s, b_abs, b_int, b_tup_l, b_tup_t, b_max, b_min, o_add, o_sub, o_mul, o_fdiv, o_mod, o_pow, o_catT, o_catL, o_repT, o_repL, o_repL2, s_tupX, s_lstX, s_scrX, q_tup, q_lst, qi_tup, qi_lst, qi_scr, at_ins, isNon_int, isNon_non, wpN_nx, wpN_ret, wpN_brk, wpN_cnt, trn_nx, trn_cnt, trn_brk, trn_ret, List.map_cons, List.map_nil, List.length_cons, List.length_nil, Nat.zero_add, Nat.reduceAdd, Nat.reduceLT, true_and, and_true, Option.some.injEq, exists_eq_left', exists_eq_left, exists_and_left, Sl.ol.injEq, Sl.v.injEq, Sl.os.injEq, D.int.injEq, D.bl.injEq, D.tup.injEq, D.lst.injEq, D.ref.injEq, Ob.lst.injEq, List.cons.injEq, decide_eq_true_eq, Bool.not_eq_true', decide_eq_false_iff_not, bne_iff_ne, ne_eq, if_true, if_false, Bool.false_eq_true, Bool.true_eq_false, reduceIte, Bool.not_true, Bool.not_false, decide_true, decide_false, not_true_eq_false, not_false_eq_true, ex2, ex3, lim0, lim1, lim2, lim3, lim4, List.cons_append, List.nil_append, List.map, List.replicate]
          split
          · rename_i q
            refine b_consW ?_
            try simp only [wpS, wpT, wpE, wpO, wpEs, wpAs, wpL, wpC, wpI, wpG, wpPar, wpSE, brwW, slotV, slotA, List.getElem?_cons_zero, List.getElem?_cons_succ, List.set_cons_zero, List.set_cons_succ, drf_int, drf_bl, drf_non, drf_str, drf_tup, drf_lst, drf_scr, drf_set, drf_ty, drf_ins, drf_glo, drf_0, ixL0, ixL1, ixL2, ixL3, ixL4, ixT0, ixT1, ixT2, ixAt0, ixAt1, ixAt2, ixAt3, ixAt4, tru_bl, tru_int, tru_tup, tru_lst, c_eq_int, c_ne_int, c_lt, c_le, c_gt, c_ge, c_in2, c_inL, c_inT, c_ninT, c_eq_bl, c_ne_bl, b_len_l, b_len_t, b_len_s, b_abs, b_int, b_tup_l, b_tup_t, b_max, b_min, o_add, o_sub, o_mul, o_fdiv, o_mod, o_pow, o_catT, o_catL, o_repT, o_repL, o_repL2, s_tupX, s_lstX, s_scrX, q_tup, q_lst, qi_tup, qi_lst, qi_scr, at_ins, isNon_int, isNon_non, wpN_nx, wpN_ret, wpN_brk, wpN_cnt, trn_nx, trn_cnt, trn_brk, trn_ret, List.map_cons, List.map_nil, List.length_cons, List.length_nil, Nat.zero_add, Nat.reduceAdd, Nat.reduceLT, true_and, and_true, Option.some.injEq, exists_eq_left', exists_eq_left, exists_and_left, Sl.ol.injEq, Sl.v.injEq, Sl.os.injEq, D.int.injEq, D.bl.injEq, D.tup.injEq, D.lst.injEq, D.ref.injEq, Ob.lst.injEq, List.cons.injEq, decide_eq_true_eq, Bool.not_eq_true', decide_eq_false_iff_not, bne_iff_ne, ne_eq, if_true, if_false, Bool.false_eq_true, Bool.true_eq_false, reduceIte, Bool.not_true, Bool.not_false, decide_true, decide_false, not_true_eq_false, not_false_eq_true, ex2, ex3, lim0, lim1, lim2, lim3, lim4, List.cons_append, List.nil_append, List.map, List.replicate]
            exact ⟨hlim, b_nilN (b_nilW ⟨rfl, zs ++ [.tup [.int (r : Int), .int (r : Int), .int (1 + (i : Int))]], y5, some (.v (.int (1 + (i : Int)))), by unfold LkE; rw [e1]; rfl, (hf.app (lk.mpr q)).iff sh (by omega)⟩)⟩
          · rename_i q
            exact b_nilN (b_nilW ⟨rfl, zs, y5, some (.v (.int (1 + (i : Int)))), by unfold LkE; rw [e1]; rfl, (hf.not fun x => q (lk.mp x)).iff sh (by omega)⟩)
        · rename_i hh
          exact b_nilN (b_nilW ⟨rfl, _, _, _, rfl, (hf.not fun x => hh x.1).iff sh (by omega)⟩)
      · subst e1 e2
        rw [rngD_len, List.take_length] at hf
        refine b_nilW ⟨rfl, zs, _, _, _, _, _, rfl, hf.iff ⟨?_, ?_⟩ (by omega)⟩
        · rintro ((⟨q, q1, q2⟩ | ⟨o, o1, o2⟩) | ⟨a, a1, a2, a3⟩)
          · exact ⟨q, by omega, q2⟩
          · exact ⟨r, by omega, .inl ⟨o, o1, o2⟩⟩
          · exact ⟨r, by omega, .inr ⟨a, a1, by omega, by omega, a3⟩⟩
        · rintro ⟨q, q1, q2⟩
          by_cases e : q = r
          · subst e
            rcases q2 with ⟨o, o1, o2⟩ | ⟨a, a1, a2, a3, a4⟩
            · exact .inl (.inr ⟨o, o1, o2⟩)
            · exact .inr ⟨a, a1, by omega, a4⟩
          · exact .inl (.inl ⟨q, by omega, q2⟩)
  · rintro f E S' ⟨rfl, rfl, xs, x4, x5, x6, x7, x8, rfl, hf⟩
    rw [wpN_nx]
    unfold LkE
    refine b_frzW ?_
    try simp only [frzE, wpS, wpT, wpE, wpO, wpEs, wpAs, wpL, wpC, wpI, wpG, wpPar, wpSE, brwW, slotV, slotA, List.getElem?_cons_zero, List.getElem?_cons_succ, List.set_cons_zero, List.set_cons_succ, drf_int, drf_bl, drf_non, drf_str, drf_tup, drf_lst, drf_scr, drf_set, drf_ty, drf_ins, drf_glo, drf_0, ixL0, ixL1, ixL2, ixL3, ixL4, ixT0, ixT1, ixT2, ixAt0, ixAt1, ixAt2, ixAt3, ixAt4, tru_bl, tru_int, tru_tup, tru_lst, c_eq_int, c_ne_int, c_lt, c_le, c_gt, c_ge, c_in2, c_inL, c_inT, c_ninT, c_eq_bl, c_ne_bl, b_len_l, b_len_t, b_len_s, b_abs, b_int, b_tup_l, b_tup_t, b_max, b_min, o_add, o_sub, o_mul, o_fdiv, o_mod, o_pow, o_catT, o_catL, o_repT, o_repL, o_repL2, s_tupX, s_lstX, s_scrX, q_tup, q_lst, qi_tup, qi_lst, qi_scr, at_ins, isNon_int, isNon_non, wpN_nx, wpN_ret, wpN_brk, wpN_cnt, trn_nx, trn_cnt, trn_brk, trn_ret, List.map_cons, List.map_nil, List.length_cons, List.length_nil, Nat.zero_add, Nat.reduceAdd, Nat.reduceLT, true_and, and_true, Option.some.injEq, exists_eq_left', exists_eq_left, exists_and_left, Sl.ol.injEq, Sl.v.injEq, Sl.os.injEq, D.int.injEq, D.bl.injEq, D.tup.injEq, D.lst.injEq, D.ref.injEq, Ob.lst.injEq, List.cons.injEq, decide_eq_true_eq, Bool.not_eq_true', decide_eq_false_iff_not, bne_iff_ne, ne_eq, if_true, if_false, Bool.false_eq_true, Bool.true_eq_false, reduceIte, Bool.not_true, Bool.not_false, decide_true, decide_false, not_true_eq_false, not_false_eq_true, ex2, ex3, lim0, lim1, lim2, lim3, lim4, List.cons_append, List.nil_append, List.map, List.replicate]
    refine b_consW ?_
    try simp only [wpS, wpT, wpE, wpO, wpEs, wpAs, wpL, wpC, wpI, wpG, wpPar, wpSE, brwW, slotV, slotA, List.getElem?_cons_zero, List.getElem?_cons_succ, List.set_cons_zero, List.set_cons_succ, drf_int, drf_bl, drf_non, drf_str, drf_tup, drf_lst, drf_scr, drf_set, drf_ty, drf_ins, drf_glo, drf_0, ixL0, ixL1, ixL2, ixL3, ixL4, ixT0, ixT1, ixT2, ixAt0, ixAt1, ixAt2, ixAt3, ixAt4, tru_bl, tru_int, tru_tup, tru_lst, c_eq_int, c_ne_int, c_lt, c_le, c_gt, c_ge, c_in2, c_inL, c_inT, c_ninT, c_eq_bl, c_ne_bl, b_len_l, b_len_t, b_len_s, b_abs, b_int, b_tup_l, b_tup_t, b_max, b_min, o_add, o_sub, o_mul, o_fdiv, o_mod, o_pow, o_catT, o_catL, o_repT, o_repL, o_repL2, s_tupX, s_lstX, s_scrX, q_tup, q_lst, qi_tup, qi_lst, qi_scr, at_ins, isNon_int, isNon_non, wpN_nx, wpN_ret, wpN_brk, wpN_cnt, trn_nx, trn_cnt, trn_brk, trn_ret, List.map_cons, List.map_nil, List.length_cons, List.length_nil, Nat.zero_add, Nat.reduceAdd, Nat.reduceLT, true_and, and_true, Option.some.injEq, exists_eq_left', exists_eq_left, exists_and_left, Sl.ol.injEq, Sl.v.injEq, Sl.os.injEq, D.int.injEq, D.bl.injEq, D.tup.injEq, D.lst.injEq, D.ref.injEq, Ob.lst.injEq, List.cons.injEq, decide_eq_true_eq, Bool.not_eq_true', decide_eq_false_iff_not, bne_iff_ne, ne_eq, if_true, if_false, Bool.false_eq_true, Bool.true_eq_false, reduceIte, Bool.not_true, Bool.not_false, decide_true, decide_false, not_true_eq_false, not_false_eq_true, ex2, ex3, lim0, lim1, lim2, lim3, lim4, List.cons_append, List.nil_append, List.map, List.replicate]
    exact ⟨⟨_, rfl, hf.1⟩, rfl⟩
end Qv.Law
set_option Elab.async false
set_option linter.all false
set_option maxRecDepth 100000
set_option maxHeartbeats 4000000
namespace Qv.Law
open Qv PySem

/-! ### the plain law -/
def runL (n : Nat) (ds : List Deed) : St := ds.foldl done (st0 n)
def lgOf (st : St) : Lg := st.map Prod.snd
theorem runL_take {n : Nat} {ds : List Deed} {i : Nat} {d : Deed} (e : ds[i]? = some d) : runL n (ds.take (i + 1)) = done (runL n (ds.take i)) d := by
  unfold runL
  rw [take_succ e, List.foldl_append]
  rfl
theorem runL_ok {n : Nat} {ds : List Deed} : ∀ i, i ≤ ds.length → StOk i n (runL n (ds.take i))
  | 0, _ => start_St
  | i + 1, h => by
    rw [runL_take (List.getElem?_eq_getElem (by omega))]
    exact (runL_ok i (by omega)).done _
theorem log_lg {st : St} {r : Nat} : logAt (lgOf st) r = tagsAt st r := by
  unfold logAt lgOf tagsAt
  rw [List.getElem?_map]
  cases st[r]? <;> rfl
theorem at_set {st : St} {r q : Nat} {x : Rm} (hr : r < st.length) : heldAt (st.set r x) q = (if q = r then x.1 else heldAt st q) ∧ tagsAt (st.set r x) q = (if q = r then x.2 else tagsAt st q) := by
  unfold heldAt tagsAt
  by_cases e : q = r
  · subst e
    rw [List.getElem?_set_self hr, if_pos rfl, if_pos rfl]
    exact ⟨rfl, rfl⟩
  · rw [List.getElem?_set_ne (fun h => e h.symm), if_neg e, if_neg e]
    exact ⟨rfl, rfl⟩
/-- the web's state is the law's, cut -/
def Rel (ms : List Nat) (st sw : St) : Prop := st.length = ms.length ∧ sw.length = ms.length ∧ ∀ r, heldAt sw r = heldAt st r ∧ tagsAt sw r = (tagsAt st r).take (keepN ms r)
theorem keep_pos {ms : List Nat} {r : Nat} : 1 ≤ keepN ms r ∧ memAt ms r ≤ keepN ms r := by unfold keepN; omega
theorem Rel.start {ms : List Nat} : Rel ms (st0 ms.length) (st0 ms.length) := by
  refine ⟨by simp [st0], by simp [st0], fun r => ⟨rfl, ?_⟩⟩
  have : tagsAt (st0 ms.length) r = [] := by
    unfold tagsAt st0
    rw [List.getElem?_replicate]
    split <;> rfl
  rw [this]
  simp
theorem Rel.step {ms : List Nat} {st sw : St} (h : Rel ms st sw) {d : Deed} (hd : d.room < ms.length) : Rel ms (done st d) (doneW ms sw d) := by
  obtain ⟨h1, h2, h3⟩ := h
  cases d with
  | give r t =>
    have hr : r < ms.length := hd
    refine ⟨by simp [done, h1], by simp [doneW, h2], fun q => ?_⟩
    unfold done doneW
    obtain ⟨a1, a2⟩ := at_set (st := st) (r := r) (q := q) (x := (true, t :: tagsAt st r)) (by omega)
    obtain ⟨b1, b2⟩ := at_set (st := sw) (r := r) (q := q) (x := (true, (t :: tagsAt sw r).take (keepN ms r))) (by omega)
    rw [a1, a2, b1, b2]
    by_cases e : q = r
    · subst e
      simp only [if_true, true_and]
      rw [(h3 q).2]
      obtain ⟨n, hn⟩ : ∃ n, keepN ms q = n + 1 := ⟨keepN ms q - 1, by have := keep_pos (ms := ms) (r := q); omega⟩
      rw [hn, List.take_succ_cons, List.take_succ_cons, List.take_take, Nat.min_eq_left (by omega)]
    · rw [if_neg e, if_neg e, if_neg e, if_neg e]
      exact h3 q
  | back r =>
    have hr : r < ms.length := hd
    refine ⟨by simp [done, h1], by simp [doneW, h2], fun q => ?_⟩
    unfold done doneW
    obtain ⟨a1, a2⟩ := at_set (st := st) (r := r) (q := q) (x := (false, tagsAt st r)) (by omega)
    obtain ⟨b1, b2⟩ := at_set (st := sw) (r := r) (q := q) (x := (false, tagsAt sw r)) (by omega)
    rw [a1, a2, b1, b2]
    by_cases e : q = r
    · subst e
      simp only [if_true, true_and]
      exact (h3 q).2
    · rw [if_neg e, if_neg e, if_neg e, if_neg e]
      exact h3 q
theorem Rel.bars {ms : List Nat} {ts : List (Nat × Nat)} {st sw : St} (h : Rel ms st sw) (r : Nat) : barsL ms ts sw r = barsL ms ts st r := by
  unfold barsL
  rw [(h.2.2 r).2, List.take_take, Nat.min_eq_left keep_pos.2]
  congr 2
  funext o
  unfold newest
  rw [(h.2.2 o.toNat).1, (h.2.2 o.toNat).2, List.take_take, Nat.min_eq_left keep_pos.1]
theorem Rel.bad {ms : List Nat} {ts : List (Nat × Nat)} {st sw : St} (h : Rel ms st sw) (d : Deed) : bad ms ts sw d = bad ms ts st d := by
  cases d with
  | give r t => unfold Law.bad; dsimp only; rw [h.bars r]
  | back r => rfl
theorem Rel.new {ms : List Nat} {st sw : St} (h : Rel ms st sw) (r : Nat) : (tagsAt sw r)[0]? = (tagsAt st r)[0]? := by
  rw [(h.2.2 r).2, List.getElem?_take, if_pos (by have := keep_pos (ms := ms) (r := r); omega)]
theorem Rel.look {ms : List Nat} {ts : List (Nat × Nat)} {st sw : St} (h : Rel ms st sw) (lg : Lg) (r : Nat) : Look ms ts sw lg r ↔ Look ms ts st lg r := by
  unfold Look Look1 Look2
  simp only [h.new, (h.2.2 _).1]
theorem Rel.run {ms : List Nat} {ds : List Deed} (hd : ∀ d ∈ ds, d.room < ms.length) : ∀ i, i ≤ ds.length → Rel ms (runL ms.length (ds.take i)) (runW ms (ds.take i))
  | 0, _ => Rel.start
  | i + 1, h => by
    have e := List.getElem?_eq_getElem (l := ds) (i := i) (by omega)
    rw [runL_take e, runW_take e]
    exact (Rel.run hd i (by omega)).step (hd _ (List.getElem_mem _))
theorem fb_app {ms : List Nat} {ts : List (Nat × Nat)} {d : Deed} : ∀ {ds : List Deed} {st : St} {n : Nat}, fb ms ts st n (ds ++ [d]) = match fb ms ts st n ds with
    | some k => some k
    | none => if bad ms ts (ds.foldl (doneW ms) st) d = true then some (n + ds.length) else none
  | [], st, n => rfl
  | e :: ds, st, n => by
    rw [List.cons_append]
    simp only [fb]
    by_cases h : bad ms ts st e = true
    · rw [if_pos h, if_pos h]
    · rw [if_neg h, if_neg h, fb_app (ds := ds), List.foldl_cons]
      rw [show n + 1 + ds.length = n + (e :: ds).length by simp; omega]
def Inv (ms : List Nat) (ts : List (Nat × Nat)) (st : St) : Prop := ∀ r, r < ms.length → ¬Look ms ts st (lgOf st) r
theorem near_sym {ts : List (Nat × Nat)} {r q : Nat} (h : (q : Int) ∈ nearL ts r) : (r : Int) ∈ nearL ts q := by
  obtain ⟨p, hp, h⟩ := mem_near.mp h
  refine mem_near.mpr ⟨p, hp, ?_⟩
  rcases h with ⟨h1, h2⟩ | ⟨h1, h2⟩
  · exact .inr ⟨by omega, by omega⟩
  · exact .inl ⟨by omega, by omega⟩
theorem mem_take1 {l : List Int} {t : Int} (h : l[0]? = some t) : t ∈ l.take 1 := by
  cases l with
  | nil => cases h
  | cons a b => cases h; simp
theorem inv_start {ms : List Nat} {ts : List (Nat × Nat)} : Inv ms ts (st0 ms.length) := by
  intro r hr h
  have : heldAt (st0 ms.length) r = false := by
    unfold heldAt st0
    rw [List.getElem?_replicate]
    split <;> rfl
  rcases h with ⟨o, _, h⟩ | ⟨a, _, _, _, h⟩
  · have := h.1; simp_all
  · have := h.1; simp_all
theorem inv_step {ms : List Nat} {ts : List (Nat × Nat)} (hp : PartsOk ms ts) {N : Nat} {st : St} (hs : StOk N ms.length st) (h : Inv ms ts st) {d : Deed} (hd : d.room < ms.length) (hb : bad ms ts st d = false) : Inv ms ts (done st d) := by
  have hl := hs.len
  cases d with
  | give r t =>
    have hr : r < ms.length := hd
    have hb : t ∉ barsL ms ts st r := of_decide_eq_false hb
    have at' : ∀ q, heldAt (st.set r (true, t :: tagsAt st r)) q = (if q = r then true else heldAt st q) ∧ tagsAt (st.set r (true, t :: tagsAt st r)) q = (if q = r then t :: tagsAt st r else tagsAt st q) := fun q => at_set (by omega)
    have nb : ∀ j : Nat, (j : Int) ∈ nearL ts r → heldAt st j = true → (tagsAt st j)[0]? ≠ some t := fun j hj hh e => hb (by
      unfold barsL
      refine List.mem_append.mpr (.inr (List.mem_flatMap.mpr ⟨_, hj, ?_⟩))
      unfold newest
      rw [Int.toNat_natCast, if_pos hh]
      exact mem_take1 e)
    unfold done
    intro q hq hlk
    rcases hlk with ⟨o, ho, h1, h2, h3⟩ | ⟨a, a1, a2, a3, h1, h2⟩
    · obtain ⟨j, rfl, hj, hne⟩ := near_room hp ho
      rw [Int.toNat_natCast] at h2 h3
      rw [log_lg] at h3
      rw [(at' _).1] at h1 h2
      rw [(at' _).2, (at' _).2] at h3
      by_cases e : q = r
      · subst e
        rw [if_neg hne] at h2 h3
        rw [if_pos rfl] at h3
        exact nb j ho h2 h3
      · rw [if_neg e] at h1 h3
        by_cases e2 : j = r
        · subst e2
          rw [if_pos rfl] at h3
          exact nb q (near_sym ho) h1 h3.symm
        · rw [if_neg e2] at h2 h3
          exact h q hq (.inl ⟨_, ho, h1, by rw [Int.toNat_natCast]; exact h2, by rw [Int.toNat_natCast, log_lg]; exact h3⟩)
    · rw [log_lg] at a3 h2
      rw [(at' _).1] at h1
      rw [(at' _).2] at a3 h2
      by_cases e : q = r
      · subst e
        rw [if_pos rfl] at a3 h2
        obtain ⟨b, rfl⟩ : ∃ b, a = b + 1 := ⟨a - 1, by omega⟩
        rw [List.getElem?_cons_succ] at h2
        apply hb
        unfold barsL
        refine List.mem_append.mpr (.inl (List.mem_of_getElem? (i := b) ?_))
        rw [List.getElem?_take, if_pos (by omega)]
        exact h2.symm
      · rw [if_neg e] at h1 a3 h2
        exact h q hq (.inr ⟨a, a1, a2, by rw [log_lg]; exact a3, h1, by rw [log_lg]; exact h2⟩)
  | back r =>
    have hr : r < ms.length := hd
    have at' : ∀ q, heldAt (st.set r (false, tagsAt st r)) q = (if q = r then false else heldAt st q) ∧ tagsAt (st.set r (false, tagsAt st r)) q = tagsAt st q := fun q => by
      obtain ⟨a1, a2⟩ := at_set (st := st) (r := r) (q := q) (x := (false, tagsAt st r)) (by omega)
      refine ⟨a1, ?_⟩
      rw [a2]
      split
      · rename_i e; rw [e]
      · rfl
    have hh : ∀ q, heldAt (st.set r (false, tagsAt st r)) q = true → heldAt st q = true := fun q e => by
      rw [(at' q).1] at e
      split at e
      · cases e
      · exact e
    unfold done
    intro q hq hlk
    rcases hlk with ⟨o, ho, h1, h2, h3⟩ | ⟨a, a1, a2, a3, h1, h2⟩
    · rw [log_lg, (at' _).2, (at' _).2] at h3
      exact h q hq (.inl ⟨_, ho, hh _ h1, hh _ h2, by rw [log_lg]; exact h3⟩)
    · rw [log_lg, (at' _).2] at a3
      rw [log_lg, (at' _).2] at h2
      exact h q hq (.inr ⟨a, a1, a2, by rw [log_lg]; exact a3, hh _ h1, by rw [log_lg]; exact h2⟩)
theorem bad_look {ms : List Nat} {ts : List (Nat × Nat)} (hp : PartsOk ms ts) {N : Nat} {st : St} (hs : StOk N ms.length st) {d : Deed} (hd : d.room < ms.length) (hb : bad ms ts st d = true) : ∃ r, r < ms.length ∧ Look ms ts (done st d) (lgOf (done st d)) r := by
  have hl := hs.len
  cases d with
  | back r => cases hb
  | give r t =>
    have hr : r < ms.length := hd
    have hb : t ∈ barsL ms ts st r := of_decide_eq_true hb
    have at' : ∀ q, heldAt (st.set r (true, t :: tagsAt st r)) q = (if q = r then true else heldAt st q) ∧ tagsAt (st.set r (true, t :: tagsAt st r)) q = (if q = r then t :: tagsAt st r else tagsAt st q) := fun q => at_set (by omega)
    refine ⟨r, hr, ?_⟩
    unfold done
    rcases List.mem_append.mp hb with hb | hb
    · obtain ⟨i, e⟩ := List.getElem?_of_mem hb
      have hi := (List.getElem?_eq_some_iff.mp e).1
      rw [List.length_take] at hi
      rw [List.getElem?_take, if_pos (by omega)] at e
      refine .inr ⟨i + 1, by omega, by omega, ?_, ?_, ?_⟩
      · rw [log_lg, (at' _).2, if_pos rfl, List.length_cons]; omega
      · rw [(at' _).1, if_pos rfl]
      · rw [log_lg, (at' _).2, if_pos rfl, List.getElem?_cons_succ, e]
        rfl
    · obtain ⟨o, ho, hn⟩ := List.mem_flatMap.mp hb
      obtain ⟨j, rfl, hj, hne⟩ := near_room hp ho
      unfold newest at hn
      rw [Int.toNat_natCast] at hn
      split at hn
      · rename_i hh
        obtain ⟨a, b, e⟩ := hs.newAt hh
        rw [e] at hn
        simp at hn
        subst hn
        refine .inl ⟨_, ho, ?_, ?_, ?_⟩
        · rw [(at' _).1, if_pos rfl]
        · rw [Int.toNat_natCast, (at' _).1, if_neg hne]; exact hh
        · rw [Int.toNat_natCast, log_lg, (at' _).2, (at' _).2, if_neg hne, if_pos rfl, e]
          rfl
      · cases hn
end Qv.Law
set_option Elab.async false
set_option linter.all false
set_option maxRecDepth 100000
set_option maxHeartbeats 4000000
namespace Qv.Law
open Qv PySem

def lgOb (st : St) : Ob := .lst ((lgOf st).map tagD)
theorem low_lg {st : St} {n : Nat} : Ob.low n (lgOb st) = true := lows_map (f := tagD) (fun l => lows_map (f := D.int) (fun _ => rfl) l) _
def LawE (ns : List Int) (x2 x3 x4 x5 x6 x7 x8 x9 x10 x11 x12 x13 x14 x15 x16 : Option Sl) : En := [some (.v (.scr ns)), some (.v (.ref 0)), x2, x3, x4, x5, x6, x7, x8, x9, x10, x11, x12, x13, x14, x15, x16]
def LawI (ns : List Int) (i : Nat) (E : En) (S : Sh) : Prop := ∃ R x2 x3 x4 x5 x6 x7 x8 x9 x10 x11 x12 x13 x14 x15 x16, LowR R ∧ HS R S ∧ E = LawE ns x2 x3 x4 x5 x6 x7 x8 x9 x10 x11 x12 x13 x14 x15 x16
def LawM (ns : List Int) (f : Fl) (E : En) (S : Sh) : Prop := f = .nx ∧ LawI ns 3 E S
/-- what was drawn -/
def DrawnM (ns : List Int) (R : Sh) (f : Fl) (E : En) (S : Sh) : Prop := f = .nx ∧ HS R S ∧ ∃ ms ts kk many careful x2 x3 x8 x9 x10 x11 x12 x13 x14 x15 x16, PartsOk ms ts ∧ ms.length ≤ 8 ∧ 0 < kk ∧ kk ≤ 1000 ∧ 0 ≤ many ∧ many ≤ 500 ∧ 0 < careful ∧ careful < 1000000 ∧
  E = LawE ns x2 x3 (some (.v (partsD ms ts))) (some (.v (.int kk))) (some (.v (.int many))) (some (.v (.int careful))) x8 x9 x10 x11 x12 x13 x14 x15 x16
/-- the turns of one past -/
def InI (ns : List Int) (ms : List Nat) (ts : List (Nat × Nat)) (ds : List Deed) (o : Ob) (R : Sh) (i : Nat) (E : En) (S : Sh) : Prop := ∃ x2 x5 x6 x7 x12 x13 x14 x15 x16,
  S = o :: (R ++ [lgOb (runL ms.length (ds.take i))]) ∧ E = LawE ns x2 (some (.v (pastD ds))) (some (.v (partsD ms ts))) x5 x6 x7 (some (.v (webD ms ts))) (some (.v (.ref (R.length + 1)))) (some (.v (stD (runL ms.length (ds.take i))))) (some (.v (.bl (fb ms ts (st0 ms.length) 0 (ds.take i)).isNone))) x12 x13 x14 x15 x16 ∧
  ((fb ms ts (st0 ms.length) 0 (ds.take i)).isNone = true → Inv ms ts (runL ms.length (ds.take i)))
def TurnE (ns : List Int) (ms : List Nat) (ts : List (Nat × Nat)) (ds : List Deed) (R : Sh) (y2 y5 y6 y7 : Option Sl) (st : St) (cl : Bool) (j : Nat) (d : Deed) (x14 x15 x16 : Option Sl) : En := LawE ns y2 (some (.v (pastD ds))) (some (.v (partsD ms ts))) y5 y6 y7 (some (.v (webD ms ts))) (some (.v (.ref (R.length + 1)))) (some (.v (stD st))) (some (.v (.bl cl))) (some (.v (.int (j : Int)))) (some (.v (deedD d))) x14 x15 x16
/-- a statement's end: the flow goes on, with these slots and these objects -/
def At (E0 : En) (S0 : Sh) (f : Fl) (E : En) (S : Sh) : Prop := f = .nx ∧ E = E0 ∧ S = S0
theorem b_at {C : Calls} {st : IS} {bb : ISs} {E : En} {S : Sh} {QQ : Fl → En → Sh → Prop} (E0 : En) (S0 : Sh) (h : wpS C st E S (At E0 S0)) (k : wpB C bb E0 S0 QQ) : wpB C (.cons st bb) E S QQ := b_consR (At E0 S0) h fun f E S ⟨e1, e2, e3⟩ => by subst e1 e2 e3; exact k
theorem b_nilA {C : Calls} {E : En} {S : Sh} : wpB C .nil E S (At E S) := b_nilW ⟨rfl, rfl, rfl⟩
theorem log_at {o x : Ob} {R : Sh} : (o :: (R ++ [x]))[R.length + 1]? = some x := by simp
theorem log_set {o x y : Ob} {R : Sh} : (o :: (R ++ [x])).set (R.length + 1) y = o :: (R ++ [y]) := by simp
theorem set_id {α : Type} {l : List α} {r : Nat} {x : α} (h : l[r]? = some x) : l.set r x = l := by
  apply List.ext_getElem?
  intro i
  by_cases e : i = r
  · subst e
    rw [List.getElem?_set_self (List.getElem?_eq_some_iff.mp h).1, h]
  · rw [List.getElem?_set_ne fun q => e q.symm]
theorem bl_ne {a b : Bool} : (a != b) = (!(a == b)) := rfl
theorem law_ok (k : Nat) (ns : List Int) : Ok (callAt L.pg (k + 10) 27 [.scr ns] []) fun d _ => d = .bl true := by
  refine fn_W (fn := f_law) rfl rfl ?_
  unfold f_law b_law
  refine b_consW ?_
  try simp only [wpS, wpT, wpE, wpO, wpEs, wpAs, wpL, wpC, wpI, wpG, wpPar, wpSE, brwW, slotV, slotA, List.getElem?_cons_zero, List.getElem?_cons_succ, List.set_cons_zero, List.set_cons_succ, drf_int, drf_bl, drf_non, drf_str, drf_tup, drf_lst, drf_scr, drf_set, drf_ty, drf_ins, drf_glo, drf_0, ixL0, ixL1, ixL2, ixL3, ixL4, ixT0, ixT1, ixT2, ixAt0, ixAt1, ixAt2, ixAt3, ixAt4, tru_bl, tru_int, tru_tup, tru_lst, c_eq_int, c_ne_int, c_lt, c_le, c_gt, c_ge, c_in2, c_inL, c_inT, c_ninT, c_eq_bl, c_ne_bl, b_len_l, b_len_t, b_len_s, b_abs, b_int, b_tup_l, b_tup_t, b_max, b_min, o_add, o_sub, o_mul, o_fdiv, o_mod, o_pow, o_catT, o_catL, o_repT, o_repL, o_repL2, s_tupX, s_lstX, s_scrX, q_tup, q_lst, qi_tup, qi_lst, qi_scr, at_ins, isNon_int, isNon_non, wpN_nx, wpN_ret, wpN_brk, wpN_cnt, trn_nx, trn_cnt, trn_brk, trn_ret, List.map_cons, List.map_nil, List.length_cons, List.length_nil, Nat.zero_add, Nat.reduceAdd, Nat.reduceLT, true_and, and_true, Option.some.injEq, exists_eq_left', exists_eq_left, exists_and_left, Sl.ol.injEq, Sl.v.injEq, Sl.os.injEq, D.int.injEq, D.bl.injEq, D.tup.injEq, D.lst.injEq, D.ref.injEq, Ob.lst.injEq, List.cons.injEq, decide_eq_true_eq, Bool.not_eq_true', decide_eq_false_iff_not, bne_iff_ne, ne_eq, if_true, if_false, Bool.false_eq_true, Bool.true_eq_false, reduceIte, Bool.not_true, Bool.not_false, decide_true, decide_false, not_true_eq_false, not_false_eq_true, ex2, ex3, lim0, lim1, lim2, lim3, lim4, List.cons_append, List.nil_append, List.map, List.replicate]
  refine (hand_ok (k + 8) ns).mono fun d S ⟨e, hS⟩ => ?_
  subst e
  try simp only [wpS, wpT, wpE, wpO, wpEs, wpAs, wpL, wpC, wpI, wpG, wpPar, wpSE, brwW, slotV, slotA, List.getElem?_cons_zero, List.getElem?_cons_succ, List.set_cons_zero, List.set_cons_succ, drf_int, drf_bl, drf_non, drf_str, drf_tup, drf_lst, drf_scr, drf_set, drf_ty, drf_ins, drf_glo, drf_0, ixL0, ixL1, ixL2, ixL3, ixL4, ixT0, ixT1, ixT2, ixAt0, ixAt1, ixAt2, ixAt3, ixAt4, tru_bl, tru_int, tru_tup, tru_lst, c_eq_int, c_ne_int, c_lt, c_le, c_gt, c_ge, c_in2, c_inL, c_inT, c_ninT, c_eq_bl, c_ne_bl, b_len_l, b_len_t, b_len_s, b_abs, b_int, b_tup_l, b_tup_t, b_max, b_min, o_add, o_sub, o_mul, o_fdiv, o_mod, o_pow, o_catT, o_catL, o_repT, o_repL, o_repL2, s_tupX, s_lstX, s_scrX, q_tup, q_lst, qi_tup, qi_lst, qi_scr, at_ins, isNon_int, isNon_non, wpN_nx, wpN_ret, wpN_brk, wpN_cnt, trn_nx, trn_cnt, trn_brk, trn_ret, List.map_cons, List.map_nil, List.length_cons, List.length_nil, Nat.zero_add, Nat.reduceAdd, Nat.reduceLT, true_and, and_true, Option.some.injEq, exists_eq_left', exists_eq_left, exists_and_left, Sl.ol.injEq, Sl.v.injEq, Sl.os.injEq, D.int.injEq, D.bl.injEq, D.tup.injEq, D.lst.injEq, D.ref.injEq, Ob.lst.injEq, List.cons.injEq, decide_eq_true_eq, Bool.not_eq_true', decide_eq_false_iff_not, bne_iff_ne, ne_eq, if_true, if_false, Bool.false_eq_true, Bool.true_eq_false, reduceIte, Bool.not_true, Bool.not_false, decide_true, decide_false, not_true_eq_false, not_false_eq_true, ex2, ex3, lim0, lim1, lim2, lim3, lim4, List.cons_append, List.nil_append, List.map, List.replicate]
  refine b_consR (LawM ns) ?_ ?_
  · try simp only [wpS, wpT, wpE, wpO, wpEs, wpAs, wpL, wpC, wpI, wpG, wpPar, wpSE, brwW, slotV, slotA, List.getElem?_cons_zero, List.getElem?_cons_succ, List.set_cons_zero, List.set_cons_succ, drf_int, drf_bl, drf_non, drf_str, drf_tup, drf_lst, drf_scr, drf_set, drf_ty, drf_ins, drf_glo, drf_0, ixL0, ixL1, ixL2, ixL3, ixL4, ixT0, ixT1, ixT2, ixAt0, ixAt1, ixAt2, ixAt3, ixAt4, tru_bl, tru_int, tru_tup, tru_lst, c_eq_int, c_ne_int, c_lt, c_le, c_gt, c_ge, c_in2, c_inL, c_inT, c_ninT, c_eq_bl, c_ne_bl, b_len_l, b_len_t, b_len_s, b_abs, b_int, b_tup_l, b_tup_t, b_max, b_min, o_add, o_sub, o_mul, o_fdiv, o_mod, o_pow, o_catT, o_catL, o_repT, o_repL, o_repL2, s_tupX, s_lstX, s_scrX, q_tup, q_lst, qi_tup, qi_lst, qi_scr, at_ins, isNon_int, isNon_non, wpN_nx, wpN_ret, wpN_brk, wpN_cnt, trn_nx, trn_cnt, trn_brk, trn_ret, List.map_cons, List.map_nil, List.length_cons, List.length_nil, Nat.zero_add, Nat.reduceAdd, Nat.reduceLT, true_and, and_true, Option.some.injEq, exists_eq_left', exists_eq_left, exists_and_left, Sl.ol.injEq, Sl.v.injEq, Sl.os.injEq, D.int.injEq, D.bl.injEq, D.tup.injEq, D.lst.injEq, D.ref.injEq, Ob.lst.injEq, List.cons.injEq, decide_eq_true_eq, Bool.not_eq_true', decide_eq_false_iff_not, bne_iff_ne, ne_eq, if_true, if_false, Bool.false_eq_true, Bool.true_eq_false, reduceIte, Bool.not_true, Bool.not_false, decide_true, decide_false, not_true_eq_false, not_false_eq_true, ex2, ex3, lim0, lim1, lim2, lim3, lim4, List.cons_append, List.nil_append, List.map, List.replicate]
    refine ⟨by unfold LIM; omega, by unfold LIM; omega, ?_⟩
    refine for_W (I := LawI ns) _ ⟨[], none, none, none, none, none, none, none, none, none, none, none, none, none, none, none, by simp [LowR], hS, rfl⟩ (fun i x E S hx ⟨R, x2, x3, x4, x5, x6, x7, x8, x9, x10, x11, x12, x13, x14, x15, x16, hR, hS, hE⟩ => ?_) (fun E S h => ⟨rfl, h⟩)
    subst hE
    obtain ⟨rfl, hlt⟩ := rngD_at hx
    unfold LawE
    try simp only [wpS, wpT, wpE, wpO, wpEs, wpAs, wpL, wpC, wpI, wpG, wpPar, wpSE, brwW, slotV, slotA, List.getElem?_cons_zero, List.getElem?_cons_succ, List.set_cons_zero, List.set_cons_succ, drf_int, drf_bl, drf_non, drf_str, drf_tup, drf_lst, drf_scr, drf_set, drf_ty, drf_ins, drf_glo, drf_0, ixL0, ixL1, ixL2, ixL3, ixL4, ixT0, ixT1, ixT2, ixAt0, ixAt1, ixAt2, ixAt3, ixAt4, tru_bl, tru_int, tru_tup, tru_lst, c_eq_int, c_ne_int, c_lt, c_le, c_gt, c_ge, c_in2, c_inL, c_inT, c_ninT, c_eq_bl, c_ne_bl, b_len_l, b_len_t, b_len_s, b_abs, b_int, b_tup_l, b_tup_t, b_max, b_min, o_add, o_sub, o_mul, o_fdiv, o_mod, o_pow, o_catT, o_catL, o_repT, o_repL, o_repL2, s_tupX, s_lstX, s_scrX, q_tup, q_lst, qi_tup, qi_lst, qi_scr, at_ins, isNon_int, isNon_non, wpN_nx, wpN_ret, wpN_brk, wpN_cnt, trn_nx, trn_cnt, trn_brk, trn_ret, List.map_cons, List.map_nil, List.length_cons, List.length_nil, Nat.zero_add, Nat.reduceAdd, Nat.reduceLT, true_and, and_true, Option.some.injEq, exists_eq_left', exists_eq_left, exists_and_left, Sl.ol.injEq, Sl.v.injEq, Sl.os.injEq, D.int.injEq, D.bl.injEq, D.tup.injEq, D.lst.injEq, D.ref.injEq, Ob.lst.injEq, List.cons.injEq, decide_eq_true_eq, Bool.not_eq_true', decide_eq_false_iff_not, bne_iff_ne, ne_eq, if_true, if_false, Bool.false_eq_true, Bool.true_eq_false, reduceIte, Bool.not_true, Bool.not_false, decide_true, decide_false, not_true_eq_false, not_false_eq_true, ex2, ex3, lim0, lim1, lim2, lim3, lim4, List.cons_append, List.nil_append, List.map, List.replicate]
    refine b_consW ?_
    try simp only [wpS, wpT, wpE, wpO, wpEs, wpAs, wpL, wpC, wpI, wpG, wpPar, wpSE, brwW, slotV, slotA, List.getElem?_cons_zero, List.getElem?_cons_succ, List.set_cons_zero, List.set_cons_succ, drf_int, drf_bl, drf_non, drf_str, drf_tup, drf_lst, drf_scr, drf_set, drf_ty, drf_ins, drf_glo, drf_0, ixL0, ixL1, ixL2, ixL3, ixL4, ixT0, ixT1, ixT2, ixAt0, ixAt1, ixAt2, ixAt3, ixAt4, tru_bl, tru_int, tru_tup, tru_lst, c_eq_int, c_ne_int, c_lt, c_le, c_gt, c_ge, c_in2, c_inL, c_inT, c_ninT, c_eq_bl, c_ne_bl, b_len_l, b_len_t, b_len_s, b_abs, b_int, b_tup_l, b_tup_t, b_max, b_min, o_add, o_sub, o_mul, o_fdiv, o_mod, o_pow, o_catT, o_catL, o_repT, o_repL, o_repL2, s_tupX, s_lstX, s_scrX, q_tup, q_lst, qi_tup, qi_lst, qi_scr, at_ins, isNon_int, isNon_non, wpN_nx, wpN_ret, wpN_brk, wpN_cnt, trn_nx, trn_cnt, trn_brk, trn_ret, List.map_cons, List.map_nil, List.length_cons, List.length_nil, Nat.zero_add, Nat.reduceAdd, Nat.reduceLT, true_and, and_true, Option.some.injEq, exists_eq_left', exists_eq_left, exists_and_left, Sl.ol.injEq, Sl.v.injEq, Sl.os.injEq, D.int.injEq, D.bl.injEq, D.tup.injEq, D.lst.injEq, D.ref.injEq, Ob.lst.injEq, List.cons.injEq, decide_eq_true_eq, Bool.not_eq_true', decide_eq_false_iff_not, bne_iff_ne, ne_eq, if_true, if_false, Bool.false_eq_true, Bool.true_eq_false, reduceIte, Bool.not_true, Bool.not_false, decide_true, decide_false, not_true_eq_false, not_false_eq_true, ex2, ex3, lim0, lim1, lim2, lim3, lim4, List.cons_append, List.nil_append, List.map, List.replicate]
    refine (parts_ok (C := L.pg.calls (k + 9)) (k := k + 7) rfl hS (by omega) (by omega) (by omega) (by omega)).mono fun d S1 ⟨ms, ts, e, hp, h8, hS⟩ => ?_
    subst e
    try simp only [wpS, wpT, wpE, wpO, wpEs, wpAs, wpL, wpC, wpI, wpG, wpPar, wpSE, brwW, slotV, slotA, List.getElem?_cons_zero, List.getElem?_cons_succ, List.set_cons_zero, List.set_cons_succ, drf_int, drf_bl, drf_non, drf_str, drf_tup, drf_lst, drf_scr, drf_set, drf_ty, drf_ins, drf_glo, drf_0, ixL0, ixL1, ixL2, ixL3, ixL4, ixT0, ixT1, ixT2, ixAt0, ixAt1, ixAt2, ixAt3, ixAt4, tru_bl, tru_int, tru_tup, tru_lst, c_eq_int, c_ne_int, c_lt, c_le, c_gt, c_ge, c_in2, c_inL, c_inT, c_ninT, c_eq_bl, c_ne_bl, b_len_l, b_len_t, b_len_s, b_abs, b_int, b_tup_l, b_tup_t, b_max, b_min, o_add, o_sub, o_mul, o_fdiv, o_mod, o_pow, o_catT, o_catL, o_repT, o_repL, o_repL2, s_tupX, s_lstX, s_scrX, q_tup, q_lst, qi_tup, qi_lst, qi_scr, at_ins, isNon_int, isNon_non, wpN_nx, wpN_ret, wpN_brk, wpN_cnt, trn_nx, trn_cnt, trn_brk, trn_ret, List.map_cons, List.map_nil, List.length_cons, List.length_nil, Nat.zero_add, Nat.reduceAdd, Nat.reduceLT, true_and, and_true, Option.some.injEq, exists_eq_left', exists_eq_left, exists_and_left, Sl.ol.injEq, Sl.v.injEq, Sl.os.injEq, D.int.injEq, D.bl.injEq, D.tup.injEq, D.lst.injEq, D.ref.injEq, Ob.lst.injEq, List.cons.injEq, decide_eq_true_eq, Bool.not_eq_true', decide_eq_false_iff_not, bne_iff_ne, ne_eq, if_true, if_false, Bool.false_eq_true, Bool.true_eq_false, reduceIte, Bool.not_true, Bool.not_false, decide_true, decide_false, not_true_eq_false, not_false_eq_true, ex2, ex3, lim0, lim1, lim2, lim3, lim4, List.cons_append, List.nil_append, List.map, List.replicate]
    refine (drw (C := L.pg.calls (k + 9)) rfl hS (by omega) (by omega)).mono fun d S2 ⟨⟨n, e, hn⟩, hS⟩ => ?_
    subst e
    try simp only [wpS, wpT, wpE, wpO, wpEs, wpAs, wpL, wpC, wpI, wpG, wpPar, wpSE, brwW, slotV, slotA, List.getElem?_cons_zero, List.getElem?_cons_succ, List.set_cons_zero, List.set_cons_succ, drf_int, drf_bl, drf_non, drf_str, drf_tup, drf_lst, drf_scr, drf_set, drf_ty, drf_ins, drf_glo, drf_0, ixL0, ixL1, ixL2, ixL3, ixL4, ixT0, ixT1, ixT2, ixAt0, ixAt1, ixAt2, ixAt3, ixAt4, tru_bl, tru_int, tru_tup, tru_lst, c_eq_int, c_ne_int, c_lt, c_le, c_gt, c_ge, c_in2, c_inL, c_inT, c_ninT, c_eq_bl, c_ne_bl, b_len_l, b_len_t, b_len_s, b_abs, b_int, b_tup_l, b_tup_t, b_max, b_min, o_add, o_sub, o_mul, o_fdiv, o_mod, o_pow, o_catT, o_catL, o_repT, o_repL, o_repL2, s_tupX, s_lstX, s_scrX, q_tup, q_lst, qi_tup, qi_lst, qi_scr, at_ins, isNon_int, isNon_non, wpN_nx, wpN_ret, wpN_brk, wpN_cnt, trn_nx, trn_cnt, trn_brk, trn_ret, List.map_cons, List.map_nil, List.length_cons, List.length_nil, Nat.zero_add, Nat.reduceAdd, Nat.reduceLT, true_and, and_true, Option.some.injEq, exists_eq_left', exists_eq_left, exists_and_left, Sl.ol.injEq, Sl.v.injEq, Sl.os.injEq, D.int.injEq, D.bl.injEq, D.tup.injEq, D.lst.injEq, D.ref.injEq, Ob.lst.injEq, List.cons.injEq, decide_eq_true_eq, Bool.not_eq_true', decide_eq_false_iff_not, bne_iff_ne, ne_eq, if_true, if_false, Bool.false_eq_true, Bool.true_eq_false, reduceIte, Bool.not_true, Bool.not_false, decide_true, decide_false, not_true_eq_false, not_false_eq_true, ex2, ex3, lim0, lim1, lim2, lim3, lim4, List.cons_append, List.nil_append, List.map, List.replicate]
    refine b_consW ?_
    try simp only [wpS, wpT, wpE, wpO, wpEs, wpAs, wpL, wpC, wpI, wpG, wpPar, wpSE, brwW, slotV, slotA, List.getElem?_cons_zero, List.getElem?_cons_succ, List.set_cons_zero, List.set_cons_succ, drf_int, drf_bl, drf_non, drf_str, drf_tup, drf_lst, drf_scr, drf_set, drf_ty, drf_ins, drf_glo, drf_0, ixL0, ixL1, ixL2, ixL3, ixL4, ixT0, ixT1, ixT2, ixAt0, ixAt1, ixAt2, ixAt3, ixAt4, tru_bl, tru_int, tru_tup, tru_lst, c_eq_int, c_ne_int, c_lt, c_le, c_gt, c_ge, c_in2, c_inL, c_inT, c_ninT, c_eq_bl, c_ne_bl, b_len_l, b_len_t, b_len_s, b_abs, b_int, b_tup_l, b_tup_t, b_max, b_min, o_add, o_sub, o_mul, o_fdiv, o_mod, o_pow, o_catT, o_catL, o_repT, o_repL, o_repL2, s_tupX, s_lstX, s_scrX, q_tup, q_lst, qi_tup, qi_lst, qi_scr, at_ins, isNon_int, isNon_non, wpN_nx, wpN_ret, wpN_brk, wpN_cnt, trn_nx, trn_cnt, trn_brk, trn_ret, List.map_cons, List.map_nil, List.length_cons, List.length_nil, Nat.zero_add, Nat.reduceAdd, Nat.reduceLT, true_and, and_true, Option.some.injEq, exists_eq_left', exists_eq_left, exists_and_left, Sl.ol.injEq, Sl.v.injEq, Sl.os.injEq, D.int.injEq, D.bl.injEq, D.tup.injEq, D.lst.injEq, D.ref.injEq, Ob.lst.injEq, List.cons.injEq, decide_eq_true_eq, Bool.not_eq_true', decide_eq_false_iff_not, bne_iff_ne, ne_eq, if_true, if_false, Bool.false_eq_true, Bool.true_eq_false, reduceIte, Bool.not_true, Bool.not_false, decide_true, decide_false, not_true_eq_false, not_false_eq_true, ex2, ex3, lim0, lim1, lim2, lim3, lim4, List.cons_append, List.nil_append, List.map, List.replicate]
    refine (drw (C := L.pg.calls (k + 9)) rfl hS (by omega) (by omega)).mono fun d S3 ⟨⟨n2, e, hn2⟩, hS⟩ => ?_
    subst e
    try simp only [wpS, wpT, wpE, wpO, wpEs, wpAs, wpL, wpC, wpI, wpG, wpPar, wpSE, brwW, slotV, slotA, List.getElem?_cons_zero, List.getElem?_cons_succ, List.set_cons_zero, List.set_cons_succ, drf_int, drf_bl, drf_non, drf_str, drf_tup, drf_lst, drf_scr, drf_set, drf_ty, drf_ins, drf_glo, drf_0, ixL0, ixL1, ixL2, ixL3, ixL4, ixT0, ixT1, ixT2, ixAt0, ixAt1, ixAt2, ixAt3, ixAt4, tru_bl, tru_int, tru_tup, tru_lst, c_eq_int, c_ne_int, c_lt, c_le, c_gt, c_ge, c_in2, c_inL, c_inT, c_ninT, c_eq_bl, c_ne_bl, b_len_l, b_len_t, b_len_s, b_abs, b_int, b_tup_l, b_tup_t, b_max, b_min, o_add, o_sub, o_mul, o_fdiv, o_mod, o_pow, o_catT, o_catL, o_repT, o_repL, o_repL2, s_tupX, s_lstX, s_scrX, q_tup, q_lst, qi_tup, qi_lst, qi_scr, at_ins, isNon_int, isNon_non, wpN_nx, wpN_ret, wpN_brk, wpN_cnt, trn_nx, trn_cnt, trn_brk, trn_ret, List.map_cons, List.map_nil, List.length_cons, List.length_nil, Nat.zero_add, Nat.reduceAdd, Nat.reduceLT, true_and, and_true, Option.some.injEq, exists_eq_left', exists_eq_left, exists_and_left, Sl.ol.injEq, Sl.v.injEq, Sl.os.injEq, D.int.injEq, D.bl.injEq, D.tup.injEq, D.lst.injEq, D.ref.injEq, Ob.lst.injEq, List.cons.injEq, decide_eq_true_eq, Bool.not_eq_true', decide_eq_false_iff_not, bne_iff_ne, ne_eq, if_true, if_false, Bool.false_eq_true, Bool.true_eq_false, reduceIte, Bool.not_true, Bool.not_false, decide_true, decide_false, not_true_eq_false, not_false_eq_true, ex2, ex3, lim0, lim1, lim2, lim3, lim4, List.cons_append, List.nil_append, List.map, List.replicate]
    refine (drw (C := L.pg.calls (k + 9)) rfl hS (by omega) (by omega)).mono fun d S4 ⟨⟨n3, e, hn3⟩, hS⟩ => ?_
    subst e
    obtain ⟨careful, hc, c1, c2⟩ : ∃ c : Int, ixD (.lst [.int 2, .int 8, .int 40]) (.int (n3 : Int)) = some (.int c) ∧ 0 < c ∧ c < 1000000 := by
      match n3, hn3 with
      | 0, _ => exact ⟨2, rfl, by omega, by omega⟩
      | 1, _ => exact ⟨8, rfl, by omega, by omega⟩
      | 2, _ => exact ⟨40, rfl, by omega, by omega⟩
      | n + 3, h => omega
    try simp only [hc, wpS, wpT, wpE, wpO, wpEs, wpAs, wpL, wpC, wpI, wpG, wpPar, wpSE, brwW, slotV, slotA, List.getElem?_cons_zero, List.getElem?_cons_succ, List.set_cons_zero, List.set_cons_succ, drf_int, drf_bl, drf_non, drf_str, drf_tup, drf_lst, drf_scr, drf_set, drf_ty, drf_ins, drf_glo, drf_0, ixL0, ixL1, ixL2, ixL3, ixL4, ixT0, ixT1, ixT2, ixAt0, ixAt1, ixAt2, ixAt3, ixAt4, tru_bl, tru_int, tru_tup, tru_lst, c_eq_int, c_ne_int, c_lt, c_le, c_gt, c_ge, c_in2, c_inL, c_inT, c_ninT, c_eq_bl, c_ne_bl, b_len_l, b_len_t, b_len_s, b_abs, b_int, b_tup_l, b_tup_t, b_max, b_min, o_add, o_sub, o_mul, o_fdiv, o_mod, o_pow, o_catT, o_catL, o_repT, o_repL, o_repL2, s_tupX, s_lstX, s_scrX, q_tup, q_lst, qi_tup, qi_lst, qi_scr, at_ins, isNon_int, isNon_non, wpN_nx, wpN_ret, wpN_brk, wpN_cnt, trn_nx, trn_cnt, trn_brk, trn_ret, List.map_cons, List.map_nil, List.length_cons, List.length_nil, Nat.zero_add, Nat.reduceAdd, Nat.reduceLT, true_and, and_true, Option.some.injEq, exists_eq_left', exists_eq_left, exists_and_left, Sl.ol.injEq, Sl.v.injEq, Sl.os.injEq, D.int.injEq, D.bl.injEq, D.tup.injEq, D.lst.injEq, D.ref.injEq, Ob.lst.injEq, List.cons.injEq, decide_eq_true_eq, Bool.not_eq_true', decide_eq_false_iff_not, bne_iff_ne, ne_eq, if_true, if_false, Bool.false_eq_true, Bool.true_eq_false, reduceIte, Bool.not_true, Bool.not_false, decide_true, decide_false, not_true_eq_false, not_false_eq_true, ex2, ex3, lim0, lim1, lim2, lim3, lim4, List.cons_append, List.nil_append, List.map, List.replicate]
    refine b_consR (DrawnM ns R) ?_ ?_
    · have keep : DrawnM ns R .nx [some (Sl.v (D.scr ns)), some (Sl.v (D.ref 0)), some (Sl.v (D.int (0 + i))), x3, some (Sl.v (partsD ms ts)), some (Sl.v (D.int (1 + n))), some (Sl.v (D.int n2)), some (Sl.v (D.int careful)), x8, x9, x10, x11, x12, x13, x14, x15, x16] S4 := ⟨rfl, hS, ms, ts, _, _, _, _, _, _, _, _, _, _, _, _, _, _, hp, h8, by omega, by omega, by omega, by omega, c1, c2, rfl⟩
      try simp only [wpS, wpT, wpE, wpO, wpEs, wpAs, wpL, wpC, wpI, wpG, wpPar, wpSE, brwW, slotV, slotA, List.getElem?_cons_zero, List.getElem?_cons_succ, List.set_cons_zero, List.set_cons_succ, drf_int, drf_bl, drf_non, drf_str, drf_tup, drf_lst, drf_scr, drf_set, drf_ty, drf_ins, drf_glo, drf_0, ixL0, ixL1, ixL2, ixL3, ixL4, ixT0, ixT1, ixT2, ixAt0, ixAt1, ixAt2, ixAt3, ixAt4, tru_bl, tru_int, tru_tup, tru_lst, c_eq_int, c_ne_int, c_lt, c_le, c_gt, c_ge, c_in2, c_inL, c_inT, c_ninT, c_eq_bl, c_ne_bl, b_len_l, b_len_t, b_len_s, b_abs, b_int, b_tup_l, b_tup_t, b_max, b_min, o_add, o_sub, o_mul, o_fdiv, o_mod, o_pow, o_catT, o_catL, o_repT, o_repL, o_repL2, s_tupX, s_lstX, s_scrX, q_tup, q_lst, qi_tup, qi_lst, qi_scr, at_ins, isNon_int, isNon_non, wpN_nx, wpN_ret, wpN_brk, wpN_cnt, trn_nx, trn_cnt, trn_brk, trn_ret, List.map_cons, List.map_nil, List.length_cons, List.length_nil, Nat.zero_add, Nat.reduceAdd, Nat.reduceLT, true_and, and_true, Option.some.injEq, exists_eq_left', exists_eq_left, exists_and_left, Sl.ol.injEq, Sl.v.injEq, Sl.os.injEq, D.int.injEq, D.bl.injEq, D.tup.injEq, D.lst.injEq, D.ref.injEq, Ob.lst.injEq, List.cons.injEq, decide_eq_true_eq, Bool.not_eq_true', decide_eq_false_iff_not, bne_iff_ne, ne_eq, if_true, if_false, Bool.false_eq_true, Bool.true_eq_false, reduceIte, Bool.not_true, Bool.not_false, decide_true, decide_false, not_true_eq_false, not_false_eq_true, ex2, ex3, lim0, lim1, lim2, lim3, lim4, List.cons_append, List.nil_append, List.map, List.replicate]
      split
      · refine (drw (C := L.pg.calls (k + 9)) rfl hS (by omega) (by omega)).mono fun d S5 ⟨⟨n4, e, hn4⟩, hS5⟩ => ?_
        subst e
        try simp only [wpS, wpT, wpE, wpO, wpEs, wpAs, wpL, wpC, wpI, wpG, wpPar, wpSE, brwW, slotV, slotA, List.getElem?_cons_zero, List.getElem?_cons_succ, List.set_cons_zero, List.set_cons_succ, drf_int, drf_bl, drf_non, drf_str, drf_tup, drf_lst, drf_scr, drf_set, drf_ty, drf_ins, drf_glo, drf_0, ixL0, ixL1, ixL2, ixL3, ixL4, ixT0, ixT1, ixT2, ixAt0, ixAt1, ixAt2, ixAt3, ixAt4, tru_bl, tru_int, tru_tup, tru_lst, c_eq_int, c_ne_int, c_lt, c_le, c_gt, c_ge, c_in2, c_inL, c_inT, c_ninT, c_eq_bl, c_ne_bl, b_len_l, b_len_t, b_len_s, b_abs, b_int, b_tup_l, b_tup_t, b_max, b_min, o_add, o_sub, o_mul, o_fdiv, o_mod, o_pow, o_catT, o_catL, o_repT, o_repL, o_repL2, s_tupX, s_lstX, s_scrX, q_tup, q_lst, qi_tup, qi_lst, qi_scr, at_ins, isNon_int, isNon_non, wpN_nx, wpN_ret, wpN_brk, wpN_cnt, trn_nx, trn_cnt, trn_brk, trn_ret, List.map_cons, List.map_nil, List.length_cons, List.length_nil, Nat.zero_add, Nat.reduceAdd, Nat.reduceLT, true_and, and_true, Option.some.injEq, exists_eq_left', exists_eq_left, exists_and_left, Sl.ol.injEq, Sl.v.injEq, Sl.os.injEq, D.int.injEq, D.bl.injEq, D.tup.injEq, D.lst.injEq, D.ref.injEq, Ob.lst.injEq, List.cons.injEq, decide_eq_true_eq, Bool.not_eq_true', decide_eq_false_iff_not, bne_iff_ne, ne_eq, if_true, if_false, Bool.false_eq_true, Bool.true_eq_false, reduceIte, Bool.not_true, Bool.not_false, decide_true, decide_false, not_true_eq_false, not_false_eq_true, ex2, ex3, lim0, lim1, lim2, lim3, lim4, List.cons_append, List.nil_append, List.map, List.replicate]
        split
        · refine b_consW ?_
          try simp only [wpS, wpT, wpE, wpO, wpEs, wpAs, wpL, wpC, wpI, wpG, wpPar, wpSE, brwW, slotV, slotA, List.getElem?_cons_zero, List.getElem?_cons_succ, List.set_cons_zero, List.set_cons_succ, drf_int, drf_bl, drf_non, drf_str, drf_tup, drf_lst, drf_scr, drf_set, drf_ty, drf_ins, drf_glo, drf_0, ixL0, ixL1, ixL2, ixL3, ixL4, ixT0, ixT1, ixT2, ixAt0, ixAt1, ixAt2, ixAt3, ixAt4, tru_bl, tru_int, tru_tup, tru_lst, c_eq_int, c_ne_int, c_lt, c_le, c_gt, c_ge, c_in2, c_inL, c_inT, c_ninT, c_eq_bl, c_ne_bl, b_len_l, b_len_t, b_len_s, b_abs, b_int, b_tup_l, b_tup_t, b_max, b_min, o_add, o_sub, o_mul, o_fdiv, o_mod, o_pow, o_catT, o_catL, o_repT, o_repL, o_repL2, s_tupX, s_lstX, s_scrX, q_tup, q_lst, qi_tup, qi_lst, qi_scr, at_ins, isNon_int, isNon_non, wpN_nx, wpN_ret, wpN_brk, wpN_cnt, trn_nx, trn_cnt, trn_brk, trn_ret, List.map_cons, List.map_nil, List.length_cons, List.length_nil, Nat.zero_add, Nat.reduceAdd, Nat.reduceLT, true_and, and_true, Option.some.injEq, exists_eq_left', exists_eq_left, exists_and_left, Sl.ol.injEq, Sl.v.injEq, Sl.os.injEq, D.int.injEq, D.bl.injEq, D.tup.injEq, D.lst.injEq, D.ref.injEq, Ob.lst.injEq, List.cons.injEq, decide_eq_true_eq, Bool.not_eq_true', decide_eq_false_iff_not, bne_iff_ne, ne_eq, if_true, if_false, Bool.false_eq_true, Bool.true_eq_false, reduceIte, Bool.not_true, Bool.not_false, decide_true, decide_false, not_true_eq_false, not_false_eq_true, ex2, ex3, lim0, lim1, lim2, lim3, lim4, List.cons_append, List.nil_append, List.map, List.replicate]
          refine (deep_ok (C := L.pg.calls (k + 9)) (k := k + 6) rfl hS5).mono fun d S6 ⟨ms, ts, e, hp, h3, hS⟩ => ?_
          subst e
          try simp only [wpS, wpT, wpE, wpO, wpEs, wpAs, wpL, wpC, wpI, wpG, wpPar, wpSE, brwW, slotV, slotA, List.getElem?_cons_zero, List.getElem?_cons_succ, List.set_cons_zero, List.set_cons_succ, drf_int, drf_bl, drf_non, drf_str, drf_tup, drf_lst, drf_scr, drf_set, drf_ty, drf_ins, drf_glo, drf_0, ixL0, ixL1, ixL2, ixL3, ixL4, ixT0, ixT1, ixT2, ixAt0, ixAt1, ixAt2, ixAt3, ixAt4, tru_bl, tru_int, tru_tup, tru_lst, c_eq_int, c_ne_int, c_lt, c_le, c_gt, c_ge, c_in2, c_inL, c_inT, c_ninT, c_eq_bl, c_ne_bl, b_len_l, b_len_t, b_len_s, b_abs, b_int, b_tup_l, b_tup_t, b_max, b_min, o_add, o_sub, o_mul, o_fdiv, o_mod, o_pow, o_catT, o_catL, o_repT, o_repL, o_repL2, s_tupX, s_lstX, s_scrX, q_tup, q_lst, qi_tup, qi_lst, qi_scr, at_ins, isNon_int, isNon_non, wpN_nx, wpN_ret, wpN_brk, wpN_cnt, trn_nx, trn_cnt, trn_brk, trn_ret, List.map_cons, List.map_nil, List.length_cons, List.length_nil, Nat.zero_add, Nat.reduceAdd, Nat.reduceLT, true_and, and_true, Option.some.injEq, exists_eq_left', exists_eq_left, exists_and_left, Sl.ol.injEq, Sl.v.injEq, Sl.os.injEq, D.int.injEq, D.bl.injEq, D.tup.injEq, D.lst.injEq, D.ref.injEq, Ob.lst.injEq, List.cons.injEq, decide_eq_true_eq, Bool.not_eq_true', decide_eq_false_iff_not, bne_iff_ne, ne_eq, if_true, if_false, Bool.false_eq_true, Bool.true_eq_false, reduceIte, Bool.not_true, Bool.not_false, decide_true, decide_false, not_true_eq_false, not_false_eq_true, ex2, ex3, lim0, lim1, lim2, lim3, lim4, List.cons_append, List.nil_append, List.map, List.replicate]
          refine (drw (C := L.pg.calls (k + 9)) rfl hS (by omega) (by omega)).mono fun d S7 ⟨⟨n5, e, hn5⟩, hS⟩ => ?_
          subst e
          try simp only [wpS, wpT, wpE, wpO, wpEs, wpAs, wpL, wpC, wpI, wpG, wpPar, wpSE, brwW, slotV, slotA, List.getElem?_cons_zero, List.getElem?_cons_succ, List.set_cons_zero, List.set_cons_succ, drf_int, drf_bl, drf_non, drf_str, drf_tup, drf_lst, drf_scr, drf_set, drf_ty, drf_ins, drf_glo, drf_0, ixL0, ixL1, ixL2, ixL3, ixL4, ixT0, ixT1, ixT2, ixAt0, ixAt1, ixAt2, ixAt3, ixAt4, tru_bl, tru_int, tru_tup, tru_lst, c_eq_int, c_ne_int, c_lt, c_le, c_gt, c_ge, c_in2, c_inL, c_inT, c_ninT, c_eq_bl, c_ne_bl, b_len_l, b_len_t, b_len_s, b_abs, b_int, b_tup_l, b_tup_t, b_max, b_min, o_add, o_sub, o_mul, o_fdiv, o_mod, o_pow, o_catT, o_catL, o_repT, o_repL, o_repL2, s_tupX, s_lstX, s_scrX, q_tup, q_lst, qi_tup, qi_lst, qi_scr, at_ins, isNon_int, isNon_non, wpN_nx, wpN_ret, wpN_brk, wpN_cnt, trn_nx, trn_cnt, trn_brk, trn_ret, List.map_cons, List.map_nil, List.length_cons, List.length_nil, Nat.zero_add, Nat.reduceAdd, Nat.reduceLT, true_and, and_true, Option.some.injEq, exists_eq_left', exists_eq_left, exists_and_left, Sl.ol.injEq, Sl.v.injEq, Sl.os.injEq, D.int.injEq, D.bl.injEq, D.tup.injEq, D.lst.injEq, D.ref.injEq, Ob.lst.injEq, List.cons.injEq, decide_eq_true_eq, Bool.not_eq_true', decide_eq_false_iff_not, bne_iff_ne, ne_eq, if_true, if_false, Bool.false_eq_true, Bool.true_eq_false, reduceIte, Bool.not_true, Bool.not_false, decide_true, decide_false, not_true_eq_false, not_false_eq_true, ex2, ex3, lim0, lim1, lim2, lim3, lim4, List.cons_append, List.nil_append, List.map, List.replicate]
          refine (drw (C := L.pg.calls (k + 9)) rfl hS (by omega) (by omega)).mono fun d S8 ⟨⟨n6, e, hn6⟩, hS⟩ => ?_
          subst e
          try simp only [wpS, wpT, wpE, wpO, wpEs, wpAs, wpL, wpC, wpI, wpG, wpPar, wpSE, brwW, slotV, slotA, List.getElem?_cons_zero, List.getElem?_cons_succ, List.set_cons_zero, List.set_cons_succ, drf_int, drf_bl, drf_non, drf_str, drf_tup, drf_lst, drf_scr, drf_set, drf_ty, drf_ins, drf_glo, drf_0, ixL0, ixL1, ixL2, ixL3, ixL4, ixT0, ixT1, ixT2, ixAt0, ixAt1, ixAt2, ixAt3, ixAt4, tru_bl, tru_int, tru_tup, tru_lst, c_eq_int, c_ne_int, c_lt, c_le, c_gt, c_ge, c_in2, c_inL, c_inT, c_ninT, c_eq_bl, c_ne_bl, b_len_l, b_len_t, b_len_s, b_abs, b_int, b_tup_l, b_tup_t, b_max, b_min, o_add, o_sub, o_mul, o_fdiv, o_mod, o_pow, o_catT, o_catL, o_repT, o_repL, o_repL2, s_tupX, s_lstX, s_scrX, q_tup, q_lst, qi_tup, qi_lst, qi_scr, at_ins, isNon_int, isNon_non, wpN_nx, wpN_ret, wpN_brk, wpN_cnt, trn_nx, trn_cnt, trn_brk, trn_ret, List.map_cons, List.map_nil, List.length_cons, List.length_nil, Nat.zero_add, Nat.reduceAdd, Nat.reduceLT, true_and, and_true, Option.some.injEq, exists_eq_left', exists_eq_left, exists_and_left, Sl.ol.injEq, Sl.v.injEq, Sl.os.injEq, D.int.injEq, D.bl.injEq, D.tup.injEq, D.lst.injEq, D.ref.injEq, Ob.lst.injEq, List.cons.injEq, decide_eq_true_eq, Bool.not_eq_true', decide_eq_false_iff_not, bne_iff_ne, ne_eq, if_true, if_false, Bool.false_eq_true, Bool.true_eq_false, reduceIte, Bool.not_true, Bool.not_false, decide_true, decide_false, not_true_eq_false, not_false_eq_true, ex2, ex3, lim0, lim1, lim2, lim3, lim4, List.cons_append, List.nil_append, List.map, List.replicate]
          exact b_nilW ⟨rfl, hS, ms, ts, _, _, _, _, _, _, _, _, _, _, _, _, _, _, hp, by omega, by omega, by omega, by omega, by omega, by omega, by omega, rfl⟩
        · exact b_nilW ⟨rfl, hS5, ms, ts, _, _, _, _, _, _, _, _, _, _, _, _, _, _, hp, h8, by omega, by omega, by omega, by omega, c1, c2, rfl⟩
      · exact b_nilW keep
    · rintro f E S ⟨rfl, hS, ms, ts, kk, many, careful, x2, x3, x8, x9, x10, x11, x12, x13, x14, x15, x16, hp, h8, k1, k2, m1, m2, c1, c2, rfl⟩
      rw [wpN_nx]
      unfold LawE
      refine b_consW ?_
      try simp only [wpS, wpT, wpE, wpO, wpEs, wpAs, wpL, wpC, wpI, wpG, wpPar, wpSE, brwW, slotV, slotA, List.getElem?_cons_zero, List.getElem?_cons_succ, List.set_cons_zero, List.set_cons_succ, drf_int, drf_bl, drf_non, drf_str, drf_tup, drf_lst, drf_scr, drf_set, drf_ty, drf_ins, drf_glo, drf_0, ixL0, ixL1, ixL2, ixL3, ixL4, ixT0, ixT1, ixT2, ixAt0, ixAt1, ixAt2, ixAt3, ixAt4, tru_bl, tru_int, tru_tup, tru_lst, c_eq_int, c_ne_int, c_lt, c_le, c_gt, c_ge, c_in2, c_inL, c_inT, c_ninT, c_eq_bl, c_ne_bl, b_len_l, b_len_t, b_len_s, b_abs, b_int, b_tup_l, b_tup_t, b_max, b_min, o_add, o_sub, o_mul, o_fdiv, o_mod, o_pow, o_catT, o_catL, o_repT, o_repL, o_repL2, s_tupX, s_lstX, s_scrX, q_tup, q_lst, qi_tup, qi_lst, qi_scr, at_ins, isNon_int, isNon_non, wpN_nx, wpN_ret, wpN_brk, wpN_cnt, trn_nx, trn_cnt, trn_brk, trn_ret, List.map_cons, List.map_nil, List.length_cons, List.length_nil, Nat.zero_add, Nat.reduceAdd, Nat.reduceLT, true_and, and_true, Option.some.injEq, exists_eq_left', exists_eq_left, exists_and_left, Sl.ol.injEq, Sl.v.injEq, Sl.os.injEq, D.int.injEq, D.bl.injEq, D.tup.injEq, D.lst.injEq, D.ref.injEq, Ob.lst.injEq, List.cons.injEq, decide_eq_true_eq, Bool.not_eq_true', decide_eq_false_iff_not, bne_iff_ne, ne_eq, if_true, if_false, Bool.false_eq_true, Bool.true_eq_false, reduceIte, Bool.not_true, Bool.not_false, decide_true, decide_false, not_true_eq_false, not_false_eq_true, ex2, ex3, lim0, lim1, lim2, lim3, lim4, List.cons_append, List.nil_append, List.map, List.replicate]
      refine (past_ok (C := L.pg.calls (k + 9)) (k := k + 5) rfl hp h8 hS k1 k2 m1 m2 c1 c2).mono fun d S1 ⟨ds, e, hdl, hd, hS⟩ => ?_
      subst e
      try simp only [wpS, wpT, wpE, wpO, wpEs, wpAs, wpL, wpC, wpI, wpG, wpPar, wpSE, brwW, slotV, slotA, List.getElem?_cons_zero, List.getElem?_cons_succ, List.set_cons_zero, List.set_cons_succ, drf_int, drf_bl, drf_non, drf_str, drf_tup, drf_lst, drf_scr, drf_set, drf_ty, drf_ins, drf_glo, drf_0, ixL0, ixL1, ixL2, ixL3, ixL4, ixT0, ixT1, ixT2, ixAt0, ixAt1, ixAt2, ixAt3, ixAt4, tru_bl, tru_int, tru_tup, tru_lst, c_eq_int, c_ne_int, c_lt, c_le, c_gt, c_ge, c_in2, c_inL, c_inT, c_ninT, c_eq_bl, c_ne_bl, b_len_l, b_len_t, b_len_s, b_abs, b_int, b_tup_l, b_tup_t, b_max, b_min, o_add, o_sub, o_mul, o_fdiv, o_mod, o_pow, o_catT, o_catL, o_repT, o_repL, o_repL2, s_tupX, s_lstX, s_scrX, q_tup, q_lst, qi_tup, qi_lst, qi_scr, at_ins, isNon_int, isNon_non, wpN_nx, wpN_ret, wpN_brk, wpN_cnt, trn_nx, trn_cnt, trn_brk, trn_ret, List.map_cons, List.map_nil, List.length_cons, List.length_nil, Nat.zero_add, Nat.reduceAdd, Nat.reduceLT, true_and, and_true, Option.some.injEq, exists_eq_left', exists_eq_left, exists_and_left, Sl.ol.injEq, Sl.v.injEq, Sl.os.injEq, D.int.injEq, D.bl.injEq, D.tup.injEq, D.lst.injEq, D.ref.injEq, Ob.lst.injEq, List.cons.injEq, decide_eq_true_eq, Bool.not_eq_true', decide_eq_false_iff_not, bne_iff_ne, ne_eq, if_true, if_false, Bool.false_eq_true, Bool.true_eq_false, reduceIte, Bool.not_true, Bool.not_false, decide_true, decide_false, not_true_eq_false, not_false_eq_true, ex2, ex3, lim0, lim1, lim2, lim3, lim4, List.cons_append, List.nil_append, List.map, List.replicate]
      refine b_consW ?_
      try simp only [wpS, wpT, wpE, wpO, wpEs, wpAs, wpL, wpC, wpI, wpG, wpPar, wpSE, brwW, slotV, slotA, List.getElem?_cons_zero, List.getElem?_cons_succ, List.set_cons_zero, List.set_cons_succ, drf_int, drf_bl, drf_non, drf_str, drf_tup, drf_lst, drf_scr, drf_set, drf_ty, drf_ins, drf_glo, drf_0, ixL0, ixL1, ixL2, ixL3, ixL4, ixT0, ixT1, ixT2, ixAt0, ixAt1, ixAt2, ixAt3, ixAt4, tru_bl, tru_int, tru_tup, tru_lst, c_eq_int, c_ne_int, c_lt, c_le, c_gt, c_ge, c_in2, c_inL, c_inT, c_ninT, c_eq_bl, c_ne_bl, b_len_l, b_len_t, b_len_s, b_abs, b_int, b_tup_l, b_tup_t, b_max, b_min, o_add, o_sub, o_mul, o_fdiv, o_mod, o_pow, o_catT, o_catL, o_repT, o_repL, o_repL2, s_tupX, s_lstX, s_scrX, q_tup, q_lst, qi_tup, qi_lst, qi_scr, at_ins, isNon_int, isNon_non, wpN_nx, wpN_ret, wpN_brk, wpN_cnt, trn_nx, trn_cnt, trn_brk, trn_ret, List.map_cons, List.map_nil, List.length_cons, List.length_nil, Nat.zero_add, Nat.reduceAdd, Nat.reduceLT, true_and, and_true, Option.some.injEq, exists_eq_left', exists_eq_left, exists_and_left, Sl.ol.injEq, Sl.v.injEq, Sl.os.injEq, D.int.injEq, D.bl.injEq, D.tup.injEq, D.lst.injEq, D.ref.injEq, Ob.lst.injEq, List.cons.injEq, decide_eq_true_eq, Bool.not_eq_true', decide_eq_false_iff_not, bne_iff_ne, ne_eq, if_true, if_false, Bool.false_eq_true, Bool.true_eq_false, reduceIte, Bool.not_true, Bool.not_false, decide_true, decide_false, not_true_eq_false, not_false_eq_true, ex2, ex3, lim0, lim1, lim2, lim3, lim4, List.cons_append, List.nil_append, List.map, List.replicate]
      refine (made_ok (C := L.pg.calls (k + 9)) (k := k + 4) rfl rfl hp (hS.low hR)).mono fun d S2 ⟨e1, e2⟩ => ?_
      subst e1 e2
      unfold partsD
      try simp only [List.length_map, wpS, wpT, wpE, wpO, wpEs, wpAs, wpL, wpC, wpI, wpG, wpPar, wpSE, brwW, slotV, slotA, List.getElem?_cons_zero, List.getElem?_cons_succ, List.set_cons_zero, List.set_cons_succ, drf_int, drf_bl, drf_non, drf_str, drf_tup, drf_lst, drf_scr, drf_set, drf_ty, drf_ins, drf_glo, drf_0, ixL0, ixL1, ixL2, ixL3, ixL4, ixT0, ixT1, ixT2, ixAt0, ixAt1, ixAt2, ixAt3, ixAt4, tru_bl, tru_int, tru_tup, tru_lst, c_eq_int, c_ne_int, c_lt, c_le, c_gt, c_ge, c_in2, c_inL, c_inT, c_ninT, c_eq_bl, c_ne_bl, b_len_l, b_len_t, b_len_s, b_abs, b_int, b_tup_l, b_tup_t, b_max, b_min, o_add, o_sub, o_mul, o_fdiv, o_mod, o_pow, o_catT, o_catL, o_repT, o_repL, o_repL2, s_tupX, s_lstX, s_scrX, q_tup, q_lst, qi_tup, qi_lst, qi_scr, at_ins, isNon_int, isNon_non, wpN_nx, wpN_ret, wpN_brk, wpN_cnt, trn_nx, trn_cnt, trn_brk, trn_ret, List.map_cons, List.map_nil, List.length_cons, List.length_nil, Nat.zero_add, Nat.reduceAdd, Nat.reduceLT, true_and, and_true, Option.some.injEq, exists_eq_left', exists_eq_left, exists_and_left, Sl.ol.injEq, Sl.v.injEq, Sl.os.injEq, D.int.injEq, D.bl.injEq, D.tup.injEq, D.lst.injEq, D.ref.injEq, Ob.lst.injEq, List.cons.injEq, decide_eq_true_eq, Bool.not_eq_true', decide_eq_false_iff_not, bne_iff_ne, ne_eq, if_true, if_false, Bool.false_eq_true, Bool.true_eq_false, reduceIte, Bool.not_true, Bool.not_false, decide_true, decide_false, not_true_eq_false, not_false_eq_true, ex2, ex3, lim0, lim1, lim2, lim3, lim4, List.cons_append, List.nil_append, List.map, List.replicate]
      have pos := hp.pos
      refine ⟨⟨by omega, by omega, by decide⟩, ?_⟩
      refine (start_ok (C := L.pg.calls (k + 9)) (k := k + 8) rfl hp _).mono fun d S3 ⟨e1, e2⟩ => ?_
      subst e1 e2
      obtain ⟨o, ho, rfl⟩ := hS
      refine b_consW ?_
      unfold pastD
      try simp only [wpS, wpT, wpE, wpO, wpEs, wpAs, wpL, wpC, wpI, wpG, wpPar, wpSE, brwW, slotV, slotA, List.getElem?_cons_zero, List.getElem?_cons_succ, List.set_cons_zero, List.set_cons_succ, drf_int, drf_bl, drf_non, drf_str, drf_tup, drf_lst, drf_scr, drf_set, drf_ty, drf_ins, drf_glo, drf_0, ixL0, ixL1, ixL2, ixL3, ixL4, ixT0, ixT1, ixT2, ixAt0, ixAt1, ixAt2, ixAt3, ixAt4, tru_bl, tru_int, tru_tup, tru_lst, c_eq_int, c_ne_int, c_lt, c_le, c_gt, c_ge, c_in2, c_inL, c_inT, c_ninT, c_eq_bl, c_ne_bl, b_len_l, b_len_t, b_len_s, b_abs, b_int, b_tup_l, b_tup_t, b_max, b_min, o_add, o_sub, o_mul, o_fdiv, o_mod, o_pow, o_catT, o_catL, o_repT, o_repL, o_repL2, s_tupX, s_lstX, s_scrX, q_tup, q_lst, qi_tup, qi_lst, qi_scr, at_ins, isNon_int, isNon_non, wpN_nx, wpN_ret, wpN_brk, wpN_cnt, trn_nx, trn_cnt, trn_brk, trn_ret, List.map_cons, List.map_nil, List.length_cons, List.length_nil, Nat.zero_add, Nat.reduceAdd, Nat.reduceLT, true_and, and_true, Option.some.injEq, exists_eq_left', exists_eq_left, exists_and_left, Sl.ol.injEq, Sl.v.injEq, Sl.os.injEq, D.int.injEq, D.bl.injEq, D.tup.injEq, D.lst.injEq, D.ref.injEq, Ob.lst.injEq, List.cons.injEq, decide_eq_true_eq, Bool.not_eq_true', decide_eq_false_iff_not, bne_iff_ne, ne_eq, if_true, if_false, Bool.false_eq_true, Bool.true_eq_false, reduceIte, Bool.not_true, Bool.not_false, decide_true, decide_false, not_true_eq_false, not_false_eq_true, ex2, ex3, lim0, lim1, lim2, lim3, lim4, List.cons_append, List.nil_append, List.map, List.replicate]
      refine for_W (I := InI ns ms ts ds o R) _ ?_ (fun j x E S hx ⟨y2, y5, y6, y7, y12, y13, y14, y15, y16, e1, e2, inv⟩ => ?_) (fun E S ⟨y2, y5, y6, y7, y12, y13, y14, y15, y16, e1, e2, inv⟩ => ?_)
      · refine ⟨_, _, _, _, _, _, _, _, _, ?_, rfl, fun _ => inv_start⟩
        show o :: (R ++ _) = _
        congr 3
        show Ob.lst _ = Ob.lst _
        congr 1
        show _ = (lgOf (st0 ms.length)).map tagD
        unfold lgOf st0 tagD
        simp
      · subst e1 e2
        rw [enum_at, List.getElem?_map, Option.map_map] at hx
        obtain ⟨d, he, rfl⟩ := Option.map_eq_some_iff.mp hx
        have hj : j < ds.length := (List.getElem?_eq_some_iff.mp he).1
        have hdr := hd d (List.mem_of_getElem? he)
        have so := runL_ok (n := ms.length) (ds := ds) j (by omega)
        have so' := so.done d
        have hrun := runL_take (n := ms.length) he
        have fbn : fb ms ts (st0 ms.length) 0 (ds.take (j + 1)) = match fb ms ts (st0 ms.length) 0 (ds.take j) with
          | some k => some k
          | none => if bad ms ts (runL ms.length (ds.take j)) d = true then some j else none := by
          rw [take_succ he, fb_app]
          have e1 : (ds.take j).foldl (doneW ms) (st0 ms.length) = runW ms (ds.take j) := rfl
          rw [e1, (Rel.run hd j (by omega)).bad d, List.length_take, Nat.min_eq_left (by omega), Nat.zero_add]
          try rfl
        have rel := Rel.run hd (j + 1) (by omega)
        have sw := runW_ok (ms := ms) (ds := ds) (j + 1) (by omega)
        rw [hrun] at rel
        rw [Nat.zero_add]
        generalize hst : runL ms.length (ds.take j) = st at *
        generalize hcl : (fb ms ts (st0 ms.length) 0 (ds.take j)).isNone = cl at *
        unfold LawE
        try simp only [Function.comp_apply, wpS, wpT, wpE, wpO, wpEs, wpAs, wpL, wpC, wpI, wpG, wpPar, wpSE, brwW, slotV, slotA, List.getElem?_cons_zero, List.getElem?_cons_succ, List.set_cons_zero, List.set_cons_succ, drf_int, drf_bl, drf_non, drf_str, drf_tup, drf_lst, drf_scr, drf_set, drf_ty, drf_ins, drf_glo, drf_0, ixL0, ixL1, ixL2, ixL3, ixL4, ixT0, ixT1, ixT2, ixAt0, ixAt1, ixAt2, ixAt3, ixAt4, tru_bl, tru_int, tru_tup, tru_lst, c_eq_int, c_ne_int, c_lt, c_le, c_gt, c_ge, c_in2, c_inL, c_inT, c_ninT, c_eq_bl, c_ne_bl, b_len_l, b_len_t, b_len_s, b_abs, b_int, b_tup_l, b_tup_t, b_max, b_min, o_add, o_sub, o_mul, o_fdiv, o_mod, o_pow, o_catT, o_catL, o_repT, o_repL, o_repL2, s_tupX, s_lstX, s_scrX, q_tup, q_lst, qi_tup, qi_lst, qi_scr, at_ins, isNon_int, isNon_non, wpN_nx, wpN_ret, wpN_brk, wpN_cnt, trn_nx, trn_cnt, trn_brk, trn_ret, List.map_cons, List.map_nil, List.length_cons, List.length_nil, Nat.zero_add, Nat.reduceAdd, Nat.reduceLT, true_and, and_true, Option.some.injEq, exists_eq_left', exists_eq_left, exists_and_left, Sl.ol.injEq, Sl.v.injEq, Sl.os.injEq, D.int.injEq, D.bl.injEq, D.tup.injEq, D.lst.injEq, D.ref.injEq, Ob.lst.injEq, List.cons.injEq, decide_eq_true_eq, Bool.not_eq_true', decide_eq_false_iff_not, bne_iff_ne, ne_eq, if_true, if_false, Bool.false_eq_true, Bool.true_eq_false, reduceIte, Bool.not_true, Bool.not_false, decide_true, decide_false, not_true_eq_false, not_false_eq_true, ex2, ex3, lim0, lim1, lim2, lim3, lim4, List.cons_append, List.nil_append, List.map, List.replicate]
        refine b_at (TurnE ns ms ts ds R y2 y5 y6 y7 st cl j d (some (.v (.bl (bad ms ts st d)))) y15 y16) (o :: (R ++ [lgOb st])) ?_ ?_
        · cases d with
          | give r t =>
            unfold deedD giveD
            try simp only [eqGG, wpS, wpT, wpE, wpO, wpEs, wpAs, wpL, wpC, wpI, wpG, wpPar, wpSE, brwW, slotV, slotA, List.getElem?_cons_zero, List.getElem?_cons_succ, List.set_cons_zero, List.set_cons_succ, drf_int, drf_bl, drf_non, drf_str, drf_tup, drf_lst, drf_scr, drf_set, drf_ty, drf_ins, drf_glo, drf_0, ixL0, ixL1, ixL2, ixL3, ixL4, ixT0, ixT1, ixT2, ixAt0, ixAt1, ixAt2, ixAt3, ixAt4, tru_bl, tru_int, tru_tup, tru_lst, c_eq_int, c_ne_int, c_lt, c_le, c_gt, c_ge, c_in2, c_inL, c_inT, c_ninT, c_eq_bl, c_ne_bl, b_len_l, b_len_t, b_len_s, b_abs, b_int, b_tup_l, b_tup_t, b_max, b_min, o_add, o_sub, o_mul, o_fdiv, o_mod, o_pow, o_catT, o_catL, o_repT, o_repL, o_repL2, s_tupX, s_lstX, s_scrX, q_tup, q_lst, qi_tup, qi_lst, qi_scr, at_ins, isNon_int, isNon_non, wpN_nx, wpN_ret, wpN_brk, wpN_cnt, trn_nx, trn_cnt, trn_brk, trn_ret, List.map_cons, List.map_nil, List.length_cons, List.length_nil, Nat.zero_add, Nat.reduceAdd, Nat.reduceLT, true_and, and_true, Option.some.injEq, exists_eq_left', exists_eq_left, exists_and_left, Sl.ol.injEq, Sl.v.injEq, Sl.os.injEq, D.int.injEq, D.bl.injEq, D.tup.injEq, D.lst.injEq, D.ref.injEq, Ob.lst.injEq, List.cons.injEq, decide_eq_true_eq, Bool.not_eq_true', decide_eq_false_iff_not, bne_iff_ne, ne_eq, if_true, if_false, Bool.false_eq_true, Bool.true_eq_false, reduceIte, Bool.not_true, Bool.not_false, decide_true, decide_false, not_true_eq_false, not_false_eq_true, ex2, ex3, lim0, lim1, lim2, lim3, lim4, List.cons_append, List.nil_append, List.map, List.replicate]
            refine (bars_ok (C := L.pg.calls (k + 9)) (k := k + 7) rfl hp h8 so (by omega) hdr _).mono fun x S2 ⟨⟨l, e1, hl⟩, e2⟩ => ?_
            subst e1 e2
            try simp only [wpS, wpT, wpE, wpO, wpEs, wpAs, wpL, wpC, wpI, wpG, wpPar, wpSE, brwW, slotV, slotA, List.getElem?_cons_zero, List.getElem?_cons_succ, List.set_cons_zero, List.set_cons_succ, drf_int, drf_bl, drf_non, drf_str, drf_tup, drf_lst, drf_scr, drf_set, drf_ty, drf_ins, drf_glo, drf_0, ixL0, ixL1, ixL2, ixL3, ixL4, ixT0, ixT1, ixT2, ixAt0, ixAt1, ixAt2, ixAt3, ixAt4, tru_bl, tru_int, tru_tup, tru_lst, c_eq_int, c_ne_int, c_lt, c_le, c_gt, c_ge, c_in2, c_inL, c_inT, c_ninT, c_eq_bl, c_ne_bl, b_len_l, b_len_t, b_len_s, b_abs, b_int, b_tup_l, b_tup_t, b_max, b_min, o_add, o_sub, o_mul, o_fdiv, o_mod, o_pow, o_catT, o_catL, o_repT, o_repL, o_repL2, s_tupX, s_lstX, s_scrX, q_tup, q_lst, qi_tup, qi_lst, qi_scr, at_ins, isNon_int, isNon_non, wpN_nx, wpN_ret, wpN_brk, wpN_cnt, trn_nx, trn_cnt, trn_brk, trn_ret, List.map_cons, List.map_nil, List.length_cons, List.length_nil, Nat.zero_add, Nat.reduceAdd, Nat.reduceLT, true_and, and_true, Option.some.injEq, exists_eq_left', exists_eq_left, exists_and_left, Sl.ol.injEq, Sl.v.injEq, Sl.os.injEq, D.int.injEq, D.bl.injEq, D.tup.injEq, D.lst.injEq, D.ref.injEq, Ob.lst.injEq, List.cons.injEq, decide_eq_true_eq, Bool.not_eq_true', decide_eq_false_iff_not, bne_iff_ne, ne_eq, if_true, if_false, Bool.false_eq_true, Bool.true_eq_false, reduceIte, Bool.not_true, Bool.not_false, decide_true, decide_false, not_true_eq_false, not_false_eq_true, ex2, ex3, lim0, lim1, lim2, lim3, lim4, List.cons_append, List.nil_append, List.map, List.replicate]
            have e : decide (t ∈ l) = bad ms ts st (.give r t) := by
              unfold bad
              exact decide_eq_decide.mpr (hl t)
            rw [e]
            exact ⟨rfl, rfl, rfl⟩
          | back r =>
            unfold deedD backD
            try simp only [eqBG, wpS, wpT, wpE, wpO, wpEs, wpAs, wpL, wpC, wpI, wpG, wpPar, wpSE, brwW, slotV, slotA, List.getElem?_cons_zero, List.getElem?_cons_succ, List.set_cons_zero, List.set_cons_succ, drf_int, drf_bl, drf_non, drf_str, drf_tup, drf_lst, drf_scr, drf_set, drf_ty, drf_ins, drf_glo, drf_0, ixL0, ixL1, ixL2, ixL3, ixL4, ixT0, ixT1, ixT2, ixAt0, ixAt1, ixAt2, ixAt3, ixAt4, tru_bl, tru_int, tru_tup, tru_lst, c_eq_int, c_ne_int, c_lt, c_le, c_gt, c_ge, c_in2, c_inL, c_inT, c_ninT, c_eq_bl, c_ne_bl, b_len_l, b_len_t, b_len_s, b_abs, b_int, b_tup_l, b_tup_t, b_max, b_min, o_add, o_sub, o_mul, o_fdiv, o_mod, o_pow, o_catT, o_catL, o_repT, o_repL, o_repL2, s_tupX, s_lstX, s_scrX, q_tup, q_lst, qi_tup, qi_lst, qi_scr, at_ins, isNon_int, isNon_non, wpN_nx, wpN_ret, wpN_brk, wpN_cnt, trn_nx, trn_cnt, trn_brk, trn_ret, List.map_cons, List.map_nil, List.length_cons, List.length_nil, Nat.zero_add, Nat.reduceAdd, Nat.reduceLT, true_and, and_true, Option.some.injEq, exists_eq_left', exists_eq_left, exists_and_left, Sl.ol.injEq, Sl.v.injEq, Sl.os.injEq, D.int.injEq, D.bl.injEq, D.tup.injEq, D.lst.injEq, D.ref.injEq, Ob.lst.injEq, List.cons.injEq, decide_eq_true_eq, Bool.not_eq_true', decide_eq_false_iff_not, bne_iff_ne, ne_eq, if_true, if_false, Bool.false_eq_true, Bool.true_eq_false, reduceIte, Bool.not_true, Bool.not_false, decide_true, decide_false, not_true_eq_false, not_false_eq_true, ex2, ex3, lim0, lim1, lim2, lim3, lim4, List.cons_append, List.nil_append, List.map, List.replicate]
            exact ⟨rfl, rfl, rfl⟩
        refine b_at (TurnE ns ms ts ds R y2 y5 y6 y7 (done st d) cl j d (some (.v (.bl (bad ms ts st d)))) y15 y16) (o :: (R ++ [lgOb st])) ?_ ?_
        · unfold TurnE LawE
          try simp only [wpS, wpT, wpE, wpO, wpEs, wpAs, wpL, wpC, wpI, wpG, wpPar, wpSE, brwW, slotV, slotA, List.getElem?_cons_zero, List.getElem?_cons_succ, List.set_cons_zero, List.set_cons_succ, drf_int, drf_bl, drf_non, drf_str, drf_tup, drf_lst, drf_scr, drf_set, drf_ty, drf_ins, drf_glo, drf_0, ixL0, ixL1, ixL2, ixL3, ixL4, ixT0, ixT1, ixT2, ixAt0, ixAt1, ixAt2, ixAt3, ixAt4, tru_bl, tru_int, tru_tup, tru_lst, c_eq_int, c_ne_int, c_lt, c_le, c_gt, c_ge, c_in2, c_inL, c_inT, c_ninT, c_eq_bl, c_ne_bl, b_len_l, b_len_t, b_len_s, b_abs, b_int, b_tup_l, b_tup_t, b_max, b_min, o_add, o_sub, o_mul, o_fdiv, o_mod, o_pow, o_catT, o_catL, o_repT, o_repL, o_repL2, s_tupX, s_lstX, s_scrX, q_tup, q_lst, qi_tup, qi_lst, qi_scr, at_ins, isNon_int, isNon_non, wpN_nx, wpN_ret, wpN_brk, wpN_cnt, trn_nx, trn_cnt, trn_brk, trn_ret, List.map_cons, List.map_nil, List.length_cons, List.length_nil, Nat.zero_add, Nat.reduceAdd, Nat.reduceLT, true_and, and_true, Option.some.injEq, exists_eq_left', exists_eq_left, exists_and_left, Sl.ol.injEq, Sl.v.injEq, Sl.os.injEq, D.int.injEq, D.bl.injEq, D.tup.injEq, D.lst.injEq, D.ref.injEq, Ob.lst.injEq, List.cons.injEq, decide_eq_true_eq, Bool.not_eq_true', decide_eq_false_iff_not, bne_iff_ne, ne_eq, if_true, if_false, Bool.false_eq_true, Bool.true_eq_false, reduceIte, Bool.not_true, Bool.not_false, decide_true, decide_false, not_true_eq_false, not_false_eq_true, ex2, ex3, lim0, lim1, lim2, lim3, lim4, List.cons_append, List.nil_append, List.map, List.replicate]
          refine (done_ok (C := L.pg.calls (k + 9)) (k := k + 8) rfl so (by omega) hdr _).mono fun d S2 ⟨e1, e2⟩ => ?_
          subst e1 e2
          exact ⟨rfl, rfl, rfl⟩
        refine b_at (TurnE ns ms ts ds R y2 y5 y6 y7 (done st d) cl j d (some (.v (.bl (bad ms ts st d)))) y15 y16) (o :: (R ++ [lgOb (done st d)])) ?_ ?_
        · unfold TurnE LawE
          cases d with
          | give r t =>
            unfold deedD giveD
            try simp only [eqGG, wpS, wpT, wpE, wpO, wpEs, wpAs, wpL, wpC, wpI, wpG, wpPar, wpSE, brwW, slotV, slotA, List.getElem?_cons_zero, List.getElem?_cons_succ, List.set_cons_zero, List.set_cons_succ, drf_int, drf_bl, drf_non, drf_str, drf_tup, drf_lst, drf_scr, drf_set, drf_ty, drf_ins, drf_glo, drf_0, ixL0, ixL1, ixL2, ixL3, ixL4, ixT0, ixT1, ixT2, ixAt0, ixAt1, ixAt2, ixAt3, ixAt4, tru_bl, tru_int, tru_tup, tru_lst, c_eq_int, c_ne_int, c_lt, c_le, c_gt, c_ge, c_in2, c_inL, c_inT, c_ninT, c_eq_bl, c_ne_bl, b_len_l, b_len_t, b_len_s, b_abs, b_int, b_tup_l, b_tup_t, b_max, b_min, o_add, o_sub, o_mul, o_fdiv, o_mod, o_pow, o_catT, o_catL, o_repT, o_repL, o_repL2, s_tupX, s_lstX, s_scrX, q_tup, q_lst, qi_tup, qi_lst, qi_scr, at_ins, isNon_int, isNon_non, wpN_nx, wpN_ret, wpN_brk, wpN_cnt, trn_nx, trn_cnt, trn_brk, trn_ret, List.map_cons, List.map_nil, List.length_cons, List.length_nil, Nat.zero_add, Nat.reduceAdd, Nat.reduceLT, true_and, and_true, Option.some.injEq, exists_eq_left', exists_eq_left, exists_and_left, Sl.ol.injEq, Sl.v.injEq, Sl.os.injEq, D.int.injEq, D.bl.injEq, D.tup.injEq, D.lst.injEq, D.ref.injEq, Ob.lst.injEq, List.cons.injEq, decide_eq_true_eq, Bool.not_eq_true', decide_eq_false_iff_not, bne_iff_ne, ne_eq, if_true, if_false, Bool.false_eq_true, Bool.true_eq_false, reduceIte, Bool.not_true, Bool.not_false, decide_true, decide_false, not_true_eq_false, not_false_eq_true, ex2, ex3, lim0, lim1, lim2, lim3, lim4, List.cons_append, List.nil_append, List.map, List.replicate]
            refine b_consW ?_
            have hd9 : drf (o :: (R ++ [lgOb st])) (.ref (R.length + 1)) = .lst ((lgOf st).map tagD) := drf_of log_at
            have hr : r < ms.length := hdr
            have hlr : r < (lgOf st).length := by unfold lgOf; rw [List.length_map, so.len]; exact hr
            have i1 : ixD (.lst ((lgOf st).map tagD)) (.int (r : Int)) = some (.tup ((tagsAt st r).map .int)) := ixLn (by
              rw [List.getElem?_map, ← log_lg]
              unfold logAt
              rw [List.getElem?_eq_getElem hlr]
              rfl)
            have f1 := so.fewAt r
            try simp only [hd9, i1, wpS, wpT, wpE, wpO, wpEs, wpAs, wpL, wpC, wpI, wpG, wpPar, wpSE, brwW, slotV, slotA, List.getElem?_cons_zero, List.getElem?_cons_succ, List.set_cons_zero, List.set_cons_succ, drf_int, drf_bl, drf_non, drf_str, drf_tup, drf_lst, drf_scr, drf_set, drf_ty, drf_ins, drf_glo, drf_0, ixL0, ixL1, ixL2, ixL3, ixL4, ixT0, ixT1, ixT2, ixAt0, ixAt1, ixAt2, ixAt3, ixAt4, tru_bl, tru_int, tru_tup, tru_lst, c_eq_int, c_ne_int, c_lt, c_le, c_gt, c_ge, c_in2, c_inL, c_inT, c_ninT, c_eq_bl, c_ne_bl, b_len_l, b_len_t, b_len_s, b_abs, b_int, b_tup_l, b_tup_t, b_max, b_min, o_add, o_sub, o_mul, o_fdiv, o_mod, o_pow, o_catT, o_catL, o_repT, o_repL, o_repL2, s_tupX, s_lstX, s_scrX, q_tup, q_lst, qi_tup, qi_lst, qi_scr, at_ins, isNon_int, isNon_non, wpN_nx, wpN_ret, wpN_brk, wpN_cnt, trn_nx, trn_cnt, trn_brk, trn_ret, List.map_cons, List.map_nil, List.length_cons, List.length_nil, Nat.zero_add, Nat.reduceAdd, Nat.reduceLT, true_and, and_true, Option.some.injEq, exists_eq_left', exists_eq_left, exists_and_left, Sl.ol.injEq, Sl.v.injEq, Sl.os.injEq, D.int.injEq, D.bl.injEq, D.tup.injEq, D.lst.injEq, D.ref.injEq, Ob.lst.injEq, List.cons.injEq, decide_eq_true_eq, Bool.not_eq_true', decide_eq_false_iff_not, bne_iff_ne, ne_eq, if_true, if_false, Bool.false_eq_true, Bool.true_eq_false, reduceIte, Bool.not_true, Bool.not_false, decide_true, decide_false, not_true_eq_false, not_false_eq_true, ex2, ex3, lim0, lim1, lim2, lim3, lim4, List.cons_append, List.nil_append, List.map, List.replicate]
            refine ⟨by rw [List.length_map]; unfold LIM; omega, _, last_at (S := R) (o := lgOb st), _, ixAt_nat (by rw [List.length_map]; exact hlr), ?_⟩
            rw [last_set]
            refine b_nilW ⟨rfl, rfl, ?_⟩
            congr 3
            unfold lgOb lgOf done
            congr 1
            rw [List.map_set, List.map_set]
            rfl
          | back r =>
            unfold deedD backD
            try simp only [eqBG, wpS, wpT, wpE, wpO, wpEs, wpAs, wpL, wpC, wpI, wpG, wpPar, wpSE, brwW, slotV, slotA, List.getElem?_cons_zero, List.getElem?_cons_succ, List.set_cons_zero, List.set_cons_succ, drf_int, drf_bl, drf_non, drf_str, drf_tup, drf_lst, drf_scr, drf_set, drf_ty, drf_ins, drf_glo, drf_0, ixL0, ixL1, ixL2, ixL3, ixL4, ixT0, ixT1, ixT2, ixAt0, ixAt1, ixAt2, ixAt3, ixAt4, tru_bl, tru_int, tru_tup, tru_lst, c_eq_int, c_ne_int, c_lt, c_le, c_gt, c_ge, c_in2, c_inL, c_inT, c_ninT, c_eq_bl, c_ne_bl, b_len_l, b_len_t, b_len_s, b_abs, b_int, b_tup_l, b_tup_t, b_max, b_min, o_add, o_sub, o_mul, o_fdiv, o_mod, o_pow, o_catT, o_catL, o_repT, o_repL, o_repL2, s_tupX, s_lstX, s_scrX, q_tup, q_lst, qi_tup, qi_lst, qi_scr, at_ins, isNon_int, isNon_non, wpN_nx, wpN_ret, wpN_brk, wpN_cnt, trn_nx, trn_cnt, trn_brk, trn_ret, List.map_cons, List.map_nil, List.length_cons, List.length_nil, Nat.zero_add, Nat.reduceAdd, Nat.reduceLT, true_and, and_true, Option.some.injEq, exists_eq_left', exists_eq_left, exists_and_left, Sl.ol.injEq, Sl.v.injEq, Sl.os.injEq, D.int.injEq, D.bl.injEq, D.tup.injEq, D.lst.injEq, D.ref.injEq, Ob.lst.injEq, List.cons.injEq, decide_eq_true_eq, Bool.not_eq_true', decide_eq_false_iff_not, bne_iff_ne, ne_eq, if_true, if_false, Bool.false_eq_true, Bool.true_eq_false, reduceIte, Bool.not_true, Bool.not_false, decide_true, decide_false, not_true_eq_false, not_false_eq_true, ex2, ex3, lim0, lim1, lim2, lim3, lim4, List.cons_append, List.nil_append, List.map, List.replicate]
            have e : lgOb (done st (.back r)) = lgOb st := by
              unfold lgOb done lgOf
              rw [List.map_set]
              congr 2
              exact set_id (by have hr : r < ms.length := hdr; rw [List.getElem?_map, so.at hr]; rfl)
            rw [e]
            exact b_nilA
        have hdt : ∀ d ∈ ds.take (j + 1), d.room < ms.length := fun d hx => hd d (List.mem_of_mem_take hx)
        have hlt5 : (ds.take (j + 1)).length ≤ 500 := by rw [List.length_take]; omega
        have lg : LgOk ms.length (runW ms (ds.take (j + 1))) (lgOf (done st d)) := ⟨by unfold lgOf; rw [List.length_map, so'.len], fun r => by rw [log_lg]; have := so'.fewAt r; omega, fun r hh => by
          rw [(rel.2.2 r).1] at hh
          obtain ⟨a, b, e⟩ := so'.newAt hh
          rw [log_lg, e]
          simp⟩
        have cut : cutD (ds.map deedD) none (some ((j : Int) + 1)) = (ds.take (j + 1)).map deedD := by
          rw [show (j : Int) + 1 = ((j + 1 : Nat) : Int) by omega, cut_hi, List.map_take]
        have after : ∀ xs : List D, (xs ≠ [] ↔ ∃ r, r < ms.length ∧ Look ms ts (runW ms (ds.take (j + 1))) (lgOf (done st d)) r) → wpB (L.pg.calls (k + 9)) (ISs.cons (IS.ite ((IE.v 11).and ((IE.v 14).and ((IE.cmp CmpO.ne (IE.v 15) (IE.v 12)).or (IE.cmp CmpO.eq (IE.bi BI.len (IEs.cons (IE.v 16) IEs.nil)) (IE.c (D.int 0)))))) (ISs.cons (IS.ret (IE.c (D.bl false))) ISs.nil) ISs.nil) (ISs.cons (IS.asg (Tg.n 11) ((IE.v 11).and (IE.v 14).not)) (ISs.cons (IS.ite ((IE.cmp CmpO.ne (IE.v 11) (IE.v 15).isn).or ((IE.v 11).and (IE.cmp CmpO.gt (IE.bi BI.len (IEs.cons (IE.v 16) IEs.nil)) (IE.c (D.int 0))))) (ISs.cons (IS.ret (IE.c (D.bl false))) ISs.nil) ISs.nil) ISs.nil))) (TurnE ns ms ts ds R y2 y5 y6 y7 (done st d) cl j d (some (.v (.bl (bad ms ts st d)))) (some (.v (optD (fb ms ts (st0 ms.length) 0 (ds.take (j + 1)))))) (some (.v (.lst xs)))) (o :: (R ++ [lgOb (done st d)])) (trn (InI ns ms ts ds o R (j + 1)) (wpN (L.pg.calls (k + 9)) ISs.nil (trn (LawI ns (i + 1)) (LawM ns)))) := fun xs hxs => by
          have hxs : xs ≠ [] ↔ ∃ r, r < ms.length ∧ Look ms ts (done st d) (lgOf (done st d)) r := by
            rw [hxs]
            simp only [rel.look]
          have fin : ∀ {cl2 : Bool} {x14 x15 x16 : Option Sl}, cl2 = (fb ms ts (st0 ms.length) 0 (ds.take (j + 1))).isNone → ((fb ms ts (st0 ms.length) 0 (ds.take (j + 1))).isNone = true → Inv ms ts (done st d)) → InI ns ms ts ds o R (j + 1) (TurnE ns ms ts ds R y2 y5 y6 y7 (done st d) cl2 j d x14 x15 x16) (o :: (R ++ [lgOb (done st d)])) := fun {cl2 x14 x15 x16} h1 h2 => by
            subst h1
            exact ⟨y2, y5, y6, y7, some (.v (.int (j : Int))), some (.v (deedD d)), x14, x15, x16, by rw [hrun], by rw [hrun]; rfl, by rw [hrun]; exact h2⟩
          unfold TurnE LawE at fin
          unfold TurnE LawE
          cases hf : fb ms ts (st0 ms.length) 0 (ds.take j) with
          | some q =>
            rw [hf] at hcl fbn
            have hcl : false = cl := hcl
            have fbn : fb ms ts (st0 ms.length) 0 (ds.take (j + 1)) = some q := fbn
            subst hcl
            rw [fbn] at fin
            rw [fbn]
            refine b_consW ?_
            try simp only [wpS, wpT, wpE, wpO, wpEs, wpAs, wpL, wpC, wpI, wpG, wpPar, wpSE, brwW, slotV, slotA, List.getElem?_cons_zero, List.getElem?_cons_succ, List.set_cons_zero, List.set_cons_succ, drf_int, drf_bl, drf_non, drf_str, drf_tup, drf_lst, drf_scr, drf_set, drf_ty, drf_ins, drf_glo, drf_0, ixL0, ixL1, ixL2, ixL3, ixL4, ixT0, ixT1, ixT2, ixAt0, ixAt1, ixAt2, ixAt3, ixAt4, tru_bl, tru_int, tru_tup, tru_lst, c_eq_int, c_ne_int, c_lt, c_le, c_gt, c_ge, c_in2, c_inL, c_inT, c_ninT, c_eq_bl, c_ne_bl, b_len_l, b_len_t, b_len_s, b_abs, b_int, b_tup_l, b_tup_t, b_max, b_min, o_add, o_sub, o_mul, o_fdiv, o_mod, o_pow, o_catT, o_catL, o_repT, o_repL, o_repL2, s_tupX, s_lstX, s_scrX, q_tup, q_lst, qi_tup, qi_lst, qi_scr, at_ins, isNon_int, isNon_non, wpN_nx, wpN_ret, wpN_brk, wpN_cnt, trn_nx, trn_cnt, trn_brk, trn_ret, List.map_cons, List.map_nil, List.length_cons, List.length_nil, Nat.zero_add, Nat.reduceAdd, Nat.reduceLT, true_and, and_true, Option.some.injEq, exists_eq_left', exists_eq_left, exists_and_left, Sl.ol.injEq, Sl.v.injEq, Sl.os.injEq, D.int.injEq, D.bl.injEq, D.tup.injEq, D.lst.injEq, D.ref.injEq, Ob.lst.injEq, List.cons.injEq, decide_eq_true_eq, Bool.not_eq_true', decide_eq_false_iff_not, bne_iff_ne, ne_eq, if_true, if_false, Bool.false_eq_true, Bool.true_eq_false, reduceIte, Bool.not_true, Bool.not_false, decide_true, decide_false, not_true_eq_false, not_false_eq_true, ex2, ex3, lim0, lim1, lim2, lim3, lim4, List.cons_append, List.nil_append, List.map, List.replicate]
            refine b_nilN (b_consW ?_)
            try simp only [wpS, wpT, wpE, wpO, wpEs, wpAs, wpL, wpC, wpI, wpG, wpPar, wpSE, brwW, slotV, slotA, List.getElem?_cons_zero, List.getElem?_cons_succ, List.set_cons_zero, List.set_cons_succ, drf_int, drf_bl, drf_non, drf_str, drf_tup, drf_lst, drf_scr, drf_set, drf_ty, drf_ins, drf_glo, drf_0, ixL0, ixL1, ixL2, ixL3, ixL4, ixT0, ixT1, ixT2, ixAt0, ixAt1, ixAt2, ixAt3, ixAt4, tru_bl, tru_int, tru_tup, tru_lst, c_eq_int, c_ne_int, c_lt, c_le, c_gt, c_ge, c_in2, c_inL, c_inT, c_ninT, c_eq_bl, c_ne_bl, b_len_l, b_len_t, b_len_s, b_abs, b_int, b_tup_l, b_tup_t, b_max, b_min, o_add, o_sub, o_mul, o_fdiv, o_mod, o_pow, o_catT, o_catL, o_repT, o_repL, o_repL2, s_tupX, s_lstX, s_scrX, q_tup, q_lst, qi_tup, qi_lst, qi_scr, at_ins, isNon_int, isNon_non, wpN_nx, wpN_ret, wpN_brk, wpN_cnt, trn_nx, trn_cnt, trn_brk, trn_ret, List.map_cons, List.map_nil, List.length_cons, List.length_nil, Nat.zero_add, Nat.reduceAdd, Nat.reduceLT, true_and, and_true, Option.some.injEq, exists_eq_left', exists_eq_left, exists_and_left, Sl.ol.injEq, Sl.v.injEq, Sl.os.injEq, D.int.injEq, D.bl.injEq, D.tup.injEq, D.lst.injEq, D.ref.injEq, Ob.lst.injEq, List.cons.injEq, decide_eq_true_eq, Bool.not_eq_true', decide_eq_false_iff_not, bne_iff_ne, ne_eq, if_true, if_false, Bool.false_eq_true, Bool.true_eq_false, reduceIte, Bool.not_true, Bool.not_false, decide_true, decide_false, not_true_eq_false, not_false_eq_true, ex2, ex3, lim0, lim1, lim2, lim3, lim4, List.cons_append, List.nil_append, List.map, List.replicate]
            refine b_consW ?_
            unfold optD
            try simp only [wpS, wpT, wpE, wpO, wpEs, wpAs, wpL, wpC, wpI, wpG, wpPar, wpSE, brwW, slotV, slotA, List.getElem?_cons_zero, List.getElem?_cons_succ, List.set_cons_zero, List.set_cons_succ, drf_int, drf_bl, drf_non, drf_str, drf_tup, drf_lst, drf_scr, drf_set, drf_ty, drf_ins, drf_glo, drf_0, ixL0, ixL1, ixL2, ixL3, ixL4, ixT0, ixT1, ixT2, ixAt0, ixAt1, ixAt2, ixAt3, ixAt4, tru_bl, tru_int, tru_tup, tru_lst, c_eq_int, c_ne_int, c_lt, c_le, c_gt, c_ge, c_in2, c_inL, c_inT, c_ninT, c_eq_bl, c_ne_bl, b_len_l, b_len_t, b_len_s, b_abs, b_int, b_tup_l, b_tup_t, b_max, b_min, o_add, o_sub, o_mul, o_fdiv, o_mod, o_pow, o_catT, o_catL, o_repT, o_repL, o_repL2, s_tupX, s_lstX, s_scrX, q_tup, q_lst, qi_tup, qi_lst, qi_scr, at_ins, isNon_int, isNon_non, wpN_nx, wpN_ret, wpN_brk, wpN_cnt, trn_nx, trn_cnt, trn_brk, trn_ret, List.map_cons, List.map_nil, List.length_cons, List.length_nil, Nat.zero_add, Nat.reduceAdd, Nat.reduceLT, true_and, and_true, Option.some.injEq, exists_eq_left', exists_eq_left, exists_and_left, Sl.ol.injEq, Sl.v.injEq, Sl.os.injEq, D.int.injEq, D.bl.injEq, D.tup.injEq, D.lst.injEq, D.ref.injEq, Ob.lst.injEq, List.cons.injEq, decide_eq_true_eq, Bool.not_eq_true', decide_eq_false_iff_not, bne_iff_ne, ne_eq, if_true, if_false, Bool.false_eq_true, Bool.true_eq_false, reduceIte, Bool.not_true, Bool.not_false, decide_true, decide_false, not_true_eq_false, not_false_eq_true, ex2, ex3, lim0, lim1, lim2, lim3, lim4, List.cons_append, List.nil_append, List.map, List.replicate]
            refine b_nilN (b_nilW (fin rfl fun x => by cases x))
          | none =>
            rw [hf] at hcl fbn
            have hcl : true = cl := hcl
            subst hcl
            cases hb : bad ms ts st d with
            | true =>
              rw [hb] at fbn
              have fbn : fb ms ts (st0 ms.length) 0 (ds.take (j + 1)) = some j := fbn
              rw [fbn] at fin
              rw [fbn]
              have xn : xs ≠ [] := hxs.mpr (bad_look hp so hdr hb)
              have xl : ¬((xs.length : Int) = 0) := by
                have := List.length_pos_iff.mpr xn
                omega
              refine b_consW ?_
              unfold optD
              try simp only [xl, wpS, wpT, wpE, wpO, wpEs, wpAs, wpL, wpC, wpI, wpG, wpPar, wpSE, brwW, slotV, slotA, List.getElem?_cons_zero, List.getElem?_cons_succ, List.set_cons_zero, List.set_cons_succ, drf_int, drf_bl, drf_non, drf_str, drf_tup, drf_lst, drf_scr, drf_set, drf_ty, drf_ins, drf_glo, drf_0, ixL0, ixL1, ixL2, ixL3, ixL4, ixT0, ixT1, ixT2, ixAt0, ixAt1, ixAt2, ixAt3, ixAt4, tru_bl, tru_int, tru_tup, tru_lst, c_eq_int, c_ne_int, c_lt, c_le, c_gt, c_ge, c_in2, c_inL, c_inT, c_ninT, c_eq_bl, c_ne_bl, b_len_l, b_len_t, b_len_s, b_abs, b_int, b_tup_l, b_tup_t, b_max, b_min, o_add, o_sub, o_mul, o_fdiv, o_mod, o_pow, o_catT, o_catL, o_repT, o_repL, o_repL2, s_tupX, s_lstX, s_scrX, q_tup, q_lst, qi_tup, qi_lst, qi_scr, at_ins, isNon_int, isNon_non, wpN_nx, wpN_ret, wpN_brk, wpN_cnt, trn_nx, trn_cnt, trn_brk, trn_ret, List.map_cons, List.map_nil, List.length_cons, List.length_nil, Nat.zero_add, Nat.reduceAdd, Nat.reduceLT, true_and, and_true, Option.some.injEq, exists_eq_left', exists_eq_left, exists_and_left, Sl.ol.injEq, Sl.v.injEq, Sl.os.injEq, D.int.injEq, D.bl.injEq, D.tup.injEq, D.lst.injEq, D.ref.injEq, Ob.lst.injEq, List.cons.injEq, decide_eq_true_eq, Bool.not_eq_true', decide_eq_false_iff_not, bne_iff_ne, ne_eq, if_true, if_false, Bool.false_eq_true, Bool.true_eq_false, reduceIte, Bool.not_true, Bool.not_false, decide_true, decide_false, not_true_eq_false, not_false_eq_true, ex2, ex3, lim0, lim1, lim2, lim3, lim4, List.cons_append, List.nil_append, List.map, List.replicate]
              refine b_nilN (b_consW ?_)
              try simp only [wpS, wpT, wpE, wpO, wpEs, wpAs, wpL, wpC, wpI, wpG, wpPar, wpSE, brwW, slotV, slotA, List.getElem?_cons_zero, List.getElem?_cons_succ, List.set_cons_zero, List.set_cons_succ, drf_int, drf_bl, drf_non, drf_str, drf_tup, drf_lst, drf_scr, drf_set, drf_ty, drf_ins, drf_glo, drf_0, ixL0, ixL1, ixL2, ixL3, ixL4, ixT0, ixT1, ixT2, ixAt0, ixAt1, ixAt2, ixAt3, ixAt4, tru_bl, tru_int, tru_tup, tru_lst, c_eq_int, c_ne_int, c_lt, c_le, c_gt, c_ge, c_in2, c_inL, c_inT, c_ninT, c_eq_bl, c_ne_bl, b_len_l, b_len_t, b_len_s, b_abs, b_int, b_tup_l, b_tup_t, b_max, b_min, o_add, o_sub, o_mul, o_fdiv, o_mod, o_pow, o_catT, o_catL, o_repT, o_repL, o_repL2, s_tupX, s_lstX, s_scrX, q_tup, q_lst, qi_tup, qi_lst, qi_scr, at_ins, isNon_int, isNon_non, wpN_nx, wpN_ret, wpN_brk, wpN_cnt, trn_nx, trn_cnt, trn_brk, trn_ret, List.map_cons, List.map_nil, List.length_cons, List.length_nil, Nat.zero_add, Nat.reduceAdd, Nat.reduceLT, true_and, and_true, Option.some.injEq, exists_eq_left', exists_eq_left, exists_and_left, Sl.ol.injEq, Sl.v.injEq, Sl.os.injEq, D.int.injEq, D.bl.injEq, D.tup.injEq, D.lst.injEq, D.ref.injEq, Ob.lst.injEq, List.cons.injEq, decide_eq_true_eq, Bool.not_eq_true', decide_eq_false_iff_not, bne_iff_ne, ne_eq, if_true, if_false, Bool.false_eq_true, Bool.true_eq_false, reduceIte, Bool.not_true, Bool.not_false, decide_true, decide_false, not_true_eq_false, not_false_eq_true, ex2, ex3, lim0, lim1, lim2, lim3, lim4, List.cons_append, List.nil_append, List.map, List.replicate]
              refine b_consW ?_
              try simp only [wpS, wpT, wpE, wpO, wpEs, wpAs, wpL, wpC, wpI, wpG, wpPar, wpSE, brwW, slotV, slotA, List.getElem?_cons_zero, List.getElem?_cons_succ, List.set_cons_zero, List.set_cons_succ, drf_int, drf_bl, drf_non, drf_str, drf_tup, drf_lst, drf_scr, drf_set, drf_ty, drf_ins, drf_glo, drf_0, ixL0, ixL1, ixL2, ixL3, ixL4, ixT0, ixT1, ixT2, ixAt0, ixAt1, ixAt2, ixAt3, ixAt4, tru_bl, tru_int, tru_tup, tru_lst, c_eq_int, c_ne_int, c_lt, c_le, c_gt, c_ge, c_in2, c_inL, c_inT, c_ninT, c_eq_bl, c_ne_bl, b_len_l, b_len_t, b_len_s, b_abs, b_int, b_tup_l, b_tup_t, b_max, b_min, o_add, o_sub, o_mul, o_fdiv, o_mod, o_pow, o_catT, o_catL, o_repT, o_repL, o_repL2, s_tupX, s_lstX, s_scrX, q_tup, q_lst, qi_tup, qi_lst, qi_scr, at_ins, isNon_int, isNon_non, wpN_nx, wpN_ret, wpN_brk, wpN_cnt, trn_nx, trn_cnt, trn_brk, trn_ret, List.map_cons, List.map_nil, List.length_cons, List.length_nil, Nat.zero_add, Nat.reduceAdd, Nat.reduceLT, true_and, and_true, Option.some.injEq, exists_eq_left', exists_eq_left, exists_and_left, Sl.ol.injEq, Sl.v.injEq, Sl.os.injEq, D.int.injEq, D.bl.injEq, D.tup.injEq, D.lst.injEq, D.ref.injEq, Ob.lst.injEq, List.cons.injEq, decide_eq_true_eq, Bool.not_eq_true', decide_eq_false_iff_not, bne_iff_ne, ne_eq, if_true, if_false, Bool.false_eq_true, Bool.true_eq_false, reduceIte, Bool.not_true, Bool.not_false, decide_true, decide_false, not_true_eq_false, not_false_eq_true, ex2, ex3, lim0, lim1, lim2, lim3, lim4, List.cons_append, List.nil_append, List.map, List.replicate]
              refine b_nilN (b_nilW (fin rfl fun x => by cases x))
            | false =>
              rw [hb] at fbn
              have fbn : fb ms ts (st0 ms.length) 0 (ds.take (j + 1)) = none := fbn
              rw [fbn] at fin
              rw [fbn]
              have inv2 := inv_step hp so (inv rfl) hdr hb
              have xn : xs = [] := by
                apply Classical.byContradiction
                intro q
                obtain ⟨r, h1, h2⟩ := hxs.mp q
                exact inv2 r h1 h2
              subst xn
              refine b_consW ?_
              unfold optD
              try simp only [wpS, wpT, wpE, wpO, wpEs, wpAs, wpL, wpC, wpI, wpG, wpPar, wpSE, brwW, slotV, slotA, List.getElem?_cons_zero, List.getElem?_cons_succ, List.set_cons_zero, List.set_cons_succ, drf_int, drf_bl, drf_non, drf_str, drf_tup, drf_lst, drf_scr, drf_set, drf_ty, drf_ins, drf_glo, drf_0, ixL0, ixL1, ixL2, ixL3, ixL4, ixT0, ixT1, ixT2, ixAt0, ixAt1, ixAt2, ixAt3, ixAt4, tru_bl, tru_int, tru_tup, tru_lst, c_eq_int, c_ne_int, c_lt, c_le, c_gt, c_ge, c_in2, c_inL, c_inT, c_ninT, c_eq_bl, c_ne_bl, b_len_l, b_len_t, b_len_s, b_abs, b_int, b_tup_l, b_tup_t, b_max, b_min, o_add, o_sub, o_mul, o_fdiv, o_mod, o_pow, o_catT, o_catL, o_repT, o_repL, o_repL2, s_tupX, s_lstX, s_scrX, q_tup, q_lst, qi_tup, qi_lst, qi_scr, at_ins, isNon_int, isNon_non, wpN_nx, wpN_ret, wpN_brk, wpN_cnt, trn_nx, trn_cnt, trn_brk, trn_ret, List.map_cons, List.map_nil, List.length_cons, List.length_nil, Nat.zero_add, Nat.reduceAdd, Nat.reduceLT, true_and, and_true, Option.some.injEq, exists_eq_left', exists_eq_left, exists_and_left, Sl.ol.injEq, Sl.v.injEq, Sl.os.injEq, D.int.injEq, D.bl.injEq, D.tup.injEq, D.lst.injEq, D.ref.injEq, Ob.lst.injEq, List.cons.injEq, decide_eq_true_eq, Bool.not_eq_true', decide_eq_false_iff_not, bne_iff_ne, ne_eq, if_true, if_false, Bool.false_eq_true, Bool.true_eq_false, reduceIte, Bool.not_true, Bool.not_false, decide_true, decide_false, not_true_eq_false, not_false_eq_true, ex2, ex3, lim0, lim1, lim2, lim3, lim4, List.cons_append, List.nil_append, List.map, List.replicate]
              refine b_nilN (b_consW ?_)
              try simp only [wpS, wpT, wpE, wpO, wpEs, wpAs, wpL, wpC, wpI, wpG, wpPar, wpSE, brwW, slotV, slotA, List.getElem?_cons_zero, List.getElem?_cons_succ, List.set_cons_zero, List.set_cons_succ, drf_int, drf_bl, drf_non, drf_str, drf_tup, drf_lst, drf_scr, drf_set, drf_ty, drf_ins, drf_glo, drf_0, ixL0, ixL1, ixL2, ixL3, ixL4, ixT0, ixT1, ixT2, ixAt0, ixAt1, ixAt2, ixAt3, ixAt4, tru_bl, tru_int, tru_tup, tru_lst, c_eq_int, c_ne_int, c_lt, c_le, c_gt, c_ge, c_in2, c_inL, c_inT, c_ninT, c_eq_bl, c_ne_bl, b_len_l, b_len_t, b_len_s, b_abs, b_int, b_tup_l, b_tup_t, b_max, b_min, o_add, o_sub, o_mul, o_fdiv, o_mod, o_pow, o_catT, o_catL, o_repT, o_repL, o_repL2, s_tupX, s_lstX, s_scrX, q_tup, q_lst, qi_tup, qi_lst, qi_scr, at_ins, isNon_int, isNon_non, wpN_nx, wpN_ret, wpN_brk, wpN_cnt, trn_nx, trn_cnt, trn_brk, trn_ret, List.map_cons, List.map_nil, List.length_cons, List.length_nil, Nat.zero_add, Nat.reduceAdd, Nat.reduceLT, true_and, and_true, Option.some.injEq, exists_eq_left', exists_eq_left, exists_and_left, Sl.ol.injEq, Sl.v.injEq, Sl.os.injEq, D.int.injEq, D.bl.injEq, D.tup.injEq, D.lst.injEq, D.ref.injEq, Ob.lst.injEq, List.cons.injEq, decide_eq_true_eq, Bool.not_eq_true', decide_eq_false_iff_not, bne_iff_ne, ne_eq, if_true, if_false, Bool.false_eq_true, Bool.true_eq_false, reduceIte, Bool.not_true, Bool.not_false, decide_true, decide_false, not_true_eq_false, not_false_eq_true, ex2, ex3, lim0, lim1, lim2, lim3, lim4, List.cons_append, List.nil_append, List.map, List.replicate]
              refine b_consW ?_
              try simp only [wpS, wpT, wpE, wpO, wpEs, wpAs, wpL, wpC, wpI, wpG, wpPar, wpSE, brwW, slotV, slotA, List.getElem?_cons_zero, List.getElem?_cons_succ, List.set_cons_zero, List.set_cons_succ, drf_int, drf_bl, drf_non, drf_str, drf_tup, drf_lst, drf_scr, drf_set, drf_ty, drf_ins, drf_glo, drf_0, ixL0, ixL1, ixL2, ixL3, ixL4, ixT0, ixT1, ixT2, ixAt0, ixAt1, ixAt2, ixAt3, ixAt4, tru_bl, tru_int, tru_tup, tru_lst, c_eq_int, c_ne_int, c_lt, c_le, c_gt, c_ge, c_in2, c_inL, c_inT, c_ninT, c_eq_bl, c_ne_bl, b_len_l, b_len_t, b_len_s, b_abs, b_int, b_tup_l, b_tup_t, b_max, b_min, o_add, o_sub, o_mul, o_fdiv, o_mod, o_pow, o_catT, o_catL, o_repT, o_repL, o_repL2, s_tupX, s_lstX, s_scrX, q_tup, q_lst, qi_tup, qi_lst, qi_scr, at_ins, isNon_int, isNon_non, wpN_nx, wpN_ret, wpN_brk, wpN_cnt, trn_nx, trn_cnt, trn_brk, trn_ret, List.map_cons, List.map_nil, List.length_cons, List.length_nil, Nat.zero_add, Nat.reduceAdd, Nat.reduceLT, true_and, and_true, Option.some.injEq, exists_eq_left', exists_eq_left, exists_and_left, Sl.ol.injEq, Sl.v.injEq, Sl.os.injEq, D.int.injEq, D.bl.injEq, D.tup.injEq, D.lst.injEq, D.ref.injEq, Ob.lst.injEq, List.cons.injEq, decide_eq_true_eq, Bool.not_eq_true', decide_eq_false_iff_not, bne_iff_ne, ne_eq, if_true, if_false, Bool.false_eq_true, Bool.true_eq_false, reduceIte, Bool.not_true, Bool.not_false, decide_true, decide_false, not_true_eq_false, not_false_eq_true, ex2, ex3, lim0, lim1, lim2, lim3, lim4, List.cons_append, List.nil_append, List.map, List.replicate]
              refine b_nilN (b_nilW (fin rfl fun _ => inv2))
        refine b_consW ?_
        unfold TurnE LawE pastD
        try simp only [cut, wpS, wpT, wpE, wpO, wpEs, wpAs, wpL, wpC, wpI, wpG, wpPar, wpSE, brwW, slotV, slotA, List.getElem?_cons_zero, List.getElem?_cons_succ, List.set_cons_zero, List.set_cons_succ, drf_int, drf_bl, drf_non, drf_str, drf_tup, drf_lst, drf_scr, drf_set, drf_ty, drf_ins, drf_glo, drf_0, ixL0, ixL1, ixL2, ixL3, ixL4, ixT0, ixT1, ixT2, ixAt0, ixAt1, ixAt2, ixAt3, ixAt4, tru_bl, tru_int, tru_tup, tru_lst, c_eq_int, c_ne_int, c_lt, c_le, c_gt, c_ge, c_in2, c_inL, c_inT, c_ninT, c_eq_bl, c_ne_bl, b_len_l, b_len_t, b_len_s, b_abs, b_int, b_tup_l, b_tup_t, b_max, b_min, o_add, o_sub, o_mul, o_fdiv, o_mod, o_pow, o_catT, o_catL, o_repT, o_repL, o_repL2, s_tupX, s_lstX, s_scrX, q_tup, q_lst, qi_tup, qi_lst, qi_scr, at_ins, isNon_int, isNon_non, wpN_nx, wpN_ret, wpN_brk, wpN_cnt, trn_nx, trn_cnt, trn_brk, trn_ret, List.map_cons, List.map_nil, List.length_cons, List.length_nil, Nat.zero_add, Nat.reduceAdd, Nat.reduceLT, true_and, and_true, Option.some.injEq, exists_eq_left', exists_eq_left, exists_and_left, Sl.ol.injEq, Sl.v.injEq, Sl.os.injEq, D.int.injEq, D.bl.injEq, D.tup.injEq, D.lst.injEq, D.ref.injEq, Ob.lst.injEq, List.cons.injEq, decide_eq_true_eq, Bool.not_eq_true', decide_eq_false_iff_not, bne_iff_ne, ne_eq, if_true, if_false, Bool.false_eq_true, Bool.true_eq_false, reduceIte, Bool.not_true, Bool.not_false, decide_true, decide_false, not_true_eq_false, not_false_eq_true, ex2, ex3, lim0, lim1, lim2, lim3, lim4, List.cons_append, List.nil_append, List.map, List.replicate]
        refine (first_ok (C := L.pg.calls (k + 9)) (k := k + 6) rfl hp h8 hdt hlt5 _).mono fun d2 S2 ⟨e1, e2⟩ => ?_
        subst e1 e2
        try simp only [cut, wpS, wpT, wpE, wpO, wpEs, wpAs, wpL, wpC, wpI, wpG, wpPar, wpSE, brwW, slotV, slotA, List.getElem?_cons_zero, List.getElem?_cons_succ, List.set_cons_zero, List.set_cons_succ, drf_int, drf_bl, drf_non, drf_str, drf_tup, drf_lst, drf_scr, drf_set, drf_ty, drf_ins, drf_glo, drf_0, ixL0, ixL1, ixL2, ixL3, ixL4, ixT0, ixT1, ixT2, ixAt0, ixAt1, ixAt2, ixAt3, ixAt4, tru_bl, tru_int, tru_tup, tru_lst, c_eq_int, c_ne_int, c_lt, c_le, c_gt, c_ge, c_in2, c_inL, c_inT, c_ninT, c_eq_bl, c_ne_bl, b_len_l, b_len_t, b_len_s, b_abs, b_int, b_tup_l, b_tup_t, b_max, b_min, o_add, o_sub, o_mul, o_fdiv, o_mod, o_pow, o_catT, o_catL, o_repT, o_repL, o_repL2, s_tupX, s_lstX, s_scrX, q_tup, q_lst, qi_tup, qi_lst, qi_scr, at_ins, isNon_int, isNon_non, wpN_nx, wpN_ret, wpN_brk, wpN_cnt, trn_nx, trn_cnt, trn_brk, trn_ret, List.map_cons, List.map_nil, List.length_cons, List.length_nil, Nat.zero_add, Nat.reduceAdd, Nat.reduceLT, true_and, and_true, Option.some.injEq, exists_eq_left', exists_eq_left, exists_and_left, Sl.ol.injEq, Sl.v.injEq, Sl.os.injEq, D.int.injEq, D.bl.injEq, D.tup.injEq, D.lst.injEq, D.ref.injEq, Ob.lst.injEq, List.cons.injEq, decide_eq_true_eq, Bool.not_eq_true', decide_eq_false_iff_not, bne_iff_ne, ne_eq, if_true, if_false, Bool.false_eq_true, Bool.true_eq_false, reduceIte, Bool.not_true, Bool.not_false, decide_true, decide_false, not_true_eq_false, not_false_eq_true, ex2, ex3, lim0, lim1, lim2, lim3, lim4, List.cons_append, List.nil_append, List.map, List.replicate]
        refine (standing_ok (C := L.pg.calls (k + 9)) (k := k + 5) rfl hp hdt hlt5 _).mono fun d2 S2 ⟨e1, e2⟩ => ?_
        subst e1 e2
        try simp only [wpS, wpT, wpE, wpO, wpEs, wpAs, wpL, wpC, wpI, wpG, wpPar, wpSE, brwW, slotV, slotA, List.getElem?_cons_zero, List.getElem?_cons_succ, List.set_cons_zero, List.set_cons_succ, drf_int, drf_bl, drf_non, drf_str, drf_tup, drf_lst, drf_scr, drf_set, drf_ty, drf_ins, drf_glo, drf_0, ixL0, ixL1, ixL2, ixL3, ixL4, ixT0, ixT1, ixT2, ixAt0, ixAt1, ixAt2, ixAt3, ixAt4, tru_bl, tru_int, tru_tup, tru_lst, c_eq_int, c_ne_int, c_lt, c_le, c_gt, c_ge, c_in2, c_inL, c_inT, c_ninT, c_eq_bl, c_ne_bl, b_len_l, b_len_t, b_len_s, b_abs, b_int, b_tup_l, b_tup_t, b_max, b_min, o_add, o_sub, o_mul, o_fdiv, o_mod, o_pow, o_catT, o_catL, o_repT, o_repL, o_repL2, s_tupX, s_lstX, s_scrX, q_tup, q_lst, qi_tup, qi_lst, qi_scr, at_ins, isNon_int, isNon_non, wpN_nx, wpN_ret, wpN_brk, wpN_cnt, trn_nx, trn_cnt, trn_brk, trn_ret, List.map_cons, List.map_nil, List.length_cons, List.length_nil, Nat.zero_add, Nat.reduceAdd, Nat.reduceLT, true_and, and_true, Option.some.injEq, exists_eq_left', exists_eq_left, exists_and_left, Sl.ol.injEq, Sl.v.injEq, Sl.os.injEq, D.int.injEq, D.bl.injEq, D.tup.injEq, D.lst.injEq, D.ref.injEq, Ob.lst.injEq, List.cons.injEq, decide_eq_true_eq, Bool.not_eq_true', decide_eq_false_iff_not, bne_iff_ne, ne_eq, if_true, if_false, Bool.false_eq_true, Bool.true_eq_false, reduceIte, Bool.not_true, Bool.not_false, decide_true, decide_false, not_true_eq_false, not_false_eq_true, ex2, ex3, lim0, lim1, lim2, lim3, lim4, List.cons_append, List.nil_append, List.map, List.replicate]
        refine (looks_ok (C := L.pg.calls (k + 9)) (k := k + 7) rfl hp h8 sw (by omega) lg log_at).mono fun d2 S2 ⟨⟨xs, e1, hxs⟩, e2⟩ => ?_
        subst e1 e2
        try simp only [wpS, wpT, wpE, wpO, wpEs, wpAs, wpL, wpC, wpI, wpG, wpPar, wpSE, brwW, slotV, slotA, List.getElem?_cons_zero, List.getElem?_cons_succ, List.set_cons_zero, List.set_cons_succ, drf_int, drf_bl, drf_non, drf_str, drf_tup, drf_lst, drf_scr, drf_set, drf_ty, drf_ins, drf_glo, drf_0, ixL0, ixL1, ixL2, ixL3, ixL4, ixT0, ixT1, ixT2, ixAt0, ixAt1, ixAt2, ixAt3, ixAt4, tru_bl, tru_int, tru_tup, tru_lst, c_eq_int, c_ne_int, c_lt, c_le, c_gt, c_ge, c_in2, c_inL, c_inT, c_ninT, c_eq_bl, c_ne_bl, b_len_l, b_len_t, b_len_s, b_abs, b_int, b_tup_l, b_tup_t, b_max, b_min, o_add, o_sub, o_mul, o_fdiv, o_mod, o_pow, o_catT, o_catL, o_repT, o_repL, o_repL2, s_tupX, s_lstX, s_scrX, q_tup, q_lst, qi_tup, qi_lst, qi_scr, at_ins, isNon_int, isNon_non, wpN_nx, wpN_ret, wpN_brk, wpN_cnt, trn_nx, trn_cnt, trn_brk, trn_ret, List.map_cons, List.map_nil, List.length_cons, List.length_nil, Nat.zero_add, Nat.reduceAdd, Nat.reduceLT, true_and, and_true, Option.some.injEq, exists_eq_left', exists_eq_left, exists_and_left, Sl.ol.injEq, Sl.v.injEq, Sl.os.injEq, D.int.injEq, D.bl.injEq, D.tup.injEq, D.lst.injEq, D.ref.injEq, Ob.lst.injEq, List.cons.injEq, decide_eq_true_eq, Bool.not_eq_true', decide_eq_false_iff_not, bne_iff_ne, ne_eq, if_true, if_false, Bool.false_eq_true, Bool.true_eq_false, reduceIte, Bool.not_true, Bool.not_false, decide_true, decide_false, not_true_eq_false, not_false_eq_true, ex2, ex3, lim0, lim1, lim2, lim3, lim4, List.cons_append, List.nil_append, List.map, List.replicate]
        exact after xs hxs
      · refine b_nilW ⟨R ++ [lgOb (runL ms.length (ds.take (enumD 0 (ds.map deedD)).length))], _, _, _, _, _, _, _, _, _, _, _, _, _, _, _, ?_, ⟨o, ho, e1⟩, e2⟩
        intro x hx n
        rcases List.mem_append.mp hx with hx | hx
        · exact hR x hx n
        · rw [List.mem_singleton.mp hx]
          exact low_lg
  · rintro f E S ⟨rfl, R, x2, x3, x4, x5, x6, x7, x8, x9, x10, x11, x12, x13, x14, x15, x16, hR, hS, rfl⟩
    rw [wpN_nx]
    refine b_consW ?_
    try simp only [wpS, wpT, wpE, wpO, wpEs, wpAs, wpL, wpC, wpI, wpG, wpPar, wpSE, brwW, slotV, slotA, List.getElem?_cons_zero, List.getElem?_cons_succ, List.set_cons_zero, List.set_cons_succ, drf_int, drf_bl, drf_non, drf_str, drf_tup, drf_lst, drf_scr, drf_set, drf_ty, drf_ins, drf_glo, drf_0, ixL0, ixL1, ixL2, ixL3, ixL4, ixT0, ixT1, ixT2, ixAt0, ixAt1, ixAt2, ixAt3, ixAt4, tru_bl, tru_int, tru_tup, tru_lst, c_eq_int, c_ne_int, c_lt, c_le, c_gt, c_ge, c_in2, c_inL, c_inT, c_ninT, c_eq_bl, c_ne_bl, b_len_l, b_len_t, b_len_s, b_abs, b_int, b_tup_l, b_tup_t, b_max, b_min, o_add, o_sub, o_mul, o_fdiv, o_mod, o_pow, o_catT, o_catL, o_repT, o_repL, o_repL2, s_tupX, s_lstX, s_scrX, q_tup, q_lst, qi_tup, qi_lst, qi_scr, at_ins, isNon_int, isNon_non, wpN_nx, wpN_ret, wpN_brk, wpN_cnt, trn_nx, trn_cnt, trn_brk, trn_ret, List.map_cons, List.map_nil, List.length_cons, List.length_nil, Nat.zero_add, Nat.reduceAdd, Nat.reduceLT, true_and, and_true, Option.some.injEq, exists_eq_left', exists_eq_left, exists_and_left, Sl.ol.injEq, Sl.v.injEq, Sl.os.injEq, D.int.injEq, D.bl.injEq, D.tup.injEq, D.lst.injEq, D.ref.injEq, Ob.lst.injEq, List.cons.injEq, decide_eq_true_eq, Bool.not_eq_true', decide_eq_false_iff_not, bne_iff_ne, ne_eq, if_true, if_false, Bool.false_eq_true, Bool.true_eq_false, reduceIte, Bool.not_true, Bool.not_false, decide_true, decide_false, not_true_eq_false, not_false_eq_true, ex2, ex3, lim0, lim1, lim2, lim3, lim4, List.cons_append, List.nil_append, List.map, List.replicate]
theorem pure_law (ns : List Int) (_ : ns.length ≤ 63) : ∃ S, callAt L.pg 30 27 [.scr ns] [] = .ok (.bl true) S := by
  obtain ⟨d, S, e, rfl⟩ := law_ok 20 ns
  exact ⟨S, e⟩
end Qv.Law
set_option Elab.async false
set_option linter.all false
set_option maxRecDepth 100000
set_option maxHeartbeats 0
namespace Qv.Law
open PySem PySem.Spec PyProof.Rows L2
abbrev R : PySem.W.OpenRow := PySem.W.OpenLaw.row PySem.Challenge.rw_staletags_k04_whole_looks_of_the_first_f
def loose0 : List PySem.Str := ["TagError", "BadWeb", "is_integer", "is_within", "is_tuple_of", "MOST_ROOMS", "MOST_MEMORY", "is_tie", "Web", "tied_rooms", "begun", "kept_tags", "raw_after", "raw_barred", "raw_standing_of", "standing_of", "first_barred", "_law_hand", "_law_draw", "_law_any", "_law_pairs", "_law_parts", "_law_made", "_law_near", "_law_start", "_law_done", "_law_bars", "_law_asks", "_law_past", "_law_let_looks", "_law_deep_parts"]
def loose : List PySem.Str := loose0
abbrev hk : PySem.W.Hook := He.hookD 5 L.fa L.fnD
def ob (s : PySem.W.SharedT) : He.AlD := He.obsDG 5 L.fa L.fnD (HandSHeadRun.getT s)
theorem ob_eq (s : PySem.W.SharedT) : ob s = hk.obs s.abs := He.obsDG_eq (HandSHeadRun.getT_eq s)
theorem run (w : World) : HandSHeadRun.RunEq R (PySem.W.view R.prog [36]) hk ob 3000 loose w := by
  intro os
  kernel_rfl
end Qv.Law
open PySem PySem.W PySem.Calls PyProof.Rows
theorem Qv.Law.head (pure : ∀ ns : List Int, ns.length ≤ 63 → ∃ S, Qv.callAt Qv.Law.L.pg 30 27 [.scr ns] [] = .ok (.bl true) S) : PySem.Challenge.rw_staletags_k04_whole_looks_of_the_first_f.Holds := by
  w_on; o_law
  refine HandSHeadRun.head_any (r := OpenLaw.row PySem.Challenge.rw_staletags_k04_whole_looks_of_the_first_f) (q := view (OpenLaw.row PySem.Challenge.rw_staletags_k04_whole_looks_of_the_first_f).prog [36]) (H := Qv.Law.hk) (ob := Qv.Law.ob) (M := 3000) (loose := Qv.Law.loose) (d := HandSHeadRun.topDef (OpenLaw.row PySem.Challenge.rw_staletags_k04_whole_looks_of_the_first_f).prog 36) (kwd := []) Qv.Law.ob_eq
    (by kernel_rfl) (fun s => by kernel_rfl) Qv.Law.run (by kernel_rfl) (by kernel_rfl) (by kernel_rfl) (by rfl) (by first | assumption | decide +kernel) (by decide +kernel) ⟨rfl, rfl, rfl, rfl, rfl, by decide +kernel⟩ ?hw ?hc
  case hw => w_witness2
  case hc =>
    refine Qv.walk_ofW (l := PySem.Challenge.rw_staletags_k04_whole_looks_of_the_first_f) (n := 63) (k := 2 * 30) (x := "_law_script") rfl (by decide) (by kernel_rfl) ⟨rfl, by decide, by decide⟩ ?F
    intro w mg fa h Y G hmg0
    obtain ⟨K, KX, c⟩ := Y
    have hmg : mg ("law" : PySem.Str) = some (.ref fa) := by
      have e : (HandSHeadRun.topDef (OpenLaw.row PySem.Challenge.rw_staletags_k04_whole_looks_of_the_first_f).prog 36).name = ("law" : PySem.Str) := by kernel_rfl
      rw [← e]
      exact hmg0
    exact Qv.Lw.walk Qv.Law.L Qv.Law.all_ok Qv.Law.chk_ok (ix := 27) (d := Qv.Law.d_law) rfl rfl rfl pure KX G hmg c
theorem PySem.Challenge.cw_staletags_k04_whole_looks_of_the_first_f_holds : PySem.Challenge.rw_staletags_k04_whole_looks_of_the_first_f.Holds := by
  exact Qv.Law.head Qv.Law.pure_law
