import PyProof.Rows.All
import Wide.All
import OpenK.AllK
import Wide.FinOn
import HandS.ForMost
import HandS.Evl
import HandS.Exc
import HandS.ExcOwn
import HandS.WordsExc
import HandS.Wide
import HandS.IsInst
import HandS.Defaults
import HandS.Flow
import HandS.SetFor
import HandS.Conv
import HandS.HeadHook2
import HandS.HeadEnd
import HandS.HeadWalk
import HandS.Head0
import HandS.Head1
import HandS.Head2
import PySem.Challenge.RW_throngways_k59_whole_growing
set_option Elab.async false
set_option linter.all false
set_option maxRecDepth 100000
set_option maxHeartbeats 4000000
/-! G: values in place of the heap. A pure datum D stands in a base heap that only grows; an owned tree O stands in the full heap. -/
namespace G
open PySem L2
open Evl (Ex)

inductive D where
  | non | bl (b : Bool) | int (i : Int) | str (x : Str) | ty (n : String) | fn (a : Addr)
  | tup (ds : List D) | lst (ds : List D)
  | dK (ks : List Key) (ds : List D) | dT (ks : List (List Key)) (ds : List D)
  | ins (C : Addr) (fs : List Str) (ds : List D)
inductive O where
  | pur (d : D)
  | lst (p : Addr) (xs : List O)
  | dK (p : Addr) (ks : List Key) (xs : List O)
  | dT (p : Addr) (ks : List (List Key)) (xs : List O)
  | ins (p dx C : Addr) (fs : List Str) (xs : List O)
mutual
/-- d is what v means in the heap H -/
def den (K : PySem.W.Frag) (H : Hp) : D → V → Prop
  | .non, v => v = .non
  | .bl b, v => v = .bl b
  | .int i, v => v = .int i
  | .str x, v => v = .str x
  | .ty n, v => v = .ty n
  | .fn a, v => v = .ref a
  | .tup ds, v => ∃ a vs, v = .ref a ∧ SqT K H a vs ∧ denL K H ds vs
  | .lst ds, v => ∃ a vs, v = .ref a ∧ SqL K H a vs ∧ denL K H ds vs
  | .dK ks ds, v => ∃ a vs, v = .ref a ∧ H a = some (.dK (ks.zip vs)) ∧ ks.length = vs.length ∧ denL K H ds vs
  | .dT ks ds, v => ∃ a vs, v = .ref a ∧ H a = some (.dT (ks.zip vs)) ∧ ks.length = vs.length ∧ denL K H ds vs
  | .ins C fs ds, v => ∃ a dx vs, v = .ref a ∧ H a = some (.ins C dx (fs.zip vs)) ∧ H dx = some (.own a) ∧ fs.length = vs.length ∧ denL K H ds vs
def denL (K : PySem.W.Frag) (H : Hp) : List D → List V → Prop
  | [], vs => vs = []
  | d :: ds, vs => ∃ v r, vs = v :: r ∧ den K H d v ∧ denL K H ds r
end
mutual
/-- o stands at v: its own objects in h, its pure parts in b -/
def own (K : PySem.W.Frag) (b h : Hp) : O → V → Prop
  | .pur d, v => den K b d v
  | .lst p xs, v => v = .ref p ∧ ∃ vs, h p = some (.lst vs) ∧ ownL K b h xs vs
  | .dK p ks xs, v => v = .ref p ∧ ∃ vs, h p = some (.dK (ks.zip vs)) ∧ ks.length = vs.length ∧ ownL K b h xs vs
  | .dT p ks xs, v => v = .ref p ∧ ∃ vs, h p = some (.dT (ks.zip vs)) ∧ ks.length = vs.length ∧ ownL K b h xs vs
  | .ins p dx C fs xs, v => v = .ref p ∧ ∃ vs, h p = some (.ins C dx (fs.zip vs)) ∧ h dx = some (.own p) ∧ fs.length = vs.length ∧ ownL K b h xs vs
def ownL (K : PySem.W.Frag) (b h : Hp) : List O → List V → Prop
  | [], vs => vs = []
  | o :: os, vs => ∃ v r, vs = v :: r ∧ own K b h o v ∧ ownL K b h os r
end
mutual
def foot : O → List Addr
  | .pur _ => []
  | .lst p xs => p :: footL xs
  | .dK p _ xs => p :: footL xs
  | .dT p _ xs => p :: footL xs
  | .ins p dx _ _ xs => p :: dx :: footL xs
def footL : List O → List Addr
  | [] => []
  | o :: os => foot o ++ footL os
end
mutual
def O.d : O → D
  | .pur d => d
  | .lst _ xs => .lst (O.dL xs)
  | .dK _ ks xs => .dK ks (O.dL xs)
  | .dT _ ks xs => .dT ks (O.dL xs)
  | .ins _ _ C fs xs => .ins C fs (O.dL xs)
def O.dL : List O → List D
  | [] => []
  | o :: os => o.d :: O.dL os
end
section
variable {K : PySem.W.Frag} {b b' h h' : Hp}
mutual
theorem den_mono (e : Ex b b') : ∀ (d : D) (v : V), den K b d v → den K b' d v
  | .non, _, h => h
  | .bl _, _, h => h
  | .int _, _, h => h
  | .str _, _, h => h
  | .ty _, _, h => h
  | .fn _, _, h => h
  | .tup ds, _, ⟨a, vs, e1, h1, h2⟩ => ⟨a, vs, e1, Evl.ex_t e h1, denL_mono e ds vs h2⟩
  | .lst ds, _, ⟨a, vs, e1, h1, h2⟩ => ⟨a, vs, e1, Evl.ex_l e h1, denL_mono e ds vs h2⟩
  | .dK _ ds, _, ⟨a, vs, e1, h1, h3, h2⟩ => ⟨a, vs, e1, e _ _ h1, h3, denL_mono e ds vs h2⟩
  | .dT _ ds, _, ⟨a, vs, e1, h1, h3, h2⟩ => ⟨a, vs, e1, e _ _ h1, h3, denL_mono e ds vs h2⟩
  | .ins _ _ ds, _, ⟨a, dx, vs, e1, h1, h4, h3, h2⟩ => ⟨a, dx, vs, e1, e _ _ h1, e _ _ h4, h3, denL_mono e ds vs h2⟩
theorem denL_mono (e : Ex b b') : ∀ (ds : List D) (vs : List V), denL K b ds vs → denL K b' ds vs
  | [], _, h => h
  | d :: ds, _, ⟨v, r, e1, h1, h2⟩ => ⟨v, r, e1, den_mono e d v h1, denL_mono e ds r h2⟩
end
mutual
theorem own_keep (e : Ex b b') : ∀ (o : O) (v : V), own K b h o v → (∀ a ∈ foot o, h' a = h a) → own K b' h' o v
  | .pur d, v, x, _ => den_mono e d v x
  | .lst p xs, _, ⟨e1, vs, h1, h2⟩, k => ⟨e1, vs, (k p (List.mem_cons_self ..)).trans h1, ownL_keep e xs vs h2 fun a z => k a (List.mem_cons_of_mem _ z)⟩
  | .dK p ks xs, _, ⟨e1, vs, h1, h3, h2⟩, k => ⟨e1, vs, (k p (List.mem_cons_self ..)).trans h1, h3, ownL_keep e xs vs h2 fun a z => k a (List.mem_cons_of_mem _ z)⟩
  | .dT p ks xs, _, ⟨e1, vs, h1, h3, h2⟩, k => ⟨e1, vs, (k p (List.mem_cons_self ..)).trans h1, h3, ownL_keep e xs vs h2 fun a z => k a (List.mem_cons_of_mem _ z)⟩
  | .ins p dx C fs xs, _, ⟨e1, vs, h1, h4, h3, h2⟩, k => ⟨e1, vs, (k p (List.mem_cons_self ..)).trans h1, (k dx (List.mem_cons_of_mem _ (List.mem_cons_self ..))).trans h4, h3,
      ownL_keep e xs vs h2 fun a z => k a (List.mem_cons_of_mem _ (List.mem_cons_of_mem _ z))⟩
theorem ownL_keep (e : Ex b b') : ∀ (os : List O) (vs : List V), ownL K b h os vs → (∀ a ∈ footL os, h' a = h a) → ownL K b' h' os vs
  | [], _, x, _ => x
  | o :: os, _, ⟨v, r, e1, h1, h2⟩, k => ⟨v, r, e1, own_keep e o v h1 fun a z => k a (List.mem_append_left _ z), ownL_keep e os r h2 fun a z => k a (List.mem_append_right _ z)⟩
end
mutual
theorem own_there : ∀ (o : O) (v : V), own K b h o v → ∀ a ∈ foot o, ∃ u, h a = some u
  | .pur d, v, x, a, z => by simp [foot] at z
  | .lst p xs, _, ⟨e1, vs, h1, h2⟩, a, z => by
    rcases List.mem_cons.mp z with e | z
    · exact ⟨_, e ▸ h1⟩
    · exact ownL_there xs vs h2 a z
  | .dK p ks xs, _, ⟨e1, vs, h1, h3, h2⟩, a, z => by
    rcases List.mem_cons.mp z with e | z
    · exact ⟨_, e ▸ h1⟩
    · exact ownL_there xs vs h2 a z
  | .dT p ks xs, _, ⟨e1, vs, h1, h3, h2⟩, a, z => by
    rcases List.mem_cons.mp z with e | z
    · exact ⟨_, e ▸ h1⟩
    · exact ownL_there xs vs h2 a z
  | .ins p dx C fs xs, _, ⟨e1, vs, h1, h4, h3, h2⟩, a, z => by
    rcases List.mem_cons.mp z with e | z
    · exact ⟨_, e ▸ h1⟩
    · rcases List.mem_cons.mp z with e | z
      · exact ⟨_, e ▸ h4⟩
      · exact ownL_there xs vs h2 a z
theorem ownL_there : ∀ (os : List O) (vs : List V), ownL K b h os vs → ∀ a ∈ footL os, ∃ u, h a = some u
  | [], _, _, a, z => by simp [footL] at z
  | o :: os, _, ⟨v, r, e1, h1, h2⟩, a, z => by
    rcases List.mem_append.mp z with z | z
    · exact own_there o v h1 a z
    · exact ownL_there os r h2 a z
end
mutual
/-- an owned tree joins the base -/
theorem own_frz (e : Ex b b') : ∀ (o : O) (v : V), own K b h o v → (∀ a ∈ foot o, b' a = h a) → den K b' o.d v
  | .pur d, v, x, _ => den_mono e d v x
  | .lst p xs, _, ⟨e1, vs, h1, h2⟩, k => ⟨p, vs, e1, SqL.of ((k p (List.mem_cons_self ..)).trans h1), ownL_frz e xs vs h2 fun a z => k a (List.mem_cons_of_mem _ z)⟩
  | .dK p ks xs, _, ⟨e1, vs, h1, h3, h2⟩, k => ⟨p, vs, e1, (k p (List.mem_cons_self ..)).trans h1, h3, ownL_frz e xs vs h2 fun a z => k a (List.mem_cons_of_mem _ z)⟩
  | .dT p ks xs, _, ⟨e1, vs, h1, h3, h2⟩, k => ⟨p, vs, e1, (k p (List.mem_cons_self ..)).trans h1, h3, ownL_frz e xs vs h2 fun a z => k a (List.mem_cons_of_mem _ z)⟩
  | .ins p dx C fs xs, _, ⟨e1, vs, h1, h4, h3, h2⟩, k => ⟨p, dx, vs, e1, (k p (List.mem_cons_self ..)).trans h1, (k dx (List.mem_cons_of_mem _ (List.mem_cons_self ..))).trans h4, h3,
      ownL_frz e xs vs h2 fun a z => k a (List.mem_cons_of_mem _ (List.mem_cons_of_mem _ z))⟩
theorem ownL_frz (e : Ex b b') : ∀ (os : List O) (vs : List V), ownL K b h os vs → (∀ a ∈ footL os, b' a = h a) → denL K b' (O.dL os) vs
  | [], _, x, _ => x
  | o :: os, _, ⟨v, r, e1, h1, h2⟩, k => ⟨v, r, e1, own_frz e o v h1 fun a z => k a (List.mem_append_left _ z), ownL_frz e os r h2 fun a z => k a (List.mem_append_right _ z)⟩
end
end

/-! ### slots -/
abbrev Gam := List (Option O)
def inF (g : Gam) (a : Addr) : Prop := ∃ (i : Nat) (o : O), g[i]? = some (some o) ∧ a ∈ foot o
structure Hold (K : PySem.W.Frag) (b h : Hp) (σ : L2.St) (g : Gam) : Prop where
  sub : Ex b h
  len : σ.length = g.length
  sl : ∀ (i : Nat) (o : O), g[i]? = some (some o) → ∃ v, σ[i]? = some (some v) ∧ own K b h o v
  nd : ∀ (i : Nat) (o : O), g[i]? = some (some o) → (foot o).Nodup
  dj : ∀ (i j : Nat) (o u : O), i ≠ j → g[i]? = some (some o) → g[j]? = some (some u) → ∀ a, a ∈ foot o → a ∉ foot u
  nb : ∀ (i : Nat) (o : O), g[i]? = some (some o) → ∀ a ∈ foot o, b a = none
structure Frm (g : Gam) (b h : Hp) (g' : Gam) (b' h' : Hp) : Prop where
  bs : Ex b b'
  keep : ∀ a o, h a = some o → ¬ inF g a → h' a = some o
  nb : ∀ a o, h a = some o → b a = none → ¬ inF g a → b' a = none
  new : ∀ a, inF g' a → inF g a ∨ h a = none
section
variable {K : PySem.W.Frag} {b b' b'' h h' h'' : Hp} {σ σ' : L2.St} {g g' g'' : Gam} {o u : O} {v : V}
theorem Frm.refl (g : Gam) (b h : Hp) : Frm g b h g b h := ⟨Ex.refl b, fun _ _ e _ => e, fun _ _ _ e _ => e, fun _ e => .inl e⟩
theorem Frm.trans (x : Frm g b h g' b' h') (y : Frm g' b' h' g'' b'' h'') : Frm g b h g'' b'' h'' := by
  have k : ∀ a o, h a = some o → ¬ inF g a → ¬ inF g' a := fun a o e n z => by
    rcases x.new a z with z | z
    · exact n z
    · rw [e] at z; cases z
  refine ⟨x.bs.trans y.bs, fun a o e n => y.keep a o (x.keep a o e n) (k a o e n), fun a o e eb n => y.nb a o (x.keep a o e n) (x.nb a o e eb n) (k a o e n), fun a z => ?_⟩
  rcases y.new a z with z | z
  · exact x.new a z
  · by_cases hz : inF g a
    · exact .inl hz
    · cases e : h a with
      | none => exact .inr rfl
      | some o => rw [x.keep a o e hz] at z; cases z
theorem Frm.sub (x : Frm g b h g' b' h') (s : ∀ a, inF g'' a → inF g' a) : Frm g b h g'' b' h' := ⟨x.bs, x.keep, x.nb, fun a z => x.new a (s a z)⟩
theorem inF_cons {a : Addr} {x : Option O} : inF (x :: g) a ↔ (∃ o, x = some o ∧ a ∈ foot o) ∨ inF g a := by
  constructor
  · rintro ⟨i, o, e, m⟩
    cases i with
    | zero => exact .inl ⟨o, by simpa using e, m⟩
    | succ i => exact .inr ⟨i, o, by simpa using e, m⟩
  · rintro (⟨o, e, m⟩ | ⟨i, o, e, m⟩)
    · exact ⟨0, o, by simp [e], m⟩
    · exact ⟨i + 1, o, by simpa using e, m⟩
theorem Hold.inF_there (x : Hold K b h σ g) {a : Addr} (z : inF g a) : ∃ o, h a = some o := by
  obtain ⟨i, o, e, m⟩ := z
  obtain ⟨v, _, w⟩ := x.sl i o e
  exact own_there o v w a m
theorem Hold.inF_nb (x : Hold K b h σ g) {a : Addr} (z : inF g a) : b a = none := by
  obtain ⟨i, o, e, m⟩ := z
  exact x.nb i o e a m
theorem Hold.tail {x : Option O} {w : Option V} (k : Hold K b h (w :: σ) (x :: g)) : Hold K b h σ g :=
  ⟨k.sub, by have := k.len; simpa using this, fun i o e => by
    have := k.sl (i + 1) o (by simpa using e)
    simpa using this, fun i o e => k.nd (i + 1) o (by simpa using e), fun i j o u n e1 e2 => k.dj (i + 1) (j + 1) o u (by omega) (by simpa using e1) (by simpa using e2), fun i o e => k.nb (i + 1) o (by simpa using e)⟩
theorem Hold.head (k : Hold K b h (some v :: σ) (some o :: g)) : own K b h o v ∧ (foot o).Nodup ∧ (∀ a ∈ foot o, b a = none) ∧ ∀ a ∈ foot o, ¬ inF g a := by
  obtain ⟨w, e, z⟩ := k.sl 0 o rfl
  have e' : v = w := by simpa using e
  subst e'
  refine ⟨z, k.nd 0 o rfl, k.nb 0 o rfl, fun a m ⟨i, u, e, mu⟩ => ?_⟩
  exact k.dj 0 (i + 1) o u (by omega) rfl (by simpa using e) a m mu
theorem Hold.cons (k : Hold K b h σ g) (z : own K b h o v) (nd : (foot o).Nodup) (nb : ∀ a ∈ foot o, b a = none) (dj : ∀ a ∈ foot o, ¬ inF g a) : Hold K b h (some v :: σ) (some o :: g) := by
  refine ⟨k.sub, by simp [k.len], fun i u e => ?_, fun i u e => ?_, fun i j u w n e1 e2 a m1 m2 => ?_, fun i u e => ?_⟩
  · cases i with
    | zero => have : o = u := by simpa using e
              subst this; exact ⟨v, rfl, z⟩
    | succ i => have := k.sl i u (by simpa using e); simpa using this
  · cases i with
    | zero => have : o = u := by simpa using e
              subst this; exact nd
    | succ i => exact k.nd i u (by simpa using e)
  · cases i with
    | zero =>
      have : o = u := by simpa using e1
      subst this
      cases j with
      | zero => exact n rfl
      | succ j => exact dj a m1 ⟨j, w, by simpa using e2, m2⟩
    | succ i =>
      cases j with
      | zero =>
        have : o = w := by simpa using e2
        subst this
        exact dj a m2 ⟨i, u, by simpa using e1, m1⟩
      | succ j => exact k.dj i j u w (by omega) (by simpa using e1) (by simpa using e2) a m1 m2
  · cases i with
    | zero => have : o = u := by simpa using e
              subst this; exact nb
    | succ i => exact k.nb i u (by simpa using e)
theorem Hold.consN (k : Hold K b h σ g) (w : Option V) : Hold K b h (w :: σ) (none :: g) := by
  refine ⟨k.sub, by simp [k.len], fun i u e => ?_, fun i u e => ?_, fun i j u w n e1 e2 a m1 m2 => ?_, fun i u e => ?_⟩
  · cases i with
    | zero => simp at e
    | succ i => have := k.sl i u (by simpa using e); simpa using this
  · cases i with
    | zero => simp at e
    | succ i => exact k.nd i u (by simpa using e)
  · cases i with
    | zero => simp at e1
    | succ i =>
      cases j with
      | zero => simp at e2
      | succ j => exact k.dj i j u w (by omega) (by simpa using e1) (by simpa using e2) a m1 m2
  · cases i with
    | zero => simp at e
    | succ i => exact k.nb i u (by simpa using e)
/-- the base grows by what none of the slots owns -/
theorem Hold.grow (k : Hold K b h σ g) (e : Ex b b') (s : Ex b' h) (nb : ∀ a, inF g a → b' a = none) : Hold K b' h σ g :=
  ⟨s, k.len, fun i o q => by
    obtain ⟨v, e1, z⟩ := k.sl i o q
    exact ⟨v, e1, own_keep e o v z fun _ _ => rfl⟩, k.nd, k.dj, fun i o q a m => nb a ⟨i, o, q, m⟩⟩
/-- an owned result joins the base -/
theorem Hold.frz (k : Hold K b h (some v :: σ) (some o :: g)) : ∃ b', Ex b b' ∧ den K b' o.d v ∧ Hold K b' h σ g ∧ (∀ a, b' a ≠ none → b a = none → a ∈ foot o) := by
  obtain ⟨z, nd, nb, dj⟩ := k.head
  refine ⟨fun a => if a ∈ foot o then h a else b a, ?_, ?_, ?_, ?_⟩
  · intro a u e
    by_cases m : a ∈ foot o
    · rw [nb a m] at e; cases e
    · show (if a ∈ foot o then h a else b a) = some u
      rw [if_neg m]; exact e
  · refine own_frz (fun a u e => ?_) o v z fun a m => ?_
    · by_cases m : a ∈ foot o
      · rw [nb a m] at e; cases e
      · show (if a ∈ foot o then h a else b a) = some u
        rw [if_neg m]; exact e
    · show (if a ∈ foot o then h a else b a) = h a
      rw [if_pos m]
  · refine k.tail.grow (fun a u e => ?_) (fun a u e => ?_) fun a q => ?_
    · by_cases m : a ∈ foot o
      · rw [nb a m] at e; cases e
      · show (if a ∈ foot o then h a else b a) = some u
        rw [if_neg m]; exact e
    · have e' : (if a ∈ foot o then h a else b a) = some u := e
      by_cases m : a ∈ foot o
      · rw [if_pos m] at e'; exact e'
      · rw [if_neg m] at e'; exact k.sub a u e'
    · show (if a ∈ foot o then h a else b a) = none
      rw [if_neg fun m => dj a m q]
      exact k.tail.inF_nb q
  · intro a n1 n2
    have n1' : (if a ∈ foot o then h a else b a) ≠ none := n1
    by_cases m : a ∈ foot o
    · exact m
    · rw [if_neg m] at n1'; exact absurd n2 n1'
theorem Frm.frz (x : Frm g b h (some o :: g') b' h') (e : Ex b' b'') (n : ∀ a, b'' a ≠ none → b' a = none → a ∈ foot o) : Frm g b h g' b'' h' := by
  refine ⟨x.bs.trans e, x.keep, fun a u e1 e2 n1 => ?_, fun a z => x.new a (inF_cons.mpr (.inr z))⟩
  cases q : b'' a with
  | none => rfl
  | some w =>
    have m := n a (by rw [q]; simp) (x.nb a u e1 e2 n1)
    rcases x.new a (inF_cons.mpr (.inl ⟨o, rfl, m⟩)) with z | z
    · exact absurd z n1
    · rw [e1] at z; cases z
/-- a result that leans on nothing owned, lifted to the slots -/
def Res (K : PySem.W.Frag) (b h b' h' : Hp) (v : V) (o : O) : Prop := Hold K b' h' [some v] [some o] ∧ Frm [] b h [some o] b' h'
theorem inF_nil {a : Addr} : ¬ inF [] a := fun ⟨i, o, e, _⟩ => by simp at e
theorem Res.lift (k : Hold K b h σ g) (r : Res K b h b' h' v o) : Hold K b' h' (some v :: σ) (some o :: g) ∧ Frm g b h (some o :: g) b' h' := by
  obtain ⟨r1, r2⟩ := r
  obtain ⟨z, nd, nb, _⟩ := r1.head
  have kp : ∀ a, inF g a → h' a = h a := fun a q => by
    obtain ⟨u, e⟩ := k.inF_there q
    rw [e]; exact r2.keep a u e inF_nil
  have hb : ∀ a, inF g a → b' a = none := fun a q => by
    obtain ⟨u, e⟩ := k.inF_there q
    exact r2.nb a u e (k.inF_nb q) inF_nil
  have k' : Hold K b' h' σ g := ⟨r1.sub, k.len, fun i u q => by
    obtain ⟨w, e1, z⟩ := k.sl i u q
    exact ⟨w, e1, own_keep r2.bs u w z fun a m => kp a ⟨i, u, q, m⟩⟩, k.nd, k.dj, fun i u q a m => hb a ⟨i, u, q, m⟩⟩
  have dj : ∀ a ∈ foot o, h a = none := fun a m => by
    rcases r2.new a (inF_cons.mpr (.inl ⟨o, rfl, m⟩)) with z | z
    · exact absurd z inF_nil
    · exact z
  refine ⟨k'.cons z nd nb fun a m q => ?_, ⟨r2.bs, fun a u e _ => r2.keep a u e inF_nil, fun a u e1 e2 _ => r2.nb a u e1 e2 inF_nil, fun a q => ?_⟩⟩
  · obtain ⟨u, e⟩ := k.inF_there q
    rw [dj a m] at e; cases e
  · rcases inF_cons.mp q with ⟨o', e, m⟩ | q
    · cases e; exact .inr (dj a m)
    · exact .inl q
/-- a pure result: nothing has changed -/
theorem Res.same {d : D} (s : Ex b h) (z : den K b d v) : Res K b h b h v (.pur d) := by
  refine ⟨⟨s, rfl, fun i o e => ?_, fun i o e => ?_, fun i j o u n e1 e2 a m1 m2 => ?_, fun i o e a m => ?_⟩, ⟨Ex.refl b, fun _ _ e _ => e, fun _ _ _ e _ => e, fun a q => ?_⟩⟩
  · cases i with
    | zero => have : O.pur d = o := by simpa using e
              subst this; exact ⟨v, rfl, z⟩
    | succ i => simp at e
  · cases i with
    | zero => have : O.pur d = o := by simpa using e
              subst this; simp [foot]
    | succ i => simp at e
  · cases i with
    | zero => have : O.pur d = o := by simpa using e1
              subst this; simp [foot] at m1
    | succ i => simp at e1
  · cases i with
    | zero => have : O.pur d = o := by simpa using e
              subst this; simp [foot] at m
    | succ i => simp at e
  · obtain ⟨i, o, e, m⟩ := q
    cases i with
    | zero => have : O.pur d = o := by simpa using e
              subst this; simp [foot] at m
    | succ i => simp at e
theorem hold1 (s : Ex b h) (z : own K b h o v) (nd : (foot o).Nodup) (nb : ∀ a ∈ foot o, b a = none) : Hold K b h [some v] [some o] :=
  Hold.cons (σ := []) (g := []) ⟨s, rfl, fun i o e => by simp at e, fun i o e => by simp at e, fun i j o u n e => by simp at e, fun i o e => by simp at e⟩ z nd nb fun _ _ => inF_nil
/-- a new pure object at p -/
theorem Res.new {p : Addr} {ob : HO} {d : D} (s : Ex b h) (np : h p = none) (z : den K (upd b p ob) d v) : Res K b h (upd b p ob) (upd h p ob) v (.pur d) := by
  have nbp : b p = none := Evl.fresh_back s np
  refine ⟨hold1 (fun a u e => ?_) z (by simp [foot]) (fun a m => by simp [foot] at m), ⟨Ex.new nbp, fun a u e _ => ?_, fun a u e1 e2 _ => ?_, fun a q => ?_⟩⟩
  · by_cases ha : a = p
    · subst ha; rw [upd_same] at e ⊢; exact e
    · rw [upd_ne ha] at e ⊢; exact s a u e
  · rw [upd_ne (ne_of_none e np)]; exact e
  · rw [upd_ne (ne_of_none e1 np)]; exact e2
  · rcases inF_cons.mp q with ⟨o', e, m⟩ | q
    · cases e; simp [foot] at m
    · exact absurd q inF_nil
/-- a new owned object at p, its parts pure -/
theorem Res.own1 {p : Addr} {ob : HO} (s : Ex b h) (np : h p = none) (z : own K b (upd h p ob) o v) (hf : foot o = [p]) : Res K b h b (upd h p ob) v o := by
  have nbp : b p = none := Evl.fresh_back s np
  refine ⟨hold1 (fun a u e => ?_) z (by simp [hf]) (fun a m => by rw [hf] at m; simp at m; subst m; exact nbp), ⟨Ex.refl b, fun a u e _ => ?_, fun a u e1 e2 _ => e2, fun a q => ?_⟩⟩
  · rw [upd_ne (ne_of_none e nbp)]; exact s a u e
  · rw [upd_ne (ne_of_none e np)]; exact e
  · rcases inF_cons.mp q with ⟨o', e, m⟩ | q
    · cases e; rw [hf] at m; simp at m; subst m; exact .inr np
    · exact absurd q inF_nil
end
end G
/-! G: the judgements and the rules of expressions. -/
namespace G
open PySem L2
open Evl (Ex)

/-- an exception: its class, its fields -/
abbrev Exn := Addr × List (Str × D)
abbrev Wsh := Exn → Gam → Prop
def exAt (K : PySem.W.Frag) (b h : Hp) (x : Exn) (cls : Value) (d : Option Addr) : Prop :=
  cls = .ref x.1 ∧ ((d = none ∧ x.2 = []) ∨ ∃ a vs, d = some a ∧ h a = some (.xd ((x.2.map (·.1)).zip vs)) ∧ denL K b (x.2.map (·.2)) vs)
section
variable (K : PySem.W.Frag) (g : Gam) (b h : Hp) (σ : L2.St)
def ContX (We : Wsh) (W : WX) : Prop := ∀ cls d σ' b' h' g' x, Hold K b' h' σ' g' → Frm g b h g' b' h' → exAt K b' h' x cls d → We x g' → W cls d σ' h'
def Cont (P : O → Gam → Prop) (Q : VK) : Prop := ∀ v b' h' g' o, Hold K b' h' (some v :: σ) (some o :: g') → Frm g b h (some o :: g') b' h' → P o g' → Q v h'
def ContT (P : Bool → Gam → Prop) (Q : Bool → Hp → Prop) : Prop := ∀ k b' h' g', Hold K b' h' σ g' → Frm g b h g' b' h' → P k g' → Q k h'
end
abbrev WE := Wsh → Gam → (O → Gam → Prop) → Prop
abbrev WT := Wsh → Gam → (Bool → Gam → Prop) → Prop
structure GE (X : Cx) (W : WX) (e : Expr) (t : TE) (w : WE) : Prop where
  pe : PE X e t
  se : ∀ b h σ g We P Q, Hold X.K b h σ g → w We g P → ContX X.K g b h We W → Cont X.K g b h σ P Q → t σ h Q
structure GT (X : Cx) (W : WX) (e : Expr) (t : TT) (w : WT) : Prop where
  pe : PT X e t
  se : ∀ b h σ g We P Q, Hold X.K b h σ g → w We g P → ContX X.K g b h We W → ContT X.K g b h σ P Q → t σ h Q
structure GW (X : Cx) (W : WX) (e : Expr) (t : TT) (w : WT) : Prop where
  pe : PW X e t
  se : ∀ b h σ g We P Q, Hold X.K b h σ g → w We g P → ContX X.K g b h We W → ContT X.K g b h σ P Q → t σ h Q
theorem GW.gt {X : Cx} {W : WX} {e : Expr} {t : TT} {w : WT} (h : GW X W e t w) : GT X W e t w := ⟨h.pe.pt, h.se⟩
section
variable {K : PySem.W.Frag} {g g' : Gam} {b b' h h' : Hp} {σ : L2.St} {We : Wsh} {W : WX} {v : V} {o : O}
theorem ContX.step (x : ContX K g b h We W) (f : Frm g b h g' b' h') : ContX K g' b' h' We W := fun cls d σ' b2 h2 g2 e k f2 z q => x cls d σ' b2 h2 g2 e k (f.trans f2) z q
/-- a value has come, and is pure from here on -/
theorem come (k : Hold K b' h' (some v :: σ) (some o :: g')) (f : Frm g b h (some o :: g') b' h') : ∃ b'', Hold K b'' h' σ g' ∧ Frm g b h g' b'' h' ∧ den K b'' o.d v := by
  obtain ⟨b'', e, z, k', n⟩ := k.frz
  exact ⟨b'', k', f.frz e n, z⟩
theorem fin (k : Hold K b' h' σ g') (f : Frm g b h g' b' h') {b2 h2 : Hp} (r : Res K b' h' b2 h2 v o) {P : O → Gam → Prop} {Q : VK} (c : Cont K g b h σ P Q) (p : P o g') : Q v h2 := by
  obtain ⟨k2, f2⟩ := r.lift k
  exact c v b2 h2 g' o k2 (f.trans f2) p
end

/-! ### names, constants -/
def wVar (i : Nat) : WE := fun _ g P => match g[i]? with
  | some (some (.pur d)) => P (.pur d) g
  | _ => False
/-- an owned name is given away -/
def wMov (i : Nat) : WE := fun _ g P => match g[i]? with
  | some (some o) => P o (g.set i none)
  | _ => False
/-- an owned name is pure from here on -/
def wFrz (i : Nat) : WE := fun _ g P => match g[i]? with
  | some (some o) => P (.pur o.d) (g.set i (some (.pur o.d)))
  | _ => False
def wC (d : D) : WE := fun _ g P => P (.pur d) g
section
variable {X : Cx} {W : WX}
theorem ge_var {i : Nat} {x : Str} {pos : Pos} (hN : X.N[i]? = some x := by rfl) (hv : Vis X.env.scope x := by first | exact Or.inl rfl | exact Or.inr (Or.inl rfl) | exact Or.inr (Or.inr rfl))
    (hd : (x == ("__debug__" : Str)) = false := by decide) (hcd : (x == ("__classdict__" : Str)) = false := by decide) : GE X W (.Name x pos) (tVar i) (wVar i) := by
  refine ⟨pe_var hN hv hd hcd, fun b h σ g We P Q k hw hx c => ?_⟩
  unfold wVar at hw
  split at hw
  · rename_i d e
    obtain ⟨v, e1, z⟩ := k.sl i _ e
    exact ⟨v, e1, fin k (Frm.refl g b h) (Res.same k.sub z) c hw⟩
  · exact hw.elim
theorem set_none {K : PySem.W.Frag} {b h : Hp} {σ : L2.St} {g : Gam} {i : Nat} {v : V} {o : O} (k : Hold K b h σ g) (e : g[i]? = some (some o)) (ev : σ[i]? = some (some v)) :
    Hold K b h (some v :: σ) (some o :: g.set i none) ∧ ∀ a, inF (some o :: g.set i none) a → inF g a := by
  have hi : i < g.length := (List.getElem?_eq_some_iff.mp e).1
  obtain ⟨v', ev', z⟩ := k.sl i o e
  rw [ev] at ev'
  cases ev'
  have old : ∀ (j : Nat) (u : O), (g.set i none)[j]? = some (some u) → j ≠ i ∧ g[j]? = some (some u) := fun j u q => by
    by_cases hj : i = j
    · subst hj; rw [List.getElem?_set_self hi] at q; simp at q
    · rw [List.getElem?_set_ne hj] at q; exact ⟨Ne.symm hj, q⟩
  have k' : Hold K b h σ (g.set i none) := ⟨k.sub, by simp [k.len], fun j u q => k.sl j u (old j u q).2, fun j u q => k.nd j u (old j u q).2,
    fun j l u w n q1 q2 => k.dj j l u w n (old j u q1).2 (old l w q2).2, fun j u q => k.nb j u (old j u q).2⟩
  refine ⟨k'.cons z (k.nd i o e) (k.nb i o e) fun a m ⟨j, u, q, mu⟩ => k.dj i j o u (Ne.symm (old j u q).1) e (old j u q).2 a m mu, fun a q => ?_⟩
  rcases inF_cons.mp q with ⟨u, e', m⟩ | ⟨j, u, q, mu⟩
  · cases e'; exact ⟨i, o, e, m⟩
  · exact ⟨j, u, (old j u q).2, mu⟩
theorem ge_mov {i : Nat} {x : Str} {pos : Pos} (hN : X.N[i]? = some x := by rfl) (hv : Vis X.env.scope x := by first | exact Or.inl rfl | exact Or.inr (Or.inl rfl) | exact Or.inr (Or.inr rfl))
    (hd : (x == ("__debug__" : Str)) = false := by decide) (hcd : (x == ("__classdict__" : Str)) = false := by decide) : GE X W (.Name x pos) (tVar i) (wMov i) := by
  refine ⟨pe_var hN hv hd hcd, fun b h σ g We P Q k hw hx c => ?_⟩
  unfold wMov at hw
  split at hw
  · rename_i o e
    obtain ⟨v, e1, z⟩ := k.sl i _ e
    obtain ⟨k2, s2⟩ := set_none k e e1
    exact ⟨v, e1, c v b h _ o k2 ((Frm.refl g b h).sub s2) hw⟩
  · exact hw.elim
theorem set_pur {K : PySem.W.Frag} {b h : Hp} {σ : L2.St} {g : Gam} {i : Nat} {v : V} {o : O} (k : Hold K b h σ g) (e : g[i]? = some (some o)) (ev : σ[i]? = some (some v)) :
    ∃ b', Hold K b' h σ (g.set i (some (.pur o.d))) ∧ Frm g b h (g.set i (some (.pur o.d))) b' h ∧ den K b' o.d v := by
  have hi : i < g.length := (List.getElem?_eq_some_iff.mp e).1
  obtain ⟨k2, s2⟩ := set_none k e ev
  obtain ⟨b', eb, z, k3, n⟩ := k2.frz
  have e3 : (g.set i none).set i (some (.pur o.d)) = g.set i (some (.pur o.d)) := by simp
  have old : ∀ (j : Nat) (u : O), (g.set i (some (.pur o.d)))[j]? = some (some u) → (j = i ∧ u = .pur o.d) ∨ (j ≠ i ∧ (g.set i none)[j]? = some (some u)) := fun j u q => by
    by_cases hj : i = j
    · subst hj; rw [List.getElem?_set_self hi] at q; simp at q; exact .inl ⟨rfl, q.symm⟩
    · rw [List.getElem?_set_ne hj] at q ⊢; exact .inr ⟨Ne.symm hj, q⟩
  refine ⟨b', ⟨k3.sub, by simp [k.len], fun j u q => ?_, fun j u q => ?_, fun j l u w m q1 q2 a m1 m2 => ?_, fun j u q a m => ?_⟩, ⟨eb, fun _ _ q _ => q, fun a u q1 q2 q3 => ?_, fun a q => ?_⟩, z⟩
  · rcases old j u q with ⟨rfl, rfl⟩ | ⟨_, q⟩
    · exact ⟨v, ev, z⟩
    · exact k3.sl j u q
  · rcases old j u q with ⟨rfl, rfl⟩ | ⟨_, q⟩
    · simp [foot]
    · exact k3.nd j u q
  · rcases old j u q1 with ⟨rfl, rfl⟩ | ⟨_, q1⟩
    · simp [foot] at m1
    · rcases old l w q2 with ⟨rfl, rfl⟩ | ⟨_, q2⟩
      · simp [foot] at m2
      · exact k3.dj j l u w m q1 q2 a m1 m2
  · rcases old j u q with ⟨rfl, rfl⟩ | ⟨_, q⟩
    · simp [foot] at m
    · exact k3.nb j u q a m
  · cases r : b' a with
    | none => rfl
    | some w => exact absurd ⟨i, o, e, n a (by rw [r]; simp) q2⟩ q3
  · obtain ⟨j, u, q, m⟩ := q
    rcases old j u q with ⟨rfl, rfl⟩ | ⟨_, q⟩
    · simp [foot] at m
    · exact .inl (s2 a (inF_cons.mpr (.inr ⟨j, u, q, m⟩)))
theorem ge_frz {i : Nat} {x : Str} {pos : Pos} (hN : X.N[i]? = some x := by rfl) (hv : Vis X.env.scope x := by first | exact Or.inl rfl | exact Or.inr (Or.inl rfl) | exact Or.inr (Or.inr rfl))
    (hd : (x == ("__debug__" : Str)) = false := by decide) (hcd : (x == ("__classdict__" : Str)) = false := by decide) : GE X W (.Name x pos) (tVar i) (wFrz i) := by
  refine ⟨pe_var hN hv hd hcd, fun b h σ g We P Q k hw hx c => ?_⟩
  unfold wFrz at hw
  split at hw
  · rename_i o e
    obtain ⟨v, e1, z⟩ := k.sl i _ e
    obtain ⟨b', k2, f2, z2⟩ := set_pur k e e1
    exact ⟨v, e1, fin k2 f2 (Res.same k2.sub z2) c hw⟩
  · exact hw.elim
theorem ge_c {e : Expr} {v : V} {d : D} (h : PE X e (tC v)) (z : ∀ b, den X.K b d v) : GE X W e (tC v) (wC d) :=
  ⟨h, fun b h' σ g We P Q k hw hx c => fin k (Frm.refl g b h') (Res.same k.sub (z b)) c hw⟩
theorem ge_int {i j pos} : GE X W (.Constant (.int i) j pos) (tC (.int i)) (wC (.int i)) := ge_c pe_int fun _ => rfl
theorem ge_bl {b j pos} : GE X W (.Constant (.bool b) j pos) (tC (.bl b)) (wC (.bl b)) := ge_c pe_bl fun _ => rfl
theorem ge_non {j pos} : GE X W (.Constant .none j pos) (tC .non) (wC .non) := ge_c pe_non fun _ => rfl
theorem ge_str {x j pos} : GE X W (.Constant (.str x) j pos) (tC (.str x)) (wC (.str x)) := ge_c pe_str fun _ => rfl
/-- a module's number -/
theorem ge_gint {x : Str} {i : Int} {pos : Pos} (hm : ∃ t, X.mg x = some (.int i t)) (hg : Gl X x := by rfl) (hd : (x == ("__debug__" : Str)) = false := by decide) : GE X W (.Name x pos) (tC (.int i)) (wC (.int i)) := by
  obtain ⟨t, hm⟩ := hm
  exact ge_c (pe_glob hg hm (v := .int i) ⟨t, rfl⟩ hd) fun _ => rfl
/-- a module's def or class as a value -/
theorem ge_gref {x : Str} {a : Addr} {pos : Pos} (hm : X.mg x = some (.ref a)) (hg : Gl X x := by rfl) (hd : (x == ("__debug__" : Str)) = false := by decide) : GE X W (.Name x pos) (tC (.ref a)) (wC (.fn a)) :=
  ge_c (pe_glob hg hm (v := .ref a) rfl hd) fun _ => rfl
/-- a built-in class as a value -/
theorem ge_ty {x : Str} {n : String} {pos : Pos} (hm : X.mg x = none) (hv : bootBuiltins x = some (.type n)) (hg : Gl X x := by rfl) (hn : x ≠ "__name__" := by decide) (hd : (x == ("__debug__" : Str)) = false := by decide) : GE X W (.Name x pos) (tC (.ty n)) (wC (.ty n)) :=
  ge_c (pe_bltn hg hm hv (v := .ty n) rfl hn hd) fun _ => rfl

/-! ### two places -/
abbrev RO := D → D → (O → Prop) → Prop
def Brd (K : PySem.W.Frag) (r : RO) (r' : R2) : Prop := ∀ b h x y dx dy P Q, Ex b h → den K b dx x → den K b dy y → r dx dy P → (∀ v b' h' o, Res K b h b' h' v o → P o → Q v h') → r' x y h Q
structure OpG (X : Cx) (f : Value → Value → Sem Value) (r' : R2) (r : RO) : Prop where
  pe : OpR X f r'
  se : Brd X.K r r'
structure IxG (X : Cx) (r' : R2) (r : RO) : Prop where
  pe : IxR X r'
  se : Brd X.K r r'
def wOp (r : RO) (wa wb : WE) : WE := fun We g P => wa We g fun x g1 => wb We g1 fun y g2 => r x.d y.d fun z => P z g2
variable {a c e : Expr} {ta tb : TE} {wa wb : WE} {r : RO} {r' : R2}
theorem two (ha : ∀ b h σ g We P Q, Hold X.K b h σ g → wa We g P → ContX X.K g b h We W → Cont X.K g b h σ P Q → ta σ h Q)
    (hb : ∀ b h σ g We P Q, Hold X.K b h σ g → wb We g P → ContX X.K g b h We W → Cont X.K g b h σ P Q → tb σ h Q) {b h : Hp} {σ : L2.St} {g : Gam} {We : Wsh} {P : D → D → Gam → Prop} {Q : V → V → Hp → Prop}
    (k : Hold X.K b h σ g) (hw : wa We g fun x g1 => wb We g1 fun y g2 => P x.d y.d g2) (hx : ContX X.K g b h We W)
    (c : ∀ v u b' h' g' x y, Hold X.K b' h' σ g' → Frm g b h g' b' h' → den X.K b' x v → den X.K b' y u → P x y g' → Q v u h') : ta σ h fun v h1 => tb σ h1 fun u h2 => Q v u h2 := by
  refine ha b h σ g We _ _ k hw hx fun v b1 h1 g1 x k1 f1 p1 => ?_
  obtain ⟨b1', k1', f1', z1⟩ := come k1 f1
  refine hb b1' h1 σ g1 We _ _ k1' p1 (hx.step f1') fun u b2 h2 g2 y k2 f2 p2 => ?_
  obtain ⟨b2', k2', f2', z2⟩ := come k2 f2
  exact c v u b2' h2 g2 x.d y.d k2' (f1'.trans f2') (den_mono f2'.bs _ _ z1) z2 p2
theorem ge_op {op : Operator} {pos : Pos} (ho : OpG X (binaryOp op) r' r) (ha : GE X W a ta wa) (hb : GE X W c tb wb) : GE X W (.BinOp a op c pos) (tOp r' ta tb) (wOp r wa wb) := by
  obtain ⟨ho, br⟩ := ho
  obtain ⟨pa, qa⟩ := ha
  obtain ⟨pb, qb⟩ := hb
  refine ⟨pe_op ho pa pb, fun b h σ g We P Q k hw hx ct => ?_⟩
  exact two (P := fun x y g2 => r x y fun z => P z g2) (Q := fun x y h2 => r' x y h2 Q) qa qb k hw hx fun v u b' h' g' x y k' f' zx zy p =>
    br b' h' v u x y _ Q k'.sub zx zy p fun w b2 h2 o rs q => fin k' f' rs ct q
theorem ge_cmp {op : CmpOp} {pos : Pos} (ho : OpG X (compareOp op) r' r) (ha : GE X W a ta wa) (hb : GE X W c tb wb) (hm : behindInMarks op c = false := by first | exact nomark _ | rfl) : GE X W (.Compare a [op] [c] pos) (tOp r' ta tb) (wOp r wa wb) := by
  obtain ⟨ho, br⟩ := ho
  obtain ⟨pa, qa⟩ := ha
  obtain ⟨pb, qb⟩ := hb
  refine ⟨pe_cmpR ho pa pb hm, fun b h σ g We P Q k hw hx ct => ?_⟩
  exact two (P := fun x y g2 => r x y fun z => P z g2) (Q := fun x y h2 => r' x y h2 Q) qa qb k hw hx fun v u b' h' g' x y k' f' zx zy p =>
    br b' h' v u x y _ Q k'.sub zx zy p fun w b2 h2 o rs q => fin k' f' rs ct q
theorem ge_ix {pos : Pos} (ho : IxG X r' r) (ha : GE X W a ta wa) (hb : GE X W c tb wb) (hs : PlainIx c := by intro _ _; rfl) : GE X W (.Subscript a c pos) (tOp r' ta tb) (wOp r wa wb) := by
  obtain ⟨ho, br⟩ := ho
  obtain ⟨pa, qa⟩ := ha
  obtain ⟨pb, qb⟩ := hb
  refine ⟨pe_ix ho pa pb hs, fun b h σ g We P Q k hw hx ct => ?_⟩
  exact two (P := fun x y g2 => r x y fun z => P z g2) (Q := fun x y h2 => r' x y h2 Q) qa qb k hw hx fun v u b' h' g' x y k' f' zx zy p =>
    br b' h' v u x y _ Q k'.sub zx zy p fun w b2 h2 o rs q => fin k' f' rs ct q
def D.isTrue : O → (Bool → Prop) → Prop
  | .pur (.bl k), P => P k
  | _, _ => False
/-- an expression that gives True or False, as a test -/
def wTest (wa : WE) : WT := fun We g P => wa We g fun x g1 => D.isTrue x fun k => P k g1
theorem test_of {K : PySem.W.Frag} {b h b' h' : Hp} {σ : L2.St} {g g' : Gam} {v : V} {o : O} {P : Bool → Gam → Prop} {Q : Bool → Hp → Prop} (k : Hold K b' h' (some v :: σ) (some o :: g')) (f : Frm g b h (some o :: g') b' h') (q : D.isTrue o fun k => P k g')
    (c : ContT K g b h σ P Q) : ∃ k, v = .bl k ∧ Q k h' := by
  cases o with
  | pur d => cases d with
    | bl kk =>
      obtain ⟨z, _, _, _⟩ := k.head
      exact ⟨kk, z, c kk b' h' g' k.tail (f.sub fun a q => inF_cons.mpr (.inr q)) q⟩
    | _ => exact q.elim
  | _ => exact q.elim
theorem gt_cmp {op : CmpOp} {pos : Pos} (ho : OpG X (compareOp op) r' r) (ha : GE X W a ta wa) (hb : GE X W c tb wb) (hm : behindInMarks op c = false := by first | exact nomark _ | rfl) : GT X W (.Compare a [op] [c] pos) (tTest (tOp r' ta tb)) (wTest (wOp r wa wb)) := by
  obtain ⟨ho, br⟩ := ho
  obtain ⟨pa, qa⟩ := ha
  obtain ⟨pb, qb⟩ := hb
  refine ⟨pt_cmpR ho pa pb hm, fun b h σ g We P Q k hw hx ct => ?_⟩
  exact two (P := fun x y g2 => r x y fun z => D.isTrue z fun k => P k g2) (Q := fun x y h2 => r' x y h2 fun x H' => ∃ k, x = .bl k ∧ Q k H') qa qb k hw hx fun v u b' h' g' x y k' f' zx zy p =>
    br b' h' v u x y _ _ k'.sub zx zy p fun w b2 h2 o rs q => by
      obtain ⟨k2, f2⟩ := rs.lift k'
      exact test_of k2 (f'.trans f2) q ct
theorem gt_val {e : Expr} {t : TE} {w : WE} (h : GE X W e t w) (he : ∀ whole, isTrue e X.env whole = (do let v ← whole; standAt e.pos; holding [v] (truthy v)) := by intro _; rfl) : GT X W e (tB t) (wTest w) := by
  obtain ⟨p, q⟩ := h
  refine ⟨pt_val p he, fun b h σ g We P Q k hw hx ct => ?_⟩
  exact q b h σ g We _ _ k hw hx fun v b' h' g' o k' f' p' => test_of k' f' p' ct
/-! ### and, or, not, if -/
/-- two ways -/
@[irreducible] def br (k : Bool) (A B : Prop) : Prop := if k = true then A else B
theorem br_t {A B : Prop} : br true A B ↔ A := by unfold br; simp
theorem br_f {A B : Prop} : br false A B ↔ B := by unfold br; simp
theorem br_i {k : Bool} {A B : Prop} (h1 : k = true → A) (h2 : k = false → B) : br k A B := by
  cases k with
  | true => exact br_t.mpr (h1 rfl)
  | false => exact br_f.mpr (h2 rfl)
theorem br_T {k : Bool} {A B : Prop} (e : k = true) (h : A) : br k A B := by subst e; exact br_t.mpr h
theorem br_F {k : Bool} {A B : Prop} (e : k = false) (h : B) : br k A B := by subst e; exact br_f.mpr h
def wAnd (wa wb : WT) : WT := fun We g P => wa We g fun k g1 => br k (wb We g1 P) (P false g1)
def wOr (wa wb : WT) : WT := fun We g P => wa We g fun k g1 => br k (P true g1) (wb We g1 P)
def wNot (wa : WT) : WT := fun We g P => wa We g fun k g1 => P (!k) g1
variable {t1 t2 : TT} {tA tB' : WT} {rest : List Expr}
theorem gw_and1 {pos : Pos} (ha : GT X W a t1 tA) : GW X W (.BoolOp .And [a] pos) t1 tA := ⟨pw_and1 ha.pe, ha.se⟩
theorem gw_or1 {pos : Pos} (ha : GT X W a t1 tA) : GW X W (.BoolOp .Or [a] pos) t1 tA := ⟨pw_or1 ha.pe, ha.se⟩
theorem gw_and {pos : Pos} (ha : GT X W a t1 tA) (hb : GW X W (.BoolOp .And (c :: rest) pos) t2 tB') : GW X W (.BoolOp .And (a :: c :: rest) pos) (tAnd t1 t2) (wAnd tA tB') := by
  obtain ⟨p, q⟩ := ha
  obtain ⟨p2, q2⟩ := hb
  refine ⟨pw_and p p2, fun b h σ g We P Q k hw hx ct => ?_⟩
  refine q b h σ g We _ _ k hw hx fun kk b' h' g' k' f' p' => ?_
  cases kk with
  | true => exact q2 b' h' σ g' We P Q k' (br_t.mp p') (hx.step f') fun k2 b2 h2 g2 h3 f2 p2 => ct k2 b2 h2 g2 h3 (f'.trans f2) p2
  | false => exact ct false b' h' g' k' f' (br_f.mp p')
theorem gw_or {pos : Pos} (ha : GT X W a t1 tA) (hb : GW X W (.BoolOp .Or (c :: rest) pos) t2 tB') : GW X W (.BoolOp .Or (a :: c :: rest) pos) (tOr t1 t2) (wOr tA tB') := by
  obtain ⟨p, q⟩ := ha
  obtain ⟨p2, q2⟩ := hb
  refine ⟨pw_or p p2, fun b h σ g We P Q k hw hx ct => ?_⟩
  refine q b h σ g We _ _ k hw hx fun kk b' h' g' k' f' p' => ?_
  cases kk with
  | false => exact q2 b' h' σ g' We P Q k' (br_f.mp p') (hx.step f') fun k2 b2 h2 g2 h3 f2 p2 => ct k2 b2 h2 g2 h3 (f'.trans f2) p2
  | true => exact ct true b' h' g' k' f' (br_t.mp p')
theorem gt_not {pos : Pos} (ha : GT X W a t1 tA) : GT X W (.UnaryOp .Not a pos) (tNot t1) (wNot tA) := by
  obtain ⟨p, q⟩ := ha
  exact ⟨pt_not p, fun b h σ g We P Q k hw hx ct => q b h σ g We _ (fun c H1 => Q (!c) H1) k hw hx fun kk b' h' g' k' f' p' => ct (!kk) b' h' g' k' f' p'⟩
/-- as values -/
def wAndV (wa wb : WE) : WE := fun We g P => wa We g fun x g1 => D.isTrue x fun k => br k (wb We g1 P) (P (.pur (.bl false)) g1)
def wOrV (wa wb : WE) : WE := fun We g P => wa We g fun x g1 => D.isTrue x fun k => br k (P (.pur (.bl true)) g1) (wb We g1 P)
def wNotV (wa : WE) : WE := fun We g P => wa We g fun x g1 => D.isTrue x fun k => P (.pur (.bl (!k))) g1
theorem cont_go {K : PySem.W.Frag} {b h b' h' : Hp} {σ : L2.St} {g g' : Gam} {P : O → Gam → Prop} {Q : VK} (c : Cont K g b h σ P Q) (f : Frm g b h g' b' h') : Cont K g' b' h' σ P Q :=
  fun v b2 h2 g2 o k f2 p => c v b2 h2 g2 o k (f.trans f2) p
theorem ge_one {op} {pos : Pos} {t : TE} {w : WE} (h : GE X W a t w) : GE X W (.BoolOp op [a] pos) t w := ⟨pe_one h.pe, h.se⟩
theorem ge_and {pos : Pos} (ha : GE X W a ta wa) (hb : GE X W (.BoolOp .And (c :: rest) pos) tb wb) : GE X W (.BoolOp .And (a :: c :: rest) pos) (tAndV ta tb) (wAndV wa wb) := by
  obtain ⟨p, q⟩ := ha
  obtain ⟨p2, q2⟩ := hb
  refine ⟨pe_and p p2, fun b h σ g We P Q k hw hx ct => ?_⟩
  refine q b h σ g We _ _ k hw hx fun v b' h' g' o k' f' p' => ?_
  refine test_of (P := fun kk g1 => br kk (wb We g1 P) (P (.pur (.bl false)) g1)) (Q := fun kk H1 => if kk = true then tb σ H1 Q else Q (.bl false) H1) k' f' p' fun kk b2 h2 g2 k2 f2 p2 => ?_
  cases kk with
  | true => exact q2 b2 h2 σ g2 We P Q k2 (br_t.mp p2) (hx.step f2) (cont_go ct f2)
  | false => exact fin k2 f2 (Res.same k2.sub (d := .bl false) rfl) ct (br_f.mp p2)
theorem ge_or {pos : Pos} (ha : GE X W a ta wa) (hb : GE X W (.BoolOp .Or (c :: rest) pos) tb wb) : GE X W (.BoolOp .Or (a :: c :: rest) pos) (tOrV ta tb) (wOrV wa wb) := by
  obtain ⟨p, q⟩ := ha
  obtain ⟨p2, q2⟩ := hb
  refine ⟨pe_or p p2, fun b h σ g We P Q k hw hx ct => ?_⟩
  refine q b h σ g We _ _ k hw hx fun v b' h' g' o k' f' p' => ?_
  refine test_of (P := fun kk g1 => br kk (P (.pur (.bl true)) g1) (wb We g1 P)) (Q := fun kk H1 => if kk = true then Q (.bl true) H1 else tb σ H1 Q) k' f' p' fun kk b2 h2 g2 k2 f2 p2 => ?_
  cases kk with
  | false => exact q2 b2 h2 σ g2 We P Q k2 (br_f.mp p2) (hx.step f2) (cont_go ct f2)
  | true => exact fin k2 f2 (Res.same k2.sub (d := .bl true) rfl) ct (br_t.mp p2)
theorem ge_not {pos : Pos} (ha : GE X W a ta wa) : GE X W (.UnaryOp .Not a pos) (tNotV ta) (wNotV wa) := by
  obtain ⟨p, q⟩ := ha
  refine ⟨pe_not p, fun b h σ g We P Q k hw hx ct => ?_⟩
  refine q b h σ g We _ _ k hw hx fun v b' h' g' o k' f' p' => ?_
  exact test_of (P := fun kk g1 => P (.pur (.bl (!kk))) g1) (Q := fun kk H1 => Q (.bl (!kk)) H1) k' f' p' fun kk b2 h2 g2 k2 f2 p2 => fin k2 f2 (Res.same k2.sub (d := .bl (!kk)) rfl) ct p2
def wIf (wt : WT) (wa wb : WE) : WE := fun We g P => wt We g fun k g1 => br k (wa We g1 P) (wb We g1 P)
theorem ge_if {t : Expr} {pos : Pos} (ht : GT X W t t1 tA) (ha : GE X W a ta wa) (hb : GE X W c tb wb) : GE X W (.IfExp t a c pos) (tIf t1 ta tb) (wIf tA wa wb) := by
  obtain ⟨p, q⟩ := ht
  obtain ⟨p1, q1⟩ := ha
  obtain ⟨p2, q2⟩ := hb
  refine ⟨pe_ifExp p p1 p2, fun b h σ g We P Q k hw hx ct => ?_⟩
  refine q b h σ g We _ _ k hw hx fun kk b' h' g' k' f' p' => ?_
  cases kk with
  | true => exact q1 b' h' σ g' We P Q k' (br_t.mp p') (hx.step f') (cont_go ct f')
  | false => exact q2 b' h' σ g' We P Q k' (br_f.mp p') (hx.step f') (cont_go ct f')
/-- a < b < c -/
def wChain (r r2 : RO) (wa wb wc : WE) : WE := fun We g P => wa We g fun x g1 => wb We g1 fun y g2 => r x.d y.d fun z => D.isTrue z fun k => br k (wc We g2 fun u g3 => r2 y.d u.d fun z2 => P z2 g3) (P (.pur (.bl false)) g2)
end
end G
/-! G: chains, arguments, statements, loops. -/
namespace G
open PySem L2
open Evl (Ex)

structure Ctx (X : Cx) (W : WX) : Prop where
  tk : Takes X W
  po : PassesOwn (model X.prog X.w) X.A X.env X.xe
  nd : X.N.Nodup
  calm : X.calm = true

section
variable {X : Cx} {W : WX} {r r2 : RO} {r' r2' : R2} {a c e : Expr} {ta tb tc : TE} {tr : TA} {wa wb wc w : WE}
/-! ### chains -/
theorem three (br : Brd X.K r r') (br2 : Brd X.K r2 r2') (ha : ∀ b h σ g We P Q, Hold X.K b h σ g → wa We g P → ContX X.K g b h We W → Cont X.K g b h σ P Q → ta σ h Q)
    (hb : ∀ b h σ g We P Q, Hold X.K b h σ g → wb We g P → ContX X.K g b h We W → Cont X.K g b h σ P Q → tb σ h Q)
    (hc : ∀ b h σ g We P Q, Hold X.K b h σ g → wc We g P → ContX X.K g b h We W → Cont X.K g b h σ P Q → tc σ h Q) {b h : Hp} {σ : L2.St} {g : Gam} {We : Wsh} {P : O → Gam → Prop} {Q : VK}
    (k : Hold X.K b h σ g) (hw : wChain r r2 wa wb wc We g P) (hx : ContX X.K g b h We W) (ct : Cont X.K g b h σ P Q) : tChain r' r2' ta tb tc σ h Q := by
  refine two (P := fun x y g2 => r x y fun z => D.isTrue z fun k => G.br k (wc We g2 fun u g3 => r2 y u.d fun z2 => P z2 g3) (P (.pur (.bl false)) g2))
    (Q := fun v u h2 => r' v u h2 fun z h3 => ∃ k, z = .bl k ∧ if k = true then tc σ h3 fun w h4 => r2' u w h4 Q else Q (.bl false) h3) ha hb k hw hx fun v u b' h' g' x y k' f' zx zy p => ?_
  refine br b' h' v u x y _ _ k'.sub zx zy p fun z b2 h2 o rs q => ?_
  obtain ⟨k2, f2⟩ := rs.lift k'
  refine test_of (P := fun k g2 => G.br k (wc We g2 fun u g3 => r2 y u.d fun z2 => P z2 g3) (P (.pur (.bl false)) g2))
    (Q := fun k h3 => if k = true then tc σ h3 fun w h4 => r2' u w h4 Q else Q (.bl false) h3) k2 f2 q fun kk b3 h3 g3 k3 f3 p3 => ?_
  cases kk with
  | false => exact fin k3 (f'.trans f3) (Res.same k3.sub (d := .bl false) rfl) ct (br_f.mp p3)
  | true =>
    refine hc b3 h3 σ g3 We _ _ k3 (br_t.mp p3) (hx.step (f'.trans f3)) fun w b4 h4 g4 z4 k4 f4 p4 => ?_
    obtain ⟨b5, k5, f5, zw⟩ := come k4 f4
    have f6 := f3.trans f5
    exact br2 b5 h4 u w y z4.d _ Q k5.sub (den_mono f6.bs _ _ zy) zw p4 fun v5 b6 h6 o6 rs6 q6 => fin k5 (f'.trans f6) rs6 ct q6
theorem ge_chain {op op2 : CmpOp} {pos : Pos} (ho : OpG X (compareOp op) r' r) (ho2 : OpG X (compareOp op2) r2' r2) (ha : GE X W a ta wa) (hb : GE X W c tb wb) (hc : GE X W e tc wc) (hm : lastMarks [op, op2] [c, e] = false := by with_unfolding_all rfl) :
    GE X W (.Compare a [op, op2] [c, e] pos) (tChain r' r2' ta tb tc) (wChain r r2 wa wb wc) := by
  obtain ⟨ho, br⟩ := ho
  obtain ⟨ho2, br2⟩ := ho2
  obtain ⟨pa, qa⟩ := ha
  obtain ⟨pb, qb⟩ := hb
  obtain ⟨pc, qc⟩ := hc
  exact ⟨pe_chain ho ho2 pa pb pc hm, fun b h σ g We P Q k hw hx ct => three br br2 qa qb qc k hw hx ct⟩
theorem gt_chain {op op2 : CmpOp} {pos : Pos} (ho : OpG X (compareOp op) r' r) (ho2 : OpG X (compareOp op2) r2' r2) (ha : GE X W a ta wa) (hb : GE X W c tb wb) (hc : GE X W e tc wc) (hm : lastMarks [op, op2] [c, e] = false := by with_unfolding_all rfl) :
    GT X W (.Compare a [op, op2] [c, e] pos) (tTest (tChain r' r2' ta tb tc)) (wTest (wChain r r2 wa wb wc)) := by
  obtain ⟨ho, br⟩ := ho
  obtain ⟨ho2, br2⟩ := ho2
  obtain ⟨pa, qa⟩ := ha
  obtain ⟨pb, qb⟩ := hb
  obtain ⟨pc, qc⟩ := hc
  exact ⟨pt_chain ho ho2 pa pb pc hm, fun b h σ g We P Q k hw hx ct => three br br2 qa qb qc k hw hx fun v b' h' g' o k' f' p' => test_of k' f' p' ct⟩

/-! ### one place -/
abbrev RU1 := D → (O → Prop) → Prop
structure UnG (X : Cx) (f : Value → Sem Value) (r' : V → Hp → VK → Prop) (r : RU1) : Prop where
  pe : UnR X f r'
  se : ∀ b h x dx P Q, Ex b h → den X.K b dx x → r dx P → (∀ v b' h' o, Res X.K b h b' h' v o → P o → Q v h') → r' x h Q
def wUn (r : RU1) (wa : WE) : WE := fun We g P => wa We g fun x g1 => r x.d fun z => P z g1
theorem ge_un {op : UnaryOp} {pos : Pos} {r' : V → Hp → VK → Prop} {r : RU1} (ho : UnG X (unaryOp op) r' r) (ha : GE X W a ta wa) : GE X W (.UnaryOp op a pos) (tUn r' ta) (wUn r wa) := by
  obtain ⟨ho, br⟩ := ho
  obtain ⟨pa, qa⟩ := ha
  refine ⟨pe_un ho pa, fun b h σ g We P Q k hw hx ct => ?_⟩
  refine qa b h σ g We _ _ k hw hx fun v b' h' g' o k' f' p' => ?_
  obtain ⟨b2, k2, f2, z⟩ := come k' f'
  exact br b2 h' v o.d _ Q k2.sub z p' fun u b3 h3 o3 rs q => fin k2 f2 rs ct q

/-! ### arguments -/
inductive Arg where
  | val (d : D) | bor (i : Nat)
abbrev WA := Wsh → Gam → (List Arg → Gam → Prop) → Prop
/-- what the arguments stand for -/
def ArgsOk (K : PySem.W.Frag) (b : Hp) (σ : L2.St) : List Arg → List V → Prop
  | [], vs => vs = []
  | .val d :: as, vs => ∃ v r, vs = v :: r ∧ den K b d v ∧ ArgsOk K b σ as r
  | .bor i :: as, vs => ∃ v r, vs = v :: r ∧ σ[i]? = some (some v) ∧ ArgsOk K b σ as r
theorem ArgsOk.mono {K : PySem.W.Frag} {b b' : Hp} {σ : L2.St} (e : Ex b b') : ∀ {as : List Arg} {vs : List V}, ArgsOk K b σ as vs → ArgsOk K b' σ as vs
  | [], _, h => h
  | .val _ :: _, _, ⟨v, r, e1, z, t⟩ => ⟨v, r, e1, den_mono e _ _ z, ArgsOk.mono e t⟩
  | .bor _ :: _, _, ⟨v, r, e1, z, t⟩ => ⟨v, r, e1, z, ArgsOk.mono e t⟩
structure GA (X : Cx) (W : WX) (es : List Expr) (t : TA) (w : WA) : Prop where
  pe : PA X es t
  se : ∀ b h σ g We P Q, Hold X.K b h σ g → w We g P → ContX X.K g b h We W →
    (∀ vs b' h' g' as, Hold X.K b' h' σ g' → Frm g b h g' b' h' → ArgsOk X.K b' σ as vs → P as g' → Q vs h') → t σ h Q
def wNil : WA := fun _ g P => P [] g
def wCons (wa : WE) (wr : WA) : WA := fun We g P => wa We g fun x g1 => wr We g1 fun as g2 => P (.val x.d :: as) g2
/-- a name whose object the callee may change -/
def wBor (i : Nat) (wr : WA) : WA := fun We g P => wr We g fun as g2 => P (.bor i :: as) g2
theorem ga_nil : GA X W [] tNil wNil := ⟨pa_nil, fun b h σ g We P Q k hw hx ct => ct [] b h g [] k (Frm.refl g b h) rfl hw⟩
theorem ga_cons {es : List Expr} {wr : WA} (ha : GE X W e ta wa) (hr : GA X W es tr wr) (hs : starEach (e :: es) X.env = (false, eval e X.env) :: starEach es X.env := by rfl) : GA X W (e :: es) (tCons ta tr) (wCons wa wr) := by
  obtain ⟨pa, qa⟩ := ha
  obtain ⟨pr, qr⟩ := hr
  refine ⟨pa_cons pa pr hs, fun b h σ g We P Q k hw hx ct => ?_⟩
  refine qa b h σ g We _ _ k hw hx fun v b' h' g' o k' f' p' => ?_
  obtain ⟨b2, k2, f2, z⟩ := come k' f'
  exact qr b2 h' σ g' We _ _ k2 p' (hx.step f2) fun vs b3 h3 g3 as k3 f3 z3 p3 => ct (v :: vs) b3 h3 g3 (.val o.d :: as) k3 (f2.trans f3) ⟨v, vs, rfl, den_mono f3.bs _ _ z, z3⟩ p3
/-- the slot holds something -/
theorem ga_bor {es : List Expr} {wr : WA} {i : Nat} {x : Str} {p : Pos} (hr : GA X W es tr wr) (hN : X.N[i]? = some x := by rfl) (hv : Vis X.env.scope x := by first | exact Or.inl rfl | exact Or.inr (Or.inl rfl) | exact Or.inr (Or.inr rfl))
    (hd : (x == ("__debug__" : Str)) = false := by decide) (hcd : (x == ("__classdict__" : Str)) = false := by decide) (hs : starEach (.Name x p :: es) X.env = (false, eval (.Name x p) X.env) :: starEach es X.env := by rfl) :
    GA X W (.Name x p :: es) (tCons (tVar i) tr) (fun We g P => (match g[i]? with
      | some (some _) => True
      | _ => False) ∧ wBor i wr We g P) := by
  obtain ⟨pr, qr⟩ := hr
  refine ⟨pa_cons (pe_var hN hv hd hcd) pr hs, fun b h σ g We P Q k ⟨hi, hw⟩ hx ct => ?_⟩
  split at hi
  · rename_i o e
    obtain ⟨v, e1, z⟩ := k.sl i _ e
    refine ⟨v, e1, qr b h σ g We _ _ k hw hx fun vs b3 h3 g3 as k3 f3 z3 p3 => ct (v :: vs) b3 h3 g3 (.bor i :: as) k3 f3 ⟨v, vs, rfl, e1, z3⟩ p3⟩
  · exact hi.elim

/-! ### built-ins called with pure arguments -/
def allVal : List Arg → Option (List D)
  | [] => some []
  | .val d :: as => (allVal as).map (d :: ·)
  | .bor _ :: _ => none
theorem allVal_ok {K : PySem.W.Frag} {b : Hp} {σ : L2.St} : ∀ {as : List Arg} {vs : List V} {ds : List D}, ArgsOk K b σ as vs → allVal as = some ds → denL K b ds vs
  | [], _, _, h, e => by cases e; exact h
  | .val d :: as, _, ds, ⟨v, r, e1, z, t⟩, e => by
    have e' : (allVal as).map (d :: ·) = some ds := e
    cases q : allVal as with
    | none => rw [q] at e'; cases e'
    | some l => rw [q] at e'; cases e'; exact ⟨v, r, e1, z, allVal_ok t q⟩
  | .bor _ :: _, _, _, _, e => by cases e
abbrev RC1 := List D → (O → Prop) → Prop
structure CallG (X : Cx) (f : Value) (r' : List V → Hp → VK → Prop) (r : RC1) : Prop where
  pe : CallR X f r'
  se : ∀ b h xs ds P Q, Ex b h → denL X.K b ds xs → r ds P → (∀ v b' h' o, Res X.K b h b' h' v o → P o → Q v h') → r' xs h Q
def wCB (r : RC1) (wa : WA) : WE := fun We g P => wa We g fun as g1 => match allVal as with
  | some ds => r ds fun z => P z g1
  | none => False
theorem cb_of {t : TA} {wa : WA} {r : RC1} {r' : List V → Hp → VK → Prop} (br : ∀ b h xs ds P Q, Ex b h → denL X.K b ds xs → r ds P → (∀ v b' h' o, Res X.K b h b' h' v o → P o → Q v h') → r' xs h Q)
    (qa : ∀ b h σ g We P Q, Hold X.K b h σ g → wa We g P → ContX X.K g b h We W → (∀ vs b' h' g' as, Hold X.K b' h' σ g' → Frm g b h g' b' h' → ArgsOk X.K b' σ as vs → P as g' → Q vs h') → t σ h Q) :
    ∀ b h σ g We P Q, Hold X.K b h σ g → wCB r wa We g P → ContX X.K g b h We W → Cont X.K g b h σ P Q → tCB r' t σ h Q := by
  intro b h σ g We P Q k hw hx ct
  refine qa b h σ g We _ _ k hw hx fun vs b' h' g' as k' f' z p => ?_
  cases e : allVal as with
  | none => rw [e] at p; exact p.elim
  | some ds =>
    rw [e] at p
    exact br b' h' vs ds _ Q k'.sub (allVal_ok z e) p fun v b2 h2 o rs q => fin k' f' rs ct q
theorem ge_cb {x : Str} {id : String} {r' : List V → Hp → VK → Prop} {r : RC1} {es : List Expr} {wa : WA} {p pos : Pos} (hc : CallG X (.builtin id) r' r) (hm : X.mg x = none) (hv : bootBuiltins x = some (.builtin id)) (ha : GA X W (e :: es) tr wa) (hg : Gl X x := by rfl)
    (hn : x ≠ "__name__" := by decide) (hdb : (x == ("__debug__" : Str)) = false := by decide)
    (he : starEach (e :: es) X.env = (false, eval e X.env) :: starEach es X.env := by rfl) (hpl : (backTo pos (starEach es X.env)).any (·.1) = false := by rfl) : GE X W (.Call (.Name x p) (e :: es) [] pos) (tCB r' tr) (wCB r wa) := by
  obtain ⟨hc, br⟩ := hc
  obtain ⟨pa, qa⟩ := ha
  exact ⟨pe_callB hc hg hm hv pa hn hdb he hpl, cb_of br qa⟩
theorem ge_ct {x : Str} {T : String} {r' : List V → Hp → VK → Prop} {r : RC1} {es : List Expr} {wa : WA} {p pos : Pos} (hc : CallG X (.type T) r' r) (hm : X.mg x = none) (hv : bootBuiltins x = some (.type T)) (ha : GA X W (e :: es) tr wa) (hg : Gl X x := by rfl)
    (hn : x ≠ "__name__" := by decide) (hdb : (x == ("__debug__" : Str)) = false := by decide)
    (he : starEach (e :: es) X.env = (false, eval e X.env) :: starEach es X.env := by rfl) (hpl : (backTo pos (starEach es X.env)).any (·.1) = false := by rfl) : GE X W (.Call (.Name x p) (e :: es) [] pos) (tCB r' tr) (wCB r wa) := by
  obtain ⟨hc, br⟩ := hc
  obtain ⟨pa, qa⟩ := ha
  exact ⟨pe_callTy hc hg hm hv pa hn hdb he hpl, cb_of br qa⟩

/-! ### displays -/
def wTup (wa : WA) : WE := fun We g P => wa We g fun as g1 => match allVal as with
  | some ds => ds.length ≤ sizeLine ∧ P (.pur (.tup ds)) g1
  | none => False
def wLst (wa : WA) : WE := fun We g P => wa We g fun as g1 => match allVal as with
  | some ds => ds.length ≤ sizeLine ∧ ∀ p, P (.lst p (ds.map .pur)) g1
  | none => False
theorem denL_len {K : PySem.W.Frag} {b : Hp} : ∀ {ds : List D} {vs : List V}, denL K b ds vs → ds.length = vs.length
  | [], _, h => by have h' : _ = ([] : List V) := h; subst h'; rfl
  | d :: ds, _, ⟨v, r, e, _, t⟩ => by subst e; simp [denL_len t]
theorem ownL_pur {K : PySem.W.Frag} {b h : Hp} : ∀ {ds : List D} {vs : List V}, denL K b ds vs → ownL K b h (ds.map .pur) vs
  | [], _, h => h
  | d :: ds, _, ⟨v, r, e, z, t⟩ => ⟨v, r, e, z, ownL_pur t⟩
theorem footL_pur : ∀ (ds : List D), footL (ds.map .pur) = []
  | [] => rfl
  | d :: ds => by show foot (.pur d) ++ footL (ds.map .pur) = []; rw [footL_pur ds]; rfl
theorem dL_pur : ∀ (ds : List D), O.dL (ds.map .pur) = ds
  | [] => rfl
  | d :: ds => by show d :: O.dL (ds.map .pur) = d :: ds; rw [dL_pur ds]
theorem ge_tup {es : List Expr} {wa : WA} {x1} {pos : Pos} (ha : GA X W es tr wa) : GE X W (.Tuple es x1 pos) (tTup tr) (wTup wa) := by
  obtain ⟨pa, qa⟩ := ha
  refine ⟨pe_tup pa, fun b h σ g We P Q k hw hx ct => ?_⟩
  refine qa b h σ g We _ _ k hw hx fun vs b' h' g' as k' f' z p => ?_
  cases e : allVal as with
  | none => rw [e] at p; exact p.elim
  | some ds =>
    rw [e] at p
    obtain ⟨hl, p⟩ := p
    have zl := allVal_ok z e
    refine ⟨by rw [← denL_len zl]; exact hl, fun q hq => ?_⟩
    refine fin k' f' (Res.new (ob := .tup vs) (d := .tup ds) k'.sub hq ⟨q, vs, rfl, SqT.of upd_same, denL_mono (Ex.new (Evl.fresh_back k'.sub hq)) _ _ zl⟩) ct p
theorem ge_lst {es : List Expr} {wa : WA} {pos : Pos} (ha : GA X W es tr wa) : GE X W (.List es pos) (tLst tr) (wLst wa) := by
  obtain ⟨pa, qa⟩ := ha
  refine ⟨pe_lst pa, fun b h σ g We P Q k hw hx ct => ?_⟩
  refine qa b h σ g We _ _ k hw hx fun vs b' h' g' as k' f' z p => ?_
  cases e : allVal as with
  | none => rw [e] at p; exact p.elim
  | some ds =>
    rw [e] at p
    obtain ⟨hl, p⟩ := p
    have zl := allVal_ok z e
    refine ⟨by rw [← denL_len zl]; exact hl, fun q hq => ?_⟩
    refine fin k' f' (Res.own1 (ob := .lst vs) (o := .lst q (ds.map .pur)) k'.sub hq ⟨rfl, vs, upd_same, ownL_pur zl⟩ (by simp [foot, footL_pur])) ct (p q)
end

/-! ### statements -/
structure GEnds where
  nx : Gam → Prop
  rt : O → Gam → Prop
  bk : Gam → Prop := fun _ => False
  ct : Gam → Prop := fun _ => False
abbrev WS := Wsh → GEnds → Gam → Prop
structure EndsOk (K : PySem.W.Frag) (g : Gam) (b h : Hp) (E : GEnds) (D : Ends) : Prop where
  nx : ∀ σ' b' h' g', Hold K b' h' σ' g' → Frm g b h g' b' h' → E.nx g' → D.nx σ' h'
  bk : ∀ σ' b' h' g', Hold K b' h' σ' g' → Frm g b h g' b' h' → E.bk g' → D.bk σ' h'
  ct : ∀ σ' b' h' g', Hold K b' h' σ' g' → Frm g b h g' b' h' → E.ct g' → D.ct σ' h'
  rt : ∀ σ' v b' h' g' o, Hold K b' h' (some v :: σ') (some o :: g') → Frm g b h (some o :: g') b' h' → E.rt o g' → D.rt v h'
structure GS (X : Cx) (W : WX) (st : Stmt) (w : WS) : Prop where
  ex : ∃ t, PS X st t ∧ ∀ b h σ g We E D, Hold X.K b h σ g → w We E g → ContX X.K g b h We W → EndsOk X.K g b h E D → t D σ h
structure GSs (X : Cx) (W : WX) (st : List Stmt) (w : WS) : Prop where
  ex : ∃ t, PSs X st t ∧ ∀ b h σ g We E D, Hold X.K b h σ g → w We E g → ContX X.K g b h We W → EndsOk X.K g b h E D → t D σ h
section
variable {X : Cx} {W : WX} {e : Expr} {te : TE} {wa wb : WE} {st : Stmt} {rest : List Stmt} {ws wr : WS}
theorem EndsOk.step {K : PySem.W.Frag} {g g' : Gam} {b h b' h' : Hp} {E : GEnds} {D : Ends} (x : EndsOk K g b h E D) (f : Frm g b h g' b' h') : EndsOk K g' b' h' E D :=
  ⟨fun σ2 b2 h2 g2 k f2 p => x.nx σ2 b2 h2 g2 k (f.trans f2) p, fun σ2 b2 h2 g2 k f2 p => x.bk σ2 b2 h2 g2 k (f.trans f2) p, fun σ2 b2 h2 g2 k f2 p => x.ct σ2 b2 h2 g2 k (f.trans f2) p,
    fun σ2 v b2 h2 g2 o k f2 p => x.rt σ2 v b2 h2 g2 o k (f.trans f2) p⟩
def wNext : WS := fun _ E g => E.nx g
def wSeq (w1 w2 : WS) : WS := fun We E g => w1 We { E with nx := w2 We E } g
theorem gss_nil : GSs X W [] wNext := ⟨tNext, pss_nil, fun b h σ g We E D k hw hx ct => ct.nx σ b h g k (Frm.refl g b h) hw⟩
theorem gss_cons (h1 : GS X W st ws) (h2 : GSs X W rest wr) : GSs X W (st :: rest) (wSeq ws wr) := by
  obtain ⟨t, p, q⟩ := h1.ex
  obtain ⟨t2, p2, q2⟩ := h2.ex
  refine ⟨tSeq t t2, pss_cons p p2, fun b h σ g We E D k hw hx ct => ?_⟩
  exact q b h σ g We _ _ k hw hx ⟨fun σ2 b2 h2 g2 k2 f2 p2 => q2 b2 h2 σ2 g2 We E D k2 p2 (hx.step f2) (ct.step f2), ct.bk, ct.ct, ct.rt⟩
theorem gss_one (h1 : GS X W st ws) : GSs X W [st] ws := by
  obtain ⟨t, p, q⟩ := h1.ex
  exact ⟨t, pss_one p, q⟩
theorem gs_pass {pos : Pos} : GS X W (.Pass pos) wNext := ⟨tNext, ps_pass, fun b h σ g We E D k hw hx ct => ct.nx σ b h g k (Frm.refl g b h) hw⟩
theorem gs_break {pos : Pos} : GS X W (.Break pos) (fun _ E g => E.bk g) := ⟨tBreak, ps_break, fun b h σ g We E D k hw hx ct => ct.bk σ b h g k (Frm.refl g b h) hw⟩
theorem gs_continue {pos : Pos} : GS X W (.Continue pos) (fun _ E g => E.ct g) := ⟨tCont, ps_continue, fun b h σ g We E D k hw hx ct => ct.ct σ b h g k (Frm.refl g b h) hw⟩
/-- never come to -/
def wNever : WS := fun _ _ _ => False
theorem gs_never : GS X W st wNever := ⟨tNever, ps_never, fun b h σ g We E D k hw hx ct => hw.elim⟩
def wExpr (wa : WE) : WS := fun We E g => wa We g fun _ g1 => E.nx g1
theorem gs_expr {pos : Pos} (he : GE X W e te wa) (hs : swapsWith e none pos.line X.env = pure false := by rfl) : GS X W (.Expr e pos) (wExpr wa) := by
  obtain ⟨p, q⟩ := he
  refine ⟨tDrop te, ps_expr p hs, fun b h σ g We E D k hw hx ct => ?_⟩
  exact q b h σ g We _ _ k hw hx fun v b' h' g' o k' f' p' => ct.nx σ b' h' g' k'.tail (f'.sub fun a z => inF_cons.mpr (.inr z)) p'
def wRet (wa : WE) : WS := fun We E g => wa We g E.rt
theorem gs_ret {pos : Pos} (he : GE X W e te wa) : GS X W (.Return (some e) pos) (wRet wa) := by
  obtain ⟨p, q⟩ := he
  refine ⟨tRet te, ps_ret p, fun b h σ g We E D k hw hx ct => ?_⟩
  exact q b h σ g We _ _ k hw hx fun v b' h' g' o k' f' p' => ct.rt σ v b' h' g' o k' f' p'
theorem gs_retN {pos : Pos} : GS X W (.Return none pos) (fun _ E g => E.rt (.pur .non) g) := by
  refine ⟨tRetN, ps_retN, fun b h σ g We E D k hw hx ct => ?_⟩
  obtain ⟨k2, f2⟩ := (Res.same k.sub (d := .non) (v := .non) rfl : Res X.K b h b h .non (.pur .non)).lift k
  exact ct.rt σ .non b h g _ k2 f2 hw
def wIfS (wt : WT) (w1 w2 : WS) : WS := fun We E g => wt We g fun k g1 => br k (w1 We E g1) (w2 We E g1)
theorem gs_if {c : Expr} {b1 b2 : List Stmt} {t : TT} {wt : WT} {pos : Pos} (hc : GT X W c t wt) (h1 : GSs X W b1 ws) (h2 : GSs X W b2 wr) : GS X W (.If c b1 b2 pos) (wIfS wt ws wr) := by
  obtain ⟨p, q⟩ := hc
  obtain ⟨t1, p1, q1⟩ := h1.ex
  obtain ⟨t2, p2, q2⟩ := h2.ex
  refine ⟨tIfS t t1 t2, ps_if p p1 p2, fun b h σ g We E D k hw hx ct => ?_⟩
  refine q b h σ g We _ _ k hw hx fun kk b' h' g' k' f' p' => ?_
  cases kk with
  | true => exact q1 b' h' σ g' We E D k' (br_t.mp p') (hx.step f') (ct.step f')
  | false => exact q2 b' h' σ g' We E D k' (br_f.mp p') (hx.step f') (ct.step f')

/-! ### targets -/
/-- v comes to a target -/
abbrev WG := D → Gam → (Gam → Prop) → Prop
structure GG (X : Cx) (tg : Expr) (t : TG) (w : WG) : Prop where
  pe : PG X tg t
  se : ∀ b h σ g d v P Q, Hold X.K b h σ g → den X.K b d v → w d g P → (∀ σ' b' h' g', Hold X.K b' h' σ' g' → Frm g b h g' b' h' → P g' → Q σ' h') → t v σ h Q
theorem Hold.put {K : PySem.W.Frag} {b h : Hp} {σ : L2.St} {g : Gam} {v : V} {o : O} (k : Hold K b h (some v :: σ) (some o :: g)) (i : Nat) :
    Hold K b h (σ.set i (some v)) (g.set i (some o)) ∧ ∀ a, inF (g.set i (some o)) a → inF (some o :: g) a := by
  obtain ⟨z, nd, nb, dj⟩ := k.head
  have kt := k.tail
  by_cases hi : i < g.length
  · have hs : i < σ.length := by rw [kt.len]; exact hi
    have old : ∀ (j : Nat) (u : O), (g.set i (some o))[j]? = some (some u) → (j = i ∧ u = o) ∨ (j ≠ i ∧ g[j]? = some (some u)) := fun j u q => by
      by_cases hj : i = j
      · subst hj; rw [List.getElem?_set_self hi] at q; simp at q; exact .inl ⟨rfl, q.symm⟩
      · rw [List.getElem?_set_ne hj] at q; exact .inr ⟨Ne.symm hj, q⟩
    refine ⟨⟨k.sub, by simp [kt.len], fun j u q => ?_, fun j u q => ?_, fun j l u w m q1 q2 a m1 m2 => ?_, fun j u q a m => ?_⟩, fun a ⟨j, u, q, m⟩ => ?_⟩
    · rcases old j u q with ⟨rfl, rfl⟩ | ⟨hj, q⟩
      · exact ⟨v, List.getElem?_set_self hs, z⟩
      · obtain ⟨w, e, zz⟩ := kt.sl j u q
        exact ⟨w, by rw [List.getElem?_set_ne (Ne.symm hj)]; exact e, zz⟩
    · rcases old j u q with ⟨rfl, rfl⟩ | ⟨_, q⟩
      · exact nd
      · exact kt.nd j u q
    · rcases old j u q1 with ⟨ej, eu⟩ | ⟨_, r1⟩
      · subst eu
        rcases old l w q2 with ⟨el, ew⟩ | ⟨_, r2⟩
        · exact m (ej.trans el.symm)
        · exact dj a m1 ⟨l, w, r2, m2⟩
      · rcases old l w q2 with ⟨el, ew⟩ | ⟨_, r2⟩
        · subst ew
          exact dj a m2 ⟨j, u, r1, m1⟩
        · exact kt.dj j l u w m r1 r2 a m1 m2
    · rcases old j u q with ⟨rfl, rfl⟩ | ⟨_, q⟩
      · exact nb a m
      · exact kt.nb j u q a m
    · rcases old j u q with ⟨rfl, rfl⟩ | ⟨_, q⟩
      · exact inF_cons.mpr (.inl ⟨u, rfl, m⟩)
      · exact inF_cons.mpr (.inr ⟨j, u, q, m⟩)
  · have hs : ¬ i < σ.length := by rw [kt.len]; exact hi
    rw [List.set_eq_of_length_le (by omega), List.set_eq_of_length_le (by omega)]
    exact ⟨kt, fun a q => inF_cons.mpr (.inr q)⟩
def wSet (i : Nat) (wa : WE) : WS := fun We E g => wa We g fun o g1 => E.nx (g1.set i (some o))
theorem gs_set {i : Nat} {x : Str} {pos pos' : Pos} (hN : X.N.Nodup) (he : GE X W e te wa) (hi : X.N[i]? = some x := by rfl) (hx : Loc X.env.scope x := by first | exact Or.inl rfl | exact Or.inr rfl)
    (hs : swapsWith e (some (.Name x pos')) pos.line X.env = pure false := by rfl) (hf : X.fn x = true ∨ X.env.scope.names.lookup x = some .local := by first | exact .inl rfl | exact .inr rfl) : GS X W (.Assign [.Name x pos'] e pos) (wSet i wa) := by
  obtain ⟨p, q⟩ := he
  refine ⟨tAsg te (gName i), ps_set hN hi hx p hs hf, fun b h σ g We E D k hw hx ct => ?_⟩
  refine q b h σ g We _ _ k hw hx fun v b' h' g' o k' f' p' => ?_
  obtain ⟨k2, s2⟩ := k'.put i
  exact ct.nx _ b' h' _ k2 (f'.sub s2) p'
def wName (i : Nat) : WG := fun d g P => P (g.set i (some (.pur d)))
theorem gg_name {i : Nat} {x : Str} {pos : Pos} (hN : X.N.Nodup) (hi : X.N[i]? = some x := by rfl) (hx : Loc X.env.scope x := by first | exact Or.inl rfl | exact Or.inr rfl)
    (hf : X.fn x = true ∨ X.env.scope.names.lookup x = some .local := by first | exact .inl rfl | exact .inr rfl) : GG X (.Name x pos) (gName i) (wName i) := by
  refine ⟨pg_name hN hi hx hf, fun b h σ g d v P Q k z hw c => ?_⟩
  obtain ⟨k1, f1⟩ := (Res.same k.sub z).lift k
  obtain ⟨k2, s2⟩ := k1.put i
  exact c _ b h _ k2 (f1.sub s2) hw
abbrev WGs := List D → Gam → (Gam → Prop) → Prop
structure GGs (X : Cx) (ts : List Expr) (t : TGs) (w : WGs) : Prop where
  pe : PGs X ts t
  se : ∀ b h σ g ds vs P Q, Hold X.K b h σ g → denL X.K b ds vs → w ds g P → (∀ σ' b' h' g', Hold X.K b' h' σ' g' → Frm g b h g' b' h' → P g' → Q σ' h') → t vs σ h Q
def wGNil : WGs := fun ds g P => match ds with
  | [] => P g
  | _ => False
def wGCons (w1 : WG) (w2 : WGs) : WGs := fun ds g P => match ds with
  | d :: ds => w1 d g fun g1 => w2 ds g1 P
  | _ => False
theorem ggs_nil : GGs X [] gNil wGNil := by
  refine ⟨pgs_nil, fun b h σ g ds vs P Q k z hw c => ?_⟩
  cases ds with
  | nil => exact ⟨z, c σ b h g k (Frm.refl g b h) hw⟩
  | cons _ _ => exact hw.elim
theorem ggs_cons {t : Expr} {ts : List Expr} {t1 : TG} {t2 : TGs} {w1 : WG} {w2 : WGs} (h1 : GG X t t1 w1) (h2 : GGs X ts t2 w2) (hs : (assignEach (t :: ts) X.env).map (·.2) = assign t X.env :: (assignEach ts X.env).map (·.2) := by rfl) : GGs X (t :: ts) (gCons t1 t2) (wGCons w1 w2) := by
  obtain ⟨p1, q1⟩ := h1
  obtain ⟨p2, q2⟩ := h2
  refine ⟨pgs_cons p1 p2 hs, fun b h σ g ds vs P Q k z hw c => ?_⟩
  cases ds with
  | nil => exact hw.elim
  | cons d ds =>
    obtain ⟨v, r, e, z1, z2⟩ := z
    refine ⟨v, r, e, q1 b h σ g d v _ _ k z1 hw fun σ' b' h' g' k' f' p' => ?_⟩
    exact q2 b' h' σ' g' ds r P Q k' (denL_mono f'.bs _ _ z2) p' fun σ2 b2 h2 g2 k2 f2 p2 => c σ2 b2 h2 g2 k2 (f'.trans f2) p2
def wTupG (n : Nat) (w : WGs) : WG := fun d g P => match d with
  | .tup ds => ds.length = n ∧ w ds g P
  | _ => False
theorem gg_tup {es : List Expr} {k : Nat} {t : TGs} {w : WGs} {n : Nat} {pos : Pos} (hc : X.calm = true) (h : GGs X es t w) (hn0 : es.length = n := by rfl) (hn : (assignEach es X.env).length = n := by rfl) (hst : (assignEach es X.env).findIdx? (·.1) = none := by rfl) {K : PySem.W.Frag} (hK : X.K = K := by exact rfl) :
    GG X (.Tuple es k pos) (gTup K n t) (wTupG n w) := by
  subst hK
  obtain ⟨p, q⟩ := h
  refine ⟨pg_tup hc p hn hst, fun b h σ g d v P Q k z hw c => ?_⟩
  cases d with
  | tup ds =>
    obtain ⟨a, vs, e, s1, s2⟩ := z
    obtain ⟨hl, hw⟩ := hw
    exact ⟨a, vs, e, Evl.ex_t k.sub s1, by rw [← denL_len s2]; exact hl, q b h σ g ds vs P Q k s2 hw c⟩
  | _ => exact hw.elim
def wAsg (wa : WE) (wg : WG) : WS := fun We E g => wa We g fun o g1 => wg o.d g1 E.nx
theorem gs_asg {tg : Expr} {t2 : TG} {wg : WG} {pos : Pos} (he : GE X W e te wa) (hg : GG X tg t2 wg) (hs : swapsWithSole [tg] e pos.line X.env = pure false := by rfl) (hw : swappedStores [tg] e X.env = pure none := by rfl)
    (h1 : (assignEach [tg] X.env).map (·.2) = [assign tg X.env] := by rfl) : GS X W (.Assign [tg] e pos) (wAsg wa wg) := by
  obtain ⟨p, q⟩ := he
  obtain ⟨p2, q2⟩ := hg
  refine ⟨tAsg te t2, ps_asg p p2 hs hw h1, fun b h σ g We E D k hw hx ct => ?_⟩
  refine q b h σ g We _ _ k hw hx fun v b' h' g' o k' f' p' => ?_
  obtain ⟨b2, k2, f2, z⟩ := come k' f'
  exact q2 b2 h' σ g' o.d v _ _ k2 z p' fun σ3 b3 h3 g3 k3 f3 p3 => ct.nx σ3 b3 h3 g3 k3 (f2.trans f3) p3
/-- a, b = x, y -/
def wPar (i j : Nat) (wa : WA) : WS := fun We E g => wa We g fun as g1 => match allVal as with
  | some [d, u] => E.nx ((g1.set i (some (.pur d))).set j (some (.pur u)))
  | _ => False
theorem gs_par {i j : Nat} {x y : Str} {a c : Expr} {t : TA} {wa : WA} {px py pt pos : Pos} {kt k2 pt2} (hc : X.calm = true) (hN : X.N.Nodup) (ha : GA X W [a, c] t wa) (hij : i ≠ j := by decide)
    (hi : X.N[i]? = some x := by rfl) (hj : X.N[j]? = some y := by rfl)
    (hx : X.env.scope.names.lookup x = some .local := by rfl) (hy : X.env.scope.names.lookup y = some .local := by rfl)
    (hw : swappedStores [.Tuple [.Name x px, .Name y py] kt pt] (.Tuple [a, c] k2 pt2) X.env = pure (some [x, y]) := by rfl)
    (hs : swapsWithSole [.Tuple [.Name x px, .Name y py] kt pt] (.Tuple [a, c] k2 pt2) pos.line X.env = pure false := by rfl) :
    GS X W (.Assign [.Tuple [.Name x px, .Name y py] kt pt] (.Tuple [a, c] k2 pt2) pos) (wPar i j wa) := by
  obtain ⟨p, q⟩ := ha
  refine ⟨tPar i j t, ps_par hc hN hi hj hij hx hy p hw hs, fun b h σ g We E D k hw hx ct => ?_⟩
  refine q b h σ g We _ _ k hw hx fun vs b' h' g' as k' f' z p => ?_
  cases e : allVal as with
  | none => rw [e] at p; exact p.elim
  | some ds =>
    rw [e] at p
    have zl := allVal_ok z e
    match ds, p, zl with
    | [d, u], p, zl =>
      obtain ⟨v, r, e1, z1, v2, r2, e2, z2, e3⟩ := zl
      subst e1 e2 e3
      refine ⟨v, v2, rfl, ?_⟩
      obtain ⟨k1, f1⟩ := (Res.same k'.sub z1).lift k'
      obtain ⟨k1', s1⟩ := k1.put i
      obtain ⟨k3, f3⟩ := (Res.same k1'.sub z2).lift k1'
      obtain ⟨k4, s4⟩ := k3.put j
      exact ct.nx _ b' h' _ k4 (f'.trans ((f1.sub s1).trans (f3.sub s4))) p
    | [], p, _ => exact p.elim
    | [_], p, _ => exact p.elim
    | _ :: _ :: _ :: _, p, _ => exact p.elim
/-- x op= e, a pure name -/
def wAug (i : Nat) (r : RO) (wa : WE) : WS := fun We E g => match g[i]? with
  | some (some (.pur d)) => wa We g fun o g1 => r d o.d fun z => E.nx (g1.set i (some z))
  | _ => False
theorem gs_aug {i : Nat} {x : Str} {op : Operator} {r' : R2} {r : RO} {pos pos' : Pos} (hN : X.N.Nodup) (ho : OpG X (inplaceOp op) r' r) (he : GE X W e te wa) (hi : X.N[i]? = some x := by rfl) (hx : Loc X.env.scope x := by first | exact Or.inl rfl | exact Or.inr rfl)
    (hf : X.fn x = true ∨ X.env.scope.names.lookup x = some .local := by first | exact .inl rfl | exact .inr rfl) : GS X W (.AugAssign (.Name x pos') op e pos) (wAug i r wa) := by
  obtain ⟨ho, br⟩ := ho
  obtain ⟨p, q⟩ := he
  refine ⟨tAug i te r', ps_aug hN hi hx p (fun pins s σ H x y v u Q I rx ry h => ho pins s σ H x y v u Q I rx ry h) hf, fun b h σ g We E D k hw hx ct => ?_⟩
  unfold wAug at hw
  split at hw
  · rename_i d e
    obtain ⟨v, e1, z⟩ := k.sl i _ e
    refine ⟨v, e1, q b h σ g We _ _ k hw hx fun u b' h' g' o k' f' p' => ?_⟩
    obtain ⟨b2, k2, f2, zu⟩ := come k' f'
    refine br b2 h' v u d o.d _ _ k2.sub (den_mono f2.bs _ _ z) zu p' fun w b3 h3 o3 rs q => ?_
    obtain ⟨k3, f3⟩ := rs.lift k2
    obtain ⟨k4, s4⟩ := k3.put i
    exact ct.nx _ b3 h3 _ k4 (f2.trans (f3.sub s4)) q
  · exact hw.elim

/-! ### while -/
def wWhile (wt : WT) (wb : WS) : WS := fun We E g => ∃ (I : Nat → Gam → Prop), (∃ m, I m g) ∧ ∀ m g1, I m g1 →
  wt We g1 fun k g2 => br k (wb We { E with nx := fun g3 => ∃ m', m' < m ∧ I m' g3, ct := fun g3 => ∃ m', m' < m ∧ I m' g3, bk := E.nx } g2) (E.nx g2)
theorem gs_while {c : Expr} {body : List Stmt} {t : TT} {wt : WT} {wb : WS} {pos : Pos} (hp : PassesOwn (model X.prog X.w) X.A X.env X.xe) (hc : GT X W c t wt) (hb : GSs X W body wb) : GS X W (.While c body [] pos) (wWhile wt wb) := by
  obtain ⟨p, q⟩ := hc
  obtain ⟨t2, p2, q2⟩ := hb.ex
  refine ⟨tWhile t t2, ps_while hp p p2, fun b h σ g We E D k ⟨I, ⟨m0, i0⟩, hs⟩ hx ct => ?_⟩
  refine ⟨fun m σ' h' => ∃ b' g', Hold X.K b' h' σ' g' ∧ Frm g b h g' b' h' ∧ I m g', ⟨m0, b, g, k, Frm.refl g b h, i0⟩, ?_⟩
  rintro m σ' h' ⟨b', g', k', f', i'⟩
  refine q b' h' σ' g' We _ _ k' (hs m g' i') (hx.step f') fun kk b2 h2 g2 k2 f2 p2 => ?_
  have f3 := f'.trans f2
  cases kk with
  | true =>
    refine ⟨fun σ4 h4 => ∃ m', m' < m ∧ ∃ b' g', Hold X.K b' h4 σ4 g' ∧ Frm g b h g' b' h4 ∧ I m' g', fun σ4 h4 z => z, ?_⟩
    exact q2 b2 h2 σ' g2 We _ _ k2 (br_t.mp p2) (hx.step f3) ⟨fun σ4 b4 h4 g4 k4 f4 ⟨m', l, i4⟩ => ⟨m', l, b4, g4, k4, f3.trans f4, i4⟩, fun σ4 b4 h4 g4 k4 f4 p4 => ct.nx σ4 b4 h4 g4 k4 (f3.trans f4) p4,
      fun σ4 b4 h4 g4 k4 f4 ⟨m', l, i4⟩ => ⟨m', l, b4, g4, k4, f3.trans f4, i4⟩, fun σ4 v b4 h4 g4 o k4 f4 p4 => ct.rt σ4 v b4 h4 g4 o k4 (f3.trans f4) p4⟩
  | false => exact ct.nx σ' b2 h2 g2 k2 f3 (br_f.mp p2)

/-! ### for -/
/-- what is walked: the items, one by one, fixed ahead -/
abbrev WI := Wsh → Gam → (List D → Gam → Prop) → Prop
/-- the walk J yields what the items ds mean, whatever the frame's own objects become -/
def Yields (K : PySem.W.Frag) (b h : Hp) (J : It) (ds : List D) : Prop :=
  ∀ b' h', Ex b b' → Ex b' h' → (∀ a o, h a = some o → b a = some o → h' a = some o) → ∀ i, (i = ds.length → J.stop i h') ∧ ∀ d, ds[i]? = some d → J.go i h' ∧ ∀ x h2, J.yld i h' x h2 → ∃ b2, Ex b' b2 ∧ Ex h' h2 ∧ Ex b2 h2 ∧ (∀ a, b2 a ≠ none → b' a = none → h' a = none) ∧ den K b2 d x
structure GI (X : Cx) (W : WX) (tg iter : Expr) (t : TI) (w : WI) : Prop where
  pe : PI X tg iter t
  se : ∀ b h σ g We P Q, Hold X.K b h σ g → w We g P → ContX X.K g b h We W →
    (∀ J b' h' g' ds, Hold X.K b' h' σ g' → Frm g b h g' b' h' → Yields X.K b' h' J ds → P ds g' → Q J h') → t σ h Q
def wFor (wi : WI) (wg : WG) (wb : WS) : WS := fun We E g => wi We g fun ds g1 => ∃ I : Nat → Gam → Prop, I 0 g1 ∧
  (∀ i d g2, ds[i]? = some d → I i g2 → wg d g2 fun g3 => wb We { E with nx := I (i + 1), ct := I (i + 1), bk := E.nx } g3) ∧ ∀ g2, I ds.length g2 → E.nx g2
/-- the base and the heap grow by what is new to both -/
theorem Hold.wide {K : PySem.W.Frag} {b h b' h' : Hp} {σ : L2.St} {g : Gam} (k : Hold K b h σ g) (e1 : Ex b b') (e2 : Ex h h') (e3 : Ex b' h') (n : ∀ a, b' a ≠ none → b a = none → h a = none) : Hold K b' h' σ g ∧ Frm g b h g b' h' := by
  have hb : ∀ a u, h a = some u → b a = none → b' a = none := fun a u q1 q2 => by
    cases q : b' a with
    | none => rfl
    | some w => have := n a (by rw [q]; simp) q2; rw [q1] at this; cases this
  have kp : ∀ a, inF g a → h' a = h a := fun a q => by
    obtain ⟨u, e⟩ := k.inF_there q
    rw [e]; exact e2 a u e
  refine ⟨⟨e3, k.len, fun i u q => ?_, k.nd, k.dj, fun i u q a m => ?_⟩, ⟨e1, fun a u q _ => e2 a u q, fun a u q1 q2 _ => hb a u q1 q2, fun a q => .inl q⟩⟩
  · obtain ⟨w, e, z⟩ := k.sl i u q
    exact ⟨w, e, own_keep e1 u w z fun a m => kp a ⟨i, u, q, m⟩⟩
  · obtain ⟨w, e⟩ := k.inF_there ⟨i, u, q, m⟩
    exact hb a w e (k.nb i u q a m)
theorem gs_for {tg iter : Expr} {body : List Stmt} {ti : TI} {tg' : TG} {wi : WI} {wg : WG} {wb : WS} {pos : Pos} (hp : PassesOwn (model X.prog X.w) X.A X.env X.xe) (hc : X.calm = true) (hi : GI X W tg iter ti wi) (hg : GG X tg tg' wg) (hb : GSs X W body wb)
    (hs : ∀ x, foldedSetIterable iter X.env x = pure x := by intro _; rfl) : GS X W (.For tg iter body [] pos) (wFor wi wg wb) := by
  obtain ⟨pi, qi⟩ := hi
  obtain ⟨pg, qg⟩ := hg
  obtain ⟨tb, pb, qb⟩ := hb.ex
  refine ⟨tFor ti tg' tb, ps_for hp hc pi pg pb hs, fun b h σ g We E D k hw hx ct => ?_⟩
  refine qi b h σ g We _ _ k hw hx fun J b1 h1 g1 ds k1 f1 y ⟨I, i0, hstep, hend⟩ => ?_
  refine ⟨fun i m σ' h' => m = ds.length - i ∧ i ≤ ds.length ∧ ∃ b' g', Hold X.K b' h' σ' g' ∧ Frm g1 b1 h1 g' b' h' ∧ I i g', ⟨ds.length, by simp, Nat.zero_le _, b1, g1, k1, Frm.refl g1 b1 h1, i0⟩, ?_⟩
  rintro i m σ' h' ⟨rfl, hi, b', g', k', f', p⟩
  have yy := y b' h' f'.bs k'.sub (fun a o e1 e2 => f'.keep a o e1 fun z => by rw [k1.inF_nb z] at e2; cases e2) i
  by_cases hlt : i < ds.length
  · refine .inr ⟨(yy.2 ds[i] (by simp [hlt])).1, fun σ4 h4 => i + 1 ≤ ds.length ∧ ∃ b' g', Hold X.K b' h4 σ4 g' ∧ Frm g1 b1 h1 g' b' h4 ∧ I (i + 1) g', fun σ4 h4 z => ⟨ds.length - (i + 1), by omega, rfl, z.1, z.2⟩, fun x h2 yl => ?_⟩
    obtain ⟨b2, e1, e2, e3, n, z⟩ := (yy.2 ds[i] (by simp [hlt])).2 x h2 yl
    obtain ⟨k2, f2⟩ := k'.wide e1 e2 e3 n
    have f3 := f'.trans f2
    refine qg b2 h2 σ' g' ds[i] x _ _ k2 z (hstep i ds[i] g' (by simp [hlt]) p) fun σ5 b5 h5 g5 k5 f5 p5 => ?_
    have f6 := f3.trans f5
    exact qb b5 h5 σ5 g5 We _ _ k5 p5 (hx.step (f1.trans f6)) ⟨fun σ7 b7 h7 g7 k7 f7 p7 => ⟨hlt, b7, g7, k7, f6.trans f7, p7⟩, fun σ7 b7 h7 g7 k7 f7 p7 => ct.nx σ7 b7 h7 g7 k7 (f1.trans (f6.trans f7)) p7,
      fun σ7 b7 h7 g7 k7 f7 p7 => ⟨hlt, b7, g7, k7, f6.trans f7, p7⟩, fun σ7 v b7 h7 g7 o k7 f7 p7 => ct.rt σ7 v b7 h7 g7 o k7 (f1.trans (f6.trans f7)) p7⟩
  · have e : i = ds.length := by omega
    subst e
    exact .inl ⟨yy.1 rfl, ct.nx σ' b' h' g' k' (f1.trans f') (hend g' p)⟩
end
end G
/-! G: defs and their calls. -/
namespace G
open PySem PySem.Spec PyProof.Rows L2
open Evl (Ex)

/-- a def's promise: its arguments, what is wanted of an exception, what is wanted of the result and of the arguments behind it -/
abbrev Pm := List O → Wsh → (O → Gam → Prop) → Prop
def spOf (K : PySem.W.Frag) (n : Nat) (pm : Pm) : Sp := fun vs H Q E => ∃ b as We P, as.length = n ∧ Hold K b H (vs.map some) (as.map some) ∧ pm as We P ∧
  (∀ v b' h' g' o, Hold K b' h' (some v :: vs.map some) (some o :: g') → Frm (as.map some) b H (some o :: g') b' h' → P o g' → Q v h') ∧
  (∀ cls d b' h' g' x, Hold K b' h' (vs.map some) g' → Frm (as.map some) b H g' b' h' → exAt K b' h' x cls d → We x g' → E cls d h')
theorem spOf_len {K : PySem.W.Frag} {n : Nat} {pm : Pm} (vs : List V) (H : Hp) (Q : VK) (E : XK) (h : spOf K n pm vs H Q E) : vs.length = n := by
  obtain ⟨b, as, We, P, hl, k, _⟩ := h
  have := k.len
  simp at this
  omega
abbrev FnG (P : Program) (w : World) (K : PySem.W.Frag) (mg : Str → Option Value) (base : Heap) (k : Nat) (f : Addr) (fd : FuncData) (ps : List Str) (pm : Pm) : Prop :=
  FnOk P w K mg base (L2.CX P w) k f fd ps (spOf K ps.length pm)

def argsO (g : Gam) : List Arg → Option (List O)
  | [] => some []
  | .val d :: as => match argsO g as with
    | some os => some (.pur d :: os)
    | none => none
  | .bor i :: as => match g[i]? with
    | some (some o) => (match argsO g as with
      | some os => some (o :: os)
      | none => none)
    | _ => none
def bors : List Arg → List Nat
  | [] => []
  | .val _ :: as => bors as
  | .bor i :: as => i :: bors as
/-- behind the call: the borrowed slots as the callee left them -/
def back : Gam → List Arg → Gam → Gam
  | g, [], _ => g
  | g, .val _ :: as, g' => back g as g'.tail
  | g, .bor i :: as, g' => back (g.set i (match g' with
    | x :: _ => x
    | [] => none)) as g'.tail
section
variable {K : PySem.W.Frag} {b b' h h' : Hp} {σ : L2.St} {g g' : Gam} {as : List Arg} {vs : List V} {os : List O} {v : V} {o : O}
theorem mem_bors {i : Nat} : ∀ {as : List Arg}, i ∈ bors as ↔ ∃ k : Nat, as[k]? = some (.bor i)
  | [] => by simp [bors]
  | .val d :: as => by
    show i ∈ bors as ↔ _
    rw [mem_bors]
    constructor
    · rintro ⟨k, e⟩; exact ⟨k + 1, by simpa using e⟩
    · rintro ⟨k, e⟩
      cases k with
      | zero => simp at e
      | succ k => exact ⟨k, by simpa using e⟩
  | .bor j :: as => by
    show i ∈ j :: bors as ↔ _
    rw [List.mem_cons, mem_bors]
    constructor
    · rintro (rfl | ⟨k, e⟩)
      · exact ⟨0, rfl⟩
      · exact ⟨k + 1, by simpa using e⟩
    · rintro ⟨k, e⟩
      cases k with
      | zero => simp at e; exact .inl e.symm
      | succ k => exact .inr ⟨k, by simpa using e⟩
theorem ArgsOk.len : ∀ {as : List Arg} {vs : List V}, ArgsOk K b σ as vs → vs.length = as.length
  | [], _, h => by have h' : _ = ([] : List V) := h; subst h'; rfl
  | .val _ :: _, _, ⟨v, r, e1, z, t⟩ => by subst e1; simp [ArgsOk.len t]
  | .bor _ :: _, _, ⟨v, r, e1, z, t⟩ => by subst e1; simp [ArgsOk.len t]
theorem ArgsOk.get {j : Nat} : ∀ {as : List Arg} {vs : List V} {k : Nat}, ArgsOk K b σ as vs → as[k]? = some (.bor j) → ∃ v, vs[k]? = some v ∧ σ[j]? = some (some v)
  | [], _, k, _, e => by simp at e
  | .val _ :: _, _, 0, _, e => by simp at e
  | .bor i :: _, _, 0, ⟨v, r, e1, z, t⟩, e => by
    subst e1
    have e' : i = j := by simpa using e
    subst e'
    exact ⟨v, rfl, z⟩
  | .val _ :: _, _, k + 1, ⟨v, r, e1, z, t⟩, e => by
    subst e1
    obtain ⟨w, q1, q2⟩ := ArgsOk.get (k := k) t (by simpa using e)
    exact ⟨w, by simpa using q1, q2⟩
  | .bor _ :: _, _, k + 1, ⟨v, r, e1, z, t⟩, e => by
    subst e1
    obtain ⟨w, q1, q2⟩ := ArgsOk.get (k := k) t (by simpa using e)
    exact ⟨w, by simpa using q1, q2⟩
/-- what the callee gets -/
theorem callee_in (k : Hold K b h σ g) : ∀ {as : List Arg} {vs : List V} {os : List O}, ArgsOk K b σ as vs → argsO g as = some os → (bors as).Nodup →
    Hold K b h (vs.map some) (os.map some) ∧ (∀ a, inF (os.map some) a → ∃ j o, j ∈ bors as ∧ g[j]? = some (some o) ∧ a ∈ foot o) ∧ os.length = as.length
  | [], vs, os, z, e, _ => by
    have z' : vs = [] := z
    have e' : [] = os := Option.some.inj e
    subst z' e'
    exact ⟨⟨k.sub, rfl, fun i o e => by simp at e, fun i o e => by simp at e, fun i j o u n e => by simp at e, fun i o e => by simp at e⟩, fun a q => (inF_nil q).elim, rfl⟩
  | .val d :: as, _, os, ⟨v, r, e1, z, t⟩, e, nd => by
    subst e1
    unfold argsO at e
    split at e
    · rename_i os' e2
      cases e
      obtain ⟨k', f', l⟩ := callee_in k t e2 nd
      refine ⟨k'.cons (o := .pur d) z (by simp [foot]) (fun a m => by simp [foot] at m) (fun a m => by simp [foot] at m), fun a q => ?_, by simp [l]⟩
      rcases inF_cons.mp q with ⟨o, e, m⟩ | q
      · cases e; simp [foot] at m
      · exact f' a q
    · cases e
  | .bor i :: as, _, os, ⟨v, r, e1, z, t⟩, e, nd => by
    subst e1
    unfold argsO at e
    split at e
    · rename_i o eo
      split at e
      · rename_i os' e2
        cases e
        obtain ⟨hn, nd'⟩ := List.nodup_cons.mp nd
        obtain ⟨k', f', l⟩ := callee_in k t e2 nd'
        obtain ⟨v', ev, zo⟩ := k.sl i o eo
        rw [z] at ev
        cases ev
        refine ⟨k'.cons zo (k.nd i o eo) (k.nb i o eo) (fun a m q => ?_), fun a q => ?_, by simp [l]⟩
        · obtain ⟨j, u, hj, eu, mu⟩ := f' a q
          exact k.dj i j o u (fun e => hn (e ▸ hj)) eo eu a m mu
        · rcases inF_cons.mp q with ⟨u, e, m⟩ | q
          · cases e; exact ⟨i, o, List.mem_cons_self .., eo, m⟩
          · obtain ⟨j, u, hj, eu, mu⟩ := f' a q
            exact ⟨j, u, List.mem_cons_of_mem _ hj, eu, mu⟩
      · cases e
    · cases e
theorem back_len : ∀ {as : List Arg} {g g' : Gam}, (back g as g').length = g.length
  | [], _, _ => rfl
  | .val _ :: as, g, g' => back_len (as := as)
  | .bor i :: as, g, g' => by
    show (back (g.set i _) as g'.tail).length = g.length
    rw [back_len, List.length_set]
theorem back_get {j : Nat} {u : O} : ∀ {as : List Arg} {g g' : Gam}, (bors as).Nodup → (back g as g')[j]? = some (some u) → (j ∉ bors as ∧ g[j]? = some (some u)) ∨ ∃ k : Nat, as[k]? = some (.bor j) ∧ g'[k]? = some (some u)
  | [], _, _, _, e => .inl ⟨by simp [bors], e⟩
  | .val _ :: as, g, g', nd, e => by
    rcases back_get (as := as) nd e with ⟨n, e⟩ | ⟨k, e1, e2⟩
    · exact .inl ⟨n, e⟩
    · exact .inr ⟨k + 1, by simpa using e1, by rw [List.getElem?_tail] at e2; exact e2⟩
  | .bor i :: as, g, g', nd, e => by
    obtain ⟨hn, nd'⟩ := List.nodup_cons.mp nd
    rcases back_get (as := as) nd' e with ⟨n, e⟩ | ⟨k, e1, e2⟩
    · by_cases hj : i = j
      · subst hj
        refine .inr ⟨0, rfl, ?_⟩
        by_cases hi : i < g.length
        · rw [List.getElem?_set_self hi] at e
          cases g' with
          | nil => simp at e
          | cons x r => simpa using e
        · rw [List.getElem?_eq_none (by simpa using hi)] at e; cases e
      · rw [List.getElem?_set_ne hj] at e
        exact .inl ⟨fun q => (List.mem_cons.mp q).elim (fun q => hj q.symm) n, e⟩
    · exact .inr ⟨k + 1, by simpa using e1, by rw [List.getElem?_tail] at e2; exact e2⟩
/-- the callee has ended -/
theorem callee_out (k : Hold K b h σ g) (z : ArgsOk K b σ as vs) (e : argsO g as = some os) (nd : (bors as).Nodup) (k2 : Hold K b' h' (some v :: vs.map some) (some o :: g')) (f2 : Frm (os.map some) b h (some o :: g') b' h') :
    Hold K b' h' (some v :: σ) (some o :: back g as g') ∧ Frm g b h (some o :: back g as g') b' h' := by
  obtain ⟨k1, f1, l1⟩ := callee_in k z e nd
  have sub : ∀ a, inF (os.map some) a → inF g a := fun a q => by
    obtain ⟨j, u, _, eu, m⟩ := f1 a q
    exact ⟨j, u, eu, m⟩
  -- an untouched slot's objects
  have out : ∀ (j : Nat) (u : O), j ∉ bors as → g[j]? = some (some u) → ∀ a ∈ foot u, ¬ inF (os.map some) a := fun j u n eu a m q => by
    obtain ⟨i, w, hi, ew, mw⟩ := f1 a q
    exact k.dj j i u w (fun e => n (e ▸ hi)) eu ew a m mw
  have kp : ∀ (j : Nat) (u : O), j ∉ bors as → g[j]? = some (some u) → ∀ a ∈ foot u, h' a = h a ∧ b' a = none ∧ ∃ x, h a = some x := fun j u n eu a m => by
    obtain ⟨x, ex⟩ := k.inF_there ⟨j, u, eu, m⟩
    exact ⟨(f2.keep a x ex (out j u n eu a m)).trans ex.symm, f2.nb a x ex (k.nb j u eu a m) (out j u n eu a m), x, ex⟩
  have new : ∀ (j : Nat) (u : O), j ∉ bors as → g[j]? = some (some u) → ∀ a ∈ foot u, ¬ inF (some o :: g') a := fun j u n eu a m q => by
    rcases f2.new a q with q | q
    · exact out j u n eu a m q
    · obtain ⟨x, ex⟩ := (kp j u n eu a m).2.2
      rw [ex] at q; cases q
  obtain ⟨zo, ndo, nbo, djo⟩ := k2.head
  have kt := k2.tail
  have kb : Hold K b' h' σ (back g as g') := by
    refine ⟨k2.sub, by rw [back_len]; exact k.len, fun j u q => ?_, fun j u q => ?_, fun j l u w n q1 q2 a m1 m2 => ?_, fun j u q a m => ?_⟩
    · rcases back_get nd q with ⟨n, eu⟩ | ⟨i, e1, e2⟩
      · obtain ⟨w, ew, zw⟩ := k.sl j u eu
        exact ⟨w, ew, own_keep f2.bs u w zw fun a m => (kp j u n eu a m).1⟩
      · obtain ⟨w, ew, zw⟩ := kt.sl i u e2
        obtain ⟨w', e3, e4⟩ := z.get e1
        have e5 : w' = w := by
          have : (vs.map some)[i]? = some (some w') := by rw [List.getElem?_map, e3]; rfl
          rw [this] at ew; simpa using ew
        subst e5
        exact ⟨w', e4, zw⟩
    · rcases back_get nd q with ⟨n, eu⟩ | ⟨i, e1, e2⟩
      · exact k.nd j u eu
      · exact kt.nd i u e2
    · rcases back_get nd q1 with ⟨n1, eu⟩ | ⟨i, e1, e2⟩
      · rcases back_get nd q2 with ⟨n2, ew⟩ | ⟨i', e3, e4⟩
        · exact k.dj j l u w n eu ew a m1 m2
        · exact new j u n1 eu a m1 (inF_cons.mpr (.inr ⟨i', w, e4, m2⟩))
      · rcases back_get nd q2 with ⟨n2, ew⟩ | ⟨i', e3, e4⟩
        · exact new l w n2 ew a m2 (inF_cons.mpr (.inr ⟨i, u, e2, m1⟩))
        · refine kt.dj i i' u w (fun e => ?_) e2 e4 a m1 m2
          subst e
          rw [e1] at e3
          have e5 : j = l := by simpa using e3
          exact n e5
    · rcases back_get nd q with ⟨n, eu⟩ | ⟨i, e1, e2⟩
      · exact (kp j u n eu a m).2.1
      · exact kt.nb i u e2 a m
  refine ⟨kb.cons zo ndo nbo fun a m ⟨j, u, q, mu⟩ => ?_, ⟨f2.bs, fun a x ex n => f2.keep a x ex fun q => n (sub a q), fun a x e1 e2 n => f2.nb a x e1 e2 fun q => n (sub a q), fun a q => ?_⟩⟩
  · rcases back_get nd q with ⟨n, eu⟩ | ⟨i, e1, e2⟩
    · exact new j u n eu a mu (inF_cons.mpr (.inl ⟨o, rfl, m⟩))
    · exact djo a m ⟨i, u, e2, mu⟩
  · have viaNew : inF (some o :: g') a → inF g a ∨ h a = none := fun q => (f2.new a q).elim (fun q => .inl (sub a q)) .inr
    rcases inF_cons.mp q with ⟨u, e, m⟩ | ⟨j, u, q, mu⟩
    · cases e; exact viaNew (inF_cons.mpr (.inl ⟨o, rfl, m⟩))
    · rcases back_get nd q with ⟨n, eu⟩ | ⟨i, e1, e2⟩
      · exact .inl ⟨j, u, eu, mu⟩
      · exact viaNew (inF_cons.mpr (.inr ⟨i, u, e2, mu⟩))
end

def wCall (n : Nat) (pm : Pm) (wa : WA) : WE := fun We g P => wa We g fun as g1 => match argsO g1 as with
  | some os => os.length = n ∧ (bors as).Nodup ∧ pm os (fun x g' => We x (back g1 as g')) fun o g' => P o (back g1 as g')
  | none => False
section
variable {X : Cx} {W : WX} {e : Expr} {es : List Expr} {t : TA} {wa : WA}
theorem call_se {n : Nat} {pm : Pm} (qa : ∀ b h σ g We P Q, Hold X.K b h σ g → wa We g P → ContX X.K g b h We W → (∀ vs b' h' g' as, Hold X.K b' h' σ g' → Frm g b h g' b' h' → ArgsOk X.K b' σ as vs → P as g' → Q vs h') → t σ h Q) :
    ∀ b h σ g We P Q, Hold X.K b h σ g → wCall n pm wa We g P → ContX X.K g b h We W → Cont X.K g b h σ P Q → tCallS (spOf X.K n pm) (L2.WE W) t σ h Q := by
  intro b h σ g We P Q k hw hx ct
  refine qa b h σ g We _ _ k hw hx fun vs b' h' g' as k' f' z p => ?_
  cases e : argsO g' as with
  | none => rw [e] at p; exact p.elim
  | some os =>
    rw [e] at p
    obtain ⟨hl, nd, p⟩ := p
    obtain ⟨k1, f1, l1⟩ := callee_in k' z e nd
    refine ⟨b', os, _, _, hl, k1, p, fun v b2 h2 g2 o k2 f2 p2 => ?_, fun cls d b2 h2 g2 x k2 f2 z2 p2 => ?_⟩
    · obtain ⟨k3, f3⟩ := callee_out k' z e nd k2 f2
      exact ct v b2 h2 _ o k3 (f'.trans f3) p2
    · obtain ⟨k2', f2'⟩ := (Res.same k2.sub (d := .non) (v := .non) rfl : Res X.K b2 h2 b2 h2 .non (.pur .non)).lift k2
      obtain ⟨k3, f3⟩ := callee_out k' z e nd k2' (f2.trans f2')
      exact hx cls d σ b2 h2 _ x k3.tail (f'.trans (f3.sub fun a q => inF_cons.mpr (.inr q))) z2 p2
/-- a call of a def -/
theorem ge_call {x : Str} {k : Nat} {f : Addr} {fd : FuncData} {ps : List Str} {pm : Pm} {p pos : Pos} (C : Ctx X W) (F : FnG X.prog X.w X.K X.mg X.base k f fd ps pm) (hr : Room k X.A) (hm : X.mg x = some (.ref f)) (hk : PySem.W.keepIn X.K (.ref f) = true) (hb : Binds X.K fd ps [])
    (ha : GA X W (e :: es) t wa) (hg : Gl X x := by rfl) (hdb : (x == ("__debug__" : Str)) = false := by decide) (he : starEach (e :: es) X.env = (false, eval e X.env) :: starEach es X.env := by rfl) (hpl : (backTo pos (starEach es X.env)).any (·.1) = false := by rfl) :
    GE X W (.Call (.Name x p) (e :: es) [] pos) (tCallS (spOf X.K ps.length pm) (L2.WE W) t) (wCall ps.length pm wa) :=
  ⟨pe_callS F hr hg hm hk hb (fun σ => passAt C.tk σ) ha.pe hdb he hpl, call_se ha.se⟩
/-- .. of no parameters, that raises nothing -/
def wCall0 (pm : Pm) : WE := fun _ g P => pm [] (fun _ _ => False) fun o _ => P o g
theorem ge_call0 {x : Str} {k : Nat} {f : Addr} {fd : FuncData} {pm : Pm} {p pos : Pos} (F : FnG X.prog X.w X.K X.mg X.base k f fd [] pm) (hr : Room k X.A) (hm : X.mg x = some (.ref f)) (hk : PySem.W.keepIn X.K (.ref f) = true) (hb : Binds X.K fd [] [])
    (hg : Gl X x := by rfl) (hdb : (x == ("__debug__" : Str)) = false := by decide) : GE X W (.Call (.Name x p) [] [] pos) (tCall (spOf X.K 0 pm) [] E0 tNil) (wCall0 pm) := by
  refine ⟨pe_call0 F hr hg hm hk hb .nil passL hdb, fun b h σ g We P Q k hw hx ct => ?_⟩
  refine ⟨b, [], _, _, rfl, ⟨k.sub, rfl, fun i o e => by simp at e, fun i o e => by simp at e, fun i j o u n e => by simp at e, fun i o e => by simp at e⟩, hw, fun v b2 h2 g2 o k2 f2 p2 => ?_, fun cls d b2 h2 g2 x k2 f2 z2 p2 => p2⟩
  have r : Res X.K b h b2 h2 v o := by
    obtain ⟨z, nd, nb, _⟩ := k2.head
    refine ⟨hold1 k2.sub z nd nb, f2.sub fun a q => ?_⟩
    rcases inF_cons.mp q with ⟨u, e, m⟩ | q
    · exact inF_cons.mpr (.inl ⟨u, e, m⟩)
    · exact (inF_nil q).elim
  exact fin k (Frm.refl g b h) r ct p2
end

/-! ### a def keeps its promise -/
def root : O → Option Addr
  | .pur _ => none
  | .lst p _ => some p
  | .dK p _ _ => some p
  | .dT p _ _ => some p
  | .ins p _ _ _ _ => some p
/-- an argument behind the call, by the slot it came in -/
def keepA (a : O) (x : Option O) : Option O := match root a, x with
  | none, _ => some a
  | some p, some u => if root u = some p then some u else none
  | some _, none => none
def aft : List O → Gam → Gam
  | [], _ => []
  | a :: as, x :: g => keepA a x :: aft as g
  | a :: as, [] => keepA a none :: aft as []
section
variable {K : PySem.W.Frag} {b b' h h' : Hp} {σ σ' : L2.St} {g g' : Gam} {as : List O} {vs : List V} {v : V} {o : O}
theorem own_root {a : O} {w : V} {p : Addr} (z : own K b h a w) (e : root a = some p) : w = .ref p := by
  cases a with
  | pur d => cases e
  | lst q xs => cases e; exact z.1
  | dK q ks xs => cases e; exact z.1
  | dT q ks xs => cases e; exact z.1
  | ins q dx C fs xs => cases e; exact z.1
theorem root_none {a : O} (e : root a = none) : ∃ d, a = .pur d := by
  cases a with
  | pur d => exact ⟨d, rfl⟩
  | _ => cases e
theorem keepA_some {a u : O} {x : Option O} (e : keepA a x = some u) : (∃ d, a = .pur d ∧ u = .pur d) ∨ ((∃ p, root a = some p ∧ root u = some p) ∧ (some x = some (some u))) := by
  unfold keepA at e
  split at e
  · rename_i q
    obtain ⟨d, rfl⟩ := root_none q
    cases e
    exact .inl ⟨d, rfl, rfl⟩
  · rename_i p y q
    split at e
    · rename_i h
      cases e
      exact .inr ⟨⟨p, q, h⟩, rfl⟩
    · cases e
  · cases e
theorem aft_get {u : O} : ∀ {as : List O} {g : Gam} {k : Nat}, (aft as g)[k]? = some (some u) → ∃ a, as[k]? = some a ∧ ((∃ d, a = .pur d ∧ u = .pur d) ∨ ((∃ p, root a = some p ∧ root u = some p) ∧ g[k]? = some (some u)))
  | [], _, _, e => by simp [aft] at e
  | a :: as, x :: g, k + 1, e => aft_get (as := as) (g := g) (k := k) e
  | a :: as, [], k + 1, e => by
    obtain ⟨c, e1, q⟩ := aft_get (as := as) (g := []) (k := k) e
    exact ⟨c, e1, q.elim .inl fun ⟨_, q⟩ => by simp at q⟩
  | a :: as, x :: g, 0, e => ⟨a, rfl, keepA_some (by simpa [aft] using e)⟩
  | a :: as, [], 0, e => ⟨a, rfl, (keepA_some (x := none) (by simpa [aft] using e)).elim .inl fun ⟨q, z⟩ => by simp at z⟩
theorem aft_len : ∀ {as : List O} {g : Gam}, (aft as g).length = as.length
  | [], _ => rfl
  | _ :: as, _ :: g => by show (aft as g).length + 1 = _; rw [aft_len]; rfl
  | _ :: as, [] => by show (aft as []).length + 1 = _; rw [aft_len]; rfl
theorem aft_ok (k : Hold K b h (vs.map some) (as.map some)) (k2 : Hold K b' h' (some v :: σ') (some o :: g')) (f2 : Frm (as.map some) b h (some o :: g') b' h') :
    Hold K b' h' (some v :: vs.map some) (some o :: aft as g') ∧ Frm (as.map some) b h (some o :: aft as g') b' h' := by
  obtain ⟨zo, ndo, nbo, djo⟩ := k2.head
  have kt := k2.tail
  have low : ∀ (i : Nat) (u : O) (a : Addr), (aft as g')[i]? = some (some u) → a ∈ foot u → g'[i]? = some (some u) := fun i u a e m => by
    obtain ⟨c, e1, ⟨d, e2, e3⟩ | ⟨_, e2⟩⟩ := aft_get e
    · subst e3; simp [foot] at m
    · exact e2
  have kb : Hold K b' h' (vs.map some) (aft as g') := by
    refine ⟨k2.sub, by rw [aft_len]; have := k.len; simpa using this, fun i u e => ?_, fun i u e => ?_, fun i j u w n e1 e2 a m1 m2 => ?_, fun i u e a m => kt.nb i u (low i u a e m) a m⟩
    · obtain ⟨c, e1, q⟩ := aft_get e
      obtain ⟨w, ew, zw⟩ := k.sl i c (by rw [List.getElem?_map, e1]; rfl)
      rcases q with ⟨d, rfl, rfl⟩ | ⟨⟨p, r1, r2⟩, e2⟩
      · exact ⟨w, ew, den_mono f2.bs _ _ zw⟩
      · obtain ⟨w2, _, zw2⟩ := kt.sl i u e2
        have q1 := own_root zw r1
        have q2 := own_root zw2 r2
        subst q1 q2
        exact ⟨_, ew, zw2⟩
    · obtain ⟨c, e1, ⟨d, e2, e3⟩ | ⟨_, e2⟩⟩ := aft_get e
      · subst e3; simp [foot]
      · exact kt.nd i u e2
    · exact kt.dj i j u w n (low i u a e1 m1) (low j w a e2 m2) a m1 m2
  refine ⟨kb.cons zo ndo nbo fun a m ⟨i, u, e, mu⟩ => djo a m ⟨i, u, low i u a e mu, mu⟩, f2.sub fun a q => ?_⟩
  rcases inF_cons.mp q with ⟨u, e, m⟩ | ⟨i, u, e, m⟩
  · exact inF_cons.mpr (.inl ⟨u, e, m⟩)
  · exact inF_cons.mpr (.inr ⟨i, u, low i u a e m, m⟩)
theorem inF_pad {n : Nat} {a : Addr} (q : inF (g ++ List.replicate n none) a) : inF g a := by
  obtain ⟨i, o, e, m⟩ := q
  refine ⟨i, o, ?_, m⟩
  rw [List.getElem?_append] at e
  split at e
  · exact e
  · rw [List.getElem?_replicate] at e
    split at e <;> simp at e
theorem Hold.pad (k : Hold K b h σ g) (n : Nat) : Hold K b h (σ ++ List.replicate n none) (g ++ List.replicate n none) := by
  have low : ∀ (i : Nat) (o : O), (g ++ List.replicate n none)[i]? = some (some o) → g[i]? = some (some o) := fun i o e => by
    rw [List.getElem?_append] at e
    split at e
    · exact e
    · rw [List.getElem?_replicate] at e
      split at e <;> simp at e
  refine ⟨k.sub, by simp [k.len], fun i o e => ?_, fun i o e => k.nd i o (low i o e), fun i j o u m e1 e2 => k.dj i j o u m (low i o e1) (low j u e2), fun i o e => k.nb i o (low i o e)⟩
  obtain ⟨v, e1, z⟩ := k.sl i o (low i o e)
  refine ⟨v, ?_, z⟩
  rw [List.getElem?_append_left]
  · exact e1
  · exact (List.getElem?_eq_some_iff.mp e1).1
end
/-- what a def's body starts from -/
def args0 (n : Nat) (as : List O) : Gam := as.map some ++ List.replicate (n - as.length) none
def endsOf (as : List O) (P : O → Gam → Prop) : GEnds := { nx := fun g => P (.pur .non) (aft as g), rt := fun o g => P o (aft as g) }
theorem fn_G {P : Program} {w : World} {K : PySem.W.Frag} {mg : Str → Option Value} {base : Heap} {x qual : Str} {params : Arguments} {body : List Stmt} {scope : Scope} {dvs : List V} {kws : List (Str × V)} {f : Addr} {fd : FuncData} {N ps : List Str} {k : Nat} {pm : Pm} {ws : WS}
    (F : FunD K x qual params body scope dvs kws f fd) (S : FnScope N ps scope)
    (hb : ∀ (cdv : Value) (A : Around) (outer : List PySem.Env) (s : Shared) (H : Hp) (E : XK), Room k (A.deeper (envOfC qual scope s.heap.objs.size f cdv)) → Ctx (cxOf (L2.CX P w) P w K mg base N qual scope f cdv A outer s H E) (fun cls d _ H => E cls d H) →
      GSs (cxOf (L2.CX P w) P w K mg base N qual scope f cdv A outer s H E) (fun cls d _ H => E cls d H) body ws)
    (hw : ∀ as We R, as.length = ps.length → pm as We R → ws (fun x g => We x (aft as g)) (endsOf as R) (args0 N.length as)) : FnG P w K mg base (k + 1) f fd ps pm := by
  refine F.ok S spOf_len fun cdv A outer s H vs Q E hr h => ?_
  obtain ⟨b, as, We, R, hl, k0, hp, hq, he⟩ := h
  have C : Ctx (cxOf (L2.CX P w) P w K mg base N qual scope f cdv A outer s H E) (fun cls d _ H => E cls d H) :=
    ⟨takes_of rfl rfl rfl rfl, passes_of rfl, S.nd, rfl⟩
  obtain ⟨t, p, q⟩ := (hb cdv A outer s H E hr C).ex
  refine ⟨t, p, ?_⟩
  have el : vs.length = as.length := by have := k0.len; simpa using this
  have k1 : Hold K b H (L2.start N vs) (args0 N.length as) := by
    unfold L2.start args0
    rw [el]
    exact k0.pad _
  have low : ∀ a, inF (args0 N.length as) a → inF (as.map some) a := fun a z => inF_pad z
  have fr : ∀ {b' h' : Hp} {g' : Gam}, Frm (args0 N.length as) b H g' b' h' → Frm (as.map some) b H g' b' h' := fun f =>
    ⟨f.bs, fun a o e n => f.keep a o e fun z => n (low a z), fun a o e1 e2 n => f.nb a o e1 e2 fun z => n (low a z), fun a z => (f.new a z).elim (fun z => .inl (low a z)) .inr⟩
  refine q b H (L2.start N vs) (args0 N.length as) _ _ _ k1 (hw as We R hl hp) (fun cls d σ' b' h' g' x k' f' z p' => ?_) ⟨fun σ' b' h' g' k' f' p' => ?_, fun σ' b' h' g' k' f' p' => p'.elim, fun σ' b' h' g' k' f' p' => p'.elim, fun σ' v b' h' g' o k' f' p' => ?_⟩
  · obtain ⟨k2, f2⟩ := (Res.same k'.sub (d := .non) (v := .non) rfl : Res K b' h' b' h' .non (.pur .non)).lift k'
    obtain ⟨k3, f3⟩ := aft_ok k0 k2 (fr (f'.trans f2))
    exact he cls d b' h' _ x k3.tail (f3.sub fun a q => inF_cons.mpr (.inr q)) z p'
  · obtain ⟨k2, f2⟩ := (Res.same k'.sub (d := .non) (v := .non) rfl : Res K b' h' b' h' .non (.pur .non)).lift k'
    obtain ⟨k3, f3⟩ := aft_ok k0 k2 (fr (f'.trans f2))
    exact hq .non b' h' _ _ k3 f3 p'
  · obtain ⟨k3, f3⟩ := aft_ok k0 k' (fr f')
    exact hq v b' h' _ o k3 f3 p'
end G
/-! G: operators, built-ins, walks, comprehensions. -/
namespace G
open PySem L2
open Evl (Ex)

/-! ### ints -/
def roI (f : Int → Int → D) : RO := fun x y P => match x, y with
  | .int i, .int j => P (.pur (f i j))
  | _, _ => False
def roC (C : Int → Int → Prop) (f : Int → Int → D) : RO := fun x y P => match x, y with
  | .int i, .int j => C i j ∧ P (.pur (f i j))
  | _, _ => False
section
variable {X : Cx} {W : WX}
theorem og_I {f : Value → Value → Sem Value} {g : Int → Int → V} {d : Int → Int → D} (h : OpR X f (rI0 g)) (e : ∀ i j b, den X.K b (d i j) (g i j)) : OpG X f (rI0 g) (roI d) := by
  refine ⟨h, fun b hh x y dx dy P Q s zx zy hr c => ?_⟩
  cases dx with
  | int i =>
    cases dy with
    | int j => exact ⟨i, j, zx, zy, c _ b hh _ (Res.same s (e i j b)) hr⟩
    | _ => exact hr.elim
  | _ => exact hr.elim
theorem og_C {f : Value → Value → Sem Value} {C : Int → Int → Prop} {g : Int → Int → V} {d : Int → Int → D} (h : OpR X f (rI C g)) (e : ∀ i j b, den X.K b (d i j) (g i j)) : OpG X f (rI C g) (roC C d) := by
  refine ⟨h, fun b hh x y dx dy P Q s zx zy hr c => ?_⟩
  cases dx with
  | int i =>
    cases dy with
    | int j => exact ⟨i, j, zx, zy, hr.1, c _ b hh _ (Res.same s (e i j b)) hr.2⟩
    | _ => exact hr.elim
  | _ => exact hr.elim
theorem og_add : OpG X (binaryOp .Add) (rI0 fun i j => .int (i + j)) (roI fun i j => .int (i + j)) := og_I op_add fun _ _ _ => rfl
theorem og_sub : OpG X (binaryOp .Sub) (rI0 fun i j => .int (i - j)) (roI fun i j => .int (i - j)) := og_I op_sub fun _ _ _ => rfl
theorem og_mul : OpG X (binaryOp .Mult) (rI CMul fun i j => .int (i * j)) (roC CMul fun i j => .int (i * j)) := og_C op_mul fun _ _ _ => rfl
theorem og_fdiv : OpG X (binaryOp .FloorDiv) (rI CDiv fun i j => .int (i / j)) (roC CDiv fun i j => .int (i / j)) := og_C op_fdiv fun _ _ _ => rfl
theorem og_mod : OpG X (binaryOp .Mod) (rI (fun _ j => 0 < j) fun i j => .int (i % j)) (roC (fun _ j => 0 < j) fun i j => .int (i % j)) := og_C op_mod fun _ _ _ => rfl
theorem og_pow : OpG X (binaryOp .Pow) (rI CPow fun i j => .int (i ^ j.toNat)) (roC CPow fun i j => .int (i ^ j.toNat)) := og_C op_pow fun _ _ _ => rfl
theorem og_mulW : OpG X (binaryOp .Mult) (rI CMulW fun i j => .int (i * j)) (roC CMulW fun i j => .int (i * j)) := og_C op_mulW fun _ _ _ => rfl
theorem og_fdivW : OpG X (binaryOp .FloorDiv) (rI CDivW fun i j => .int (i / j)) (roC CDivW fun i j => .int (i / j)) := og_C op_fdivW fun _ _ _ => rfl
theorem og_iadd : OpG X (inplaceOp .Add) (rI0 fun i j => .int (i + j)) (roI fun i j => .int (i + j)) := og_I iop_add fun _ _ _ => rfl
theorem og_isub : OpG X (inplaceOp .Sub) (rI0 fun i j => .int (i - j)) (roI fun i j => .int (i - j)) := og_I iop_sub fun _ _ _ => rfl
theorem og_lt : OpG X (compareOp .Lt) (rI0 fun i j => .bl (decide (i < j))) (roI fun i j => .bl (decide (i < j))) := og_I op_lt fun _ _ _ => rfl
theorem og_le : OpG X (compareOp .LtE) (rI0 fun i j => .bl (decide (i ≤ j))) (roI fun i j => .bl (decide (i ≤ j))) := og_I op_le fun _ _ _ => rfl
theorem og_gt : OpG X (compareOp .Gt) (rI0 fun i j => .bl (decide (j < i))) (roI fun i j => .bl (decide (j < i))) := og_I op_gt fun _ _ _ => rfl
theorem og_ge : OpG X (compareOp .GtE) (rI0 fun i j => .bl (decide (j ≤ i))) (roI fun i j => .bl (decide (j ≤ i))) := og_I op_ge fun _ _ _ => rfl
theorem og_eqI : OpG X (compareOp .Eq) rEq (roI fun i j => .bl (decide (i = j))) := by
  refine ⟨op_eq, fun b hh x y dx dy P Q s zx zy hr c => ?_⟩
  cases dx with
  | int i =>
    cases dy with
    | int j =>
      have ex : x = .int i := zx
      have ey : y = .int j := zy
      subst ex ey
      refine ⟨rfl, c _ b hh (.pur (.bl (decide (i = j)))) (Res.same s ?_) hr⟩
      show V.bl _ = V.bl _
      rw [dec_int, Bool.beq_eq_decide_eq]
    | _ => exact hr.elim
  | _ => exact hr.elim
theorem og_neI : OpG X (compareOp .NotEq) rNe (roI fun i j => .bl (!decide (i = j))) := by
  refine ⟨op_ne, fun b hh x y dx dy P Q s zx zy hr c => ?_⟩
  cases dx with
  | int i =>
    cases dy with
    | int j =>
      have ex : x = .int i := zx
      have ey : y = .int j := zy
      subst ex ey
      refine ⟨rfl, c _ b hh (.pur (.bl (!decide (i = j)))) (Res.same s ?_) hr⟩
      show V.bl _ = V.bl _
      rw [dec_int, Bool.beq_eq_decide_eq]
    | _ => exact hr.elim
  | _ => exact hr.elim
def ruI (f : Int → Int) : RU1 := fun x P => match x with
  | .int i => P (.pur (.int (f i)))
  | _ => False
theorem ug_neg : UnG X (unaryOp .USub) (rU fun i => .int (-i)) (ruI fun i => -i) := by
  refine ⟨un_neg, fun b hh x dx P Q s zx hr c => ?_⟩
  cases dx with
  | int i => exact ⟨i, zx, c _ b hh _ (Res.same s (d := .int (-i)) rfl) hr⟩
  | _ => exact hr.elim

/-! ### data of any form: ==, in -/
/-- is a flat value -/
def D.fl : D → Option V
  | .non => some .non
  | .bl b => some (.bl b)
  | .int i => some (.int i)
  | .str x => some (.str x)
  | _ => none
theorem fl_ok {K : PySem.W.Frag} {b : Hp} {d : D} {v u : V} (z : den K b d v) (e : d.fl = some u) : v = u ∧ flatV u = true := by
  cases d with
  | non => cases e; exact ⟨z, rfl⟩
  | bl k => cases e; exact ⟨z, rfl⟩
  | int i => cases e; exact ⟨z, rfl⟩
  | str x => cases e; exact ⟨z, rfl⟩
  | _ => cases e
def flL : List D → Option (List V)
  | [] => some []
  | d :: ds => match d.fl, flL ds with
    | some v, some vs => some (v :: vs)
    | _, _ => none
theorem flL_ok {K : PySem.W.Frag} {b : Hp} : ∀ {ds : List D} {vs us : List V}, denL K b ds vs → flL ds = some us → vs = us ∧ us.all flatV = true
  | [], _, _, z, e => by
    have z' : _ = ([] : List V) := z
    cases e
    exact ⟨z', rfl⟩
  | d :: ds, _, us, ⟨v, r, e1, z, t⟩, e => by
    subst e1
    unfold flL at e
    split at e
    · rename_i v' vs' e1 e2
      cases e
      obtain ⟨rfl, f1⟩ := fl_ok z e1
      obtain ⟨rfl, f2⟩ := flL_ok t e2
      exact ⟨rfl, by rw [List.all_cons, f1, f2]; rfl⟩
    · cases e
/-- x in ds, all flat -/
@[irreducible] def roIn (neg : Bool) : RO := fun x y P => match y with
  | .lst ds => (match x.fl, flL ds with
    | some v, some vs => P (.pur (.bl (if neg then !inV v vs else inV v vs)))
    | _, _ => False)
  | .tup ds => (match x.fl, flL ds with
    | some v, some vs => P (.pur (.bl (if neg then !inV v vs else inV v vs)))
    | _, _ => False)
  | _ => False
theorem in_br (neg : Bool) : Brd X.K (roIn neg) (rIn X.K neg) := by
  intro b hh x y dx dy P Q s zx zy hr c
  cases dy with
  | lst ds =>
    obtain ⟨a, vs, rfl, q, t⟩ := zy
    simp only [roIn] at hr
    split at hr
    · rename_i v ws e1 e2
      obtain ⟨rfl, f1⟩ := fl_ok zx e1
      obtain ⟨rfl, f2⟩ := flL_ok t e2
      exact ⟨a, vs, rfl, .inl (Evl.ex_l s q), f1, f2, c _ b hh (.pur (.bl _)) (Res.same s rfl) hr⟩
    · exact hr.elim
  | tup ds =>
    obtain ⟨a, vs, rfl, q, t⟩ := zy
    simp only [roIn] at hr
    split at hr
    · rename_i v ws e1 e2
      obtain ⟨rfl, f1⟩ := fl_ok zx e1
      obtain ⟨rfl, f2⟩ := flL_ok t e2
      exact ⟨a, vs, rfl, .inr (Evl.ex_t s q), f1, f2, c _ b hh (.pur (.bl _)) (Res.same s rfl) hr⟩
    · exact hr.elim
  | _ => exact (by unfold roIn at hr; exact hr.elim)
theorem og_in {K : PySem.W.Frag} (hK : X.K = K := by exact rfl) : OpG X (compareOp .In) (rIn K false) (roIn false) := by
  subst hK
  exact ⟨op_in_seq, in_br false⟩
theorem og_notIn {K : PySem.W.Frag} (hK : X.K = K := by exact rfl) : OpG X (compareOp .NotIn) (rIn K true) (roIn true) := by
  subst hK
  exact ⟨op_notIn_seq, in_br true⟩
mutual
def D.py : D → Option PyData
  | .non => some .none
  | .bl b => some (.bool b)
  | .int i => some (.int i)
  | .str x => some (.str x)
  | .tup ds => (pyL ds).map .tuple
  | .lst ds => (pyL ds).map .list
  | _ => none
def pyL : List D → Option (List PyData)
  | [] => some []
  | d :: ds => match d.py, pyL ds with
    | some p, some ps => some (p :: ps)
    | _, _ => none
end
mutual
theorem py_ok {K : PySem.W.Frag} {b : Hp} : ∀ (d : D) (v : V) (p : PyData), den K b d v → d.py = some p → Dp K b v p
  | .non, v, p, z, e => by cases e; have z' : v = .non := z; subst z'; exact .non
  | .bl k, v, p, z, e => by cases e; have z' : v = .bl k := z; subst z'; exact .bl k
  | .int k, v, p, z, e => by cases e; have z' : v = .int k := z; subst z'; exact .int k
  | .str k, v, p, z, e => by cases e; have z' : v = .str k := z; subst z'; exact .str k
  | .tup ds, v, p, ⟨a, vs, e1, q, t⟩, e => by
    subst e1
    have e' : (pyL ds).map PyData.tuple = some p := by simpa [D.py] using e
    cases h : pyL ds with
    | none => rw [h] at e'; cases e'
    | some ps => rw [h] at e'; cases e'; exact .tup q (pyL_ok ds vs ps t h)
  | .lst ds, v, p, ⟨a, vs, e1, q, t⟩, e => by
    subst e1
    have e' : (pyL ds).map PyData.list = some p := by simpa [D.py] using e
    cases h : pyL ds with
    | none => rw [h] at e'; cases e'
    | some ps => rw [h] at e'; cases e'; exact .lst q (pyL_ok ds vs ps t h)
  | .ty _, _, _, _, e => by cases e
  | .fn _, _, _, _, e => by cases e
  | .dK _ _, _, _, _, e => by cases e
  | .dT _ _, _, _, _, e => by cases e
  | .ins _ _ _, _, _, _, e => by cases e
theorem pyL_ok {K : PySem.W.Frag} {b : Hp} : ∀ (ds : List D) (vs : List V) (ps : List PyData), denL K b ds vs → pyL ds = some ps → DpAll K b vs ps
  | [], vs, ps, z, e => by
    have z' : vs = [] := z
    subst z'
    cases e
    exact .nil
  | d :: ds, _, ps, ⟨v, r, e1, z, t⟩, e => by
    subst e1
    cases h1 : d.py with
    | none => simp [pyL, h1] at e
    | some p =>
      cases h2 : pyL ds with
      | none => simp [pyL, h1, h2] at e
      | some qs =>
        simp [pyL, h1, h2] at e
        subst e
        exact .cons (py_ok d v p z h1) (pyL_ok ds r qs t h2)
end
mutual
theorem Dp_ex {K : PySem.W.Frag} {b h : Hp} (e : Ex b h) : ∀ {v : V} {p : PyData}, Dp K b v p → Dp K h v p
  | _, _, .non => .non
  | _, _, .bl k => .bl k
  | _, _, .int k => .int k
  | _, _, .str k => .str k
  | _, _, .lst q t => .lst (Evl.ex_l e q) (DpAll_ex e t)
  | _, _, .tup q t => .tup (Evl.ex_t e q) (DpAll_ex e t)
theorem DpAll_ex {K : PySem.W.Frag} {b h : Hp} (e : Ex b h) : ∀ {vs : List V} {ps : List PyData}, DpAll K b vs ps → DpAll K h vs ps
  | _, _, .nil => .nil
  | _, _, .cons a t => .cons (Dp_ex e a) (DpAll_ex e t)
end
/-- == of data -/
@[irreducible] def roEq (neg : Bool) : RO := fun x y P => match x.py, y.py with
  | some p, some q => SeqAt.shaped p = true ∧ SeqAt.shaped q = true ∧ P (.pur (.bl (if neg then !PyData.eqv p q else PyData.eqv p q)))
  | _, _ => False
theorem og_eq (hu : X.A.units + 64 < cLine) {K : PySem.W.Frag} (hK : X.K = K := by exact rfl) : OpG X (compareOp .Eq) (rEqD K) (roEq false) := by
  subst hK
  refine ⟨op_eqD hu, fun b hh x y dx dy P Q s zx zy hr c => ?_⟩
  unfold roEq at hr
  split at hr
  · rename_i p q e1 e2
    exact ⟨p, q, Dp_ex s (py_ok dx x p zx e1), Dp_ex s (py_ok dy y q zy e2), hr.1, hr.2.1, c _ b hh (.pur (.bl _)) (Res.same s rfl) hr.2.2⟩
  · exact hr.elim
theorem og_ne (hu : X.A.units + 64 < cLine) {K : PySem.W.Frag} (hK : X.K = K := by exact rfl) : OpG X (compareOp .NotEq) (rNeD K) (roEq true) := by
  subst hK
  refine ⟨op_neD hu, fun b hh x y dx dy P Q s zx zy hr c => ?_⟩
  unfold roEq at hr
  split at hr
  · rename_i p q e1 e2
    exact ⟨p, q, Dp_ex s (py_ok dx x p zx e1), Dp_ex s (py_ok dy y q zy e2), hr.1, hr.2.1, c _ b hh (.pur (.bl _)) (Res.same s rfl) hr.2.2⟩
  · exact hr.elim

/-! ### places -/
def roIx : RO := fun x y P => match x, y with
  | .tup ds, .int i => (match atI ds i with
    | some d => P (.pur d)
    | none => False)
  | .lst ds, .int i => (match atI ds i with
    | some d => P (.pur d)
    | none => False)
  | _, _ => False
theorem denL_at {K : PySem.W.Frag} {b : Hp} : ∀ {ds : List D} {vs : List V} {j : Nat} {d : D}, denL K b ds vs → ds[j]? = some d → ∃ v, vs[j]? = some v ∧ den K b d v
  | [], _, _, _, _, e => by simp at e
  | c :: ds, _, 0, d, ⟨v, r, e1, z, t⟩, e => by
    subst e1
    have e' : c = d := by simpa using e
    subst e'
    exact ⟨v, rfl, z⟩
  | c :: ds, _, j + 1, d, ⟨v, r, e1, z, t⟩, e => by
    subst e1
    obtain ⟨w, q1, q2⟩ := denL_at (j := j) t (by simpa using e)
    exact ⟨w, by simpa using q1, q2⟩
theorem denL_atI {K : PySem.W.Frag} {b : Hp} {ds : List D} {vs : List V} {i : Int} {d : D} (t : denL K b ds vs) (e : atI ds i = some d) : ∃ v, atI vs i = some v ∧ den K b d v := by
  unfold atI at e ⊢
  rw [← denL_len t]
  cases q : ixN ds.length i with
  | none => rw [q] at e; cases e
  | some j =>
    rw [q] at e
    exact denL_at t e
theorem ig_seq {K : PySem.W.Frag} (hK : X.K = K := by exact rfl) : IxG X (rIx K) roIx := by
  subst hK
  refine ⟨ix_seq, fun b hh x y dx dy P Q s zx zy hr c => ?_⟩
  cases dx with
  | tup ds =>
    cases dy with
    | int i =>
      obtain ⟨a, vs, rfl, q, t⟩ := zx
      simp only [roIx] at hr
      split at hr
      · rename_i d e
        obtain ⟨v, e1, z⟩ := denL_atI t e
        exact .inr (.inl ⟨a, vs, i, v, rfl, zy, Evl.ex_t s q, e1, c _ b hh _ (Res.same s z) hr⟩)
      · exact hr.elim
    | _ => exact hr.elim
  | lst ds =>
    cases dy with
    | int i =>
      obtain ⟨a, vs, rfl, q, t⟩ := zx
      simp only [roIx] at hr
      split at hr
      · rename_i d e
        obtain ⟨v, e1, z⟩ := denL_atI t e
        exact .inl ⟨a, vs, i, v, rfl, zy, Evl.ex_l s q, e1, c _ b hh _ (Res.same s z) hr⟩
      · exact hr.elim
    | _ => exact hr.elim
  | _ => exact hr.elim

/-! ### built-ins -/
def rcI (f : Int → D) : RC1 := fun ds P => match ds with
  | [.int i] => P (.pur (f i))
  | _ => False
def rcII (f : Int → Int → D) : RC1 := fun ds P => match ds with
  | [.int i, .int j] => P (.pur (f i j))
  | _ => False
theorem denL1 {K : PySem.W.Frag} {b : Hp} {d : D} {xs : List V} (z : denL K b [d] xs) : ∃ v, xs = [v] ∧ den K b d v := by
  obtain ⟨v, r, e1, z1, e2⟩ := z
  subst e2
  exact ⟨v, e1, z1⟩
theorem denL2 {K : PySem.W.Frag} {b : Hp} {d u : D} {xs : List V} (z : denL K b [d, u] xs) : ∃ v w, xs = [v, w] ∧ den K b d v ∧ den K b u w := by
  obtain ⟨v, r, e1, z1, w, r2, e2, z2, e3⟩ := z
  subst e2 e3
  exact ⟨v, w, e1, z1, z2⟩
theorem cg_I {f : Value} {r : List V → Hp → VK → Prop} {d : Int → D} {g : Int → V} (h : CallR X f r) (e : ∀ i b, den X.K b (d i) (g i)) (hr : ∀ i H Q, Q (g i) H → r [.int i] H Q) : CallG X f r (rcI d) := by
  refine ⟨h, fun b hh xs ds P Q s z hp c => ?_⟩
  unfold rcI at hp
  split at hp
  · rename_i i
    obtain ⟨v, rfl, z1⟩ := denL1 z
    have z' : v = .int i := z1
    subst z'
    exact hr i hh Q (c _ b hh _ (Res.same s (e i b)) hp)
  · exact hp.elim
theorem cg_II {f : Value} {r : List V → Hp → VK → Prop} {d : Int → Int → D} {g : Int → Int → V} (h : CallR X f r) (e : ∀ i j b, den X.K b (d i j) (g i j)) (hr : ∀ i j H Q, Q (g i j) H → r [.int i, .int j] H Q) : CallG X f r (rcII d) := by
  refine ⟨h, fun b hh xs ds P Q s z hp c => ?_⟩
  unfold rcII at hp
  split at hp
  · rename_i i j
    obtain ⟨v, w, rfl, z, z2⟩ := denL2 z
    have z' : v = .int i := z
    have z2' : w = .int j := z2
    subst z' z2'
    exact hr i j hh Q (c _ b hh _ (Res.same s (e i j b)) hp)
  · exact hp.elim
abbrev rvAbs : List V → Hp → VK → Prop := fun xs H Q => ∃ i, xs = [.int i] ∧ Q (.int (if i < 0 then -i else i)) H
abbrev rvInt : List V → Hp → VK → Prop := fun xs H Q => (∃ i, xs = [.int i] ∧ Q (.int i) H) ∨ ∃ k, xs = [.bl k] ∧ Q (.int (if k then 1 else 0)) H
abbrev rvMax2 : List V → Hp → VK → Prop := fun xs H Q => ∃ i j, xs = [.int i, .int j] ∧ Q (.int (if j > i then j else i)) H
abbrev rvMin2 : List V → Hp → VK → Prop := fun xs H Q => ∃ i j, xs = [.int i, .int j] ∧ Q (.int (if j < i then j else i)) H
abbrev rvLen (K : PySem.W.Frag) : List V → Hp → VK → Prop := fun xs H Q => ∃ p ys, xs = [.ref p] ∧ (SqL K H p ys ∨ SqT K H p ys) ∧ Q (.int ys.length) H
abbrev rvList (K : PySem.W.Frag) : List V → Hp → VK → Prop := fun xs H Q => ∃ p ys, xs = [.ref p] ∧ (SqL K H p ys ∨ SqT K H p ys) ∧ ∀ l, H l = none → Q (.ref l) (upd H l (.lst ys))
abbrev rvTuple (K : PySem.W.Frag) : List V → Hp → VK → Prop := fun xs H Q => ∃ p ys, xs = [.ref p] ∧ ((SqL K H p ys ∧ ∀ l, H l = none → Q (.ref l) (upd H l (.tup ys))) ∨ (SqT K H p ys ∧ Q (.ref p) H))
theorem cg_abs : CallG X (.builtin "abs") rvAbs (rcI fun i => .int (if i < 0 then -i else i)) := cg_I call_abs (fun _ _ => rfl) fun i H Q q => ⟨i, rfl, q⟩
theorem cg_int : CallG X (.type "int") rvInt (rcI fun i => .int i) := cg_I call_int1 (fun _ _ => rfl) fun i H Q q => .inl ⟨i, rfl, q⟩
theorem cg_max2 (hc : X.calm = true) : CallG X (.builtin "max") rvMax2 (rcII fun i j => .int (if j > i then j else i)) := cg_II (call_max2 hc) (fun _ _ _ => rfl) fun i j H Q q => ⟨i, j, rfl, q⟩
theorem cg_min2 (hc : X.calm = true) : CallG X (.builtin "min") rvMin2 (rcII fun i j => .int (if j < i then j else i)) := cg_II (call_min2 hc) (fun _ _ _ => rfl) fun i j H Q q => ⟨i, j, rfl, q⟩
def rcLen : RC1 := fun ds P => match ds with
  | [.tup xs] => P (.pur (.int xs.length))
  | [.lst xs] => P (.pur (.int xs.length))
  | _ => False
theorem cg_len {K : PySem.W.Frag} (hK : X.K = K := by exact rfl) : CallG X (.builtin "len") (rvLen K) rcLen := by
  subst hK
  refine ⟨call_len_seq, fun b hh xs ds P Q s z hp c => ?_⟩
  unfold rcLen at hp
  split at hp
  · rename_i us
    obtain ⟨v, rfl, a, vs, rfl, q, t⟩ := denL1 z
    refine ⟨a, vs, rfl, .inr (Evl.ex_t s q), ?_⟩
    rw [← denL_len t]
    exact c _ b hh (.pur (.int _)) (Res.same s rfl) hp
  · rename_i us
    obtain ⟨v, rfl, a, vs, rfl, q, t⟩ := denL1 z
    refine ⟨a, vs, rfl, .inl (Evl.ex_l s q), ?_⟩
    rw [← denL_len t]
    exact c _ b hh (.pur (.int _)) (Res.same s rfl) hp
  · exact hp.elim
/-- list(xs), a new one -/
def rcList : RC1 := fun ds P => match ds with
  | [.tup xs] => ∀ p, P (.lst p (xs.map .pur))
  | [.lst xs] => ∀ p, P (.lst p (xs.map .pur))
  | _ => False
theorem cg_list {K : PySem.W.Frag} (hK : X.K = K := by exact rfl) : CallG X (.type "list") (rvList K) rcList := by
  subst hK
  refine ⟨call_list_of, fun b hh xs ds P Q s z hp c => ?_⟩
  unfold rcList at hp
  split at hp
  · rename_i us
    obtain ⟨v, rfl, a, vs, rfl, q, t⟩ := denL1 z
    exact ⟨a, vs, rfl, .inr (Evl.ex_t s q), fun p np => c _ b _ _ (Res.own1 (o := .lst p (us.map .pur)) s np ⟨rfl, vs, upd_same, ownL_pur t⟩ (by simp [foot, footL_pur])) (hp p)⟩
  · rename_i us
    obtain ⟨v, rfl, a, vs, rfl, q, t⟩ := denL1 z
    exact ⟨a, vs, rfl, .inl (Evl.ex_l s q), fun p np => c _ b _ _ (Res.own1 (o := .lst p (us.map .pur)) s np ⟨rfl, vs, upd_same, ownL_pur t⟩ (by simp [foot, footL_pur])) (hp p)⟩
  · exact hp.elim
def rcTuple : RC1 := fun ds P => match ds with
  | [.tup xs] => P (.pur (.tup xs))
  | [.lst xs] => P (.pur (.tup xs))
  | _ => False
theorem cg_tuple {K : PySem.W.Frag} (hK : X.K = K := by exact rfl) : CallG X (.type "tuple") (rvTuple K) rcTuple := by
  subst hK
  refine ⟨call_tuple_of, fun b hh xs ds P Q s z hp c => ?_⟩
  unfold rcTuple at hp
  split at hp
  · rename_i us
    obtain ⟨v, rfl, a, vs, rfl, q, t⟩ := denL1 z
    exact ⟨a, vs, rfl, .inr ⟨Evl.ex_t s q, c _ b hh (.pur (.tup us)) (Res.same s ⟨a, vs, rfl, q, t⟩) hp⟩⟩
  · rename_i us
    obtain ⟨v, rfl, a, vs, rfl, q, t⟩ := denL1 z
    exact ⟨a, vs, rfl, .inl ⟨Evl.ex_l s q, fun p np => c _ _ _ _ (Res.new (d := .tup us) s np ⟨p, vs, rfl, SqT.of upd_same, denL_mono (Ex.new (Evl.fresh_back s np)) _ _ t⟩) hp⟩⟩
  · exact hp.elim
def blsOf : List D → Option (List Bool)
  | [] => some []
  | .bl k :: ds => (blsOf ds).map (k :: ·)
  | _ => none
theorem bls_ok {K : PySem.W.Frag} {b : Hp} : ∀ {ds : List D} {vs : List V} {ks : List Bool}, denL K b ds vs → blsOf ds = some ks → vs = ks.map V.bl
  | [], _, _, z, e => by cases e; exact z
  | d :: ds, _, ks, ⟨v, r, e1, z, t⟩, e => by
    cases d with
    | bl k =>
      have e' : (blsOf ds).map (k :: ·) = some ks := e
      cases q : blsOf ds with
      | none => rw [q] at e'; cases e'
      | some l =>
        rw [q] at e'
        cases e'
        have z' : v = .bl k := z
        rw [e1, z', bls_ok t q]
        rfl
    | _ => cases e
@[irreducible] def rcAll (f : List Bool → Bool) : RC1 := fun ds P => match ds with
  | [.lst xs] => (match blsOf xs with
    | some ks => P (.pur (.bl (f ks)))
    | none => False)
  | _ => False
theorem cg_all (hc : X.calm = true) {K : PySem.W.Frag} (hK : X.K = K := by exact rfl) : CallG X (.builtin "all") (rAll K) (rcAll fun ks => ks.all id) := by
  subst hK
  refine ⟨cr_all hc, fun b hh xs ds P Q s z hp c => ?_⟩
  unfold rcAll at hp
  split at hp
  · rename_i us
    obtain ⟨v, rfl, a, vs, rfl, q, t⟩ := denL1 z
    split at hp
    · rename_i ks e
      have e2 := bls_ok t e
      subst e2
      exact ⟨a, ks, rfl, Evl.ex_l s q, c _ b hh (.pur (.bl _)) (Res.same s rfl) hp⟩
    · exact hp.elim
  · exact hp.elim
theorem cg_any (hc : X.calm = true) {K : PySem.W.Frag} (hK : X.K = K := by exact rfl) : CallG X (.builtin "any") (rAny K) (rcAll fun ks => ks.any id) := by
  subst hK
  refine ⟨cr_any hc, fun b hh xs ds P Q s z hp c => ?_⟩
  unfold rcAll at hp
  split at hp
  · rename_i us
    obtain ⟨v, rfl, a, vs, rfl, q, t⟩ := denL1 z
    split at hp
    · rename_i ks e
      have e2 := bls_ok t e
      subst e2
      exact ⟨a, ks, rfl, Evl.ex_l s q, c _ b hh (.pur (.bl _)) (Res.same s rfl) hp⟩
    · exact hp.elim
  · exact hp.elim
def intsOf : List D → Option (List Int)
  | [] => some []
  | .int k :: ds => (intsOf ds).map (k :: ·)
  | _ => none
theorem ints_ok {K : PySem.W.Frag} {b : Hp} : ∀ {ds : List D} {vs : List V} {ks : List Int}, denL K b ds vs → intsOf ds = some ks → vs = ks.map V.int
  | [], _, _, z, e => by cases e; exact z
  | d :: ds, _, ks, ⟨v, r, e1, z, t⟩, e => by
    cases d with
    | int k =>
      have e' : (intsOf ds).map (k :: ·) = some ks := e
      cases q : intsOf ds with
      | none => rw [q] at e'; cases e'
      | some l =>
        rw [q] at e'
        cases e'
        have z' : v = .int k := z
        rw [e1, z', ints_ok t q]
        rfl
    | _ => cases e
def rcSum : RC1 := fun ds P => match ds with
  | [.lst xs] => (match intsOf xs with
    | some ks => P (.pur (.int ks.sum))
    | none => False)
  | _ => False
theorem cg_sum (hc : X.calm = true) {K : PySem.W.Frag} (hK : X.K = K := by exact rfl) : CallG X (.builtin "sum") (rSum K) rcSum := by
  subst hK
  refine ⟨cr_sum hc, fun b hh xs ds P Q s z hp c => ?_⟩
  unfold rcSum at hp
  split at hp
  · rename_i us
    obtain ⟨v, rfl, a, vs, rfl, q, t⟩ := denL1 z
    split at hp
    · rename_i ks e
      have e2 := ints_ok t e
      subst e2
      exact ⟨a, ks, rfl, Evl.ex_l s q, c _ b hh (.pur (.int _)) (Res.same s rfl) hp⟩
    · exact hp.elim
  · exact hp.elim
/-! ### isinstance of built-in classes -/
def tyD : D → Option String
  | .non => some "NoneType"
  | .bl _ => some "bool"
  | .int _ => some "int"
  | .str _ => some "str"
  | .tup _ => some "tuple"
  | .lst _ => some "list"
  | .dK _ _ => some "dict"
  | .dT _ _ => some "dict"
  | _ => none
def isT (t n : String) : Bool := t == n || (t == "bool" && n == "int")
def knownT (n : String) : Bool := n == "int" || n == "bool" || n == "tuple" || n == "list" || n == "str" || n == "dict"
theorem sq_ty {K : PySem.W.Frag} {h : Hp} {a : Addr} {vs : List V} (q : SqT K h a vs) : TyX K h (.ref a) (.type "tuple") := by
  rcases q with (q | ⟨o, q⟩) | ⟨o, its, n, q, c, _⟩
  · exact .base (.tup q)
  · exact .fTuple q
  · exact .kTuple q c
theorem sl_ty {K : PySem.W.Frag} {h : Hp} {a : Addr} {vs : List V} (q : SqL K h a vs) : TyX K h (.ref a) (.type "list") := by
  rcases q with (q | ⟨o, q⟩) | ⟨o, its, n, q, c, _⟩
  · exact .base (.lst q)
  · exact .base (.frz q)
  · exact .kList q c
theorem ty_ok {K : PySem.W.Frag} {b h : Hp} {d : D} {v : V} {t : String} (s : Ex b h) (z : den K b d v) (e : tyD d = some t) : TyX K h v (.type t) := by
  cases d with
  | non => cases e; have z' : v = .non := z; subst z'; exact .base .non
  | bl k => cases e; have z' : v = .bl k := z; subst z'; exact .base (.bl k)
  | int k => cases e; have z' : v = .int k := z; subst z'; exact .base (.int k)
  | str k => cases e; have z' : v = .str k := z; subst z'; exact .base (.str k)
  | tup ds => cases e; obtain ⟨a, vs, rfl, q, _⟩ := z; exact sq_ty (Evl.ex_t s q)
  | lst ds => cases e; obtain ⟨a, vs, rfl, q, _⟩ := z; exact sl_ty (Evl.ex_l s q)
  | dK ks ds => cases e; obtain ⟨a, vs, rfl, q, _⟩ := z; exact .base (.dK (s _ _ q))
  | dT ks ds => cases e; obtain ⟨a, vs, rfl, q, _⟩ := z; exact .base (.dT (s _ _ q))
  | _ => cases e
theorem known_cases {n : String} (h : knownT n = true) : n = "int" ∨ n = "bool" ∨ n = "tuple" ∨ n = "list" ∨ n = "str" ∨ n = "dict" := by
  simp only [knownT, Bool.or_eq_true, beq_iff_eq] at h
  rcases h with ((((h | h) | h) | h) | h) | h <;> simp [h]
theorem tyD_cases {d : D} {t : String} (e : tyD d = some t) : t = "NoneType" ∨ t = "bool" ∨ t = "int" ∨ t = "str" ∨ t = "tuple" ∨ t = "list" ∨ t = "dict" := by
  cases d <;> first | (cases e; simp) | cases e
end
end G
/-! G: isinstance, walks, comprehensions, owned lists and dicts. -/
namespace G
open PySem L2
open Evl (Ex)

section
variable {X : Cx} {W : WX}
theorem kit_tab {t n : String} (h1 : t = "NoneType" ∨ t = "bool" ∨ t = "int" ∨ t = "str" ∨ t = "tuple" ∨ t = "list" ∨ t = "dict") (h2 : n = "int" ∨ n = "bool" ∨ n = "tuple" ∨ n = "list" ∨ n = "str" ∨ n = "dict") : kitB t n = some (isT t n) := by
  rcases h1 with rfl | rfl | rfl | rfl | rfl | rfl | rfl <;> rcases h2 with rfl | rfl | rfl | rfl | rfl | rfl <;> decide +kernel
/-- None, flags, integers, strings, tuples, lists, dicts -/
def D.ok (d : D) : Bool := (tyD d).isSome
def isD (d : D) (n : String) : Bool := match tyD d with
  | some t => isT t n
  | none => false
@[irreducible] def isiP (d : D) (n : String) (P : O → Prop) : Prop := D.ok d = true ∧ knownT n = true ∧ P (.pur (.bl (isD d n)))
theorem isiP_i {d : D} {n : String} {P : O → Prop} (h : D.ok d = true) (hn : knownT n = true) (p : P (.pur (.bl (isD d n)))) : isiP d n P := by unfold isiP; exact ⟨h, hn, p⟩
/-- isinstance(x, T) -/
def rcIsi : RC1 := fun ds P => match ds with
  | [d, .ty n] => isiP d n P
  | _ => False
theorem cg_isi {K : PySem.W.Frag} (hK : X.K = K := by exact rfl) : CallG X (.builtin "isinstance") (rIsi K) rcIsi := by
  subst hK
  refine ⟨call_isi, fun b hh xs ds P Q s z hp c => ?_⟩
  unfold rcIsi at hp
  split at hp
  · rename_i d n
    obtain ⟨v, w, rfl, z1, z2⟩ := denL2 z
    have z2' : w = .ty n := z2
    subst z2'
    unfold isiP D.ok isD at hp
    cases e : tyD d with
    | none => rw [e] at hp; cases hp.1
    | some t =>
      rw [e] at hp
      exact ⟨v, .ty n, .type t, .type n, isT t n, rfl, .ty n, ty_ok s z1 e, kit_ty (kit_tab (tyD_cases e) (known_cases hp.2.1)), c _ b hh (.pur (.bl _)) (Res.same s rfl) hp.2.2⟩
  · exact hp.elim
theorem kitAny2 {K : PySem.W.Frag} {t n m : String} (h1 : kitB t n = some (isT t n)) (h2 : kitB t m = some (isT t m)) : PySem.W.kitAny K (.type t) [.type n, .type m] = some (isT t n || isT t m) := by
  refine kitAny_cons (kit_ty h1) (fun e => ?_) (fun e => by rw [e]; rfl)
  rw [e]
  refine kitAny_cons (kit_ty h2) (fun e => ?_) (fun e => by rw [e]; rfl)
  rw [e]
  rfl
/-- isinstance(x, (T, U)), the tuple written -/
@[irreducible] def isi2P (d : D) (n m : String) (P : O → Prop) : Prop := D.ok d = true ∧ knownT n = true ∧ knownT m = true ∧ P (.pur (.bl (isD d n || isD d m)))
theorem isi2P_i {d : D} {n m : String} {P : O → Prop} (h : D.ok d = true) (hn : knownT n = true) (hm : knownT m = true) (p : P (.pur (.bl (isD d n || isD d m)))) : isi2P d n m P := by unfold isi2P; exact ⟨h, hn, hm, p⟩
def wIsi2 (n m : String) (wa : WE) : WE := fun We g P => wa We g fun x g1 => isi2P x.d n m fun z => P z g1
theorem ge_isi2 {e : Expr} {te : TE} {we : WE} {x y : Str} {n m : String} {k2} {p p1 p2 p3 pos : Pos} (hm : X.mg "isinstance" = none) (he : GE X W e te we) (hx : X.mg x = none) (hy : X.mg y = none) (vx : bootBuiltins x = some (.type n)) (vy : bootBuiltins y = some (.type m))
    (hg : Gl X "isinstance" := by rfl) (gx : Gl X x := by rfl) (gy : Gl X y := by rfl) (nx : x ≠ "__name__" := by decide) (ny : y ≠ "__name__" := by decide) (dx : (x == ("__debug__" : Str)) = false := by decide) (dy : (y == ("__debug__" : Str)) = false := by decide)
    (h1 : starEach [e, .Tuple [.Name x p1, .Name y p2] k2 p3] X.env = (false, eval e X.env) :: starEach [.Tuple [.Name x p1, .Name y p2] k2 p3] X.env := by rfl)
    (h2 : starEach [.Tuple [.Name x p1, .Name y p2] k2 p3] X.env = [(false, eval (.Tuple [.Name x p1, .Name y p2] k2 p3) X.env)] := by rfl)
    (h3 : starEach [.Name x p1, .Name y p2] X.env = (false, eval (.Name x p1) X.env) :: starEach [.Name y p2] X.env := by rfl) (h4 : starEach [.Name y p2] X.env = [(false, eval (.Name y p2) X.env)] := by rfl)
    (hpl : (backTo pos (starEach [.Tuple [.Name x p1, .Name y p2] k2 p3] X.env)).any (·.1) = false := by rfl) {K : PySem.W.Frag} (hK : X.K = K := by exact rfl) :
    GE X W (.Call (.Name "isinstance" p) [e, .Tuple [.Name x p1, .Name y p2] k2 p3] [] pos) (tCB (rIsiT K) (tCons te (tCons (tTup (tCons (tC (.ty n)) (tCons (tC (.ty m)) tNil))) tNil))) (wIsi2 n m we) := by
  subst hK
  refine ⟨pe_callB call_isiT hg hm (by decide +kernel) (pa_cons he.pe (pa_cons (pe_tup (pa_cons (pe_bltn gx hx vx rfl nx dx) (pa_cons (pe_bltn gy hy vy rfl ny dy) pa_nil h4) h3)) pa_nil h2) h1) (by decide) (by decide) h1 hpl, fun b h σ g We P Q k hw hx ct => ?_⟩
  refine he.se b h σ g We _ _ k hw hx fun v b' h' g' o k' f' p' => ?_
  obtain ⟨b2, k2, f2, z⟩ := come k' f'
  refine ⟨by show 2 ≤ sizeLine; decide, fun q hq => ?_⟩
  unfold isi2P D.ok isD at p'
  cases e : tyD o.d with
  | none => rw [e] at p'; cases p'.1
  | some t =>
    rw [e] at p'
    obtain ⟨_, q1, q2, p'⟩ := p'
    have rs : Res X.K b2 h' _ _ (.ref q) (.pur (.tup [.ty n, .ty m])) := Res.new (ob := .tup [.ty n, .ty m]) k2.sub hq ⟨q, _, rfl, SqT.of upd_same, _, _, rfl, rfl, _, _, rfl, rfl, rfl⟩
    obtain ⟨k3, f3⟩ := rs.lift k2
    have f4 := f2.trans (f3.sub fun a q => inF_cons.mpr (.inr q))
    refine ⟨v, q, [.ty n, .ty m], .type t, [.type n, .type m], _, rfl, upd_same, .cons (.ty n) (.cons (.ty m) .nil), ty_ok (Ex.trans k2.sub (Ex.new hq)) z e, kitAny2 (kit_tab (tyD_cases e) (known_cases q1)) (kit_tab (tyD_cases e) (known_cases q2)), ?_⟩
    exact fin k3.tail f4 (Res.same k3.sub (d := .bl _) rfl) ct p'

/-! ### walks -/
theorem yields_ints {K : PySem.W.Frag} {b h : Hp} {lo : Int} {n : Nat} : Yields K b h (Itr lo n) ((List.range n).map fun i => .int (lo + (i : Nat))) := by
  intro b' h' e1 e2 e3 i
  rw [List.length_map, List.length_range]
  refine ⟨fun e => Nat.le_of_eq e.symm, fun d q => ?_⟩
  rw [List.getElem?_map] at q
  cases r : (List.range n)[i]? with
  | none => rw [r] at q; cases q
  | some j =>
    rw [r] at q
    cases q
    obtain ⟨hi, ej⟩ := List.getElem?_eq_some_iff.mp r
    rw [List.length_range] at hi
    have ej' : i = j := by simpa using ej
    subst ej'
    refine ⟨hi, fun x h2 ⟨e4, e5⟩ => ?_⟩
    subst e4 e5
    exact ⟨b', Ex.refl b', Ex.refl _, e2, fun a n1 n2 => absurd n2 n1, rfl⟩
theorem yields_list {K : PySem.W.Frag} {b h : Hp} {ds : List D} {a : Addr} {vs : List V} (q : SqL K b a vs) (t : denL K b ds vs) : Yields K b h (Itl K a) ds := by
  intro b' h' e1 e2 e3 i
  have q' := Evl.ex_l e2 (Evl.ex_l e1 q)
  refine ⟨fun e => ⟨vs, q', by rw [← denL_len t]; omega⟩, fun d r => ?_⟩
  obtain ⟨v, ev, z⟩ := denL_at t r
  refine ⟨⟨vs, v, q', ev⟩, fun x h2 ⟨e4, e5⟩ => ?_⟩
  subst e4
  have := e5 vs q'
  rw [ev] at this
  cases this
  exact ⟨b', Ex.refl b', Ex.refl _, e2, fun a n1 n2 => absurd n2 n1, den_mono e1 _ _ z⟩
theorem yields_tup {K : PySem.W.Frag} {b h : Hp} {ds : List D} {a : Addr} {vs : List V} (q : SqT K b a vs) (t : denL K b ds vs) : Yields K b h (Itt K a) ds := by
  intro b' h' e1 e2 e3 i
  have q' := Evl.ex_t e2 (Evl.ex_t e1 q)
  refine ⟨fun e => ⟨vs, q', by rw [← denL_len t]; omega⟩, fun d r => ?_⟩
  obtain ⟨v, ev, z⟩ := denL_at t r
  refine ⟨⟨vs, v, q', ev⟩, fun x h2 ⟨e4, e5⟩ => ?_⟩
  subst e4
  have := e5 vs q'
  rw [ev] at this
  cases this
  exact ⟨b', Ex.refl b', Ex.refl _, e2, fun a n1 n2 => absurd n2 n1, den_mono e1 _ _ z⟩
variable {tg e : Expr} {te : TE} {wa : WE} {tr : TA} {wr : WA}
def wIL (wa : WE) : WI := fun We g P => wa We g fun o g1 => match o.d with
  | .lst ds => P ds g1
  | _ => False
def wIT (wa : WE) : WI := fun We g P => wa We g fun o g1 => match o.d with
  | .tup ds => P ds g1
  | _ => False
theorem gi_list (h : GE X W e te wa) {K : PySem.W.Frag} (hK : X.K = K := by exact rfl) : GI X W tg e (iList K te) (wIL wa) := by
  subst hK
  refine ⟨pi_list h.pe, fun b h1 σ g We P Q k hw hx c => ?_⟩
  refine h.se b h1 σ g We _ _ k hw hx fun v b' h' g' o k' f' p => ?_
  obtain ⟨b2, k2, f2, z⟩ := come k' f'
  split at p
  · rename_i ds e
    rw [e] at z
    obtain ⟨a, vs, rfl, q, t⟩ := z
    exact ⟨a, rfl, ⟨vs, Evl.ex_l k2.sub q⟩, c _ b2 h' g' ds k2 f2 (yields_list q t) p⟩
  · exact p.elim
theorem gi_tup (h : GE X W e te wa) {K : PySem.W.Frag} (hK : X.K = K := by exact rfl) : GI X W tg e (iTup K te) (wIT wa) := by
  subst hK
  refine ⟨pi_tup h.pe, fun b h1 σ g We P Q k hw hx c => ?_⟩
  refine h.se b h1 σ g We _ _ k hw hx fun v b' h' g' o k' f' p => ?_
  obtain ⟨b2, k2, f2, z⟩ := come k' f'
  split at p
  · rename_i ds e
    rw [e] at z
    obtain ⟨a, vs, rfl, q, t⟩ := z
    exact ⟨a, rfl, ⟨vs, Evl.ex_t k2.sub q⟩, c _ b2 h' g' ds k2 f2 (yields_tup q t) p⟩
  · exact p.elim
def rngD (lo : Int) (n : Nat) : List D := (List.range n).map fun i => .int (lo + (i : Nat))
def wIR1 (wr : WA) : WI := fun We g P => wr We g fun as g1 => match allVal as with
  | some [.int j] => -(2 ^ 62) ≤ j ∧ j < 2 ^ 62 ∧ P (rngD 0 j.toNat) g1
  | _ => False
def wIR2 (wr : WA) : WI := fun We g P => wr We g fun as g1 => match allVal as with
  | some [.int i, .int j] => (-(2 ^ 62) ≤ i ∧ i < 2 ^ 62 ∧ -(2 ^ 62) ≤ j ∧ j < 2 ^ 62) ∧ P (rngD i (j - i).toNat) g1
  | _ => False
theorem gi_r1 {p pos : Pos} (hm : X.mg "range" = none) (h : GA X W [e] tr wr) (hg : Gl X "range" := by rfl) (hs : starEach [e] X.env = [(false, eval e X.env)] := by rfl) : GI X W tg (.Call (.Name "range" p) [e] [] pos) (iRng1 tr) (wIR1 wr) := by
  refine ⟨pi_range1 hg hm h.pe hs, fun b h1 σ g We P Q k hw hx c => ?_⟩
  refine h.se b h1 σ g We _ _ k hw hx fun vs b' h' g' as k' f' z p => ?_
  split at p
  · rename_i j e
    obtain ⟨v, rfl, z2⟩ := denL1 (allVal_ok z e)
    exact ⟨j, congrArg (fun v => [v]) (show v = .int j from z2), p.1, p.2.1, c _ b' h' g' _ k' f' yields_ints p.2.2⟩
  · exact p.elim
theorem gi_r2 {e2 : Expr} {p pos : Pos} (hm : X.mg "range" = none) (h : GA X W [e, e2] tr wr) (hg : Gl X "range" := by rfl) (hs : starEach [e, e2] X.env = [(false, eval e X.env), (false, eval e2 X.env)] := by rfl) (hs2 : starEach [e2] X.env = [(false, eval e2 X.env)] := by rfl) :
    GI X W tg (.Call (.Name "range" p) [e, e2] [] pos) (iRng2 tr) (wIR2 wr) := by
  refine ⟨pi_range2 hg hm h.pe hs hs2, fun b h1 σ g We P Q k hw hx c => ?_⟩
  refine h.se b h1 σ g We _ _ k hw hx fun vs b' h' g' as k' f' z p => ?_
  split at p
  · rename_i i j e
    obtain ⟨v, w, rfl, z2, z3⟩ := denL2 (allVal_ok z e)
    have z2' : v = .int i := z2
    have z3' : w = .int j := z3
    subst z2' z3'
    exact ⟨i, j, rfl, p.1, c _ b' h' g' _ k' f' yields_ints p.2⟩
  · exact p.elim

/-! ### comprehensions -/
def wYes : WT := fun _ g P => P true g
structure GTs (X : Cx) (W : WX) (ifs : List Expr) (t : TT) (w : WT) : Prop where
  pe : PTs X ifs t
  se : ∀ b h σ g We P Q, Hold X.K b h σ g → w We g P → ContX X.K g b h We W → ContT X.K g b h σ P Q → t σ h Q
theorem gts_nil : GTs X W [] tYes wYes := ⟨pts_nil, fun b h σ g We P Q k hw hx ct => ct true b h g k (Frm.refl g b h) hw⟩
theorem gts_one {c : Expr} {t : TT} {w : WT} (h : GT X W c t w) : GTs X W [c] t w := ⟨pts_one h.pe, h.se⟩
def wipeG (g : Gam) : List Nat → Gam
  | [] => g
  | v :: vs => (wipeG g vs).set v none
theorem wipeG_len (g : Gam) : ∀ vs : List Nat, (wipeG g vs).length = g.length
  | [] => rfl
  | v :: vs => by unfold wipeG; rw [List.length_set, wipeG_len g vs]
theorem wipeG_some {g : Gam} {i : Nat} {o : O} : ∀ {vs : List Nat}, (wipeG g vs)[i]? = some (some o) → g[i]? = some (some o) ∧ i ∉ vs
  | [], h => ⟨h, by simp⟩
  | v :: vs, h => by
    unfold wipeG at h
    by_cases hi : v = i
    · subst hi
      by_cases hv : v < (wipeG g vs).length
      · rw [List.getElem?_set_self hv] at h; cases h
      · rw [List.getElem?_eq_none (by simpa using hv)] at h; cases h
    · rw [List.getElem?_set_ne hi] at h
      obtain ⟨h1, h2⟩ := wipeG_some h
      exact ⟨h1, by simp only [List.mem_cons, not_or]; exact ⟨fun e => hi e.symm, h2⟩⟩
/-- behind the block: its own names have what they had, if that was pure -/
def unwipe (g g' : Gam) : List Nat → Gam
  | [] => g'
  | v :: vs => (unwipe g g' vs).set v (match g[v]? with
    | some (some (.pur d)) => some (.pur d)
    | _ => none)
theorem wipe_keep {σ : L2.St} {i : Nat} {x : V} : ∀ {vs : List Nat}, i ∉ vs → σ[i]? = some (some x) → (wipe σ vs)[i]? = some (some x)
  | [], _, h => h
  | v :: vs, n, h => by
    unfold wipe
    rw [List.getElem?_set_ne (fun (e : v = i) => n (by rw [e]; exact List.mem_cons_self ..))]
    exact wipe_keep (fun z => n (List.mem_cons_of_mem _ z)) h
theorem unwipe_len (g g' : Gam) : ∀ vs : List Nat, (unwipe g g' vs).length = g'.length
  | [] => rfl
  | v :: vs => by unfold unwipe; rw [List.length_set, unwipe_len g g' vs]
theorem unwipe_some {g g' : Gam} {i : Nat} {o : O} : ∀ {vs : List Nat}, (unwipe g g' vs)[i]? = some (some o) → (i ∉ vs ∧ g'[i]? = some (some o)) ∨ ∃ d, o = .pur d ∧ g[i]? = some (some (.pur d))
  | [], h => .inl ⟨by simp, h⟩
  | v :: vs, h => by
    unfold unwipe at h
    by_cases hi : v = i
    · subst hi
      by_cases hv : v < (unwipe g g' vs).length
      · rw [List.getElem?_set_self hv] at h
        split at h
        · rename_i d e
          have h' : O.pur d = o := by simpa using h
          exact .inr ⟨d, h'.symm, e⟩
        · cases h
      · rw [List.getElem?_eq_none (by simpa using hv)] at h; cases h
    · rw [List.getElem?_set_ne hi] at h
      rcases unwipe_some h with ⟨n, e⟩ | r
      · exact .inl ⟨by simp only [List.mem_cons, not_or]; exact ⟨fun e => hi e.symm, n⟩, e⟩
      · exact .inr r
section
variable {K : PySem.W.Frag} {b h b' h' : Hp} {σ σ' : L2.St} {g g' : Gam}
theorem Hold.wipe (k : Hold K b h σ g) (vs : List Nat) : Hold K b h (L2.wipe σ vs) (wipeG g vs) ∧ ∀ a, inF (wipeG g vs) a → inF g a := by
  refine ⟨⟨k.sub, by rw [wipe_length, wipeG_len]; exact k.len, fun i o e => ?_, fun i o e => k.nd i o (wipeG_some e).1, fun i j o u n e1 e2 => k.dj i j o u n (wipeG_some e1).1 (wipeG_some e2).1, fun i o e => k.nb i o (wipeG_some e).1⟩, fun a ⟨i, o, e, m⟩ => ⟨i, o, (wipeG_some e).1, m⟩⟩
  obtain ⟨e1, n⟩ := wipeG_some e
  obtain ⟨v, ev, z⟩ := k.sl i o e1
  exact ⟨v, wipe_keep n ev, z⟩
theorem Hold.unwipe (k : Hold K b h σ g) (k2 : Hold K b' h' σ' g') (e : Ex b b') (vs : List Nat) (hw : L2.wipe σ' vs = L2.wipe σ vs) : Hold K b' h' σ (unwipe g g' vs) ∧ ∀ a, inF (G.unwipe g g' vs) a → inF g' a := by
  have low : ∀ (i : Nat) (o : O) (a : Addr), (G.unwipe g g' vs)[i]? = some (some o) → a ∈ foot o → g'[i]? = some (some o) := fun i o a q m => by
    rcases unwipe_some q with ⟨n, q⟩ | ⟨d, rfl, q⟩
    · exact q
    · simp [foot] at m
  have ls : σ'.length = σ.length := by
    have := congrArg List.length hw
    rwa [wipe_length, wipe_length] at this
  refine ⟨⟨k2.sub, by rw [unwipe_len, ← k2.len, ls], fun i o q => ?_, fun i o q => ?_, fun i j o u n q1 q2 a m1 m2 => k2.dj i j o u n (low i o a q1 m1) (low j u a q2 m2) a m1 m2, fun i o q a m => k2.nb i o (low i o a q m) a m⟩, fun a ⟨i, o, q, m⟩ => ⟨i, o, low i o a q m, m⟩⟩
  · rcases unwipe_some q with ⟨n, r⟩ | ⟨d, eo, r⟩
    · obtain ⟨v, ev, z⟩ := k2.sl i o r
      have := wipe_keep n ev
      rw [hw] at this
      exact ⟨v, (wipe_some this).1, z⟩
    · obtain ⟨v, ev, z⟩ := k.sl i (.pur d) r
      subst eo
      exact ⟨v, ev, den_mono e d v z⟩
  · rcases unwipe_some q with ⟨n, q⟩ | ⟨d, rfl, q⟩
    · exact k2.nd i o q
    · simp [foot]
end

@[irreducible] def wLc (wi : WI) (wg : WG) (wt : WT) (we : WE) (vs : List Nat) : WE := fun We g P => wi We g fun ds g1 => ∃ I : Nat → List D → Gam → Prop, I 0 [] g1 ∧
  (∀ i d acc g2, ds[i]? = some d → acc.length ≤ i → I i acc g2 → i < sizeLine ∧ wg d (wipeG g2 vs) fun g3 => wt (fun _ _ => False) g3 fun k g4 =>
    br k (we (fun _ _ => False) g4 fun o g5 => I (i + 1) (acc ++ [o.d]) (unwipe g2 g5 vs)) (I (i + 1) acc (unwipe g2 g4 vs))) ∧
  ∀ acc g2, acc.length ≤ ds.length → I ds.length acc g2 → ∀ p, P (.lst p (acc.map .pur)) g2
end
end G
/-! G: list comprehensions. -/
namespace G
open PySem L2
open Evl (Ex)

def Sames (ts : List Nat) (σ σ' : L2.St) : Prop := σ'.length = σ.length ∧ ∀ i : Nat, i ∉ ts → σ'[i]? = σ[i]?
theorem Sames.refl (ts : List Nat) (σ : L2.St) : Sames ts σ σ := ⟨rfl, fun _ _ => rfl⟩
theorem Sames.trans {ts : List Nat} {σ σ' σ'' : L2.St} (a : Sames ts σ σ') (b : Sames ts σ' σ'') : Sames ts σ σ'' := ⟨b.1.trans a.1, fun i n => (b.2 i n).trans (a.2 i n)⟩
theorem Sames.mono {ts us : List Nat} {σ σ' : L2.St} (a : Sames ts σ σ') (h : ∀ i ∈ ts, i ∈ us) : Sames us σ σ' := ⟨a.1, fun i n => a.2 i fun z => n (h i z)⟩
theorem wipe_get (σ : L2.St) (i : Nat) : ∀ vs : List Nat, (L2.wipe σ vs)[i]? = if i ∈ vs then (if i < σ.length then some none else none) else σ[i]?
  | [] => by simp [L2.wipe]
  | v :: vs => by
    unfold L2.wipe
    by_cases hi : v = i
    · subst hi
      simp only [List.mem_cons, true_or, if_true]
      by_cases hl : v < σ.length
      · rw [List.getElem?_set_self (by rw [wipe_length]; exact hl), if_pos hl]
      · rw [List.getElem?_eq_none (by rw [List.length_set, wipe_length]; omega), if_neg hl]
    · rw [List.getElem?_set_ne hi, wipe_get σ i vs]
      have : (i ∈ v :: vs) ↔ i ∈ vs := by simp only [List.mem_cons]; exact ⟨fun z => z.elim (fun e => absurd e.symm hi) id, .inr⟩
      simp only [this]
theorem wipe_sames {σ σ' : L2.St} {vs : List Nat} (a : Sames vs (L2.wipe σ vs) σ') : L2.wipe σ' vs = L2.wipe σ vs := by
  have l : σ'.length = σ.length := by rw [a.1, wipe_length]
  apply List.ext_getElem?
  intro i
  rw [wipe_get, wipe_get, l]
  by_cases h : i ∈ vs
  · rw [if_pos h, if_pos h]
  · rw [if_neg h, if_neg h, a.2 i h, wipe_get, if_neg h]
/-- a target within a block: the slots that it stores -/
structure GB (X : Cx) (tg : Expr) (ts : List Nat) (t : TG) (w : WG) : Prop where
  pe : PG X tg t
  se : ∀ b h σ g d v P Q, Hold X.K b h σ g → den X.K b d v → w d g P → (∀ σ' b' h' g', Hold X.K b' h' σ' g' → Frm g b h g' b' h' → Sames ts σ σ' → P g' → Q σ' h') → t v σ h Q
structure GBs (X : Cx) (tgs : List Expr) (ts : List Nat) (t : TGs) (w : WGs) : Prop where
  pe : PGs X tgs t
  se : ∀ b h σ g ds vs P Q, Hold X.K b h σ g → denL X.K b ds vs → w ds g P → (∀ σ' b' h' g', Hold X.K b' h' σ' g' → Frm g b h g' b' h' → Sames ts σ σ' → P g' → Q σ' h') → t vs σ h Q
section
variable {X : Cx} {W : WX}
theorem gb_name {i : Nat} {x : Str} {pos : Pos} (hN : X.N.Nodup) (hi : X.N[i]? = some x := by rfl) (hx : Loc X.env.scope x := by first | exact Or.inl rfl | exact Or.inr rfl)
    (hf : X.fn x = true ∨ X.env.scope.names.lookup x = some .local := by first | exact .inl rfl | exact .inr rfl) : GB X (.Name x pos) [i] (gName i) (wName i) := by
  refine ⟨pg_name hN hi hx hf, fun b h σ g d v P Q k z hw c => ?_⟩
  obtain ⟨k1, f1⟩ := (Res.same k.sub z).lift k
  obtain ⟨k2, s2⟩ := k1.put i
  exact c _ b h _ k2 (f1.sub s2) ⟨by simp, fun j n => by rw [List.getElem?_set_ne (fun e => n (by simp [e]))]⟩ hw
theorem gbs_nil : GBs X [] [] gNil wGNil := by
  refine ⟨pgs_nil, fun b h σ g ds vs P Q k z hw c => ?_⟩
  cases ds with
  | nil => exact ⟨z, c σ b h g k (Frm.refl g b h) (Sames.refl _ σ) hw⟩
  | cons _ _ => exact hw.elim
theorem gbs_cons {t : Expr} {ts : List Expr} {ns ms : List Nat} {t1 : TG} {t2 : TGs} {w1 : WG} {w2 : WGs} (h1 : GB X t ns t1 w1) (h2 : GBs X ts ms t2 w2) (hs : (assignEach (t :: ts) X.env).map (·.2) = assign t X.env :: (assignEach ts X.env).map (·.2) := by rfl) : GBs X (t :: ts) (ns ++ ms) (gCons t1 t2) (wGCons w1 w2) := by
  obtain ⟨p1, q1⟩ := h1
  obtain ⟨p2, q2⟩ := h2
  refine ⟨pgs_cons p1 p2 hs, fun b h σ g ds vs P Q k z hw c => ?_⟩
  cases ds with
  | nil => exact hw.elim
  | cons d ds =>
    obtain ⟨v, r, e, z1, z2⟩ := z
    refine ⟨v, r, e, q1 b h σ g d v _ _ k z1 hw fun σ' b' h' g' k' f' s' p' => ?_⟩
    exact q2 b' h' σ' g' ds r P Q k' (denL_mono f'.bs _ _ z2) p' fun σ2 b2 h2 g2 k2 f2 s2 p2 => c σ2 b2 h2 g2 k2 (f'.trans f2) ((s'.mono fun i z => List.mem_append_left _ z).trans (s2.mono fun i z => List.mem_append_right _ z)) p2
theorem gb_tup {es : List Expr} {ts : List Nat} {k : Nat} {t : TGs} {w : WGs} {n : Nat} {pos : Pos} (hc : X.calm = true) (h : GBs X es ts t w) (hn0 : es.length = n := by rfl) (hn : (assignEach es X.env).length = n := by rfl) (hst : (assignEach es X.env).findIdx? (·.1) = none := by rfl) {K : PySem.W.Frag} (hK : X.K = K := by exact rfl) :
    GB X (.Tuple es k pos) ts (gTup K n t) (wTupG n w) := by
  subst hK
  obtain ⟨p, q⟩ := h
  refine ⟨pg_tup hc p hn hst, fun b h σ g d v P Q k z hw c => ?_⟩
  cases d with
  | tup ds =>
    obtain ⟨a, vs, e, s1, s2⟩ := z
    obtain ⟨hl, hw⟩ := hw
    exact ⟨a, vs, e, Evl.ex_t k.sub s1, by rw [← denL_len s2]; exact hl, q b h σ g ds vs P Q k s2 hw c⟩
  | _ => exact hw.elim
theorem GB.gg {tg : Expr} {ts : List Nat} {t : TG} {w : WG} (h : GB X tg ts t w) : GG X tg t w := ⟨h.pe, fun b h1 σ g d v P Q k z hw c => h.se b h1 σ g d v P Q k z hw fun σ' b' h' g' k' f' _ p => c σ' b' h' g' k' f' p⟩
abbrev W0 : WX := fun _ _ _ _ => False
theorem contX0 {K : PySem.W.Frag} {g : Gam} {b h : Hp} {W : WX} : ContX K g b h (fun _ _ => False) W := fun _ _ _ _ _ _ _ _ _ _ q => q.elim
/-- what a comprehension's list is while it grows: at p, none of the slots' -/
theorem Hold.aside {K : PySem.W.Frag} {b h : Hp} {σ : L2.St} {g : Gam} {p : Addr} {o : HO} (k : Hold K b h σ g) (np : ¬ inF g p) (nb : b p = none) : Hold K b (upd h p o) σ g := by
  refine ⟨fun a u e => ?_, k.len, fun i u e => ?_, k.nd, k.dj, k.nb⟩
  · rw [upd_ne (ne_of_none e nb)]; exact k.sub a u e
  · obtain ⟨v, ev, z⟩ := k.sl i u e
    exact ⟨v, ev, own_keep (Ex.refl b) u v z fun a m => upd_ne fun e2 => np ⟨i, u, e, e2 ▸ m⟩⟩
theorem lc_se {K : PySem.W.Frag} {ti : TI} {tg : TG} {tt : TT} {te : TE} {wi : WI} {wg : WG} {wt : WT} {we : WE} {vs ts : List Nat}
    (qi : ∀ b h σ g We P Q, Hold K b h σ g → wi We g P → ContX K g b h We W → (∀ J b' h' g' ds, Hold K b' h' σ g' → Frm g b h g' b' h' → Yields K b' h' J ds → P ds g' → Q J h') → ti σ h Q)
    (qg : ∀ b h σ g d v P Q, Hold K b h σ g → den K b d v → wg d g P → (∀ σ' b' h' g', Hold K b' h' σ' g' → Frm g b h g' b' h' → Sames ts σ σ' → P g' → Q σ' h') → tg v σ h Q)
    (qt : ∀ b h σ g We P Q, Hold K b h σ g → wt We g P → ContX K g b h We W0 → ContT K g b h σ P Q → tt σ h Q)
    (qe : ∀ b h σ g We P Q, Hold K b h σ g → we We g P → ContX K g b h We W0 → Cont K g b h σ P Q → te σ h Q) (hts : ∀ i ∈ ts, i ∈ vs) :
    ∀ b h σ g We P Q, Hold K b h σ g → wLc wi wg wt we vs We g P → ContX K g b h We W → Cont K g b h σ P Q → tLc ti tg tt te vs σ h Q := by
  intro b h σ g We P Q k hw hx ct
  unfold wLc at hw
  refine qi b h σ g We _ _ k hw hx fun J b1 h1 g1 ds k1 f1 y ⟨I, i0, hstep, hend⟩ => fun p hp => ?_
  have nbp : b1 p = none := Evl.fresh_back k1.sub hp
  have npg : ¬ inF g1 p := fun z => by obtain ⟨u, e⟩ := k1.inF_there z; rw [hp] at e; cases e
  -- what stands between the turns
  refine ⟨fun i m h' => m = ds.length - i ∧ i ≤ ds.length ∧ ∃ acc us b' g', acc.length ≤ i ∧ h' p = some (.lst us) ∧ denL K b' acc us ∧ b' p = none ∧ ¬ inF g' p ∧ Hold K b' h' σ g' ∧ Frm g1 b1 h1 g' b' h' ∧ I i acc g',
    ⟨ds.length, by simp, Nat.zero_le _, [], [], b1, g1, Nat.le_refl _, upd_same, rfl, nbp, npg, k1.aside npg nbp, ⟨Ex.refl b1, fun a u e _ => by rw [upd_ne (ne_of_none e hp)]; exact e, fun a u e1 e2 _ => e2, fun a z => .inl z⟩, i0⟩, ?_⟩
  rintro i m h' ⟨rfl, hi, acc, us, b', g', hl, hpp, zu, nb', ng', k', f', pI⟩
  have yy := y b' h' f'.bs k'.sub (fun a o e1 e2 => f'.keep a o e1 fun z => by rw [k1.inF_nb z] at e2; cases e2) i
  by_cases hlt : i < ds.length
  · refine .inr ⟨(yy.2 ds[i] (by simp [hlt])).1, fun h4 => i + 1 ≤ ds.length ∧ ∃ acc us b' g', acc.length ≤ i + 1 ∧ h4 p = some (.lst us) ∧ denL K b' acc us ∧ b' p = none ∧ ¬ inF g' p ∧ Hold K b' h4 σ g' ∧ Frm g1 b1 h1 g' b' h4 ∧ I (i + 1) acc g',
      fun h4 z => ⟨ds.length - (i + 1), by omega, rfl, z.1, z.2⟩, fun x h2 yl => ?_⟩
    obtain ⟨b2, e1, e2, e3, n, z⟩ := (yy.2 ds[i] (by simp [hlt])).2 x h2 yl
    obtain ⟨k2, f2⟩ := k'.wide e1 e2 e3 n
    have p2 : h2 p = some (.lst us) := e2 p _ hpp
    have nb2 : b2 p = none := f2.nb p _ hpp nb' ng'
    obtain ⟨kw, sw⟩ := k2.wipe vs
    have fw : Frm g' b' h' (wipeG g' vs) b2 h2 := f2.sub sw
    obtain ⟨hsz, st⟩ := hstep i ds[i] acc g' (by simp [hlt]) hl pI
    refine qg b2 h2 (L2.wipe σ vs) (wipeG g' vs) ds[i] x _ _ kw z st fun σ3 b3 h3 g3 k3 f3 s3 st3 => ?_
    have ew : L2.wipe σ3 vs = L2.wipe σ vs := wipe_sames (s3.mono hts)
    refine ⟨ew, ?_⟩
    have ngw : ¬ inF (wipeG g' vs) p := fun z => ng' (sw p z)
    have p3 : h3 p = some (.lst us) := f3.keep p _ p2 ngw
    have nb3 : b3 p = none := f3.nb p _ p2 nb2 ngw
    have ng3 : ¬ inF g3 p := fun z => (f3.new p z).elim ngw fun z => by rw [p2] at z; cases z
    refine qt b3 h3 σ3 g3 _ _ _ k3 st3 contX0 fun kk b4 h4 g4 k4 f4 st4 => ?_
    have p4 : h4 p = some (.lst us) := f4.keep p _ p3 ng3
    have nb4 : b4 p = none := f4.nb p _ p3 nb3 ng3
    have ng4 : ¬ inF g4 p := fun z => (f4.new p z).elim ng3 fun z => by rw [p3] at z; cases z
    -- from the turn's start to here, the block's slots aside
    have F : ∀ {b5 h5 : Hp} {g5 : Gam}, Frm g4 b4 h4 g5 b5 h5 → Frm g' b2 h2 g5 b5 h5 := fun {b5 h5 g5} f5 => by
      have f6 := (f3.trans f4).trans f5
      refine ⟨f6.bs, fun a u e n => f6.keep a u e fun z => n (sw a z), fun a u e1 e2 n => f6.nb a u e1 e2 fun z => n (sw a z), fun a z => (f6.new a z).elim (fun z => .inl (sw a z)) .inr⟩
    cases kk with
    | false =>
      have ff := F (Frm.refl g4 b4 h4)
      obtain ⟨k5, s5⟩ := k2.unwipe k4 ff.bs vs ew
      exact ⟨hlt, acc, us, b4, _, by omega, p4, denL_mono (f2.trans ff).bs _ _ zu, nb4, fun z => ng4 (s5 p z), k5, (f'.trans (f2.trans ff)).sub s5, br_f.mp st4⟩
    | true =>
      refine qe b4 h4 σ3 g4 _ _ _ k4 (br_t.mp st4) contX0 fun v b5 h5 g5 o k5 f5 st5 => ?_
      obtain ⟨b6, k6, f6, zo⟩ := come k5 f5
      have p6 : h5 p = some (.lst us) := f6.keep p _ p4 ng4
      have nb6 : b6 p = none := f6.nb p _ p4 nb4 ng4
      have ng6 : ¬ inF g5 p := fun z => (f6.new p z).elim ng4 fun z => by rw [p4] at z; cases z
      have ff := F f6
      obtain ⟨k7, s7⟩ := k2.unwipe k6 ff.bs vs ew
      have zu6 := denL_mono (f2.trans ff).bs _ _ zu
      have lu : us.length = acc.length := (denL_len zu).symm
      refine ⟨us, p6, by omega, hlt, acc ++ [o.d], us ++ [v], b6, _, by simp; omega, upd_same, ?_, nb6, fun z => ng6 (s7 p z), k7.aside (fun z => ng6 (s7 p z)) nb6, ?_, st5⟩
      · exact denL_app zu6 ⟨v, [], rfl, zo, rfl⟩
      · have f9 := (f'.trans (f2.trans ff)).sub s7
        refine ⟨f9.bs, fun a u e n => ?_, f9.nb, f9.new⟩
        rw [upd_ne (ne_of_none e hp)]
        exact f9.keep a u e n
  · have e : i = ds.length := by omega
    subst e
    refine .inl ⟨yy.1 rfl, ?_⟩
    refine ct (.ref p) b' h' g' (.lst p (acc.map .pur)) (k'.cons ⟨rfl, us, hpp, ownL_pur zu⟩ (by simp [foot, footL_pur]) (fun a m => ?_) fun a m => ?_) ?_ (hend acc g' hl pI p)
    · have : a = p := by simpa [foot, footL_pur] using m
      subst this; exact nb'
    · have : a = p := by simpa [foot, footL_pur] using m
      subst this; exact ng'
    · refine f1.trans ⟨f'.bs, f'.keep, f'.nb, fun a z => ?_⟩
      rcases inF_cons.mp z with ⟨u, e, m⟩ | z
      · cases e
        have : a = p := by simpa [foot, footL_pur] using m
        subst this; exact .inr hp
      · exact f'.new a z
where
  denL_app {K : PySem.W.Frag} {b : Hp} : ∀ {ds es : List D} {vs us : List V}, denL K b ds vs → denL K b es us → denL K b (ds ++ es) (vs ++ us)
  | [], _, _, _, z, q => by have z' : _ = ([] : List V) := z; subst z'; exact q
  | d :: ds, _, _, _, ⟨v, r, e, z, t⟩, q => by subst e; exact ⟨v, r ++ _, rfl, z, denL_app t q⟩
theorem ge_lc {elt tg iter : Expr} {ifs : List Expr} {scope : Scope} {own : List (Str × Nat)} {ts : List Nat} {pos : Pos} {ti : TI} {tg' : TG} {tt : TT} {te : TE} {wi : WI} {wg : WG} {wt : WT} {we : WE} (hc : X.calm = true) (hN : X.N.Nodup) (hi : GI X W tg iter ti wi) (ok : BlkOk X.N X.env.scope scope own)
    (hg : ∀ (s : Shared) (H : Hp) (C : Addr) (cl : List (Str × Addr)) (fp : List Addr), GB (X.blk s H scope (compEnvC scope cl C X.env) fp) tg ts tg' wg)
    (ht : ∀ (s : Shared) (H : Hp) (C : Addr) (cl : List (Str × Addr)) (fp : List Addr), GTs (X.blk s H scope (compEnvC scope cl C X.env) fp) W0 ifs tt wt)
    (he : ∀ (s : Shared) (H : Hp) (C : Addr) (cl : List (Str × Addr)) (fp : List Addr), GE (X.blk s H scope (compEnvC scope cl C X.env) fp) W0 elt te we) (hts : ∀ i ∈ ts, i ∈ own.map (·.2) := by decide) (hs : ∀ x, foldedSetIterable iter X.env x = pure x := by intro _; rfl) :
    GE X W (.ListComp elt [⟨tg, iter, ifs, 0⟩] scope pos) (tLc ti tg' tt te (own.map (·.2))) (wLc wi wg wt we (own.map (·.2))) :=
  ⟨pe_lc hc hN hi.pe ok (fun s H C cl fp => (hg s H C cl fp).pe) (fun s H C cl fp => (ht s H C cl fp).pe) (fun s H C cl fp => (he s H C cl fp).pe) hs,
    lc_se hi.se (hg X.s_0 X.H_0 0 [] []).se (ht X.s_0 X.H_0 0 [] []).se (he X.s_0 X.H_0 0 [] []).se hts⟩
theorem gs_setLc {i : Nat} {y : Str} {py : Pos} {elt tg iter : Expr} {ifs : List Expr} {scope : Scope} {own : List (Str × Nat)} {ts : List Nat} {pos spos : Pos} {ti : TI} {tg' : TG} {tt : TT} {te : TE} {wi : WI} {wg : WG} {wt : WT} {we : WE} (hc : X.calm = true) (hN : X.N.Nodup)
    (hi : GI X W tg iter ti wi) (ok : BlkOk X.N X.env.scope scope own)
    (hg : ∀ (s : Shared) (H : Hp) (C : Addr) (cl : List (Str × Addr)) (fp : List Addr), GB (X.blk s H scope (compEnvC scope cl C X.env) fp) tg ts tg' wg)
    (ht : ∀ (s : Shared) (H : Hp) (C : Addr) (cl : List (Str × Addr)) (fp : List Addr), GTs (X.blk s H scope (compEnvC scope cl C X.env) fp) W0 ifs tt wt)
    (he : ∀ (s : Shared) (H : Hp) (C : Addr) (cl : List (Str × Addr)) (fp : List Addr), GE (X.blk s H scope (compEnvC scope cl C X.env) fp) W0 elt te we)
    (hsw : swapsWith (.ListComp elt [⟨tg, iter, ifs, 0⟩] scope pos) (some (.Name y py)) spos.line X.env = pure true) (hy : X.N[i]? = some y := by rfl) (hyl : X.env.scope.names.lookup y = some .local := by rfl)
    (hts : ∀ i ∈ ts, i ∈ own.map (·.2) := by decide) (hs : ∀ x, foldedSetIterable iter X.env x = pure x := by intro _; rfl) :
    GS X W (.Assign [.Name y py] (.ListComp elt [⟨tg, iter, ifs, 0⟩] scope pos) spos) (wSet i (wLc wi wg wt we (own.map (·.2)))) := by
  refine ⟨tAsg (tLc ti tg' tt te (own.map (·.2))) (gName i), ps_setLc hc hN hy hyl hsw hi.pe ok (fun s H C cl fp => (hg s H C cl fp).pe) (fun s H C cl fp => (ht s H C cl fp).pe) (fun s H C cl fp => (he s H C cl fp).pe) hs, fun b h σ g We E D k hw hx ct => ?_⟩
  refine lc_se hi.se (hg X.s_0 X.H_0 0 [] []).se (ht X.s_0 X.H_0 0 [] []).se (he X.s_0 X.H_0 0 [] []).se hts b h σ g We _ _ k hw hx fun v b' h' g' o k' f' p' => ?_
  obtain ⟨k2, s2⟩ := k'.put i
  exact ct.nx _ b' h' _ k2 (f'.sub s2) p'
end
end G
/-! G: lists and dicts of the def's own, changed in place. -/
namespace G
open PySem L2
open Evl (Ex)

section
variable {K : PySem.W.Frag} {b h : Hp} {σ : L2.St} {g : Gam} {i : Nat} {o o' : O} {p : Addr} {ob : HO}
/-- the object at the root of a slot is written -/
theorem Hold.upd_root (k : Hold K b h σ g) (e : g[i]? = some (some o)) (r : root o = some p) (r' : root o' = some p) (z : own K b (upd h p ob) o' (.ref p)) (fs : ∀ a ∈ foot o', a ∈ foot o) (nd : (foot o').Nodup) :
    Hold K b (upd h p ob) σ (g.set i (some o')) ∧ Frm g b h (g.set i (some o')) b (upd h p ob) := by
  have hi : i < g.length := (List.getElem?_eq_some_iff.mp e).1
  have pin : p ∈ foot o := by
    cases o with
    | pur d => cases r
    | lst q xs => cases r; exact List.mem_cons_self ..
    | dK q ks xs => cases r; exact List.mem_cons_self ..
    | dT q ks xs => cases r; exact List.mem_cons_self ..
    | ins q dx C fs xs => cases r; exact List.mem_cons_self ..
  have bp : b p = none := k.nb i o e p pin
  obtain ⟨v, ev, zo⟩ := k.sl i o e
  have vp : v = .ref p := own_root zo r
  subst vp
  have old : ∀ (j : Nat) (u : O), (g.set i (some o'))[j]? = some (some u) → (j = i ∧ u = o') ∨ (j ≠ i ∧ g[j]? = some (some u)) := fun j u q => by
    by_cases hj : i = j
    · subst hj; rw [List.getElem?_set_self hi] at q; simp at q; exact .inl ⟨rfl, q.symm⟩
    · rw [List.getElem?_set_ne hj] at q; exact .inr ⟨Ne.symm hj, q⟩
  refine ⟨⟨fun a u q => ?_, by simp [k.len], fun j u q => ?_, fun j u q => ?_, fun j l u w n q1 q2 a m1 m2 => ?_, fun j u q a m => ?_⟩, ⟨Ex.refl b, fun a u q n => ?_, fun _ _ _ q _ => q, fun a ⟨j, u, q, m⟩ => ?_⟩⟩
  · rw [upd_ne (ne_of_none q bp)]; exact k.sub a u q
  · rcases old j u q with ⟨ej, eu⟩ | ⟨nj, q⟩
    · subst ej eu; exact ⟨_, ev, z⟩
    · obtain ⟨w, ew, zw⟩ := k.sl j u q
      exact ⟨w, ew, own_keep (Ex.refl b) u w zw fun a m => upd_ne fun e2 => k.dj j i u o nj q e a m (by rw [e2]; exact pin)⟩
  · rcases old j u q with ⟨ej, eu⟩ | ⟨nj, q⟩
    · subst eu; exact nd
    · exact k.nd j u q
  · rcases old j u q1 with ⟨ej, eu⟩ | ⟨nj, r1⟩
    · subst eu
      rcases old l w q2 with ⟨el, ew⟩ | ⟨nl, r2⟩
      · exact n (ej.trans el.symm)
      · exact k.dj i l o w (Ne.symm nl) e r2 a (fs a m1) m2
    · rcases old l w q2 with ⟨el, ew⟩ | ⟨nl, r2⟩
      · subst ew
        exact k.dj i j o u (Ne.symm nj) e r1 a (fs a m2) m1
      · exact k.dj j l u w n r1 r2 a m1 m2
  · rcases old j u q with ⟨ej, eu⟩ | ⟨nj, q⟩
    · subst eu; exact k.nb i o e a (fs a m)
    · exact k.nb j u q a m
  · rw [upd_ne fun e2 => n ⟨i, o, e, by rw [e2]; exact pin⟩]; exact q
  · rcases old j u q with ⟨ej, eu⟩ | ⟨nj, q⟩
    · subst eu; exact .inl ⟨i, o, e, fs a m⟩
    · exact .inl ⟨j, u, q, m⟩
theorem ownL_len : ∀ {os : List O} {vs : List V}, ownL K b h os vs → os.length = vs.length
  | [], _, z => by have z' : _ = ([] : List V) := z; subst z'; rfl
  | o :: os, _, ⟨v, r, e, _, t⟩ => by subst e; simp [ownL_len t]
theorem ownL_app : ∀ {os us : List O} {vs ws : List V}, ownL K b h os vs → ownL K b h us ws → ownL K b h (os ++ us) (vs ++ ws)
  | [], _, _, _, z, q => by have z' : _ = ([] : List V) := z; subst z'; exact q
  | o :: os, _, _, _, ⟨v, r, e, z, t⟩, q => by subst e; exact ⟨v, r ++ _, rfl, z, ownL_app t q⟩
theorem ownL_at : ∀ {os : List O} {vs : List V} {j : Nat} {o : O}, ownL K b h os vs → os[j]? = some o → ∃ v, vs[j]? = some v ∧ own K b h o v
  | [], _, _, _, _, e => by simp at e
  | c :: os, _, 0, o, ⟨v, r, e1, z, t⟩, e => by
    subst e1
    have e' : c = o := by simpa using e
    subst e'
    exact ⟨v, rfl, z⟩
  | c :: os, _, j + 1, o, ⟨v, r, e1, z, t⟩, e => by
    subst e1
    obtain ⟨w, q1, q2⟩ := ownL_at (j := j) t (by simpa using e)
    exact ⟨w, by simpa using q1, q2⟩
theorem ownL_set {o' : O} {v' : V} : ∀ {os : List O} {vs : List V} {j : Nat}, ownL K b h os vs → own K b h o' v' → ownL K b h (os.set j o') (vs.set j v')
  | [], _, _, z, _ => by have z' : _ = ([] : List V) := z; subst z'; exact rfl
  | c :: os, _, 0, ⟨v, r, e1, z, t⟩, q => by subst e1; exact ⟨v', r, rfl, q, t⟩
  | c :: os, _, j + 1, ⟨v, r, e1, z, t⟩, q => by subst e1; exact ⟨v, r.set j v', rfl, z, ownL_set t q⟩
theorem ownL_erase : ∀ {os : List O} {vs : List V} {j : Nat}, ownL K b h os vs → ownL K b h (os.eraseIdx j) (vs.eraseIdx j)
  | [], _, _, z => by have z' : _ = ([] : List V) := z; subst z'; exact rfl
  | c :: os, _, 0, ⟨v, r, e1, z, t⟩ => by subst e1; exact t
  | c :: os, _, j + 1, ⟨v, r, e1, z, t⟩ => by subst e1; exact ⟨v, r.eraseIdx j, rfl, z, ownL_erase t⟩
theorem footL_app : ∀ (os us : List O), footL (os ++ us) = footL os ++ footL us
  | [], _ => rfl
  | o :: os, us => by show foot o ++ footL (os ++ us) = (foot o ++ footL os) ++ footL us; rw [footL_app os us, List.append_assoc]
theorem footL_erase : ∀ (os : List O) (j : Nat), (footL (os.eraseIdx j)).Sublist (footL os)
  | [], _ => List.Sublist.refl _
  | o :: os, 0 => List.sublist_append_right _ _
  | o :: os, j + 1 => (footL_erase os j).append_left (foot o)
theorem footL_set_pur (d : D) : ∀ (os : List O) (j : Nat), (footL (os.set j (.pur d))).Sublist (footL os)
  | [], _ => List.Sublist.refl _
  | o :: os, 0 => by
    show (foot (.pur d) ++ footL os).Sublist _
    exact List.sublist_append_right _ _
  | o :: os, j + 1 => (footL_set_pur d os j).append_left (foot o)
theorem ownL_aside {p : Addr} {ob : HO} {os : List O} {vs : List V} (z : ownL K b h os vs) (n : p ∉ footL os) : ownL K b (upd h p ob) os vs :=
  ownL_keep (Ex.refl b) os vs z fun a m => upd_ne fun e => n (e ▸ m)
end

/-! ### lists -/
def isLst (x : Option (Option O)) : Prop := match x with
  | some (some (.lst _ _)) => True
  | _ => False
section
variable {X : Cx} {W : WX} {e : Expr} {te : TE} {we : WE} {i : Nat} {x : Str}
theorem Hold.lst {K : PySem.W.Frag} {b h : Hp} {σ : L2.St} {g : Gam} {i : Nat} (k : Hold K b h σ g) (q : isLst g[i]?) : ∃ p xs vs, g[i]? = some (some (.lst p xs)) ∧ σ[i]? = some (some (.ref p)) ∧ h p = some (.lst vs) ∧ ownL K b h xs vs := by
  unfold isLst at q
  split at q
  · rename_i p xs e
    obtain ⟨v, ev, ev2, vs, hp, z⟩ := k.sl i _ e
    subst ev2
    exact ⟨p, xs, vs, e, ev, hp, z⟩
  · exact q.elim
theorem tyV_lst {K : PySem.W.Frag} {h : Hp} {p : Addr} {vs : List V} (e : h p = some (.lst vs)) : tyV K "list" (.ref p) h := Or.inl ⟨rfl, _, SqL.of e⟩
/-- x.append(e) -/
def wApp (i : Nat) (we : WE) : WS := fun We E g => isLst g[i]? ∧ we We g fun o g1 => match g1[i]? with
  | some (some (.lst p xs)) => xs.length < sizeLine ∧ E.nx (g1.set i (some (.lst p (xs ++ [.pur o.d]))))
  | _ => False
theorem gs_app {p apos cpos pos : Pos} (he : GE X W e te we) (hN : X.N[i]? = some x := by rfl) (hv : Vis X.env.scope x := by first | exact Or.inl rfl | exact Or.inr (Or.inl rfl) | exact Or.inr (Or.inr rfl))
    (hd : (x == ("__debug__" : Str)) = false := by decide) (hcd : (x == ("__classdict__" : Str)) = false := by decide)
    (hbase : attributeBase (.Name x p) "append" X.env (eval (.Name x p) X.env) = eval (.Name x p) X.env := by rfl)
    (hfew : ((backTo cpos (starEach [e] X.env)).all (fun x => !x.1) && (backToKw cpos (keywordEach [] X.env)).all (fun x => x.1.isSome)
      && decide (([e] : List Expr).length + ([] : List Keyword).length + (if ([] : List Keyword).isEmpty then 0 else 1) < 30)) = true := by rfl)
    (hline : (apos.endLine == cpos.line) = true := by rfl) (hs : starEach [e] X.env = (false, eval e X.env) :: starEach [] X.env := by rfl)
    (hs2 : swapsWith (.Call (.Attribute (.Name x p) "append" apos) [e] [] cpos) none pos.line X.env = pure false := by rfl) :
    GS X W (.Expr (.Call (.Attribute (.Name x p) "append" apos) [e] [] cpos) pos) (wApp i we) := by
  refine ⟨tDrop (tBM X.K "list" rAppend (tVar i) (tCons te tNil)), ps_expr (pe_bm PySem.F.plainAttrs_list PySem.F.slot_list_append PySem.F.type_list_append mt_append (pe_var hN hv hd hcd) (pa_cons he.pe pa_nil hs) hbase hfew hline hs (by rfl)) hs2, fun b h σ g We E D k ⟨hl, hw⟩ hx ct => ?_⟩
  obtain ⟨p0, xs0, vs0, e0, ev0, hp0, _⟩ := k.lst hl
  refine ⟨_, ev0, tyV_lst hp0, he.se b h σ g We _ _ k hw hx fun v b' h' g' o k' f' p' => ?_⟩
  obtain ⟨b2, k2, f2, zo⟩ := come k' f'
  split at p'
  · rename_i p1 xs e1
    obtain ⟨v1, ev1, ev2, vs, hp, z⟩ := k2.sl i _ e1
    rw [ev0] at ev1
    cases ev1
    cases ev2
    have ln := ownL_len z
    refine ⟨p0, vs, v, rfl, rfl, hp, by omega, ?_⟩
    have np : p0 ∉ footL xs := (List.nodup_cons.mp (k2.nd i _ e1)).1
    obtain ⟨k3, f3⟩ := k2.upd_root (o' := .lst p0 (xs ++ [.pur o.d])) (ob := .lst (vs ++ [v])) e1 rfl rfl ⟨rfl, _, upd_same, ownL_app (us := [.pur o.d]) (ws := [v]) (ownL_aside z np) ⟨v, [], rfl, zo, rfl⟩⟩
      (fun a m => by simpa [foot, footL_app, footL] using m) (by have := k2.nd i _ e1; simpa [foot, footL_app, footL] using this)
    exact ct.nx σ b2 _ _ k3 (f2.trans f3) p'.2
  · exact p'.elim
/-- x.pop(e) -/
@[irreducible] def popAt (i : Nat) (o : O) (g1 : Gam) (P : O → Gam → Prop) : Prop := match g1[i]?, o.d with
  | some (some (.lst p xs)), .int j => -(2 ^ 63) ≤ j ∧ j < 2 ^ 63 ∧ (match seqIndex? j xs.length with
    | some n => (match xs[n]? with
      | some (.pur d) => P (.pur d) (g1.set i (some (.lst p (xs.eraseIdx n))))
      | _ => False)
    | none => False)
  | _, _ => False
def wPopAt (i : Nat) (we : WE) : WE := fun We g P => isLst g[i]? ∧ we We g fun o g1 => popAt i o g1 P
theorem ge_popAt {p apos cpos : Pos} (he : GE X W e te we) (hN : X.N[i]? = some x := by rfl) (hv : Vis X.env.scope x := by first | exact Or.inl rfl | exact Or.inr (Or.inl rfl) | exact Or.inr (Or.inr rfl))
    (hd : (x == ("__debug__" : Str)) = false := by decide) (hcd : (x == ("__classdict__" : Str)) = false := by decide)
    (hbase : attributeBase (.Name x p) "pop" X.env (eval (.Name x p) X.env) = eval (.Name x p) X.env := by rfl)
    (hfew : ((backTo cpos (starEach [e] X.env)).all (fun x => !x.1) && (backToKw cpos (keywordEach [] X.env)).all (fun x => x.1.isSome)
      && decide (([e] : List Expr).length + ([] : List Keyword).length + (if ([] : List Keyword).isEmpty then 0 else 1) < 30)) = true := by rfl)
    (hline : (apos.endLine == cpos.line) = true := by rfl) (hs : starEach [e] X.env = (false, eval e X.env) :: starEach [] X.env := by rfl) {K : PySem.W.Frag} (hK : X.K = K := by exact rfl) :
    GE X W (.Call (.Attribute (.Name x p) "pop" apos) [e] [] cpos) (tBM K "list" rPopAt (tVar i) (tCons te tNil)) (wPopAt i we) := by
  subst hK
  refine ⟨pe_bm PySem.F.plainAttrs_list PySem.F.slot_list_pop PySem.F.type_list_pop mt_popAt (pe_var hN hv hd hcd) (pa_cons he.pe pa_nil hs) hbase hfew hline hs (by rfl), fun b h σ g We P Q k ⟨hl, hw⟩ hx ct => ?_⟩
  obtain ⟨p0, xs0, vs0, e0, ev0, hp0, _⟩ := k.lst hl
  refine ⟨_, ev0, tyV_lst hp0, he.se b h σ g We _ _ k hw hx fun v b' h' g' o k' f' p' => ?_⟩
  unfold popAt at p'
  obtain ⟨b2, k2, f2, zo⟩ := come k' f'
  split at p'
  · rename_i p1 xs j e1 e2
    rw [e2] at zo
    have ev : v = .int j := zo
    subst ev
    obtain ⟨v1, ev1, ev2, vs, hp, z⟩ := k2.sl i _ e1
    rw [ev0] at ev1
    cases ev1
    cases ev2
    have ln := ownL_len z
    obtain ⟨q1, q2, p'⟩ := p'
    split at p'
    · rename_i n en
      split at p'
      · rename_i d ed
        obtain ⟨w, ew, zw⟩ := ownL_at z ed
        refine ⟨p0, vs, j, n, w, rfl, rfl, hp, q1, q2, by rw [← ln]; exact en, ew, ?_⟩
        have np : p0 ∉ footL xs := (List.nodup_cons.mp (k2.nd i _ e1)).1
        have sl := footL_erase xs n
        obtain ⟨k3, f3⟩ := k2.upd_root (o' := .lst p0 (xs.eraseIdx n)) (ob := .lst (vs.eraseIdx n)) e1 rfl rfl ⟨rfl, _, upd_same, ownL_aside (ownL_erase z) fun m => np (sl.subset m)⟩
          (fun a m => (List.mem_cons.mp m).elim (fun e => by rw [e]; exact List.mem_cons_self ..) fun m => List.mem_cons_of_mem _ (sl.subset m)) ((sl.cons_cons p0).nodup (k2.nd i _ e1))
        exact fin k3 (f2.trans f3) (Res.same k3.sub zw) ct p'
      · exact p'.elim
    · exact p'.elim
  · exact p'.elim
/-- x[e] of an own list -/
@[irreducible] def ixAt (i : Nat) (o : O) (g1 : Gam) (P : O → Gam → Prop) : Prop := match g1[i]?, o.d with
  | some (some (.lst _ xs)), .int j => (match atI xs j with
    | some (.pur d) => P (.pur d) g1
    | _ => False)
  | _, _ => False
def wIxO (i : Nat) (we : WE) : WE := fun We g P => isLst g[i]? ∧ we We g fun o g1 => ixAt i o g1 P
theorem ownL_atI {K : PySem.W.Frag} {b h : Hp} {os : List O} {vs : List V} {j : Int} {o : O} (t : ownL K b h os vs) (e : atI os j = some o) : ∃ v, atI vs j = some v ∧ own K b h o v := by
  unfold atI at e ⊢
  rw [← ownL_len t]
  cases q : ixN os.length j with
  | none => rw [q] at e; cases e
  | some n =>
    rw [q] at e
    exact ownL_at t e
theorem ge_ixO {p pos : Pos} (he : GE X W e te we) (hN : X.N[i]? = some x := by rfl) (hv : Vis X.env.scope x := by first | exact Or.inl rfl | exact Or.inr (Or.inl rfl) | exact Or.inr (Or.inr rfl))
    (hd : (x == ("__debug__" : Str)) = false := by decide) (hcd : (x == ("__classdict__" : Str)) = false := by decide) (hs : PlainIx e := by intro _ _; rfl) {K : PySem.W.Frag} (hK : X.K = K := by exact rfl) : GE X W (.Subscript (.Name x p) e pos) (tOp (rIxL K) (tVar i) te) (wIxO i we) := by
  subst hK
  refine ⟨pe_ix ix_list (pe_var hN hv hd hcd) he.pe hs, fun b h σ g We P Q k ⟨hl, hw⟩ hx ct => ?_⟩
  obtain ⟨p0, xs0, vs0, e0, ev0, hp0, _⟩ := k.lst hl
  refine ⟨_, ev0, he.se b h σ g We _ _ k hw hx fun v b' h' g' o k' f' p' => ?_⟩
  unfold ixAt at p'
  obtain ⟨b2, k2, f2, zo⟩ := come k' f'
  split at p'
  · rename_i p1 xs j e1 e2
    rw [e2] at zo
    have ev : v = .int j := zo
    subst ev
    obtain ⟨v1, ev1, ev2, vs, hp, z⟩ := k2.sl i _ e1
    rw [ev0] at ev1
    cases ev1
    cases ev2
    split at p'
    · rename_i d ed
      obtain ⟨w, ew, zw⟩ := ownL_atI z ed
      exact ⟨p0, vs, j, w, rfl, rfl, SqL.of hp, ew, fin k2 f2 (Res.same k2.sub zw) ct p'⟩
    · exact p'.elim
  · exact p'.elim
/-- x[e] = v -/
@[irreducible] def setAt (i : Nat) (u o : O) (g2 : Gam) (E : GEnds) : Prop := match g2[i]?, o.d with
  | some (some (.lst p xs)), .int j => (match ixN xs.length j with
    | some n => E.nx (g2.set i (some (.lst p (xs.set n (.pur u.d)))))
    | none => False)
  | _, _ => False
def wSetO (i : Nat) (wv we : WE) : WS := fun We E g => wv We g fun u g1 => isLst g1[i]? ∧ we We g1 fun o g2 => setAt i u o g2 E
theorem gs_setO {value : Expr} {tv : TE} {wv : WE} {p ps pos : Pos} (hv' : GE X W value tv wv) (he : GE X W e te we) (hN : X.N[i]? = some x := by rfl) (hv : Vis X.env.scope x := by first | exact Or.inl rfl | exact Or.inr (Or.inl rfl) | exact Or.inr (Or.inr rfl))
    (hd : (x == ("__debug__" : Str)) = false := by decide) (hcd : (x == ("__classdict__" : Str)) = false := by decide)
    (ha : ∀ v, assign (.Subscript (.Name x p) e ps) X.env v = (do
      let ov ← holding [v] (eval (.Name x p) X.env)
      let iv ← holding [v, ov] (eval e X.env)
      standAt ps
      holding [v, ov, iv] (setItem ov iv v)
      release [v, ov, iv] []) := by intro _; rfl)
    (hs : swapsWithSole [.Subscript (.Name x p) e ps] value pos.line X.env = pure false := by rfl) (hw : swappedStores [.Subscript (.Name x p) e ps] value X.env = pure none := by rfl)
    (h1 : (assignEach [.Subscript (.Name x p) e ps] X.env).map (·.2) = [assign (.Subscript (.Name x p) e ps) X.env] := by rfl) : GS X W (.Assign [.Subscript (.Name x p) e ps] value pos) (wSetO i wv we) := by
  refine ⟨tAsg tv (gSub (tVar i) te rSetL), ps_asg hv'.pe (pg_sub (pe_var hN hv hd hcd) he.pe set_list ha) hs hw h1, fun b h σ g We E D k hw hx ct => ?_⟩
  refine hv'.se b h σ g We _ _ k hw hx fun v b1 h1 g1 u k1 f1 ⟨hl, p1⟩ => ?_
  obtain ⟨b1', k1', f1', zu⟩ := come k1 f1
  obtain ⟨p0, xs0, vs0, e0, ev0, hp0, _⟩ := k1'.lst hl
  refine ⟨_, ev0, he.se b1' h1 σ g1 We _ _ k1' p1 (hx.step f1') fun v2 b2 h2 g2 o k2 f2 p' => ?_⟩
  unfold setAt at p'
  obtain ⟨b3, k3, f3, zo⟩ := come k2 f2
  split at p'
  · rename_i p1 xs j e1 e2
    rw [e2] at zo
    have ev : v2 = .int j := zo
    subst ev
    obtain ⟨v1, ev1, ev2, vs, hp, z⟩ := k3.sl i _ e1
    rw [ev0] at ev1
    cases ev1
    cases ev2
    have ln := ownL_len z
    split at p'
    · rename_i n en
      refine ⟨p0, vs, j, n, rfl, rfl, hp, by rw [← ln]; exact en, ?_⟩
      have np : p0 ∉ footL xs := (List.nodup_cons.mp (k3.nd i _ e1)).1
      have sl := footL_set_pur u.d xs n
      obtain ⟨k4, f4⟩ := k3.upd_root (o' := .lst p0 (xs.set n (.pur u.d))) (ob := .lst (vs.set n v)) e1 rfl rfl ⟨rfl, _, upd_same, ownL_set (ownL_aside z np) (den_mono f3.bs _ _ zu)⟩
        (fun a m => (List.mem_cons.mp m).elim (fun e => by rw [e]; exact List.mem_cons_self ..) fun m => List.mem_cons_of_mem _ (sl.subset m)) ((sl.cons_cons p0).nodup (k3.nd i _ e1))
      exact ct.nx σ b3 _ _ k4 (f1'.trans (f3.trans f4)) p'
    · exact p'.elim
  · exact p'.elim
end

/-! ### dicts by keys that are ints and texts -/
def D.key : D → Option Key
  | .int i => some (.inl i)
  | .str x => some (.inr x)
  | _ => none
theorem key_ok {K : PySem.W.Frag} {b : Hp} {d : D} {v : V} {k : Key} (z : den K b d v) (e : d.key = some k) : v = kV k := by
  cases d with
  | int i => cases e; exact z
  | str x => cases e; exact z
  | _ => cases e
section
variable {κ : Type} [DecidableEq κ]
/-- the place of a key -/
def findK : List κ → κ → Option Nat
  | [], _ => none
  | x :: ks, k => if x = k then some 0 else (findK ks k).map (· + 1)
theorem findK_cons (x : κ) (ks : List κ) (k : κ) : findK (x :: ks) k = if x = k then some 0 else (findK ks k).map (· + 1) := rfl
theorem valV_zip {k : κ} : ∀ {ks : List κ} {vs : List V}, ks.length = vs.length → valV (ks.zip vs) k = (findK ks k).bind fun j => vs[j]?
  | [], [], _ => rfl
  | x :: ks, v :: vs, h => by
    rw [List.zip_cons_cons]
    by_cases e : x = k
    · rw [valV_pos (show (x, v).1 = k from e)]
      rw [findK_cons, if_pos e]
      rfl
    · rw [valV_neg (show ¬ (x, v).1 = k from e), valV_zip (by simpa using h)]
      rw [findK_cons, if_neg e]
      cases findK ks k with
      | none => rfl
      | some j => simp
theorem findK_lt {k : κ} : ∀ {ks : List κ} {j : Nat}, findK ks k = some j → j < ks.length ∧ ks[j]? = some k
  | [], _, e => by cases e
  | x :: ks, j, e => by
    rw [findK_cons] at e
    split at e
    · rename_i h
      cases e
      exact ⟨by simp, by simp [h]⟩
    · cases q : findK ks k with
      | none => rw [q] at e; cases e
      | some n =>
        rw [q] at e
        cases e
        have := findK_lt q
        exact ⟨by simp; exact this.1, by simpa using this.2⟩
theorem findK_none {k : κ} : ∀ {ks : List κ}, findK ks k = none → k ∉ ks
  | [], _ => by simp
  | x :: ks, e => by
    rw [findK_cons] at e
    split at e
    · cases e
    · rename_i h
      have : findK ks k = none := by simpa using e
      simp only [List.mem_cons, not_or]
      exact ⟨fun q => h q.symm, findK_none this⟩
theorem any_zip {k : κ} : ∀ {ks : List κ} {vs : List V}, ks.length = vs.length → ((ks.zip vs).any fun kv => decide (kv.1 = k)) = (findK ks k).isSome
  | [], [], _ => rfl
  | x :: ks, v :: vs, h => by
    rw [List.zip_cons_cons, List.any_cons, any_zip (by simpa using h)]
    rw [findK_cons]
    by_cases e : x = k
    · simp [e]
    · simp [e]
theorem putK_old {k : κ} {v : V} : ∀ {ks : List κ} {vs : List V} {j : Nat}, ks.Nodup → ks.length = vs.length → findK ks k = some j → (ks.zip vs).map (fun kv => if kv.1 = k then (kv.1, v) else kv) = ks.zip (vs.set j v)
  | [], _, _, _, _, e => by cases e
  | x :: ks, [], _, _, h, _ => by simp at h
  | x :: ks, w :: vs, j, nd, h, e => by
    obtain ⟨n1, n2⟩ := List.nodup_cons.mp nd
    rw [List.zip_cons_cons, List.map_cons]
    rw [findK_cons] at e
    split at e
    · rename_i q
      cases e
      subst q
      rw [if_pos rfl]
      have : (ks.zip vs).map (fun kv => if kv.1 = x then (kv.1, v) else kv) = ks.zip vs := by
        refine (List.map_congr_left fun p hp => ?_).trans (List.map_id _)
        have : p.1 ∈ ks := (List.of_mem_zip (a := p.1) (b := p.2) hp).1
        rw [if_neg fun (e : p.1 = x) => n1 (by rw [← e]; exact this)]
        rfl
      rw [this]
      rfl
    · rename_i q
      rw [if_neg q]
      cases r : findK ks k with
      | none => rw [r] at e; cases e
      | some n =>
        rw [r] at e
        cases e
        rw [putK_old n2 (by simpa using h) r]
        rfl
theorem putK_zip {k : κ} {v : V} {ks : List κ} {vs : List V} {j : Nat} (nd : ks.Nodup) (h : ks.length = vs.length) (e : findK ks k = some j) : putK (ks.zip vs) k v = ks.zip (vs.set j v) := by
  unfold putK
  rw [any_zip h, e]
  exact putK_old nd h e
theorem putK_zipN {k : κ} {v : V} {ks : List κ} {vs : List V} (h : ks.length = vs.length) (e : findK ks k = none) : putK (ks.zip vs) k v = (ks ++ [k]).zip (vs ++ [v]) := by
  unfold putK
  rw [any_zip h, e, List.zip_append h]
  rfl
end
def isDK (x : Option (Option O)) : Prop := match x with
  | some (some (.dK _ _ _)) => True
  | _ => False
section
variable {X : Cx} {W : WX} {e : Expr} {te : TE} {we : WE} {i : Nat} {x : Str}
theorem Hold.dk {K : PySem.W.Frag} {b h : Hp} {σ : L2.St} {g : Gam} {i : Nat} (k : Hold K b h σ g) (q : isDK g[i]?) : ∃ p ks xs vs, g[i]? = some (some (.dK p ks xs)) ∧ σ[i]? = some (some (.ref p)) ∧ h p = some (.dK (ks.zip vs)) ∧ ks.length = vs.length ∧ ownL K b h xs vs := by
  unfold isDK at q
  split at q
  · rename_i p ks xs e
    obtain ⟨v, ev, ev2, vs, hp, hl, z⟩ := k.sl i _ e
    subst ev2
    exact ⟨p, ks, xs, vs, e, ev, hp, hl, z⟩
  · exact q.elim
/-- d[k] of an own dict -/
@[irreducible] def wDGetO (i : Nat) (we : WE) : WE := fun We g P => isDK g[i]? ∧ we We g fun o g1 => match g1[i]?, o.d.key with
  | some (some (.dK _ ks xs)), some k => (match findK ks k with
    | some j => (match xs[j]? with
      | some (.pur d) => P (.pur d) g1
      | _ => False)
    | none => False)
  | _, _ => False
theorem ge_dgetO {p pos : Pos} (hu : X.A.units + 1 < cLine) (he : GE X W e te we) (hN : X.N[i]? = some x := by rfl) (hv : Vis X.env.scope x := by first | exact Or.inl rfl | exact Or.inr (Or.inl rfl) | exact Or.inr (Or.inr rfl))
    (hd : (x == ("__debug__" : Str)) = false := by decide) (hcd : (x == ("__classdict__" : Str)) = false := by decide) (hs : NoSl e := by intro _ _; rfl) : GE X W (.Subscript (.Name x p) e pos) (tDGet (tVar i) te) (wDGetO i we) := by
  refine ⟨pe_dget hu (pe_var hN hv hd hcd) he.pe hs, fun b h σ g We P Q k hw hx ct => ?_⟩
  unfold wDGetO at hw
  obtain ⟨hl, hw⟩ := hw
  obtain ⟨p0, ks0, xs0, vs0, e0, ev0, hp0, _⟩ := k.dk hl
  refine ⟨_, ev0, he.se b h σ g We _ _ k hw hx fun v b' h' g' o k' f' p' => ?_⟩
  obtain ⟨b2, k2, f2, zo⟩ := come k' f'
  split at p'
  · rename_i p1 ks xs kk e1 e2
    have ev := key_ok zo e2
    subst ev
    obtain ⟨v1, ev1, ev2, vs, hp, hlen, z⟩ := k2.sl i _ e1
    rw [ev0] at ev1
    cases ev1
    cases ev2
    split at p'
    · rename_i j ej
      split at p'
      · rename_i d ed
        obtain ⟨w, ew, zw⟩ := ownL_at z ed
        refine ⟨p0, w, rfl, ?_, fin k2 f2 (Res.same k2.sub zw) ct p'⟩
        have := DGet.k (k := kk) hp
        rw [valV_zip hlen, ej] at this
        rw [← ew]; exact this
      · exact p'.elim
    · exact p'.elim
  · exact p'.elim
/-- d[k] = v -/
def putO (p : Addr) (ks : List Key) (xs : List O) (k : Key) (d : D) : O := match findK ks k with
  | some j => .dK p ks (xs.set j (.pur d))
  | none => .dK p (ks ++ [k]) (xs ++ [.pur d])
@[irreducible] def dput (i : Nat) (we : WE) (We : Wsh) (E : GEnds) (u : O) (g1 : Gam) : Prop := isDK g1[i]? ∧ we We g1 fun o g2 => match g2[i]?, o.d.key with
  | some (some (.dK p ks xs)), some k => ks.Nodup ∧ xs.length < sizeLine ∧ E.nx (g2.set i (some (putO p ks xs k u.d)))
  | _, _ => False
def wDPutO (i : Nat) (wv we : WE) : WS := fun We E g => wv We g fun u g1 => dput i we We E u g1
theorem putO_ok {K : PySem.W.Frag} {b h : Hp} {σ : L2.St} {g : Gam} {i : Nat} {p : Addr} {ks : List Key} {xs : List O} {k : Key} {d : D} {v : V} (H : Hold K b h σ g) (e : g[i]? = some (some (.dK p ks xs))) (zd : den K b d v) (nd : ks.Nodup) (hz : xs.length < sizeLine) :
    ∃ h', DPut h p (kV k) v h' ∧ Hold K b h' σ (g.set i (some (putO p ks xs k d))) ∧ Frm g b h (g.set i (some (putO p ks xs k d))) b h' := by
  obtain ⟨v1, ev1, ev2, vs, hp, hlen, z⟩ := H.sl i _ e
  have ln := ownL_len z
  refine ⟨upd h p (.dK (putK (ks.zip vs) k v)), DPut.k hp (by rw [List.length_zip]; omega), ?_⟩
  have np : p ∉ footL xs := (List.nodup_cons.mp (H.nd i _ e)).1
  unfold putO
  cases q : findK ks k with
  | some j =>
    rw [putK_zip nd hlen q]
    have sl := footL_set_pur d xs j
    exact H.upd_root (o' := .dK p ks (xs.set j (.pur d))) e rfl rfl ⟨rfl, vs.set j v, upd_same, by simp [hlen], ownL_set (ownL_aside z np) zd⟩
      (fun a m => (List.mem_cons.mp m).elim (fun e => by rw [e]; exact List.mem_cons_self ..) fun m => List.mem_cons_of_mem _ (sl.subset m)) ((sl.cons_cons p).nodup (H.nd i _ e))
  | none =>
    rw [putK_zipN hlen q]
    exact H.upd_root (o' := .dK p (ks ++ [k]) (xs ++ [.pur d])) e rfl rfl ⟨rfl, vs ++ [v], upd_same, by simp [hlen], ownL_app (us := [.pur d]) (ws := [v]) (ownL_aside z np) ⟨v, [], rfl, zd, rfl⟩⟩
      (fun a m => by simpa [foot, footL_app, footL] using m) (by have := H.nd i _ e; simpa [foot, footL_app, footL] using this)
theorem gs_dputO {value : Expr} {tv : TE} {wv : WE} {p ps pos : Pos} (hu : X.A.units + 1 < cLine) (hv' : GE X W value tv wv) (he : GE X W e te we) (hN : X.N[i]? = some x := by rfl) (hv : Vis X.env.scope x := by first | exact Or.inl rfl | exact Or.inr (Or.inl rfl) | exact Or.inr (Or.inr rfl))
    (hd : (x == ("__debug__" : Str)) = false := by decide) (hcd : (x == ("__classdict__" : Str)) = false := by decide) (hs : swapsWith value (some (.Subscript (.Name x p) e ps)) pos.line X.env = pure false := by rfl) :
    GS X W (.Assign [.Subscript (.Name x p) e ps] value pos) (wDPutO i wv we) := by
  refine ⟨sDPut (tVar i) te tv, ps_dput hu (pe_var hN hv hd hcd) he.pe hv'.pe hs, fun b h σ g We E D k hw hx ct => ?_⟩
  refine hv'.se b h σ g We _ _ k hw hx fun v b1 h1 g1 u k1 f1 p1 => ?_
  unfold dput at p1
  obtain ⟨hl, p1⟩ := p1
  obtain ⟨b1', k1', f1', zu⟩ := come k1 f1
  obtain ⟨p0, ks0, xs0, vs0, e0, ev0, hp0, _⟩ := k1'.dk hl
  refine ⟨_, ev0, he.se b1' h1 σ g1 We _ _ k1' p1 (hx.step f1') fun v2 b2 h2 g2 o k2 f2 p' => ?_⟩
  obtain ⟨b3, k3, f3, zo⟩ := come k2 f2
  split at p'
  · rename_i p1 ks xs kk e1 e2
    have ev := key_ok zo e2
    subst ev
    obtain ⟨v1, ev1, ev2, _⟩ := k3.sl i _ e1
    rw [ev0] at ev1
    cases ev1
    cases ev2
    obtain ⟨h4, q1, q2, q3⟩ := putO_ok k3 e1 (den_mono f3.bs _ _ zu) p'.1 p'.2.1 (k := kk)
    exact ⟨p0, h4, rfl, q1, ct.nx σ b3 h4 _ q2 (f1'.trans (f3.trans q3)) p'.2.2⟩
  · exact p'.elim
/-- d[k] += e, ints -/
@[irreducible] def wDAddO (i : Nat) (we wv : WE) : WS := fun We E g => isDK g[i]? ∧ we We g fun o g1 => match g1[i]?, o.d.key with
  | some (some (.dK _ ks xs)), some k => (match findK ks k with
    | some j => (match xs[j]? with
      | some (.pur (.int n)) => wv We g1 fun u g2 => (match g2[i]?, u.d with
        | some (some (.dK p2 ks2 xs2)), .int m => ks2.Nodup ∧ xs2.length < sizeLine ∧ E.nx (g2.set i (some (putO p2 ks2 xs2 k (.int (n + m)))))
        | _, _ => False)
      | _ => False)
    | none => False)
  | _, _ => False
theorem gs_daddO {value : Expr} {tv : TE} {wv : WE} {p ps pos : Pos} (hu : X.A.units + 1 < cLine) (he : GE X W e te we) (hv' : GE X W value tv wv) (hN : X.N[i]? = some x := by rfl) (hv : Vis X.env.scope x := by first | exact Or.inl rfl | exact Or.inr (Or.inl rfl) | exact Or.inr (Or.inr rfl))
    (hd : (x == ("__debug__" : Str)) = false := by decide) (hcd : (x == ("__classdict__" : Str)) = false := by decide)
    (ha : ∀ ov iv new, augStore e ov iv new = (do holding [new, ov, iv] (setItem ov iv new); release [new, ov, iv] []; pure .next) := by intro _ _ _; rfl) :
    GS X W (.AugAssign (.Subscript (.Name x p) e ps) .Add value pos) (wDAddO i we wv) := by
  refine ⟨sDAug (tVar i) te tv rAdd, ps_daug hu (pe_var hN hv hd hcd) he.pe hv'.pe in_add ha, fun b h σ g We E D k hw hx ct => ?_⟩
  unfold wDAddO at hw
  obtain ⟨hl, hw⟩ := hw
  obtain ⟨p0, ks0, xs0, vs0, e0, ev0, hp0, _⟩ := k.dk hl
  refine ⟨_, ev0, he.se b h σ g We _ _ k hw hx fun v b' h' g' o k' f' p' => ?_⟩
  obtain ⟨b2, k2, f2, zo⟩ := come k' f'
  split at p'
  · rename_i p1 ks xs kk e1 e2
    have ev := key_ok zo e2
    subst ev
    obtain ⟨v1, ev1, ev2, vs, hp, hlen, z⟩ := k2.sl i _ e1
    rw [ev0] at ev1
    cases ev1
    cases ev2
    split at p'
    · rename_i j ej
      split at p'
      · rename_i n ed
        obtain ⟨w, ew, zw⟩ := ownL_at z ed
        have zw' : w = .int n := zw
        subst zw'
        refine ⟨p0, .int n, rfl, ?_, hv'.se b2 h' σ g' We _ _ k2 p' (hx.step f2) fun v3 b3 h3 g3 u k3 f3 p3 => ?_⟩
        · have := DGet.k (k := kk) hp
          rw [valV_zip hlen, ej] at this
          rw [← ew]; exact this
        · obtain ⟨b4, k4, f4, zu⟩ := come k3 f3
          split at p3
          · rename_i p5 ks2 xs2 m e5 e6
            rw [e6] at zu
            have zu' : v3 = .int m := zu
            subst zu'
            obtain ⟨v6, ev6, ev7, _⟩ := k4.sl i _ e5
            rw [ev0] at ev6
            cases ev6
            cases ev7
            obtain ⟨h5, q1, q2, q3⟩ := putO_ok (v := .int (n + m)) (d := .int (n + m)) k4 e5 rfl p3.1 p3.2.1 (k := kk)
            exact ⟨n, m, rfl, rfl, h5, q1, ct.nx σ b4 h5 _ q2 (f2.trans (f4.trans q3)) p3.2.2⟩
          · exact p3.elim
      · exact p'.elim
    · exact p'.elim
  · exact p'.elim
end
end G
/-! G: defs by name, slices, list(range), dict displays, len(set(tuple)). -/
namespace G
open PySem PySem.Spec PyProof.Rows L2
open Evl (Ex)

/-- a def of the module, by its name -/
structure Fn (P : Program) (w : World) (K : PySem.W.Frag) (mg : Str → Option Value) (base : Heap) (k : Nat) (x : Str) (ps : List Str) (pm : Pm) : Prop where
  ex : ∃ f fd, FnG P w K mg base k f fd ps pm ∧ mg x = some (.ref f) ∧ PySem.W.keepIn K (.ref f) = true ∧ Binds K fd ps []
theorem Fn.mono {P : Program} {w : World} {K : PySem.W.Frag} {mg : Str → Option Value} {base : Heap} {j k : Nat} {x : Str} {ps : List Str} {pm : Pm} (F : Fn P w K mg base j x ps pm) (h : j ≤ k) : Fn P w K mg base k x ps pm := by
  obtain ⟨f, fd, h1, h2⟩ := F.ex
  exact ⟨f, fd, h1.mono h, h2⟩
section
variable {X : Cx} {W : WX} {e : Expr} {es : List Expr} {te : TE} {t : TA} {we : WE} {wa : WA}
theorem ge_fn {x : Str} {k : Nat} {ps : List Str} {pm : Pm} {p pos : Pos} (C : Ctx X W) (F : Fn X.prog X.w X.K X.mg X.base k x ps pm) (hr : Room k X.A) (ha : GA X W (e :: es) t wa) (hg : Gl X x := by rfl) (hdb : (x == ("__debug__" : Str)) = false := by decide)
    (he : starEach (e :: es) X.env = (false, eval e X.env) :: starEach es X.env := by rfl) (hpl : (backTo pos (starEach es X.env)).any (·.1) = false := by rfl) {K : PySem.W.Frag} (hK : X.K = K := by exact rfl) :
    GE X W (.Call (.Name x p) (e :: es) [] pos) (tCallS (spOf K ps.length pm) (L2.WE W) t) (wCall ps.length pm wa) := by
  subst hK
  obtain ⟨f, fd, F, hm, hk, hb⟩ := F.ex
  exact ge_call C F hr hm hk hb ha hg hdb he hpl
theorem ge_fn0 {x : Str} {k : Nat} {pm : Pm} {p pos : Pos} (F : Fn X.prog X.w X.K X.mg X.base k x [] pm) (hr : Room k X.A) (hg : Gl X x := by rfl) (hdb : (x == ("__debug__" : Str)) = false := by decide) {K : PySem.W.Frag} (hK : X.K = K := by exact rfl) :
    GE X W (.Call (.Name x p) [] [] pos) (tCall (spOf K 0 pm) [] E0 tNil) (wCall0 pm) := by
  subst hK
  obtain ⟨f, fd, F, hm, hk, hb⟩ := F.ex
  exact ge_call0 F hr hm hk hb hg hdb
/-! ### len(x), x the def's own -/
def wLenO (i : Nat) : WE := fun _ g P => match g[i]? with
  | some (some (.lst _ xs)) => P (.pur (.int xs.length)) g
  | _ => False
theorem ge_lenO {i : Nat} {x : Str} {p q pos : Pos} (hm : X.mg "len" = none) (hN : X.N[i]? = some x := by rfl) (hv : Vis X.env.scope x := by first | exact Or.inl rfl | exact Or.inr (Or.inl rfl) | exact Or.inr (Or.inr rfl))
    (hd : (x == ("__debug__" : Str)) = false := by decide) (hcd : (x == ("__classdict__" : Str)) = false := by decide) (hg : Gl X "len" := by rfl)
    (h1 : starEach [.Name x q] X.env = (false, eval (.Name x q) X.env) :: starEach [] X.env := by rfl) {K : PySem.W.Frag} (hK : X.K = K := by exact rfl) : GE X W (.Call (.Name "len" p) [.Name x q] [] pos) (tCB (rvLen K) (tCons (tVar i) tNil)) (wLenO i) := by
  subst hK
  refine ⟨pe_callB call_len_seq hg hm boot_len (pa_cons (pe_var hN hv hd hcd) pa_nil h1) (by decide) (by decide) h1 (by rfl), fun b h σ g We P Q k hw hx ct => ?_⟩
  unfold wLenO at hw
  split at hw
  · rename_i p xs e
    obtain ⟨v, ev, ev2, vs, hp, z⟩ := k.sl i _ e
    subst ev2
    refine ⟨_, ev, p, vs, rfl, .inl (SqL.of hp), ?_⟩
    rw [← ownL_len z]
    exact fin k (Frm.refl g b h) (Res.same k.sub (d := .int _) rfl) ct hw
  · exact hw.elim
/-! ### slices -/
abbrev WO := Wsh → Gam → (Option Int → Gam → Prop) → Prop
structure GO (X : Cx) (W : WX) (e : Option Expr) (t : TO) (w : WO) : Prop where
  pe : PO X e t
  se : ∀ b h σ g We P Q, Hold X.K b h σ g → w We g P → ContX X.K g b h We W → (∀ o b' h' g', Hold X.K b' h' σ g' → Frm g b h g' b' h' → P o g' → Q o h') → t σ h Q
theorem go_none : GO X W none tNoPart (fun _ g P => P none g) := ⟨po_none, fun b h σ g We P Q k hw hx ct => ct none b h g k (Frm.refl g b h) hw⟩
def wPart (we : WE) : WO := fun We g P => we We g fun o g1 => match o.d with
  | .int i => P (some i) g1
  | _ => False
theorem go_some (he : GE X W e te we) : GO X W (some e) (tPart te) (wPart we) := by
  refine ⟨po_some he.pe, fun b h σ g We P Q k hw hx ct => ?_⟩
  refine he.se b h σ g We _ _ k hw hx fun v b' h' g' o k' f' p' => ?_
  obtain ⟨b2, k2, f2, z⟩ := come k' f'
  split at p'
  · rename_i i ei
    rw [ei] at z
    exact ⟨i, z, ct (some i) b2 h' g' k2 f2 p'⟩
  · exact p'.elim
/-- the items of a slice -/
def cutD (ds : List D) (lo hi : Option Int) : List D := (ds.drop (HT.sIx ds.length 0 lo)).take (HT.sIx ds.length ds.length hi - HT.sIx ds.length 0 lo)
theorem denL_drop {K : PySem.W.Frag} {b : Hp} : ∀ (n : Nat) {ds : List D} {vs : List V}, denL K b ds vs → denL K b (ds.drop n) (vs.drop n)
  | 0, _, _, z => z
  | n + 1, [], _, z => by have z' : _ = ([] : List V) := z; subst z'; exact rfl
  | n + 1, d :: ds, _, ⟨v, r, e, _, t⟩ => by subst e; exact denL_drop n t
theorem denL_take {K : PySem.W.Frag} {b : Hp} : ∀ (n : Nat) {ds : List D} {vs : List V}, denL K b ds vs → denL K b (ds.take n) (vs.take n)
  | 0, _, _, _ => rfl
  | n + 1, [], _, z => by have z' : _ = ([] : List V) := z; subst z'; exact rfl
  | n + 1, d :: ds, _, ⟨v, r, e, z, t⟩ => by subst e; exact ⟨v, r.take n, rfl, z, denL_take n t⟩
theorem denL_cut {K : PySem.W.Frag} {b : Hp} {ds : List D} {vs : List V} {lo hi : Option Int} (t : denL K b ds vs) : denL K b (cutD ds lo hi) (cutV vs lo hi) := by
  unfold cutD cutV
  rw [← denL_len t]
  exact denL_take _ (denL_drop _ t)
/-- xs[lo:hi] of a list -/
def wSlL (we : WE) (wl wh : WO) : WE := fun We g P => we We g fun o g1 => wl We g1 fun l g2 => wh We g2 fun u g3 => match o.d with
  | .lst ds => ∀ p, P (.lst p ((cutD ds l u).map .pur)) g3
  | _ => False
theorem ge_slL {lo hi : Option Expr} {tl th : TO} {wl wh : WO} {p2 pos : Pos} (he : GE X W e te we) (hl : GO X W lo tl wl) (hh : GO X W hi th wh) {K : PySem.W.Frag} (hK : X.K = K := by exact rfl) : GE X W (.Subscript e (.Slice lo hi none p2) pos) (tSl (rSlL K) te tl th) (wSlL we wl wh) := by
  subst hK
  refine ⟨pe_slice sl_list he.pe hl.pe hh.pe, fun b h σ g We P Q k hw hx ct => ?_⟩
  refine he.se b h σ g We _ _ k hw hx fun v b1 h1 g1 o k1 f1 p1 => ?_
  obtain ⟨b2, k2, f2, z⟩ := come k1 f1
  refine hl.se b2 h1 σ g1 We _ _ k2 p1 (hx.step f2) fun l b3 h3 g3 k3 f3 p3 => ?_
  refine hh.se b3 h3 σ g3 We _ _ k3 p3 (hx.step (f2.trans f3)) fun u b4 h4 g4 k4 f4 p4 => ?_
  have f5 := f3.trans f4
  split at p4
  · rename_i ds ed
    rw [ed] at z
    obtain ⟨a, vs, rfl, q, t⟩ := den_mono f5.bs _ _ z
    refine ⟨a, vs, rfl, Evl.ex_l k4.sub q, fun p np => ?_⟩
    exact fin k4 (f2.trans f5) (Res.own1 (o := .lst p ((cutD ds l u).map .pur)) k4.sub np ⟨rfl, _, upd_same, ownL_pur (denL_cut t)⟩ (by simp [foot, footL_pur])) ct (p4 p)
  · exact p4.elim
/-- t[lo:hi] of a tuple, not the whole of it -/
def wSlT (we : WE) (wl wh : WO) : WE := fun We g P => we We g fun o g1 => wl We g1 fun l g2 => wh We g2 fun u g3 => match o.d with
  | .tup ds => ¬ (HT.sIx ds.length 0 l = 0 ∧ HT.sIx ds.length ds.length u = ds.length) ∧ P (.pur (.tup (cutD ds l u))) g3
  | _ => False
theorem ge_slT {lo hi : Option Expr} {tl th : TO} {wl wh : WO} {p2 pos : Pos} (he : GE X W e te we) (hl : GO X W lo tl wl) (hh : GO X W hi th wh) {K : PySem.W.Frag} (hK : X.K = K := by exact rfl) : GE X W (.Subscript e (.Slice lo hi none p2) pos) (tSl (rSlT K) te tl th) (wSlT we wl wh) := by
  subst hK
  refine ⟨pe_slice sl_tup he.pe hl.pe hh.pe, fun b h σ g We P Q k hw hx ct => ?_⟩
  refine he.se b h σ g We _ _ k hw hx fun v b1 h1 g1 o k1 f1 p1 => ?_
  obtain ⟨b2, k2, f2, z⟩ := come k1 f1
  refine hl.se b2 h1 σ g1 We _ _ k2 p1 (hx.step f2) fun l b3 h3 g3 k3 f3 p3 => ?_
  refine hh.se b3 h3 σ g3 We _ _ k3 p3 (hx.step (f2.trans f3)) fun u b4 h4 g4 k4 f4 p4 => ?_
  have f5 := f3.trans f4
  split at p4
  · rename_i ds ed
    rw [ed] at z
    obtain ⟨a, vs, rfl, q, t⟩ := den_mono f5.bs _ _ z
    refine ⟨a, vs, rfl, Evl.ex_t k4.sub q, by rw [← denL_len t]; exact p4.1, fun p np => ?_⟩
    exact fin k4 (f2.trans f5) (Res.new (d := .tup (cutD ds l u)) k4.sub np ⟨p, _, rfl, SqT.of upd_same, denL_mono (Ex.new (Evl.fresh_back k4.sub np)) _ _ (denL_cut t)⟩) ct p4.2
  · exact p4.elim
/-! ### list(range(..)) -/
theorem denL_rng {K : PySem.W.Frag} {b : Hp} (lo : Int) (n : Nat) : denL K b (rngD lo n) ((List.range n).map fun i => V.int (lo + (i : Nat))) := by
  unfold rngD
  induction List.range n with
  | nil => exact rfl
  | cons i l ih => exact ⟨_, _, rfl, rfl, ih⟩
def wListR1 (we : WE) : WE := fun We g P => we We g fun o g1 => match o.d with
  | .int n => RgOk 0 n ∧ ∀ p, P (.lst p ((rngD 0 n.toNat).map .pur)) g1
  | _ => False
theorem ge_listR1 {p p2 pos pos2 : Pos} (hc : X.calm = true) (hm : X.mg "list" = none) (hm2 : X.mg "range" = none) (he : GE X W e te we) (hg : Gl X "list" := by rfl) (hg2 : Gl X "range" := by rfl) (na : starEach [e] X.env = (false, eval e X.env) :: starEach [] X.env := by rfl)
    (na2 : starEach [.Call (.Name "range" p2) [e] [] pos2] X.env = (false, eval (.Call (.Name "range" p2) [e] [] pos2) X.env) :: starEach [] X.env := by rfl) : GE X W (.Call (.Name "list" p) [.Call (.Name "range" p2) [e] [] pos2] [] pos) (tLstRg (tRg1 te)) (wListR1 we) := by
  refine ⟨pe_listRg hc hg hm (prg_1 hg2 hm2 he.pe na) na2, fun b h σ g We P Q k hw hx ct => ?_⟩
  refine he.se b h σ g We _ _ k hw hx fun v b' h' g' o k' f' p' => ?_
  obtain ⟨b2, k2, f2, z⟩ := come k' f'
  split at p'
  · rename_i n en
    rw [en] at z
    have z' : v = .int n := z
    subst z'
    refine ⟨n, rfl, p'.1, fun q nq => ?_⟩
    have e0 : rgV 0 n = (List.range n.toNat).map fun i => V.int (0 + (i : Nat)) := by unfold rgV; rw [Int.sub_zero]
    rw [e0]
    exact fin k2 f2 (Res.own1 (o := .lst q ((rngD 0 n.toNat).map .pur)) k2.sub nq ⟨rfl, _, upd_same, ownL_pur (denL_rng 0 n.toNat)⟩ (by simp [foot, footL_pur])) ct (p'.2 q)
  · exact p'.elim
/-! ### {k: v, ..}, the keys written texts -/
abbrev WP := Wsh → Gam → (List D → Gam → Prop) → Prop
structure GP (X : Cx) (W : WX) (pos : Pos) (ks : List Str) (keys : List (Option Expr)) (values : List Expr) (trs : List (TE × TE)) (w : WP) : Prop where
  pe : PPs X pos keys values trs
  se : ∀ b h σ g We P Q, Hold X.K b h σ g → w We g P → ContX X.K g b h We W →
    (∀ vs b' h' g' ds, Hold X.K b' h' σ g' → Frm g b h g' b' h' → denL X.K b' ds vs → ks.length = vs.length → P ds g' → Q ((ks.map fun x => (V.str x)).zip vs) h') → tPairs trs σ h Q
theorem gp_nil {pos : Pos} : GP X W pos [] [] [] [] (fun _ g P => P [] g) := ⟨pps_nil, fun b h σ g We P Q k hw hx ct => ct [] b h g [] k (Frm.refl g b h) rfl rfl hw⟩
theorem gp_cons {pos p2 : Pos} {x : Str} {j : Nat} {v : Expr} {tv : TE} {wv : WE} {ks : List Str} {keys : List (Option Expr)} {values : List Expr} {trs : List (TE × TE)} {wr : WP} (hv : GE X W v tv wv) (hr : GP X W pos ks keys values trs wr) :
    GP X W pos (x :: ks) (some (.Constant (.str x) j p2) :: keys) (v :: values) ((tC (.str x), tv) :: trs) (fun We g P => wv We g fun o g1 => wr We g1 fun ds g2 => P (o.d :: ds) g2) := by
  refine ⟨pps_cons pe_str hv.pe hr.pe, fun b h σ g We P Q k hw hx ct => ?_⟩
  refine hv.se b h σ g We _ _ k hw hx fun u b' h' g' o k' f' p' => ?_
  obtain ⟨b2, k2, f2, z⟩ := come k' f'
  exact hr.se b2 h' σ g' We _ _ k2 p' (hx.step f2) fun vs b3 h3 g3 ds k3 f3 z3 l3 p3 => ct (u :: vs) b3 h3 g3 (o.d :: ds) k3 (f2.trans f3) ⟨u, vs, rfl, den_mono f3.bs _ _ z, z3⟩ (by simp [l3]) p3
theorem mergeK_zip : ∀ {ks : List Key} {vs : List V} {ks0 : List Key} {vs0 : List V}, (ks0 ++ ks).Nodup → ks0.length = vs0.length → ks.length = vs.length → mergeK (ks0.zip vs0) (ks.zip vs) = (ks0 ++ ks).zip (vs0 ++ vs)
  | [], [], ks0, vs0, _, _, _ => by simp [mergeK]
  | [], _ :: _, _, _, _, _, h => by simp at h
  | _ :: _, [], _, _, _, _, h => by simp at h
  | k :: ks, v :: vs, ks0, vs0, nd, h0, h => by
    have nk : k ∉ ks0 := fun m => by
      have := (List.nodup_append.mp nd).2.2 k m k (List.mem_cons_self ..)
      exact this rfl
    have fn : findK ks0 k = none := by
      cases q : findK ks0 k with
      | none => rfl
      | some j => exact absurd (List.mem_of_getElem? (findK_lt q).2) nk
    show mergeK (putK (ks0.zip vs0) k v) (ks.zip vs) = _
    rw [putK_zipN h0 fn, mergeK_zip (by simpa using nd) (by simp [h0]) (by simpa using h)]
    simp
def wDict (ks : List Str) (w : WP) : WE := fun We g P => w We g fun ds g1 => (ks.map (Sum.inr : Str → Key)).Nodup ∧ ks.length ≤ 15 ∧ ∀ p, P (.dK p (ks.map Sum.inr) (ds.map .pur)) g1
theorem ge_dict {pos : Pos} {ks : List Str} {keys : List (Option Expr)} {values : List Expr} {trs : List (TE × TE)} {w : WP} (h : GP X W pos ks keys values trs w) (hall : keys.all (·.isSome) = true := by rfl) (hl : keys.length = values.length := by rfl) (h0 : keys ≠ [] := by intro z; cases z)
    (h15 : keys.length ≤ 15 := by decide) : GE X W (.Dict keys values pos) (tDisp trs) (wDict ks w) := by
  refine ⟨pe_disp h.pe hall hl h0 h15, fun b hh σ g We P Q k hw hx ct => fun p np => ?_⟩
  have nbp : b p = none := Evl.fresh_back k.sub np
  have npg : ¬ inF g p := fun z => by obtain ⟨u, e⟩ := k.inF_there z; rw [np] at e; cases e
  have k1 := k.aside (o := .dK []) npg nbp
  have f1 : Frm g b hh g b (upd hh p (.dK [])) := ⟨Ex.refl b, fun a u e _ => by rw [upd_ne (ne_of_none e np)]; exact e, fun a u e1 e2 _ => e2, fun a z => .inl z⟩
  refine h.se b _ σ g We _ _ k1 hw (hx.step f1) fun vs b2 h2 g2 ds k2 f2 z l ⟨nd, h15, p2⟩ => ?_
  have hp : h2 p = some (.dK []) := f2.keep p _ upd_same npg
  have nb2 : b2 p = none := f2.nb p _ upd_same nbp npg
  have ng2 : ¬ inF g2 p := fun z => (f2.new p z).elim npg fun z => by rw [upd_same] at z; cases z
  refine ⟨hp, (ks.map Sum.inr).zip vs, ?_, ?_, ?_⟩
  · exact zipk ks vs
  · rw [List.length_zip, List.length_map]; omega
  · have em : mergeK [] ((ks.map (Sum.inr : Str → Key)).zip vs) = (ks.map Sum.inr).zip vs := mergeK_zip (ks0 := []) (vs0 := []) (by simpa using nd) rfl (by simpa using l)
    rw [em]
    have k3 := k2.aside (o := .dK ((ks.map Sum.inr).zip vs)) ng2 nb2
    have ft : foot (.dK p (ks.map Sum.inr) (ds.map .pur)) = [p] := by simp [foot, footL_pur]
    refine ct (.ref p) b2 _ g2 (.dK p (ks.map Sum.inr) (ds.map .pur)) (k3.cons ⟨rfl, vs, upd_same, by simpa using l, ownL_pur z⟩ (by simp [ft]) (fun a m => ?_) fun a m => ?_) ⟨f2.bs, fun a u e n => ?_, fun a u e1 e2 n => f2.nb a u (f1.keep a u e1 n) e2 n, fun a z => ?_⟩ (p2 p)
    · rw [ft] at m; simp at m; subst m; exact nb2
    · rw [ft] at m; simp at m; subst m; exact ng2
    · rw [upd_ne (ne_of_none e np)]; exact f2.keep a u (f1.keep a u e n) n
    · rcases inF_cons.mp z with ⟨u, e, m⟩ | z
      · cases e; rw [ft] at m; simp at m; subst m; exact .inr np
      · rcases f2.new a z with z | z
        · exact .inl z
        · by_cases ea : a = p
          · subst ea; exact .inr np
          · rw [upd_ne ea] at z; exact .inr z
where
  zipk : ∀ (ks : List Str) (vs : List V), (ks.map fun x => (V.str x)).zip vs = ((ks.map (Sum.inr : Str → Key)).zip vs).map fun kv => (kV kv.1, kv.2)
    | [], _ => rfl
    | _ :: _, [] => rfl
    | k :: ks, v :: vs => by simp only [List.map_cons, List.zip_cons_cons, zipk ks vs]; rfl
end

/-! ### len(set(t)), t a tuple of ints -/
theorem nodup_sub {α : Type} [DecidableEq α] : ∀ (l m : List α), l.Nodup → (∀ x ∈ l, x ∈ m) → l.length ≤ m.length
  | [], _, _, _ => Nat.zero_le _
  | x :: l, m, nd, h => by
    obtain ⟨n1, n2⟩ := List.nodup_cons.mp nd
    have hx : x ∈ m := h x (List.mem_cons_self ..)
    have := nodup_sub l (m.erase x) n2 fun y hy => (List.mem_erase_of_ne fun (e : y = x) => n1 (by rw [← e]; exact hy)).mpr (h y (List.mem_cons_of_mem _ hy))
    rw [List.length_erase_of_mem hx] at this
    have : 0 < m.length := List.length_pos_of_mem hx
    simp only [List.length_cons]
    omega
theorem not_nodup {α : Type} [DecidableEq α] : ∀ (l : List α), ¬ l.Nodup → ∃ m : List α, m.length + 1 = l.length ∧ ∀ x ∈ l, x ∈ m
  | [], h => absurd List.nodup_nil h
  | x :: l, h => by
    by_cases hx : x ∈ l
    · exact ⟨l, rfl, fun y hy => (List.mem_cons.mp hy).elim (fun (e : y = x) => by rw [e]; exact hx) id⟩
    · obtain ⟨m, e, q⟩ := not_nodup l fun nd => h (List.nodup_cons.mpr ⟨hx, nd⟩)
      exact ⟨x :: m, by simp [e], fun y hy => (List.mem_cons.mp hy).elim (fun (e : y = x) => by rw [e]; exact List.mem_cons_self ..) fun hy => List.mem_cons_of_mem _ (q y hy)⟩
theorem same_len {ks ns : List Int} (nd : ks.Nodup) (h : ∀ k, k ∈ ns ↔ k ∈ ks) : ks.length ≤ ns.length ∧ (ks.length = ns.length ↔ ns.Nodup) := by
  have h1 := nodup_sub ks ns nd fun x hx => (h x).mpr hx
  refine ⟨h1, fun e => ?_, fun e => ?_⟩
  · refine Decidable.byContradiction fun hn => ?_
    obtain ⟨m, em, q⟩ := not_nodup ns hn
    have := nodup_sub ks m nd fun x hx => q x ((h x).mpr hx)
    omega
  · have := nodup_sub ns ks e fun x hx => (h x).mp hx
    omega
def tLenSetT (K : PySem.W.Frag) (ta : TE) : TE := fun σ H Q => ta σ H fun x H1 => ∃ (l : Addr) (ns : List Int), x = .ref l ∧ SqT K H1 l (ns.map V.int) ∧ ns.length ≤ 4000 ∧ ∀ c : Nat, c ≤ ns.length → (c = ns.length ↔ ns.Nodup) → Q (.int c) H1
section
variable {X : Cx} {W : WX} {e : Expr} {te : TE} {we : WE}
theorem pe_lenSetT {a : Expr} {ta : TE} {p p2 q pos : Pos} (hc : X.calm = true) (hg : Gl X "len") (hm : X.mg "len" = none) (hg2 : Gl X "set") (hm2 : X.mg "set" = none) (ha : PE X a ta)
    (na : starEach [a] X.env = (false, eval a X.env) :: starEach [] X.env := by rfl) : PE X (.Call (.Name "len" p) [.Call (.Name "set" p2) [a] [] q] [] pos) (tLenSetT X.K ta) := by
  refine ⟨fun pins s σ H Q I h => ?_⟩
  refine Call_ (ld_blt I hg hm boot_len ?_)
  refine PyProof.Rows.callWith_builtin1 (PyProof.Rows.args_cons ?_ rfl) rfl rfl
  refine Call_ (ld_blt I hg2 hm2 boot_set ?_)
  refine PyProof.Rows.callWith_type1 (PyProof.Rows.args_cons (thn (ha.run pins s σ H _ I h) fun v s1 ⟨x, H1, I1, r1, q1⟩ => PyProof.Rows.args_nil ?_) na) na rfl
  obtain ⟨l, ns, rfl, hq, hl, q1⟩ := q1
  cases r1
  obtain ⟨its, r, pl, hz⟩ := I1.tuple hq
  obtain ⟨ob, eo, ho, n, hd⟩ := pl
  refine call_set_tupI (P := X.prog) ns (I1.ok.hd hc) ⟨ob, eo, ho, n, hd⟩ (by simpa using r.ints) (by unfold scanBound; omega) fun h' tk c hS hcl hk => ?_
  refine PyProof.Rows.args_nil ?_
  obtain ⟨o, es, ep, t, hob, hex, hd2, hgood, hnd, hmem, hsz, hf, hn, _⟩ := hS
  have I2 : Inv X pins σ H1 { s1 with heap := h', toks := tk } := I1.kept fun b o e => hk b o e
  have hh := same_len (ns := ns) hnd fun k => by
    rw [← hmem k]
    simp
  rw [List.length_map, Array.length_toList] at hh
  exact call_len_set hob hex hd2 hf (by rw [hn] <;> omega) ⟨.int es.size, H1, I2.tok _, ⟨_, rfl⟩, q1 es.size hh.1 hh.2⟩
@[irreducible] def wLenSet (we : WE) : WE := fun We g P => we We g fun o g1 => match o.d with
  | .tup ds => (match intsOf ds with
    | some ns => ns.length ≤ 4000 ∧ ∀ c : Nat, c ≤ ns.length → (c = ns.length ↔ ns.Nodup) → P (.pur (.int c)) g1
    | none => False)
  | _ => False
theorem ge_lenSet {p p2 q pos : Pos} (hc : X.calm = true) (hm : X.mg "len" = none) (hm2 : X.mg "set" = none) (he : GE X W e te we) (hg : Gl X "len" := by rfl) (hg2 : Gl X "set" := by rfl)
    (na : starEach [e] X.env = (false, eval e X.env) :: starEach [] X.env := by rfl) {K : PySem.W.Frag} (hK : X.K = K := by exact rfl) : GE X W (.Call (.Name "len" p) [.Call (.Name "set" p2) [e] [] q] [] pos) (tLenSetT K te) (wLenSet we) := by
  subst hK
  refine ⟨pe_lenSetT hc hg hm hg2 hm2 he.pe na, fun b h σ g We P Q k hw hx ct => ?_⟩
  unfold wLenSet at hw
  refine he.se b h σ g We _ _ k hw hx fun v b' h' g' o k' f' p' => ?_
  obtain ⟨b2, k2, f2, z⟩ := come k' f'
  split at p'
  · rename_i ds ed
    rw [ed] at z
    obtain ⟨a, vs, rfl, q, t⟩ := z
    split at p'
    · rename_i ns en
      have ev := ints_ok t en
      subst ev
      exact ⟨a, ns, rfl, Evl.ex_t k2.sub q, p'.1, fun c h1 h2 => fin k2 f2 (Res.same k2.sub (d := .int c) rfl) ct (p'.2 c h1 h2)⟩
    · exact p'.elim
  · exact p'.elim
end
end G
/-! G: readings: what closes comprehensions and loops. -/
namespace G
open PySem L2
theorem lc_filter {ds : List D} {g1 : Gam} {wg : WG} {wt : WT} {we : WE} {vs : List Nat} {P : Addr → List D → Gam → Prop} (f : D → D) (keep : D → Bool) (hn : ds.length ≤ sizeLine)
    (h : ∀ (i : Nat) (d : D) (Q : D → Gam → Prop) (Q0 : Gam → Prop), ds[i]? = some d → (keep d = true → Q (f d) g1) → (keep d = false → Q0 g1) → wg d (wipeG g1 vs) fun g3 => wt (fun _ _ => False) g3 fun k g4 =>
      br k (we (fun _ _ => False) g4 fun o g5 => Q o.d (unwipe g1 g5 vs)) (Q0 (unwipe g1 g4 vs)))
    (hP : ∀ p, P p ((ds.filter keep).map f) g1) :
    ∃ I : Nat → List D → Gam → Prop, I 0 [] g1 ∧
  (∀ i d acc g2, ds[i]? = some d → acc.length ≤ i → I i acc g2 → i < sizeLine ∧ wg d (wipeG g2 vs) fun g3 => wt (fun _ _ => False) g3 fun k g4 =>
    br k (we (fun _ _ => False) g4 fun o g5 => I (i + 1) (acc ++ [o.d]) (unwipe g2 g5 vs)) (I (i + 1) acc (unwipe g2 g4 vs))) ∧
  ∀ acc g2, acc.length ≤ ds.length → I ds.length acc g2 → ∀ p, P p acc g2 := by
  refine ⟨fun i acc g => acc = ((ds.take i).filter keep).map f ∧ g = g1, ⟨rfl, rfl⟩, ?_, ?_⟩
  · rintro i d acc g2 e _ ⟨rfl, rfl⟩
    have hi : i < ds.length := (List.getElem?_eq_some_iff.mp e).1
    have et : ds.take (i + 1) = ds.take i ++ [d] := by rw [List.take_add_one, e]; rfl
    refine ⟨by omega, h i d (fun o g5 => ((ds.take i).filter keep).map f ++ [o] = ((ds.take (i + 1)).filter keep).map f ∧ g5 = g2) (fun g4 => ((ds.take i).filter keep).map f = ((ds.take (i + 1)).filter keep).map f ∧ g4 = g2) e (fun hk => ?_) fun hk => ?_⟩
    · exact ⟨by rw [et, List.filter_append, List.map_append, List.filter_cons, if_pos hk]; rfl, rfl⟩
    · exact ⟨by rw [et, List.filter_append, List.map_append, List.filter_cons, if_neg (by simp [hk])]; simp, rfl⟩
  · rintro acc g2 _ ⟨rfl, rfl⟩ p
    rw [List.take_length]
    exact hP p
theorem lc_map {ds : List D} {g1 : Gam} {wg : WG} {wt : WT} {we : WE} {vs : List Nat} {P : Addr → List D → Gam → Prop} (f : D → D) (hn : ds.length ≤ sizeLine)
    (h : ∀ (i : Nat) (d : D) (Q : D → Gam → Prop) (Q0 : Gam → Prop), ds[i]? = some d → Q (f d) g1 → wg d (wipeG g1 vs) fun g3 => wt (fun _ _ => False) g3 fun k g4 =>
      br k (we (fun _ _ => False) g4 fun o g5 => Q o.d (unwipe g1 g5 vs)) (Q0 (unwipe g1 g4 vs)))
    (hP : ∀ p, P p (ds.map f) g1) :
    ∃ I : Nat → List D → Gam → Prop, I 0 [] g1 ∧
  (∀ i d acc g2, ds[i]? = some d → acc.length ≤ i → I i acc g2 → i < sizeLine ∧ wg d (wipeG g2 vs) fun g3 => wt (fun _ _ => False) g3 fun k g4 =>
    br k (we (fun _ _ => False) g4 fun o g5 => I (i + 1) (acc ++ [o.d]) (unwipe g2 g5 vs)) (I (i + 1) acc (unwipe g2 g4 vs))) ∧
  ∀ acc g2, acc.length ≤ ds.length → I ds.length acc g2 → ∀ p, P p acc g2 := by
  refine lc_filter f (fun _ => true) hn (fun i d Q Q0 e q _ => h i d Q Q0 e (q rfl)) ?_
  have e : ds.filter (fun _ => true) = ds := List.filter_eq_self.mpr fun _ _ => rfl
  rw [e]
  exact hP
theorem rcAll_lst {f : List Bool → Bool} {xs : List D} {ks : List Bool} {p : Addr} {P : O → Prop} (h : blsOf xs = some ks) (hP : P (.pur (.bl (f ks)))) : rcAll f [(O.lst p (xs.map .pur)).d] P := by
  unfold rcAll
  show (match blsOf (O.dL (xs.map .pur)) with
    | some ks => P (.pur (.bl (f ks)))
    | none => False)
  rw [dL_pur]
  simp only [h]
  exact hP
theorem bls_map (f : D → Bool) : ∀ ds : List D, blsOf (ds.map fun d => .bl (f d)) = some (ds.map f)
  | [] => rfl
  | d :: ds => by
    show (blsOf (ds.map fun d => D.bl (f d))).map (f d :: ·) = _
    rw [bls_map f ds]
    rfl
theorem all_map {α : Type} (f : α → Bool) (xs : List α) : (xs.map f).all id = xs.all f := by
  induction xs with
  | nil => rfl
  | cons x xs ih => simp [ih]
theorem lc_if {wi : WI} {wg : WG} {wt : WT} {we : WE} {vs : List Nat} {We : Wsh} {g : Gam} {P : O → Gam → Prop} (f : D → D) (keep : D → Bool) (ds : List D) (hi : ∀ Q : List D → Gam → Prop, Q ds g → wi We g Q) (hn : ds.length ≤ sizeLine)
    (h : ∀ (i : Nat) (d : D) (Q : D → Gam → Prop) (Q0 : Gam → Prop), ds[i]? = some d → (keep d = true → Q (f d) g) → (keep d = false → Q0 g) → wg d (wipeG g vs) fun g3 => wt (fun _ _ => False) g3 fun k g4 =>
      br k (we (fun _ _ => False) g4 fun o g5 => Q o.d (unwipe g g5 vs)) (Q0 (unwipe g g4 vs)))
    (hP : ∀ p, P (.lst p (((ds.filter keep).map f).map .pur)) g) : wLc wi wg wt we vs We g P := by
  unfold wLc
  exact hi _ (lc_filter f keep hn h hP)
theorem lc_of {wi : WI} {wg : WG} {wt : WT} {we : WE} {vs : List Nat} {We : Wsh} {g : Gam} {P : O → Gam → Prop} (f : D → D) (ds : List D) (hi : ∀ Q : List D → Gam → Prop, Q ds g → wi We g Q) (hn : ds.length ≤ sizeLine)
    (h : ∀ (i : Nat) (d : D) (Q : D → Gam → Prop) (Q0 : Gam → Prop), ds[i]? = some d → Q (f d) g → wg d (wipeG g vs) fun g3 => wt (fun _ _ => False) g3 fun k g4 =>
      br k (we (fun _ _ => False) g4 fun o g5 => Q o.d (unwipe g g5 vs)) (Q0 (unwipe g g4 vs)))
    (hP : ∀ p, P (.lst p ((ds.map f).map .pur)) g) : wLc wi wg wt we vs We g P := by
  unfold wLc
  exact hi _ (lc_map f hn h hP)
/-- all([p(x) for x in xs]) -/
theorem all_lc {f : D → Bool} {ds : List D} {p : Addr} {P : O → Prop} (hP : P (.pur (.bl (ds.all f)))) : rcAll (fun ks => ks.all id) [(O.lst p ((ds.map fun d => .bl (f d)).map .pur)).d] P :=
  rcAll_lst (bls_map f ds) (by rw [all_map]; exact hP)
theorem any_map {α : Type} (f : α → Bool) (xs : List α) : (xs.map f).any id = xs.any f := by
  induction xs with
  | nil => rfl
  | cons x xs ih => simp [ih]
theorem any_lc {f : D → Bool} {ds : List D} {p : Addr} {P : O → Prop} (hP : P (.pur (.bl (ds.any f)))) : rcAll (fun ks => ks.any id) [(O.lst p ((ds.map fun d => .bl (f d)).map .pur)).d] P :=
  rcAll_lst (bls_map f ds) (by rw [any_map]; exact hP)
/-! ### places of lists -/
theorem ixN_of {n : Nat} {j : Int} (h0 : 0 ≤ j) (h1 : j < n) : ixN n j = some j.toNat := by
  unfold ixN
  rw [if_pos h0, if_pos h1]
theorem atI_of {α : Type} {xs : List α} {j : Int} {x : α} (h0 : 0 ≤ j) (h : xs[j.toNat]? = some x) : atI xs j = some x := by
  have hl : j.toNat < xs.length := (List.getElem?_eq_some_iff.mp h).1
  unfold atI
  rw [ixN_of h0 (by omega)]
  exact h
/-- a place that is no constant, locked -/
@[irreducible] def roIxV : RO := roIx
theorem ig_seqV {X : Cx} {K : PySem.W.Frag} (hK : X.K = K := by exact rfl) : IxG X (rIx K) roIxV := by
  subst hK
  unfold roIxV
  exact ig_seq
theorem ix_l {ds : List D} {j : Int} {d : D} {P : O → Prop} (e : atI ds j = some d) (h : P (.pur d)) : roIxV (.lst ds) (.int j) P := by
  unfold roIxV roIx
  simp only [e]
  exact h
theorem ix_t {ds : List D} {j : Int} {d : D} {P : O → Prop} (e : atI ds j = some d) (h : P (.pur d)) : roIxV (.tup ds) (.int j) P := by
  unfold roIxV roIx
  simp only [e]
  exact h
theorem at_ints {ns : List Int} {j : Int} (h0 : 0 ≤ j) (h1 : j < ns.length) : ∃ x, x ∈ ns ∧ ns[j.toNat]? = some x ∧ atI (ns.map D.int) j = some (.int x) := by
  have hl : j.toNat < ns.length := by omega
  refine ⟨ns[j.toNat], List.getElem_mem hl, by simp [hl], atI_of h0 (by simp [hl])⟩
theorem pop_i {i : Nat} {j : Int} {g : Gam} {P : O → Gam → Prop} {p : Addr} {xs : List O} {d : D} (e : g[i]? = some (some (.lst p xs))) (h0 : 0 ≤ j) (h62 : xs.length ≤ 2 ^ 62) (hd : xs[j.toNat]? = some (.pur d))
    (h : P (.pur d) (g.set i (some (.lst p (xs.eraseIdx j.toNat))))) : popAt i (.pur (.int j)) g P := by
  have hl : j.toNat < xs.length := (List.getElem?_eq_some_iff.mp hd).1
  unfold popAt
  have e2 : (O.pur (.int j)).d = .int j := rfl
  have e3 : seqIndex? j xs.length = some j.toNat := (ixN_seq (ixN_of h0 (by omega))).1
  simp only [e, e2, e3, hd]
  exact ⟨by omega, by omega, h⟩
theorem ixat_i {i : Nat} {j : Int} {g : Gam} {P : O → Gam → Prop} {p : Addr} {xs : List O} {d : D} (e : g[i]? = some (some (.lst p xs))) (ha : atI xs j = some (.pur d)) (h : P (.pur d) g) : ixAt i (.pur (.int j)) g P := by
  unfold ixAt
  have e2 : (O.pur (.int j)).d = .int j := rfl
  simp only [e, e2, ha]
  exact h
theorem setat_i {i : Nat} {u : O} {j : Int} {g : Gam} {E : GEnds} {p : Addr} {xs : List O} {n : Nat} (e : g[i]? = some (some (.lst p xs))) (ha : ixN xs.length j = some n) (h : E.nx (g.set i (some (.lst p (xs.set n (.pur u.d)))))) : setAt i u (.pur (.int j)) g E := by
  unfold setAt
  have e2 : (O.pur (.int j)).d = .int j := rfl
  simp only [e, e2, ha]
  exact h
/-! ### a cut between statements -/
def wCut (w1 w2 : WS) : WS := fun We E g => ∃ I : Gam → Prop, w1 We { E with nx := I } g ∧ ∀ g2, I g2 → w2 We E g2
theorem gss_cut {X : Cx} {W : WX} {st : Stmt} {rest : List Stmt} {ws wr : WS} (h1 : GS X W st ws) (h2 : GSs X W rest wr) : GSs X W (st :: rest) (wCut ws wr) := by
  obtain ⟨t, p, q⟩ := h1.ex
  obtain ⟨t2, p2, q2⟩ := h2.ex
  refine ⟨tSeq t t2, pss_cons p p2, fun b h σ g We E D k hw hx ct => ?_⟩
  obtain ⟨I, hw, hI⟩ := hw
  exact q b h σ g We _ _ k hw hx ⟨fun σ2 b2 h2 g2 k2 f2 p2 => q2 b2 h2 σ2 g2 We E D k2 (hI g2 p2) (hx.step f2) (ct.step f2), ct.bk, ct.ct, ct.rt⟩
/-! ### a return with an argument's own object -/
theorem rt_dK {as : List O} {R : O → Gam → Prop} {o : O} {p : Addr} {ks ks' : List Key} {xs xs' : List O} {g : Gam} (h : R o (some (.dK p ks' xs') :: aft as g)) : (endsOf (.dK p ks xs :: as) R).rt o (some (.dK p ks' xs') :: g) := by
  have e : aft (.dK p ks xs :: as) (some (.dK p ks' xs') :: g) = some (.dK p ks' xs') :: aft as g := by simp [aft, keepA, root]
  show R o (aft _ _)
  rw [e]
  exact h
/-! ### own dicts -/
theorem dget_i {i : Nat} {we : WE} {We : Wsh} {g : Gam} {P : O → Gam → Prop} {dk : D} {k : Key} {p : Addr} {ks : List Key} {xs : List O} {j : Nat} {d : D} (hwe : ∀ Q : O → Gam → Prop, Q (.pur dk) g → we We g Q) (hk : dk.key = some k)
    (e : g[i]? = some (some (.dK p ks xs))) (hf : findK ks k = some j) (hx : xs[j]? = some (.pur d)) (h : P (.pur d) g) : wDGetO i we We g P := by
  unfold wDGetO
  refine ⟨by rw [e]; trivial, hwe _ ?_⟩
  have e2 : (O.pur dk).d.key = some k := hk
  simp only [e, e2, hf, hx]
  exact h
theorem dput_i {i : Nat} {we : WE} {We : Wsh} {g : Gam} {E : GEnds} {u : O} {dk : D} {k : Key} {p : Addr} {ks : List Key} {xs : List O} {j : Nat} (hwe : ∀ Q : O → Gam → Prop, Q (.pur dk) g → we We g Q) (hk : dk.key = some k)
    (e : g[i]? = some (some (.dK p ks xs))) (hf : findK ks k = some j) (nd : ks.Nodup) (hn : xs.length < sizeLine) (h : E.nx (g.set i (some (.dK p ks (xs.set j (.pur u.d)))))) : dput i we We E u g := by
  unfold dput
  refine ⟨by rw [e]; trivial, hwe _ ?_⟩
  have e2 : (O.pur dk).d.key = some k := hk
  simp only [e, e2]
  refine ⟨nd, hn, ?_⟩
  unfold putO
  rw [hf]
  exact h
theorem dadd_i {i : Nat} {we wv : WE} {We : Wsh} {g : Gam} {E : GEnds} {dk : D} {k : Key} {p : Addr} {ks : List Key} {xs : List O} {j : Nat} {n m : Int} (hwe : ∀ Q : O → Gam → Prop, Q (.pur dk) g → we We g Q) (hk : dk.key = some k)
    (e : g[i]? = some (some (.dK p ks xs))) (hf : findK ks k = some j) (hx : xs[j]? = some (.pur (.int n))) (hwv : ∀ Q : O → Gam → Prop, Q (.pur (.int m)) g → wv We g Q) (nd : ks.Nodup) (hn : xs.length < sizeLine)
    (h : E.nx (g.set i (some (.dK p ks (xs.set j (.pur (.int (n + m)))))))) : wDAddO i we wv We E g := by
  unfold wDAddO
  refine ⟨by rw [e]; trivial, hwe _ ?_⟩
  have e2 : (O.pur dk).d.key = some k := hk
  simp only [e, e2, hf, hx]
  refine hwv _ ?_
  have e3 : (O.pur (D.int m)).d = .int m := rfl
  simp only [e, e3]
  refine ⟨nd, hn, ?_⟩
  unfold putO
  rw [hf]
  exact h
theorem dget_s {i : Nat} {We : Wsh} {g : Gam} {P : O → Gam → Prop} {y : Str} {p : Addr} {ks : List Key} {xs : List O} {j : Nat} {d : D}
    (e : g[i]? = some (some (.dK p ks xs))) (hf : findK ks (.inr y) = some j) (hx : xs[j]? = some (.pur d)) (h : P (.pur d) g) : wDGetO i (wC (.str y)) We g P := dget_i (dk := .str y) (fun Q q => q) rfl e hf hx h
theorem dput_s {i : Nat} {We : Wsh} {g : Gam} {E : GEnds} {u : O} {y : Str} {p : Addr} {ks : List Key} {xs : List O} {j : Nat}
    (e : g[i]? = some (some (.dK p ks xs))) (hf : findK ks (.inr y) = some j) (nd : ks.Nodup) (hn : xs.length < sizeLine) (h : E.nx (g.set i (some (.dK p ks (xs.set j (.pur u.d)))))) : dput i (wC (.str y)) We E u g := dput_i (dk := .str y) (fun Q q => q) rfl e hf nd hn h
theorem dadd_s {i : Nat} {We : Wsh} {g : Gam} {E : GEnds} {y : Str} {p : Addr} {ks : List Key} {xs : List O} {j : Nat} {n m : Int}
    (e : g[i]? = some (some (.dK p ks xs))) (hf : findK ks (.inr y) = some j) (hx : xs[j]? = some (.pur (.int n))) (nd : ks.Nodup) (hn : xs.length < sizeLine)
    (h : E.nx (g.set i (some (.dK p ks (xs.set j (.pur (.int (n + m)))))))) : wDAddO i (wC (.str y)) (wC (.int m)) We E g := dadd_i (dk := .str y) (fun Q q => q) rfl e hf hx (fun Q q => q) nd hn h
theorem rng_len (lo : Int) (n : Nat) : (rngD lo n).length = n := by simp [rngD]
theorem rng_at {lo : Int} {n i : Nat} {d : D} (e : (rngD lo n)[i]? = some d) : d = .int (lo + (i : Nat)) ∧ i < n := by
  have hi : i < n := by rw [← rng_len lo n]; exact (List.getElem?_eq_some_iff.mp e).1
  refine ⟨?_, hi⟩
  unfold rngD at e
  rw [List.getElem?_map, List.getElem?_range hi] at e
  cases e
  rfl
theorem eqV_ints (x y : Int) : eqV (.int y) (.int x) = decide (y = x) := by
  by_cases h : y = x
  · subst h; simp [eqV]
  · simp [eqV, h]
theorem inV_ints (x : Int) : ∀ ns : List Int, inV (.int x) (ns.map .int) = decide (x ∈ ns)
  | [] => rfl
  | n :: ns => by
    have e : inV (.int x) ((n :: ns).map .int) = (eqV (.int n) (.int x) || inV (.int x) (ns.map .int)) := rfl
    rw [e, inV_ints x ns, eqV_ints]
    by_cases h : n = x
    · subst h; simp
    · have h' : ¬ x = n := fun e => h e.symm
      simp [h, h']
theorem flL_ints : ∀ ns : List Int, flL (ns.map .int) = some (ns.map .int)
  | [] => rfl
  | n :: ns => by
    show (match (D.int n).fl, flL (ns.map .int) with
      | some v, some vs => some (v :: vs)
      | _, _ => none) = _
    rw [flL_ints ns]
    rfl
/-- x in a list of ints, x not in it -/
theorem in_ints {neg : Bool} {x : Int} {ns : List Int} {P : O → Prop} (h : P (.pur (.bl (if neg then !decide (x ∈ ns) else decide (x ∈ ns))))) : roIn neg (.int x) (.lst (ns.map .int)) P := by
  unfold roIn
  show (match (D.int x).fl, flL (ns.map .int) with
    | some v, some vs => P (.pur (.bl (if neg then !inV v vs else inV v vs)))
    | _, _ => False)
  rw [flL_ints ns]
  show P (.pur (.bl (if neg then !inV (.int x) (ns.map .int) else inV (.int x) (ns.map .int))))
  rw [inV_ints]
  exact h
theorem in_own {neg : Bool} {x : Int} {ns : List Int} {P : O → Prop} (h : P (.pur (.bl (if neg then !decide (x ∈ ns) else decide (x ∈ ns))))) : roIn neg (.int x) (.lst (O.dL ((ns.map D.int).map .pur))) P := by
  rw [dL_pur]
  exact in_ints h
theorem lenSet_i {we : WE} {We : Wsh} {g : Gam} {P : O → Gam → Prop} {ds : List D} {ns : List Int} (hi : ∀ Q : O → Gam → Prop, Q (.pur (.tup ds)) g → we We g Q) (en : intsOf ds = some ns) (hn : ns.length ≤ 4000)
    (h : ∀ c : Nat, c ≤ ns.length → (c = ns.length ↔ ns.Nodup) → P (.pur (.int c)) g) : wLenSet we We g P := by
  unfold wLenSet
  refine hi _ ?_
  show (match intsOf ds with
    | some ns => ns.length ≤ 4000 ∧ ∀ c : Nat, c ≤ ns.length → (c = ns.length ↔ ns.Nodup) → P (.pur (.int c)) g
    | none => False)
  rw [en]
  exact ⟨hn, h⟩
end G
/-! G: chains of three comparisons. -/
namespace G
open PySem L2 PyProof PyProof.Rows
open Evl (Ex)
section
variable {X : Cx} {W : WX} {r r2 r3 : RO} {r' r2' r3' : R2} {a c e f : Expr} {ta tb tc td : TE} {wa wb wc wd : WE}
def tChain3 (r r' r'' : R2) (ta tb tc td : TE) : TE := fun σ H Q => ta σ H fun x H1 => tb σ H1 fun y H2 => r x y H2 fun z H3 => ∃ k, z = .bl k ∧
  (if k = true then tc σ H3 fun w' H4 => r' y w' H4 fun z2 H5 => ∃ k2, z2 = .bl k2 ∧ (if k2 = true then td σ H5 fun u' H6 => r'' w' u' H6 Q else Q (.bl false) H5) else Q (.bl false) H3)
theorem pe_chain3 {op op' op'' : CmpOp} {r r' r'' : R2} {b : Expr} {pos : Pos} (ho : OpR X (compareOp op) r) (ho' : OpR X (compareOp op') r') (ho'' : OpR X (compareOp op'') r'') (ha : PE X a ta) (hb : PE X b tb) (hc : PE X c tc) (hd : PE X e td)
    (hm : lastMarks [op, op', op''] [b, c, e] = false := by with_unfolding_all rfl) : PE X (.Compare a [op, op', op''] [b, c, e] pos) (tChain3 r r' r'' ta tb tc td) := by
  refine ⟨fun pins s σ H Q I h => ?_⟩
  refine Compare_chain (thn (ha.run pins s σ H _ I h) fun v s1 ⟨x, H1, I1, r1, q1⟩ => chain_link (thn (hb.run pins s1 σ H1 _ I1 q1) fun u s2 ⟨y, H2, I2, r2, q2⟩ =>
    thn (ho pins s2 σ H2 x y v u _ I2 r1 r2 q2) fun d s3 ⟨z, H3, I3, r3, k, e, q3⟩ => ?_)) hm
  subst e
  cases r3
  refine wpAny_truthy_bool ?_
  cases k with
  | false => exact ite_ff ⟨.bl false, H3, I3, rfl, q3⟩
  | true =>
    refine ite_tt (chain_link (thn (hc.run pins s3 σ H3 _ I3 q3) fun w' s4 ⟨z', H4, I4, r4, q4⟩ => thn (ho' pins s4 σ H4 y z' u w' _ I4 r2 r4 q4) fun d2 s5 ⟨z2, H5, I5, r5, k2, e2, q5⟩ => ?_))
    subst e2
    cases r5
    refine wpAny_truthy_bool ?_
    cases k2 with
    | false => exact ite_ff ⟨.bl false, H5, I5, rfl, q5⟩
    | true => exact ite_tt (chain_last (thn (hd.run pins s5 σ H5 _ I5 q5) fun w3 s6 ⟨z3, H6, I6, r6, q6⟩ => ho'' pins s6 σ H6 z' z3 w' w3 Q I6 r4 r6 q6))
/-- a < b < c < d -/
def wChain3 (r r2 r3 : RO) (wa wb wc wd : WE) : WE := fun We g P => wa We g fun x g1 => wb We g1 fun y g2 => r x.d y.d fun z => D.isTrue z fun k =>
  br k (wc We g2 fun u g3 => r2 y.d u.d fun z2 => D.isTrue z2 fun k2 => br k2 (wd We g3 fun t g4 => r3 u.d t.d fun z3 => P z3 g4) (P (.pur (.bl false)) g3)) (P (.pur (.bl false)) g2)
theorem four (br : Brd X.K r r') (br2 : Brd X.K r2 r2') (br3 : Brd X.K r3 r3') (ha : ∀ b h σ g We P Q, Hold X.K b h σ g → wa We g P → ContX X.K g b h We W → Cont X.K g b h σ P Q → ta σ h Q)
    (hb : ∀ b h σ g We P Q, Hold X.K b h σ g → wb We g P → ContX X.K g b h We W → Cont X.K g b h σ P Q → tb σ h Q)
    (hc : ∀ b h σ g We P Q, Hold X.K b h σ g → wc We g P → ContX X.K g b h We W → Cont X.K g b h σ P Q → tc σ h Q)
    (hd : ∀ b h σ g We P Q, Hold X.K b h σ g → wd We g P → ContX X.K g b h We W → Cont X.K g b h σ P Q → td σ h Q) {b h : Hp} {σ : L2.St} {g : Gam} {We : Wsh} {P : O → Gam → Prop} {Q : VK}
    (k : Hold X.K b h σ g) (hw : wChain3 r r2 r3 wa wb wc wd We g P) (hx : ContX X.K g b h We W) (ct : Cont X.K g b h σ P Q) : tChain3 r' r2' r3' ta tb tc td σ h Q := by
  refine two (P := fun x y g2 => r x y fun z => D.isTrue z fun k => G.br k (wc We g2 fun u g3 => r2 y u.d fun z2 => D.isTrue z2 fun k2 => G.br k2 (wd We g3 fun t g4 => r3 u.d t.d fun z3 => P z3 g4) (P (.pur (.bl false)) g3)) (P (.pur (.bl false)) g2))
    (Q := fun v u h2 => r' v u h2 fun z h3 => ∃ k, z = .bl k ∧ if k = true then tc σ h3 fun w h4 => r2' u w h4 fun z2 h5 => ∃ k2, z2 = .bl k2 ∧ (if k2 = true then td σ h5 fun u' h6 => r3' w u' h6 Q else Q (.bl false) h5) else Q (.bl false) h3) ha hb k hw hx fun v u b' h' g' x y k' f' zx zy p => ?_
  refine br b' h' v u x y _ _ k'.sub zx zy p fun z b2 h2 o rs q => ?_
  obtain ⟨k2, f2⟩ := rs.lift k'
  refine test_of (P := fun k g2 => G.br k (wc We g2 fun u g3 => r2 y u.d fun z2 => D.isTrue z2 fun k2 => G.br k2 (wd We g3 fun t g4 => r3 u.d t.d fun z3 => P z3 g4) (P (.pur (.bl false)) g3)) (P (.pur (.bl false)) g2))
    (Q := fun k h3 => if k = true then tc σ h3 fun w h4 => r2' u w h4 fun z2 h5 => ∃ k2, z2 = .bl k2 ∧ (if k2 = true then td σ h5 fun u' h6 => r3' w u' h6 Q else Q (.bl false) h5) else Q (.bl false) h3) k2 f2 q fun kk b3 h3 g3 k3 f3 p3 => ?_
  cases kk with
  | false => exact fin k3 (f'.trans f3) (Res.same k3.sub (d := .bl false) rfl) ct (br_f.mp p3)
  | true =>
    refine hc b3 h3 σ g3 We _ _ k3 (br_t.mp p3) (hx.step (f'.trans f3)) fun w b4 h4 g4 z4 k4 f4 p4 => ?_
    obtain ⟨b5, k5, f5, zw⟩ := come k4 f4
    have f6 := f3.trans f5
    refine br2 b5 h4 u w y z4.d _ _ k5.sub (den_mono f6.bs _ _ zy) zw p4 fun v5 b6 h6 o6 rs6 q6 => ?_
    obtain ⟨k7, f7⟩ := rs6.lift k5
    refine test_of (P := fun k2 g2 => G.br k2 (wd We g2 fun t g4 => r3 z4.d t.d fun z3 => P z3 g4) (P (.pur (.bl false)) g2))
      (Q := fun k2 h5 => if k2 = true then td σ h5 fun u' h6 => r3' w u' h6 Q else Q (.bl false) h5) k7 f7 q6 fun kk b8 h8 g8 k8 f8 p8 => ?_
    have f9 := f6.trans f8
    cases kk with
    | false => exact fin k8 (f'.trans f9) (Res.same k8.sub (d := .bl false) rfl) ct (br_f.mp p8)
    | true =>
      refine hd b8 h8 σ g8 We _ _ k8 (br_t.mp p8) (hx.step (f'.trans f9)) fun t b10 h10 g10 o10 k10 f10 p10 => ?_
      obtain ⟨b11, k11, f11, zt⟩ := come k10 f10
      exact br3 b11 h10 w t z4.d o10.d _ Q k11.sub (den_mono (f8.trans f11).bs _ _ zw) zt p10 fun v12 b12 h12 o12 rs12 q12 => fin k11 (f'.trans (f9.trans f11)) rs12 ct q12
theorem ge_chain3 {b : Expr} {op op2 op3 : CmpOp} {pos : Pos} (ho : OpG X (compareOp op) r' r) (ho2 : OpG X (compareOp op2) r2' r2) (ho3 : OpG X (compareOp op3) r3' r3) (ha : GE X W a ta wa) (hb : GE X W b tb wb) (hc : GE X W c tc wc) (hd : GE X W e td wd)
    (hm : lastMarks [op, op2, op3] [b, c, e] = false := by with_unfolding_all rfl) :
    GE X W (.Compare a [op, op2, op3] [b, c, e] pos) (tChain3 r' r2' r3' ta tb tc td) (wChain3 r r2 r3 wa wb wc wd) :=
  ⟨pe_chain3 ho.pe ho2.pe ho3.pe ha.pe hb.pe hc.pe hd.pe hm, fun b h σ g We P Q k hw hx ct => four ho.se ho2.se ho3.se ha.se hb.se hc.se hd.se k hw hx ct⟩
/-! ### x in ys, ys the def's own list -/
theorem ownL_fl {K : PySem.W.Frag} {b h : Hp} : ∀ {os : List O} {vs us : List V}, ownL K b h os vs → flL (O.dL os) = some us → vs = us ∧ us.all flatV = true
  | [], _, _, z, e => by
    have z' : _ = ([] : List V) := z
    cases e
    exact ⟨z', rfl⟩
  | o :: os, _, us, ⟨v, r, e1, z, t⟩, e => by
    subst e1
    have e' : (match o.d.fl, flL (O.dL os) with
      | some v, some vs => some (v :: vs)
      | _, _ => none) = some us := e
    split at e'
    · rename_i v' vs' q1 q2
      cases e'
      obtain ⟨rfl, f2⟩ := ownL_fl t q2
      cases o with
      | pur d =>
        obtain ⟨rfl, f1⟩ := fl_ok z q1
        exact ⟨rfl, by rw [List.all_cons, f1, f2]; rfl⟩
      | lst _ _ => cases q1
      | dK _ _ _ => cases q1
      | dT _ _ _ => cases q1
      | ins _ _ _ _ _ => cases q1
    · cases e'
def wInO (neg : Bool) (i : Nat) (wa : WE) : WE := fun We g P => wa We g fun o g1 => match g1[i]? with
  | some (some (.lst _ xs)) => roIn neg o.d (.lst (O.dL xs)) fun z => P z g1
  | _ => False
theorem in_se {neg : Bool} {i : Nat} (qa : ∀ b h σ g We P Q, Hold X.K b h σ g → wa We g P → ContX X.K g b h We W → Cont X.K g b h σ P Q → ta σ h Q) :
    ∀ b h σ g We P Q, Hold X.K b h σ g → wInO neg i wa We g P → ContX X.K g b h We W → Cont X.K g b h σ P Q → tOp (rIn X.K neg) ta (tVar i) σ h Q := by
  intro b h σ g We P Q k hw hx ct
  refine qa b h σ g We _ _ k hw hx fun v b' h' g' o k' f' p' => ?_
  obtain ⟨b2, k2, f2, zo⟩ := come k' f'
  split at p'
  · rename_i p1 xs e1
    obtain ⟨v1, ev1, ev2, vs, hp, z⟩ := k2.sl i _ e1
    subst ev2
    refine ⟨_, ev1, p1, vs, rfl, .inl (SqL.of hp), ?_⟩
    unfold roIn at p'
    simp only at p'
    split at p'
    · rename_i v' ws q1 q2
      obtain ⟨rfl, fx⟩ := fl_ok zo q1
      obtain ⟨rfl, fs⟩ := ownL_fl z q2
      exact ⟨fx, fs, fin k2 f2 (Res.same k2.sub (d := .bl _) rfl) ct p'⟩
    · exact p'.elim
  · exact p'.elim
theorem ge_inO {i : Nat} {x : Str} {p pos : Pos} (ha : GE X W a ta wa) (hN : X.N[i]? = some x := by rfl) (hv : Vis X.env.scope x := by first | exact Or.inl rfl | exact Or.inr (Or.inl rfl) | exact Or.inr (Or.inr rfl))
    (hd : (x == ("__debug__" : Str)) = false := by decide) (hcd : (x == ("__classdict__" : Str)) = false := by decide) (hm : behindInMarks .In (.Name x p) = false := by rfl) {K : PySem.W.Frag} (hK : X.K = K := by exact rfl) :
    GE X W (.Compare a [.In] [.Name x p] pos) (tOp (rIn K false) ta (tVar i)) (wInO false i wa) := by
  subst hK
  exact ⟨pe_cmpR op_in_seq ha.pe (pe_var hN hv hd hcd) hm, in_se ha.se⟩
theorem ge_notInO {i : Nat} {x : Str} {p pos : Pos} (ha : GE X W a ta wa) (hN : X.N[i]? = some x := by rfl) (hv : Vis X.env.scope x := by first | exact Or.inl rfl | exact Or.inr (Or.inl rfl) | exact Or.inr (Or.inr rfl))
    (hd : (x == ("__debug__" : Str)) = false := by decide) (hcd : (x == ("__classdict__" : Str)) = false := by decide) (hm : behindInMarks .NotIn (.Name x p) = false := by rfl) {K : PySem.W.Frag} (hK : X.K = K := by exact rfl) :
    GE X W (.Compare a [.NotIn] [.Name x p] pos) (tOp (rIn K true) ta (tVar i)) (wInO true i wa) := by
  subst hK
  exact ⟨pe_cmpR op_notIn_seq ha.pe (pe_var hN hv hd hcd) hm, in_se ha.se⟩
theorem gt_inO {i : Nat} {x : Str} {p pos : Pos} (ha : GE X W a ta wa) (hN : X.N[i]? = some x := by rfl) (hv : Vis X.env.scope x := by first | exact Or.inl rfl | exact Or.inr (Or.inl rfl) | exact Or.inr (Or.inr rfl))
    (hd : (x == ("__debug__" : Str)) = false := by decide) (hcd : (x == ("__classdict__" : Str)) = false := by decide) (hm : behindInMarks .In (.Name x p) = false := by rfl) {K : PySem.W.Frag} (hK : X.K = K := by exact rfl) :
    GT X W (.Compare a [.In] [.Name x p] pos) (tTest (tOp (rIn K false) ta (tVar i))) (wTest (wInO false i wa)) := by
  subst hK
  exact ⟨pt_cmpR op_in_seq ha.pe (pe_var hN hv hd hcd) hm, fun b h σ g We P Q k hw hx ct => in_se ha.se b h σ g We _ _ k hw hx fun v b' h' g' o k' f' p' => test_of k' f' p' ct⟩
theorem gt_notInO {i : Nat} {x : Str} {p pos : Pos} (ha : GE X W a ta wa) (hN : X.N[i]? = some x := by rfl) (hv : Vis X.env.scope x := by first | exact Or.inl rfl | exact Or.inr (Or.inl rfl) | exact Or.inr (Or.inr rfl))
    (hd : (x == ("__debug__" : Str)) = false := by decide) (hcd : (x == ("__classdict__" : Str)) = false := by decide) (hm : behindInMarks .NotIn (.Name x p) = false := by rfl) {K : PySem.W.Frag} (hK : X.K = K := by exact rfl) :
    GT X W (.Compare a [.NotIn] [.Name x p] pos) (tTest (tOp (rIn K true) ta (tVar i))) (wTest (wInO true i wa)) := by
  subst hK
  exact ⟨pt_cmpR op_notIn_seq ha.pe (pe_var hN hv hd hcd) hm, fun b h σ g We P Q k hw hx ct => in_se ha.se b h σ g We _ _ k hw hx fun v b' h' g' o k' f' p' => test_of k' f' p' ct⟩
end
end G
/-! G: a law's end. -/
namespace G
open PySem L2
open Evl (Ex)
theorem cx_false {P : Program} {w : World} {H : Hp} {s : Shared} {e : Value} {s' : Shared} (z : L2.CX P w [] H s (fun _ _ _ => False) e s') : False := by
  obtain ⟨_, _, _, _, _, _, _, _, _, _, _, _, h⟩ := z
  exact h
theorem ints_den {K : PySem.W.Frag} {b : Hp} : ∀ ns : List Int, denL K b (ns.map D.int) (ns.map V.int)
  | [] => rfl
  | n :: ns => ⟨.int n, ns.map V.int, rfl, rfl, ints_den ns⟩
theorem law_start {K : PySem.W.Frag} {pm : Pm} {H : Hp} {a : Addr} {ns : List Int} (hS : SqL K H a (ns.map V.int)) (h : pm [.pur (.lst (ns.map .int))] (fun _ _ => False) (fun o _ => o = .pur (.bl true))) :
    spOf K 1 pm [.ref a] H (fun v _ => v = .bl true) fun _ _ _ => False := by
  refine ⟨H, [.pur (.lst (ns.map .int))], _, _, rfl, ?_, h, ?_, ?_⟩
  · refine ⟨Ex.refl H, rfl, ?_, ?_, ?_, ?_⟩
    · intro i o e
      match i with
      | 0 =>
        cases e
        exact ⟨.ref a, rfl, a, _, rfl, hS, ints_den ns⟩
      | i + 1 => simp at e
    · intro i o e
      match i with
      | 0 => cases e; exact List.nodup_nil
      | i + 1 => simp at e
    · intro i j o u ne e1 e2 a m
      match i with
      | 0 => cases e1; exact (List.not_mem_nil m).elim
      | i + 1 => simp at e1
    · intro i o e a m
      match i with
      | 0 => cases e; exact (List.not_mem_nil m).elim
      | i + 1 => simp at e
  · intro v b' h' g' o k _ e
    subst e
    obtain ⟨v', e1, z⟩ := k.sl 0 _ rfl
    cases e1
    exact z
  · intro cls d b' h' g' x _ _ _ z
    exact z
end G
namespace K59
open PySem PySem.Spec PyProof.Rows L2 G
/-! ### the text by places -/
def top (i : Nat) : Stmt := PySem.Challenge.pw_throngways_k59_whole_growing.main.body.getD i (.Pass ⟨0, 0, 0, 0⟩)
abbrev s_common_divisor : Stmt := top 6
theorem sc_common_divisor : FnScope ["one", "other"] ["one", "other"] (defScope s_common_divisor) := ⟨rfl, rfl, rfl, by decide +kernel, rfl, by decide +kernel, by decide +kernel⟩
def d_common_divisor : He.DefD := ⟨("common_divisor", none), "common_divisor", "common_divisor", defArgs s_common_divisor, defBody s_common_divisor, defScope s_common_divisor, [], []⟩
abbrev s_made : Stmt := top 7
theorem sc_made : FnScope ["top", "bottom", "part"] ["top", "bottom"] (defScope s_made) := ⟨rfl, rfl, rfl, by decide +kernel, rfl, by decide +kernel, by decide +kernel⟩
def d_made : He.DefD := ⟨("made", none), "made", "made", defArgs s_made, defBody s_made, defScope s_made, [], []⟩
abbrev s_is_integer : Stmt := top 12
theorem sc_is_integer : FnScope ["thing"] ["thing"] (defScope s_is_integer) := ⟨rfl, rfl, rfl, by decide +kernel, rfl, by decide +kernel, by decide +kernel⟩
def d_is_integer : He.DefD := ⟨("is_integer", none), "is_integer", "is_integer", defArgs s_is_integer, defBody s_is_integer, defScope s_is_integer, [], []⟩
abbrev s_is_within : Stmt := top 13
theorem sc_is_within : FnScope ["thing", "least", "most"] ["thing", "least", "most"] (defScope s_is_within) := ⟨rfl, rfl, rfl, by decide +kernel, rfl, by decide +kernel, by decide +kernel⟩
def d_is_within : He.DefD := ⟨("is_within", none), "is_within", "is_within", defArgs s_is_within, defBody s_is_within, defScope s_is_within, [], []⟩
abbrev s_is_pair : Stmt := top 14
theorem sc_is_pair : FnScope ["thing"] ["thing"] (defScope s_is_pair) := ⟨rfl, rfl, rfl, by decide +kernel, rfl, by decide +kernel, by decide +kernel⟩
def d_is_pair : He.DefD := ⟨("is_pair", none), "is_pair", "is_pair", defArgs s_is_pair, defBody s_is_pair, defScope s_is_pair, [], []⟩
abbrev s_is_road : Stmt := top 15
theorem sc_is_road : FnScope ["roads", "thing"] ["roads", "thing"] (defScope s_is_road) := ⟨rfl, rfl, rfl, by decide +kernel, rfl, by decide +kernel, by decide +kernel⟩
def d_is_road : He.DefD := ⟨("is_road", none), "is_road", "is_road", defArgs s_is_road, defBody s_is_road, defScope s_is_road, [], []⟩
abbrev s_is_way : Stmt := top 16
theorem sc_is_way : FnScope ["roads", "thing", "road"] ["roads", "thing"] (defScope s_is_way) := ⟨rfl, rfl, rfl, by decide +kernel, rfl, by decide +kernel, by decide +kernel⟩
def d_is_way : He.DefD := ⟨("is_way", none), "is_way", "is_way", defArgs s_is_way, defBody s_is_way, defScope s_is_way, [], []⟩
abbrev s_is_roads_pair : Stmt := top 17
theorem sc_is_roads_pair : FnScope ["roads", "thing"] ["roads", "thing"] (defScope s_is_roads_pair) := ⟨rfl, rfl, rfl, by decide +kernel, rfl, by decide +kernel, by decide +kernel⟩
def d_is_roads_pair : He.DefD := ⟨("is_roads_pair", none), "is_roads_pair", "is_roads_pair", defArgs s_is_roads_pair, defBody s_is_roads_pair, defScope s_is_roads_pair, [], []⟩
abbrev s_is_fraction : Stmt := top 18
theorem sc_is_fraction : FnScope ["thing"] ["thing"] (defScope s_is_fraction) := ⟨rfl, rfl, rfl, by decide +kernel, rfl, by decide +kernel, by decide +kernel⟩
def d_is_fraction : He.DefD := ⟨("is_fraction", none), "is_fraction", "is_fraction", defArgs s_is_fraction, defBody s_is_fraction, defScope s_is_fraction, [], []⟩
abbrev s_is_rate : Stmt := top 19
theorem sc_is_rate : FnScope ["thing"] ["thing"] (defScope s_is_rate) := ⟨rfl, rfl, rfl, by decide +kernel, rfl, by decide +kernel, by decide +kernel⟩
def d_is_rate : He.DefD := ⟨("is_rate", none), "is_rate", "is_rate", defArgs s_is_rate, defBody s_is_rate, defScope s_is_rate, [], []⟩
abbrev s_check_rate : Stmt := top 20
theorem sc_check_rate : FnScope ["thing"] ["thing"] (defScope s_check_rate) := ⟨rfl, rfl, rfl, by decide +kernel, rfl, by decide +kernel, by decide +kernel⟩
def d_check_rate : He.DefD := ⟨("check_rate", none), "check_rate", "check_rate", defArgs s_check_rate, defBody s_check_rate, defScope s_check_rate, [], []⟩
abbrev s_are_moves : Stmt := top 22
theorem sc_are_moves : FnScope ["goal", "thing", "met", "move"] ["goal", "thing"] (defScope s_are_moves) := ⟨rfl, rfl, rfl, by decide +kernel, rfl, by decide +kernel, by decide +kernel⟩
def d_are_moves : He.DefD := ⟨("are_moves", none), "are_moves", "are_moves", defArgs s_are_moves, defBody s_are_moves, defScope s_are_moves, [], []⟩
abbrev s_is_tangle_form : Stmt := top 23
theorem sc_is_tangle_form : FnScope ["thing", "goal", "first", "second", "moves", "ends", "road", "move"] ["thing"] (defScope s_is_tangle_form) := ⟨rfl, rfl, rfl, by decide +kernel, rfl, by decide +kernel, by decide +kernel⟩
def d_is_tangle_form : He.DefD := ⟨("is_tangle_form", none), "is_tangle_form", "is_tangle_form", defArgs s_is_tangle_form, defBody s_is_tangle_form, defScope s_is_tangle_form, [], []⟩
abbrev s_part_of : Stmt := top 26
theorem sc_part_of : FnScope ["rate", "stock"] ["rate", "stock"] (defScope s_part_of) := ⟨rfl, rfl, rfl, by decide +kernel, rfl, by decide +kernel, by decide +kernel⟩
def d_part_of : He.DefD := ⟨("part_of", none), "part_of", "part_of", defArgs s_part_of, defBody s_part_of, defScope s_part_of, [], []⟩
abbrev s_check_form : Stmt := top 27
theorem sc_check_form : FnScope ["tangle"] ["tangle"] (defScope s_check_form) := ⟨rfl, rfl, rfl, by decide +kernel, rfl, by decide +kernel, by decide +kernel⟩
def d_check_form : He.DefD := ⟨("check_form", none), "check_form", "check_form", defArgs s_check_form, defBody s_check_form, defScope s_check_form, [], []⟩
abbrev s_told : Stmt := top 28
theorem sc_told : FnScope ["moves", "rate", "stock", "_"] ["moves", "rate", "stock"] (defScope s_told) := ⟨rfl, rfl, rfl, by decide +kernel, rfl, by decide +kernel, by decide +kernel⟩
def d_told : He.DefD := ⟨("told", none), "told", "told", defArgs s_told, defBody s_told, defScope s_told, [], []⟩
abbrev s_told_stock : Stmt := top 29
theorem sc_told_stock : FnScope ["tangle", "rate", "stock"] ["tangle", "rate", "stock"] (defScope s_told_stock) := ⟨rfl, rfl, rfl, by decide +kernel, rfl, by decide +kernel, by decide +kernel⟩
def d_told_stock : He.DefD := ⟨("told_stock", none), "told_stock", "told_stock", defArgs s_told_stock, defBody s_told_stock, defScope s_told_stock, [], []⟩
abbrev s_growth : Stmt := top 30
theorem sc_growth : FnScope ["tangle", "rate", "top", "bottom", "result", "_"] ["tangle", "rate"] (defScope s_growth) := ⟨rfl, rfl, rfl, by decide +kernel, rfl, by decide +kernel, by decide +kernel⟩
def d_growth : He.DefD := ⟨("growth", none), "growth", "growth", defArgs s_growth, defBody s_growth, defScope s_growth, [], []⟩
abbrev s_grown : Stmt := top 31
theorem sc_grown : FnScope ["moves", "rate", "stock"] ["moves"] (defScope s_grown) := ⟨rfl, rfl, rfl, by decide +kernel, rfl, by decide +kernel, by decide +kernel⟩
def d_grown : He.DefD := ⟨("grown", none), "grown", "grown", defArgs s_grown, defBody s_grown, defScope s_grown, [], []⟩
abbrev s_growing : Stmt := top 32
theorem sc_growing : FnScope ["tangle"] ["tangle"] (defScope s_growing) := ⟨rfl, rfl, rfl, by decide +kernel, rfl, by decide +kernel, by decide +kernel⟩
def d_growing : He.DefD := ⟨("growing", none), "growing", "growing", defArgs s_growing, defBody s_growing, defScope s_growing, [], []⟩
abbrev s__law_source : Stmt := top 34
theorem sc__law_source : FnScope ["_law_script"] ["_law_script"] (defScope s__law_source) := ⟨rfl, rfl, rfl, by decide +kernel, rfl, by decide +kernel, by decide +kernel⟩
def d__law_source : He.DefD := ⟨("_law_source", none), "_law_source", "_law_source", defArgs s__law_source, defBody s__law_source, defScope s__law_source, [], []⟩
abbrev s__law_draw : Stmt := top 35
theorem sc__law_draw : FnScope ["_law_source_here", "_law_many", "_law_cell", "_law_digit", "_law_number"] ["_law_source_here", "_law_many"] (defScope s__law_draw) := ⟨rfl, rfl, rfl, by decide +kernel, rfl, by decide +kernel, by decide +kernel⟩
def d__law_draw : He.DefD := ⟨("_law_draw", none), "_law_draw", "_law_draw", defArgs s__law_draw, defBody s__law_draw, defScope s__law_draw, [], []⟩
abbrev s__law_order : Stmt := top 36
theorem sc__law_order : FnScope ["_law_source_here", "_law_size", "_law_left", "_law_found", "_law_k"] ["_law_source_here", "_law_size"] (defScope s__law_order) := ⟨rfl, rfl, rfl, by decide +kernel, rfl, by decide +kernel, by decide +kernel⟩
def d__law_order : He.DefD := ⟨("_law_order", none), "_law_order", "_law_order", defArgs s__law_order, defBody s__law_order, defScope s__law_order, [], []⟩
abbrev s__law_is_integer : Stmt := top 37
theorem sc__law_is_integer : FnScope ["_law_thing"] ["_law_thing"] (defScope s__law_is_integer) := ⟨rfl, rfl, rfl, by decide +kernel, rfl, by decide +kernel, by decide +kernel⟩
def d__law_is_integer : He.DefD := ⟨("_law_is_integer", none), "_law_is_integer", "_law_is_integer", defArgs s__law_is_integer, defBody s__law_is_integer, defScope s__law_is_integer, [], []⟩
abbrev s__law_paper : Stmt := top 38
theorem sc__law_paper : FnScope ["_law_source_here", "_law_names", "_law_many", "_law_shape", "_law_moves", "_law_k", "_law_begin", "_law_first", "_law_second"] ["_law_source_here", "_law_names", "_law_many"] (defScope s__law_paper) := ⟨rfl, rfl, rfl, by decide +kernel, rfl, by decide +kernel, by decide +kernel⟩
def d__law_paper : He.DefD := ⟨("_law_paper", none), "_law_paper", "_law_paper", defArgs s__law_paper, defBody s__law_paper, defScope s__law_paper, [], []⟩
abbrev s__law_told : Stmt := top 39
theorem sc__law_told : FnScope ["_law_many", "_law_rate", "_law_stock", "_law_k"] ["_law_many", "_law_rate", "_law_stock"] (defScope s__law_told) := ⟨rfl, rfl, rfl, by decide +kernel, rfl, by decide +kernel, by decide +kernel⟩
def d__law_told : He.DefD := ⟨("_law_told", none), "_law_told", "_law_told", defArgs s__law_told, defBody s__law_told, defScope s__law_told, [], []⟩
abbrev s__law_is_pair : Stmt := top 40
theorem sc__law_is_pair : FnScope ["_law_thing"] ["_law_thing"] (defScope s__law_is_pair) := ⟨rfl, rfl, rfl, by decide +kernel, rfl, by decide +kernel, by decide +kernel⟩
def d__law_is_pair : He.DefD := ⟨("_law_is_pair", none), "_law_is_pair", "_law_is_pair", defArgs s__law_is_pair, defBody s__law_is_pair, defScope s__law_is_pair, [], []⟩
abbrev s_law : Stmt := top 41
theorem sc_law : FnScope ["_law_script", "_law_source_here", "_law_many", "_law_steps", "_law_paper_here", "_law_found", "_law_rate", "_law_stock", "_law_more", "_law_k", "_law_due", "_law_factor", "_law_part"] ["_law_script"] (defScope s_law) := ⟨rfl, rfl, rfl, by decide +kernel, rfl, by decide +kernel, by decide +kernel⟩
def d_law : He.DefD := ⟨("law", none), "law", "law", defArgs s_law, defBody s_law, defScope s_law, [], []⟩
/-! ### what the top leaves -/
structure Txt (K : PySem.W.Frag) (mg : Str → Option Value) : Prop where
  m_ValueError : mg "ValueError" = none
  m_abs : mg "abs" = none
  m_all : mg "all" = none
  m_bool : mg "bool" = none
  m_int : mg "int" = none
  m_isinstance : mg "isinstance" = none
  m_len : mg "len" = none
  m_list : mg "list" = none
  m_min : mg "min" = none
  m_range : mg "range" = none
  m_set : mg "set" = none
  m_tuple : mg "tuple" = none
  c_MOST_ROADS : ∃ t, mg "MOST_ROADS" = some (.int 40 t)
  c_MOST_WAY : ∃ t, mg "MOST_WAY" = some (.int 8 t)
  c_MOST_BOTTOM : ∃ t, mg "MOST_BOTTOM" = some (.int 1000 t)
  c_MOST_TOLD_STOCK : ∃ t, mg "MOST_TOLD_STOCK" = some (.int 1000000000 t)
theorem bt_ValueError : bootBuiltins "ValueError" = some (.type "ValueError") := by decide +kernel
theorem bt_abs : bootBuiltins "abs" = some (.builtin "abs") := by decide +kernel
theorem bt_all : bootBuiltins "all" = some (.builtin "all") := by decide +kernel
theorem bt_bool : bootBuiltins "bool" = some (.type "bool") := by decide +kernel
theorem bt_int : bootBuiltins "int" = some (.type "int") := by decide +kernel
theorem bt_isinstance : bootBuiltins "isinstance" = some (.builtin "isinstance") := by decide +kernel
theorem bt_len : bootBuiltins "len" = some (.builtin "len") := by decide +kernel
theorem bt_list : bootBuiltins "list" = some (.type "list") := by decide +kernel
theorem bt_min : bootBuiltins "min" = some (.builtin "min") := by decide +kernel
theorem bt_range : bootBuiltins "range" = some (.type "range") := by decide +kernel
theorem bt_set : bootBuiltins "set" = some (.type "set") := by decide +kernel
theorem bt_tuple : bootBuiltins "tuple" = some (.type "tuple") := by decide +kernel
structure Dfn (K : PySem.W.Frag) (mg : Str → Option Value) (d : He.DefD) : Prop where
  ex : ∃ fd, FunD K d.name d.qual d.params d.body d.scope [] [] (He.fAd K d.at_) fd ∧ mg d.name = some (.ref (He.fAd K d.at_))

theorem Ctx.blk {X : Cx} {W : WX} (C : Ctx X W) {s : Shared} {H : Hp} {scope : Scope} {cenv : PySem.Env} {fp : List Addr} : Ctx (X.blk s H scope cenv fp) W0 := ⟨takes0, PassesOwn.never, C.nd, C.calm⟩
theorem sz {n : Nat} (h : n ≤ 1000) : n ≤ sizeLine := Nat.le_trans h (by decide)
/-! ### data -/
abbrev pi (i : Int) : Option O := some (.pur (.int i))
def isIntD : D → Bool
  | .int _ => true
  | _ => false
theorem isD_int (d : D) : (isD d "int" && !isD d "bool") = isIntD d := by
  cases d <;> first | rfl | decide
def isTupD : D → Bool
  | .tup _ => true
  | _ => false
theorem isD_tup (d : D) : isD d "tuple" = isTupD d := by
  cases d <;> first | rfl | decide
def within (d : D) (lo hi : Int) : Bool := match d with
  | .int i => decide (lo ≤ i ∧ i ≤ hi)
  | _ => false
def gcdI (a b : Int) : Int := (Nat.gcd a.toNat b.toNat : Nat)
theorem gcdI_zero {x : Int} (h : 0 ≤ x) : gcdI x 0 = x := by
  unfold gcdI
  simp
  omega
theorem gcdI_step {x y : Int} (hx : 0 ≤ x) (hy : 0 < y) : gcdI y (x % y) = gcdI x y := by
  unfold gcdI
  obtain ⟨m, rfl⟩ := Int.eq_ofNat_of_zero_le hx
  obtain ⟨n, rfl⟩ := Int.eq_ofNat_of_zero_le (Int.le_of_lt hy)
  have e : ((m : Int) % (n : Int)).toNat = m % n := by rw [← Int.natCast_emod]; rfl
  rw [e]
  show ((Nat.gcd n (m % n) : Nat) : Int) = ((Nat.gcd m n : Nat) : Int)
  rw [Nat.gcd_comm n, ← Nat.gcd_rec, Nat.gcd_comm]
theorem gcdI_pos {x y : Int} (hy : 0 < y) : 0 < gcdI x y := by
  unfold gcdI
  have := Nat.gcd_pos_of_pos_right x.toNat (show 0 < y.toNat by omega)
  omega
theorem gcdI_le {x y : Int} (hy : 0 < y) : gcdI x y ≤ y := by
  unfold gcdI
  have := Nat.gcd_le_right x.toNat (show 0 < y.toNat by omega)
  omega
/-! ### the promises -/
def pm_common_divisor : Pm := fun as We R => ∃ a b : Int, as = [.pur (.int a), .pur (.int b)] ∧ 0 ≤ a ∧ 0 ≤ b ∧ R (.pur (.int (gcdI a b))) [pi a, pi b]
def pm_made : Pm := fun as We R => ∃ a b : Int, as = [.pur (.int a), .pur (.int b)] ∧ 0 ≤ a ∧ 0 < b ∧ b.natAbs < 2 ^ 9000 ∧ R (.pur (.tup [.int (a / gcdI a b), .int (b / gcdI a b)])) [pi a, pi b]
def pm_is_integer : Pm := fun as We R => ∃ d : D, as = [.pur d] ∧ D.ok d = true ∧ R (.pur (.bl (isIntD d))) [some (.pur d)]
def pm_is_within : Pm := fun as We R => ∃ (d : D) (lo hi : Int), as = [.pur d, .pur (.int lo), .pur (.int hi)] ∧ D.ok d = true ∧ R (.pur (.bl (within d lo hi))) [some (.pur d), pi lo, pi hi]
def isPairD : D → Bool
  | .tup [_, _] => true
  | _ => false
def pm_is_pair : Pm := fun as We R => ∃ d : D, as = [.pur d] ∧ D.ok d = true ∧ R (.pur (.bl (isPairD d))) [some (.pur d)]
def pm_is_road : Pm := fun as We R => ∃ (n : Int) (d : D), as = [.pur (.int n), .pur d] ∧ D.ok d = true ∧ R (.pur (.bl (within d 0 (n - 1)))) [pi n, some (.pur d)]
def wayD (n : Int) : D → Bool
  | .tup ds => decide (1 ≤ ds.length ∧ ds.length ≤ 8) && ds.all (fun d => within d 0 (n - 1)) && (match intsOf ds with
    | some ns => decide ns.Nodup
    | none => false)
  | _ => false
def simpleD : D → Bool
  | .tup ds => ds.all D.ok
  | d => D.ok d
def pm_is_way : Pm := fun as We R => ∃ (n : Int) (d : D), as = [.pur (.int n), .pur d] ∧ simpleD d = true ∧ R (.pur (.bl (wayD n d))) [pi n, some (.pur d)]
def pm_is_roads_pair : Pm := fun as We R => ∃ (n : Int) (d : D), as = [.pur (.int n), .pur d] ∧ simpleD d = true ∧ R (.pur (.bl (isPairD d && wayD n d))) [pi n, some (.pur d)]
theorem simple_ok {d : D} (h : simpleD d = true) : D.ok d = true := by
  cases d with
  | tup ds => rfl
  | _ => exact h
theorem ok_common_divisor {P : Program} {w : World} {K : PySem.W.Frag} {mg : Str → Option Value} {base : Heap} (T : Txt K mg) (F : Dfn K mg d_common_divisor)  : Fn P w K mg base 1 "common_divisor" ["one", "other"] pm_common_divisor := by
  obtain ⟨fd, F, hm⟩ := F.ex
  refine ⟨_, fd, fn_G (k := 0) (pm := pm_common_divisor) F sc_common_divisor (fun cdv A outer s H E hr C => (gss_cons (gs_while C.po (gt_cmp og_neI (ge_var (i := 1)) ge_int) (gss_one (gs_par (i := 0) (j := 1) C.calm C.nd (ga_cons (ge_var (i := 1)) (ga_cons (ge_op og_mod (ge_ct cg_int T.m_int bt_int (ga_cons (ge_var (i := 0)) ga_nil)) (ge_var (i := 1))) ga_nil)))))
      (gss_one (gs_ret (ge_var (i := 0)))))) (fun as We R hl hp => ?_), hm, F.kp, F.bindsN (fun _ _ _ _ _ _ us hl => match us, hl with | [_, _], _ => rfl)⟩
  obtain ⟨a, b, rfl, ha, hb, hR⟩ := hp
  refine ⟨fun m g => ∃ x y : Int, 0 ≤ x ∧ 0 ≤ y ∧ gcdI x y = gcdI a b ∧ m = y.toNat ∧ g = [pi x, pi y], ⟨_, a, b, ha, hb, rfl, rfl, rfl⟩, ?_⟩
  rintro m g ⟨x, y, hx, hy, hg, rfl, rfl⟩
  by_cases h : y = 0
  · subst h
    refine br_F rfl ?_
    show R (.pur (.int x)) _
    rw [gcdI_zero hx] at hg
    rw [hg]
    exact hR
  · refine br_T (by simp [h]) ?_
    have hy' : 0 < y := by omega
    have h1 := Int.emod_nonneg x h
    have h2 := Int.emod_lt_of_pos x hy'
    exact ⟨hy', (x % y).toNat, by omega, y, x % y, hy, h1, (gcdI_step hx hy').trans hg, rfl, rfl⟩
theorem ok_made {P : Program} {w : World} {K : PySem.W.Frag} {mg : Str → Option Value} {base : Heap} (T : Txt K mg) (F : Dfn K mg d_made) (c_common_divisor : Fn P w K mg base 1 "common_divisor" ["one", "other"] pm_common_divisor) : Fn P w K mg base 2 "made" ["top", "bottom"] pm_made := by
  obtain ⟨fd, F, hm⟩ := F.ex
  refine ⟨_, fd, fn_G (k := 1) (pm := pm_made) F sc_made (fun cdv A outer s H E hr C => (gss_cons (gs_if (gt_cmp og_lt (ge_var (i := 1)) ge_int) (gss_one (gs_par (i := 0) (j := 1) C.calm C.nd (ga_cons (ge_un ug_neg (ge_var (i := 0))) (ga_cons (ge_un ug_neg (ge_var (i := 1))) ga_nil)))) gss_nil)
      (gss_cons (gs_set (i := 2) C.nd (ge_fn C c_common_divisor (hr.mono (by decide)) (ga_cons (ge_cb cg_abs T.m_abs bt_abs (ga_cons (ge_var (i := 0)) ga_nil)) (ga_cons (ge_var (i := 1)) ga_nil))))
      (gss_one (gs_ret (ge_tup (ga_cons (ge_op og_fdivW (ge_var (i := 0)) (ge_var (i := 2))) (ga_cons (ge_op og_fdivW (ge_var (i := 1)) (ge_var (i := 2))) ga_nil)))))))) (fun as We R hl hp => ?_), hm, F.kp, F.bindsN (fun _ _ _ _ _ _ us hl => match us, hl with | [_, _], _ => rfl)⟩
  obtain ⟨a, b, rfl, ha, hb, hz, hR⟩ := hp
  refine br_F (decide_eq_false (by omega)) ?_
  have e : (if a < 0 then -a else a) = a := if_neg (by omega)
  have gp := gcdI_pos (x := a) hb
  have gl := gcdI_le (x := a) hb
  have cd : CDivW a (gcdI a b) := wide_div gp (b := 9000) (by omega) (by decide) (by decide)
  have cd2 : CDivW b (gcdI a b) := wide_div gp (b := 9000) (by omega) (by decide) (by decide)
  refine ⟨rfl, by simp [bors], _, _, rfl, by rw [e]; exact ha, Int.le_of_lt hb, ?_⟩
  rw [e]
  exact ⟨cd, cd2, sz (show 2 ≤ 1000 by decide), hR⟩
theorem ok_is_integer {P : Program} {w : World} {K : PySem.W.Frag} {mg : Str → Option Value} {base : Heap} (T : Txt K mg) (F : Dfn K mg d_is_integer)  : Fn P w K mg base 1 "is_integer" ["thing"] pm_is_integer := by
  obtain ⟨fd, F, hm⟩ := F.ex
  refine ⟨_, fd, fn_G (k := 0) (pm := pm_is_integer) F sc_is_integer (fun cdv A outer s H E hr C => (gss_one (gs_ret (ge_and (ge_cb cg_isi T.m_isinstance bt_isinstance (ga_cons (ge_var (i := 0)) (ga_cons (ge_ty T.m_int bt_int) ga_nil))) (ge_one (ge_not (ge_cb cg_isi T.m_isinstance bt_isinstance (ga_cons (ge_var (i := 0)) (ga_cons (ge_ty T.m_bool bt_bool) ga_nil))))))))) (fun as We R hl hp => ?_), hm, F.kp, F.bindsN (fun _ _ _ _ _ _ us hl => match us, hl with | [_], _ => rfl)⟩
  obtain ⟨d, rfl, hd, hR⟩ := hp
  refine isiP_i hd (by decide) ?_
  rw [← isD_int] at hR
  refine br_i (fun e => ?_) fun e => ?_
  · have e : isD d "int" = true := e
    rw [e] at hR
    exact isiP_i hd (by decide) hR
  · have e : isD d "int" = false := e
    rw [e] at hR
    exact hR
theorem ok_is_within {P : Program} {w : World} {K : PySem.W.Frag} {mg : Str → Option Value} {base : Heap} (T : Txt K mg) (F : Dfn K mg d_is_within) (c_is_integer : Fn P w K mg base 1 "is_integer" ["thing"] pm_is_integer) : Fn P w K mg base 2 "is_within" ["thing", "least", "most"] pm_is_within := by
  obtain ⟨fd, F, hm⟩ := F.ex
  refine ⟨_, fd, fn_G (k := 1) (pm := pm_is_within) F sc_is_within (fun cdv A outer s H E hr C => (gss_one (gs_ret (ge_and (ge_fn C c_is_integer (hr.mono (by decide)) (ga_cons (ge_var (i := 0)) ga_nil)) (ge_one (ge_chain og_le og_le (ge_var (i := 1)) (ge_var (i := 0)) (ge_var (i := 2)))))))) (fun as We R hl hp => ?_), hm, F.kp, F.bindsN (fun _ _ _ _ _ _ us hl => match us, hl with | [_, _, _], _ => rfl)⟩
  obtain ⟨d, lo, hi, rfl, hd, hR⟩ := hp
  refine ⟨rfl, by simp [bors], d, rfl, hd, ?_⟩
  cases d with
  | int i =>
    refine br_T rfl ?_
    have hR : R (.pur (.bl (decide (lo ≤ i ∧ i ≤ hi)))) _ := hR
    refine br_i (fun h1 => ?_) fun h1 => ?_
    · have h1' : lo ≤ i := of_decide_eq_true h1
      have e : decide (lo ≤ i ∧ i ≤ hi) = decide (i ≤ hi) := by simp [h1']
      rw [e] at hR
      exact hR
    · have h1' : ¬ lo ≤ i := of_decide_eq_false h1
      have e : decide (lo ≤ i ∧ i ≤ hi) = false := by simp [h1']
      rw [e] at hR
      exact hR
  | _ =>
    exact br_F rfl hR
theorem ok_is_pair {P : Program} {w : World} {K : PySem.W.Frag} {mg : Str → Option Value} {base : Heap} (T : Txt K mg) (F : Dfn K mg d_is_pair)  : Fn P w K mg base 1 "is_pair" ["thing"] pm_is_pair := by
  obtain ⟨fd, F, hm⟩ := F.ex
  refine ⟨_, fd, fn_G (k := 0) (pm := pm_is_pair) F sc_is_pair (fun cdv A outer s H E hr C => (gss_one (gs_ret (ge_and (ge_cb cg_isi T.m_isinstance bt_isinstance (ga_cons (ge_var (i := 0)) (ga_cons (ge_ty T.m_tuple bt_tuple) ga_nil))) (ge_one (ge_cmp og_eqI (ge_cb cg_len T.m_len bt_len (ga_cons (ge_var (i := 0)) ga_nil)) ge_int)))))) (fun as We R hl hp => ?_), hm, F.kp, F.bindsN (fun _ _ _ _ _ _ us hl => match us, hl with | [_], _ => rfl)⟩
  obtain ⟨d, rfl, hd, hR⟩ := hp
  refine isiP_i hd (by decide) ?_
  rw [isD_tup]
  cases d with
  | tup ds =>
    refine br_T rfl ?_
    have e : decide ((ds.length : Int) = 2) = isPairD (.tup ds) := by
      match ds with
      | [] => rfl
      | [_] => rfl
      | [_, _] => rfl
      | _ :: _ :: _ :: r =>
        have : ¬ (((r.length + 1 + 1 + 1 : Nat) : Int) = 2) := by omega
        simpa [isPairD] using this
    rw [← e] at hR
    exact hR
  | _ =>
    exact br_F rfl hR
theorem ok_is_road {P : Program} {w : World} {K : PySem.W.Frag} {mg : Str → Option Value} {base : Heap} (T : Txt K mg) (F : Dfn K mg d_is_road) (c_is_within : Fn P w K mg base 2 "is_within" ["thing", "least", "most"] pm_is_within) : Fn P w K mg base 3 "is_road" ["roads", "thing"] pm_is_road := by
  obtain ⟨fd, F, hm⟩ := F.ex
  refine ⟨_, fd, fn_G (k := 2) (pm := pm_is_road) F sc_is_road (fun cdv A outer s H E hr C => (gss_one (gs_ret (ge_fn C c_is_within (hr.mono (by decide)) (ga_cons (ge_var (i := 1)) (ga_cons ge_int (ga_cons (ge_op og_sub (ge_var (i := 0)) ge_int) ga_nil))))))) (fun as We R hl hp => ?_), hm, F.kp, F.bindsN (fun _ _ _ _ _ _ us hl => match us, hl with | [_, _], _ => rfl)⟩
  obtain ⟨n, d, rfl, hd, hR⟩ := hp
  exact ⟨rfl, by simp [bors], d, 0, n - 1, rfl, hd, hR⟩

theorem all_ok_at {ds : List D} (h : ds.all D.ok = true) {i : Nat} {d : D} (e : ds[i]? = some d) : D.ok d = true := List.all_eq_true.mp h d (List.mem_of_getElem? e)
theorem take_snoc {α : Type} {l : List α} {i : Nat} {x : α} (h : l[i]? = some x) : l.take (i + 1) = l.take i ++ [x] := by
  rw [List.take_add_one, h]; rfl
theorem within_ints {n m : Int} : ∀ {ds : List D}, ds.all (fun d => within d n m) = true → ∃ ns, intsOf ds = some ns
  | [], _ => ⟨[], rfl⟩
  | d :: ds, h => by
    rw [List.all_cons, Bool.and_eq_true] at h
    obtain ⟨ns, e⟩ := within_ints h.2
    cases d with
    | int i => exact ⟨i :: ns, by show (intsOf ds).map (i :: ·) = _; rw [e]; rfl⟩
    | _ => exact nomatch h.1
theorem intsOf_len : ∀ {ds : List D} {ns : List Int}, intsOf ds = some ns → ns.length = ds.length
  | [], _, e => by cases e; rfl
  | d :: ds, ns, e => by
    cases d with
    | int i =>
      have e' : (intsOf ds).map (i :: ·) = some ns := e
      cases q : intsOf ds with
      | none => rw [q] at e'; cases e'
      | some l => rw [q] at e'; cases e'; simp [intsOf_len q]
    | _ => cases e
theorem ok_is_way {P : Program} {w : World} {K : PySem.W.Frag} {mg : Str → Option Value} {base : Heap} (T : Txt K mg) (F : Dfn K mg d_is_way) (c_is_road : Fn P w K mg base 3 "is_road" ["roads", "thing"] pm_is_road) : Fn P w K mg base 4 "is_way" ["roads", "thing"] pm_is_way := by
  obtain ⟨fd, F, hm⟩ := F.ex
  refine ⟨_, fd, fn_G (k := 3) (pm := pm_is_way) F sc_is_way (fun cdv A outer s H E hr C => (gss_cons (gs_if (GW.gt (gw_or (gt_not (gt_val (ge_cb cg_isi T.m_isinstance bt_isinstance (ga_cons (ge_var (i := 1)) (ga_cons (ge_ty T.m_tuple bt_tuple) ga_nil))))) (gw_or1 (gt_not (gt_chain og_le og_le ge_int (ge_cb cg_len T.m_len bt_len (ga_cons (ge_var (i := 1)) ga_nil)) (ge_gint T.c_MOST_WAY)))))) (gss_one (gs_ret ge_bl)) gss_nil)
      (gss_one (gs_ret (ge_and (ge_cb (cg_all C.calm) T.m_all bt_all (ga_cons (ge_lc (own := [("road", 2)]) C.calm C.nd (gi_tup (ge_var (i := 1))) (blkOk_by (N := ["roads", "thing", "road"]) (sc := (defScope s_is_way)) (by decide +kernel)) (fun _ _ _ _ _ => (gb_name (i := 2) C.nd)) (fun _ _ _ _ _ => gts_nil) (fun _ _ _ _ _ => (ge_fn (Ctx.blk C) c_is_road (hr.mono (by decide)) (ga_cons (ge_var (i := 0)) (ga_cons (ge_var (i := 2)) ga_nil))))) ga_nil)) (ge_one (ge_cmp og_eqI (ge_lenSet C.calm T.m_len T.m_set (ge_var (i := 1))) (ge_cb cg_len T.m_len bt_len (ga_cons (ge_var (i := 1)) ga_nil))))))))) (fun as We R hl hp => ?_), hm, F.kp, F.bindsN (fun _ _ _ _ _ _ us hl => match us, hl with | [_, _], _ => rfl)⟩
  obtain ⟨n, d, rfl, hd, hR⟩ := hp
  refine isiP_i (simple_ok hd) (by decide) ?_
  rw [isD_tup]
  cases d with
  | tup ds =>
    refine br_F rfl ?_
    have hd' : ds.all D.ok = true := hd
    have hR : R (.pur (.bl (decide (1 ≤ ds.length ∧ ds.length ≤ 8) && ds.all (fun d => within d 0 (n - 1)) && (match intsOf ds with
      | some ns => decide ns.Nodup
      | none => false)))) [pi n, some (.pur (.tup ds))] := hR
    refine br_i (fun h1 => ?_) fun h1 => ?_
    · have h1' : (1:Int) ≤ ds.length := of_decide_eq_true h1
      refine br_i (fun h8 => ?_) fun h8 => ?_
      · have h8' : ¬ ((ds.length:Int) ≤ 8) := by simpa using h8
        have e : decide (1 ≤ ds.length ∧ ds.length ≤ 8) = false := decide_eq_false (by omega)
        rw [e] at hR
        exact hR
      · have h8' : ((ds.length:Int) ≤ 8) := by simpa using h8
        have e : decide (1 ≤ ds.length ∧ ds.length ≤ 8) = true := decide_eq_true (by omega)
        rw [e] at hR
        refine lc_of (fun d => .bl (within d 0 (n - 1))) ds ?_ (sz (show ds.length ≤ 1000 by omega)) ?_ ?_
        · exact fun Q q => q
        · intro i d Q Q0 hi hQ
          refine br_T rfl ?_
          exact ⟨rfl, by simp [bors], n, d, rfl, all_ok_at hd' hi, hQ⟩
        · intro p
          refine all_lc ?_
          refine br_i (fun h2 => ?_) fun h2 => ?_
          · have h2' : ds.all (fun d => within d 0 (n - 1)) = true := h2
            rw [h2'] at hR
            obtain ⟨ns, en⟩ := within_ints h2'
            rw [en] at hR
            have hl := intsOf_len en
            refine lenSet_i (fun Q q => q) en (by omega) fun c hc he => ?_
            have e2 : decide ((c : Int) = (ds.length : Int)) = decide ns.Nodup := decide_eq_decide.mpr ⟨fun q => he.mp (by omega), fun q => by have := he.mpr q; omega⟩
            have hR : R (.pur (.bl (decide ns.Nodup))) [pi n, some (.pur (.tup ds))] := hR
            rw [← e2] at hR
            exact hR
          · have h2' : ds.all (fun d => within d 0 (n - 1)) = false := h2
            rw [h2'] at hR
            exact hR
    · have h1' : ¬ (1:Int) ≤ ds.length := of_decide_eq_false h1
      have e : decide (1 ≤ ds.length ∧ ds.length ≤ 8) = false := decide_eq_false (by omega)
      rw [e] at hR
      exact br_T rfl hR
  | _ =>
    exact br_T rfl (br_T rfl hR)

end K59
namespace K59
open PySem PySem.Spec PyProof.Rows L2 G

abbrev fr (a b : Int) : D := .tup [.int a, .int b]
def mvD (ms : List (Int × Int)) : List D := ms.map fun m => fr m.1 m.2
def intD (ns : List Int) : List D := ns.map .int
def rateOk (a b : Int) : Prop := 0 < a ∧ a < b ∧ b ≤ 1000 ∧ gcdI a b = 1
/-- each move's begin is met, its end is new -/
def goodM : List Int → List (Int × Int) → Prop
  | _, [] => True
  | met, m :: ms => 0 ≤ m.1 ∧ m.1 ≤ 39 ∧ 0 ≤ m.2 ∧ m.2 ≤ 39 ∧ m.1 ∈ met ∧ m.2 ∉ met ∧ goodM (met ++ [m.2]) ms
def pm_is_fraction : Pm := fun as We R => ∃ a b : Int, as = [.pur (fr a b)] ∧ 0 ≤ a ∧ 1 ≤ b ∧ gcdI a b = 1 ∧ R (.pur (.bl true)) [some (.pur (fr a b))]
def pm_is_rate : Pm := fun as We R => ∃ a b : Int, as = [.pur (fr a b)] ∧ rateOk a b ∧ R (.pur (.bl true)) [some (.pur (fr a b))]
def pm_check_rate : Pm := fun as We R => ∃ a b : Int, as = [.pur (fr a b)] ∧ rateOk a b ∧ R (.pur .non) [some (.pur (fr a b))]
def pm_are_moves : Pm := fun as We R => ∃ (goal : Int) (ms : List (Int × Int)), as = [.pur (.int goal), .pur (.tup (mvD ms))] ∧ goodM [goal] ms ∧ ms.length ≤ 1000 ∧
  R (.pur (.bl true)) [pi goal, some (.pur (.tup (mvD ms)))]
structure Tangle (goal first second : Int) (ms : List (Int × Int)) : Prop where
  g : 0 ≤ goal ∧ goal ≤ 39
  f : 0 ≤ first ∧ first ≤ 39
  s : 0 ≤ second ∧ second ≤ 39
  ne : first ≠ second
  ok : goodM [goal] ms
  fi : first ∈ ms.map (·.2)
  si : second ∈ ms.map (·.2)
  len : ms.length ≤ 1000
abbrev tgD (goal first second : Int) (ms : List (Int × Int)) : D := .tup [.int goal, .int first, .int second, .tup (mvD ms)]
def pm_is_tangle_form : Pm := fun as We R => ∃ (goal first second : Int) (ms : List (Int × Int)), as = [.pur (tgD goal first second ms)] ∧ Tangle goal first second ms ∧ R (.pur (.bl true)) [some (.pur (tgD goal first second ms))]
def pm_check_form : Pm := fun as We R => ∃ (goal first second : Int) (ms : List (Int × Int)), as = [.pur (tgD goal first second ms)] ∧ Tangle goal first second ms ∧ R (.pur .non) [some (.pur (tgD goal first second ms))]
def pm_part_of : Pm := fun as We R => ∃ a b s : Int, as = [.pur (fr a b), .pur (.int s)] ∧ 0 ≤ a ∧ 0 < b ∧ b ≤ 1000 ∧ a ≤ 1000 ∧ R (.pur (.int (a * s / b))) [some (.pur (fr a b)), pi s]
def part (a b s : Int) : Int := a * s / b
def parts (a b : Int) : Nat → Int → Int
  | 0, s => s
  | n + 1, s => parts a b n (part a b s)
theorem parts_succ (a b : Int) : ∀ (n : Nat) (s : Int), parts a b (n + 1) s = part a b (parts a b n s)
  | 0, _ => rfl
  | n + 1, s => parts_succ a b n (part a b s)
def toldI (k : Nat) (a b s : Int) : Int := parts a b (2 * k + 2) s + part a b (parts a b (2 * k + 2) s)
def pm_told : Pm := fun as We R => ∃ (k : Nat) (a b s : Int), as = [.pur (.int k), .pur (fr a b), .pur (.int s)] ∧ k ≤ 1000 ∧ rateOk a b ∧ (∀ x, R (.pur (.int (toldI k a b s))) [pi k, some (.pur (fr a b)), x])
def pm_told_stock : Pm := fun as We R => ∃ (goal first second : Int) (ms : List (Int × Int)) (a b s : Int), as = [.pur (tgD goal first second ms), .pur (fr a b), .pur (.int s)] ∧ Tangle goal first second ms ∧ rateOk a b ∧ 0 ≤ s ∧ s ≤ 1000000000 ∧
  R (.pur (.int (toldI ms.length a b s))) [some (.pur (tgD goal first second ms)), some (.pur (fr a b)), pi s]

theorem szl {n : Nat} (h : n ≤ 1000) : n < sizeLine := Nat.lt_of_le_of_lt h (by decide)
theorem mv_at {ms : List (Int × Int)} {i : Nat} {d : D} (e : (mvD ms)[i]? = some d) : ∃ m, ms[i]? = some m ∧ d = fr m.1 m.2 := by
  unfold mvD at e
  rw [List.getElem?_map] at e
  cases q : ms[i]? with
  | none => rw [q] at e; cases e
  | some m => rw [q] at e; cases e; exact ⟨m, rfl, rfl⟩
theorem drop_at {α : Type} {l : List α} {i : Nat} {x : α} (h : l[i]? = some x) : l.drop i = x :: l.drop (i + 1) := by
  obtain ⟨hi, e⟩ := List.getElem?_eq_some_iff.mp h
  rw [← e]
  exact List.drop_eq_getElem_cons hi
theorem way_fr {a b n : Int} (ha : 0 ≤ a ∧ a < n) (hb : 0 ≤ b ∧ b < n) (ne : a ≠ b) : (isPairD (fr a b) && wayD n (fr a b)) = true := by
  have e1 : decide (0 ≤ a ∧ a ≤ n - 1) = true := decide_eq_true (by omega)
  have e2 : decide (0 ≤ b ∧ b ≤ n - 1) = true := decide_eq_true (by omega)
  have e3 : decide (List.Nodup [a, b]) = true := decide_eq_true (by simp [ne])
  show (true && (true && (decide (0 ≤ a ∧ a ≤ n - 1) && (decide (0 ≤ b ∧ b ≤ n - 1) && true)) && decide (List.Nodup [a, b]))) = true
  rw [e1, e2, e3]
  rfl
theorem ok_is_roads_pair {P : Program} {w : World} {K : PySem.W.Frag} {mg : Str → Option Value} {base : Heap} (T : Txt K mg) (F : Dfn K mg d_is_roads_pair) (c_is_pair : Fn P w K mg base 1 "is_pair" ["thing"] pm_is_pair) (c_is_way : Fn P w K mg base 4 "is_way" ["roads", "thing"] pm_is_way) : Fn P w K mg base 5 "is_roads_pair" ["roads", "thing"] pm_is_roads_pair := by
  obtain ⟨fd, F, hm⟩ := F.ex
  refine ⟨_, fd, fn_G (k := 4) (pm := pm_is_roads_pair) F sc_is_roads_pair (fun cdv A outer s H E hr C => (gss_one (gs_ret (ge_and (ge_fn C c_is_pair (hr.mono (by decide)) (ga_cons (ge_var (i := 1)) ga_nil)) (ge_one (ge_fn C c_is_way (hr.mono (by decide)) (ga_cons (ge_var (i := 0)) (ga_cons (ge_var (i := 1)) ga_nil)))))))) (fun as We R hl hp => ?_), hm, F.kp, F.bindsN (fun _ _ _ _ _ _ us hl => match us, hl with | [_, _], _ => rfl)⟩
  obtain ⟨n, d, rfl, hd, hR⟩ := hp
  refine ⟨rfl, by simp [bors], d, rfl, simple_ok hd, ?_⟩
  refine br_i (fun h => ?_) fun h => ?_
  · have h : isPairD d = true := h
    rw [h] at hR
    exact ⟨rfl, by simp [bors], n, d, rfl, hd, hR⟩
  · have h : isPairD d = false := h
    rw [h] at hR
    exact hR
theorem ok_is_fraction {P : Program} {w : World} {K : PySem.W.Frag} {mg : Str → Option Value} {base : Heap} (T : Txt K mg) (F : Dfn K mg d_is_fraction) (c_common_divisor : Fn P w K mg base 1 "common_divisor" ["one", "other"] pm_common_divisor) (c_is_pair : Fn P w K mg base 1 "is_pair" ["thing"] pm_is_pair) (c_is_integer : Fn P w K mg base 1 "is_integer" ["thing"] pm_is_integer) : Fn P w K mg base 2 "is_fraction" ["thing"] pm_is_fraction := by
  obtain ⟨fd, F, hm⟩ := F.ex
  refine ⟨_, fd, fn_G (k := 1) (pm := pm_is_fraction) F sc_is_fraction (fun cdv A outer s H E hr C => (gss_cons (gs_if (GW.gt (gw_or (gt_not (gt_val (ge_fn C c_is_pair (hr.mono (by decide)) (ga_cons (ge_var (i := 0)) ga_nil)))) (gw_or (gt_not (gt_val (ge_fn C c_is_integer (hr.mono (by decide)) (ga_cons (ge_ix ig_seq (ge_var (i := 0)) ge_int) ga_nil)))) (gw_or (gt_not (gt_val (ge_fn C c_is_integer (hr.mono (by decide)) (ga_cons (ge_ix ig_seq (ge_var (i := 0)) ge_int) ga_nil)))) (gw_or1 (gt_cmp og_lt (ge_ix ig_seq (ge_var (i := 0)) ge_int) ge_int)))))) (gss_one (gs_ret ge_bl)) gss_nil)
      (gss_one (gs_ret (ge_cmp og_eqI (ge_fn C c_common_divisor (hr.mono (by decide)) (ga_cons (ge_cb cg_abs T.m_abs bt_abs (ga_cons (ge_ix ig_seq (ge_var (i := 0)) ge_int) ga_nil)) (ga_cons (ge_ix ig_seq (ge_var (i := 0)) ge_int) ga_nil))) ge_int))))) (fun as We R hl hp => ?_), hm, F.kp, F.bindsN (fun _ _ _ _ _ _ us hl => match us, hl with | [_], _ => rfl)⟩
  obtain ⟨a, b, rfl, ha, hb, hg, hR⟩ := hp
  refine ⟨rfl, by simp [bors], fr a b, rfl, rfl, ?_⟩
  refine br_F rfl ?_
  refine ⟨rfl, by simp [bors], .int a, rfl, rfl, ?_⟩
  refine br_F rfl ?_
  refine ⟨rfl, by simp [bors], .int b, rfl, rfl, ?_⟩
  refine br_F rfl ?_
  refine br_F (decide_eq_false (by omega)) ?_
  have e : (if a < 0 then -a else a) = a := if_neg (by omega)
  refine ⟨rfl, by simp [bors], _, _, rfl, by rw [e]; exact ha, by omega, ?_⟩
  rw [e, hg]
  exact hR
theorem ok_is_rate {P : Program} {w : World} {K : PySem.W.Frag} {mg : Str → Option Value} {base : Heap} (T : Txt K mg) (F : Dfn K mg d_is_rate) (c_is_fraction : Fn P w K mg base 2 "is_fraction" ["thing"] pm_is_fraction) : Fn P w K mg base 3 "is_rate" ["thing"] pm_is_rate := by
  obtain ⟨fd, F, hm⟩ := F.ex
  refine ⟨_, fd, fn_G (k := 2) (pm := pm_is_rate) F sc_is_rate (fun cdv A outer s H E hr C => (gss_one (gs_ret (ge_and (ge_fn C c_is_fraction (hr.mono (by decide)) (ga_cons (ge_var (i := 0)) ga_nil)) (ge_one (ge_chain3 og_lt og_lt og_le ge_int (ge_ix ig_seq (ge_var (i := 0)) ge_int) (ge_ix ig_seq (ge_var (i := 0)) ge_int) (ge_gint T.c_MOST_BOTTOM))))))) (fun as We R hl hp => ?_), hm, F.kp, F.bindsN (fun _ _ _ _ _ _ us hl => match us, hl with | [_], _ => rfl)⟩
  obtain ⟨a, b, rfl, ⟨h0, h1, h2, hg⟩, hR⟩ := hp
  refine ⟨rfl, by simp [bors], a, b, rfl, by omega, by omega, hg, ?_⟩
  refine br_T rfl ?_
  refine br_T (decide_eq_true h0) ?_
  refine br_T (decide_eq_true h1) ?_
  have e : decide (b ≤ 1000) = true := decide_eq_true h2
  rw [← e] at hR
  exact hR
theorem ok_check_rate {P : Program} {w : World} {K : PySem.W.Frag} {mg : Str → Option Value} {base : Heap} (T : Txt K mg) (F : Dfn K mg d_check_rate) (c_is_rate : Fn P w K mg base 3 "is_rate" ["thing"] pm_is_rate) : Fn P w K mg base 4 "check_rate" ["thing"] pm_check_rate := by
  obtain ⟨fd, F, hm⟩ := F.ex
  refine ⟨_, fd, fn_G (k := 3) (pm := pm_check_rate) F sc_check_rate (fun cdv A outer s H E hr C => (gss_one (gs_if (gt_not (gt_val (ge_fn C c_is_rate (hr.mono (by decide)) (ga_cons (ge_var (i := 0)) ga_nil)))) (gss_one gs_never) gss_nil))) (fun as We R hl hp => ?_), hm, F.kp, F.bindsN (fun _ _ _ _ _ _ us hl => match us, hl with | [_], _ => rfl)⟩
  obtain ⟨a, b, rfl, h, hR⟩ := hp
  refine ⟨rfl, by simp [bors], a, b, rfl, h, ?_⟩
  exact br_F rfl hR
theorem ok_are_moves {P : Program} {w : World} {K : PySem.W.Frag} {mg : Str → Option Value} {base : Heap} (T : Txt K mg) (F : Dfn K mg d_are_moves) (c_is_roads_pair : Fn P w K mg base 5 "is_roads_pair" ["roads", "thing"] pm_is_roads_pair) : Fn P w K mg base 6 "are_moves" ["goal", "thing"] pm_are_moves := by
  obtain ⟨fd, F, hm⟩ := F.ex
  refine ⟨_, fd, fn_G (k := 5) (pm := pm_are_moves) F sc_are_moves (fun cdv A outer s H E hr C => (gss_cons (gs_if (gt_not (gt_val (ge_cb cg_isi T.m_isinstance bt_isinstance (ga_cons (ge_var (i := 1)) (ga_cons (ge_ty T.m_tuple bt_tuple) ga_nil))))) (gss_one (gs_ret ge_bl)) gss_nil)
      (gss_cons (gs_set (i := 2) C.nd (ge_lst (ga_cons (ge_var (i := 0)) ga_nil)))
      (gss_cons (gs_for C.po C.calm (gi_tup (ge_var (i := 1))) (gg_name (i := 3) C.nd) (gss_cons (gs_if (GW.gt (gw_or (gt_not (gt_val (ge_fn C c_is_roads_pair (hr.mono (by decide)) (ga_cons (ge_gint T.c_MOST_ROADS) (ga_cons (ge_var (i := 3)) ga_nil))))) (gw_or (gt_notInO (i := 2) (ge_ix ig_seq (ge_var (i := 3)) ge_int)) (gw_or1 (gt_inO (i := 2) (ge_ix ig_seq (ge_var (i := 3)) ge_int)))))) (gss_one (gs_ret ge_bl)) gss_nil)
      (gss_one (gs_app (i := 2) (ge_ix ig_seq (ge_var (i := 3)) ge_int)))))
      (gss_one (gs_ret ge_bl)))))) (fun as We R hl hp => ?_), hm, F.kp, F.bindsN (fun _ _ _ _ _ _ us hl => match us, hl with | [_, _], _ => rfl)⟩
  obtain ⟨goal, ms, rfl, hm, hn, hR⟩ := hp
  refine isiP_i rfl (by decide) ?_
  refine br_F rfl ?_
  refine ⟨sz (show 1 ≤ 1000 by decide), fun p => ?_⟩
  refine ⟨fun i g => ∃ (q : Addr) (met : List Int) (x : Option O), g = [pi goal, some (.pur (.tup (mvD ms))), some (.lst q ((met.map D.int).map .pur)), x] ∧ goodM met (ms.drop i) ∧ met.length ≤ i + 1, ⟨p, [goal], none, rfl, hm, Nat.le_refl _⟩, ?_, ?_⟩
  · rintro i d g e ⟨q, met, x, rfl, hg, hl2⟩
    have hi := (List.getElem?_eq_some_iff.mp e).1
    obtain ⟨m, em, rfl⟩ := mv_at e
    rw [drop_at em] at hg
    obtain ⟨a1, a2, b1, b2, hin, hnin, hg⟩ := hg
    refine ⟨rfl, by simp [bors], 40, fr m.1 m.2, rfl, rfl, ?_⟩
    have ne : m.1 ≠ m.2 := fun q => hnin (q ▸ hin)
    refine br_F (by rw [way_fr ⟨a1, by omega⟩ ⟨b1, by omega⟩ ne]; rfl) ?_
    refine in_own ?_
    refine br_F (by simp [hin]) ?_
    refine in_own ?_
    refine br_F (by simp [hnin]) ?_
    have hi' : i < ms.length := (List.getElem?_eq_some_iff.mp em).1
    refine ⟨trivial, szl (show _ ≤ 1000 by simp; omega), q, met ++ [m.2], some (.pur (fr m.1 m.2)), ?_, hg, by simp; omega⟩
    rw [List.map_append, List.map_append]
    rfl
  · rintro g ⟨q, met, x, rfl, hg, hl2⟩
    exact hR

theorem in_int {x : Int} {ns : List Int} {d : D} (e : (intD ns)[x.toNat]? = some d) : True := trivial
theorem ends_d (ms : List (Int × Int)) (f : D → D) (hf : ∀ a b, f (fr a b) = .int b) : (mvD ms).map f = (ms.map (·.2)).map D.int := by
  unfold mvD
  rw [List.map_map, List.map_map]
  apply List.map_congr_left
  intro m _
  exact hf m.1 m.2
def sndD : D → D
  | .tup [_, y] => y
  | d => d
theorem ok_is_tangle_form {P : Program} {w : World} {K : PySem.W.Frag} {mg : Str → Option Value} {base : Heap} (T : Txt K mg) (F : Dfn K mg d_is_tangle_form) (c_are_moves : Fn P w K mg base 6 "are_moves" ["goal", "thing"] pm_are_moves) (c_is_road : Fn P w K mg base 3 "is_road" ["roads", "thing"] pm_is_road) : Fn P w K mg base 7 "is_tangle_form" ["thing"] pm_is_tangle_form := by
  obtain ⟨fd, F, hm⟩ := F.ex
  refine ⟨_, fd, fn_G (k := 6) (pm := pm_is_tangle_form) F sc_is_tangle_form (fun cdv A outer s H E hr C => (gss_cons (gs_if (GW.gt (gw_or (gt_not (gt_val (ge_cb cg_isi T.m_isinstance bt_isinstance (ga_cons (ge_var (i := 0)) (ga_cons (ge_ty T.m_tuple bt_tuple) ga_nil))))) (gw_or1 (gt_cmp og_neI (ge_cb cg_len T.m_len bt_len (ga_cons (ge_var (i := 0)) ga_nil)) ge_int)))) (gss_one (gs_ret ge_bl)) gss_nil)
      (gss_cons (gs_asg (ge_var (i := 0)) (gg_tup C.calm (ggs_cons (gg_name (i := 1) C.nd) (ggs_cons (gg_name (i := 2) C.nd) (ggs_cons (gg_name (i := 3) C.nd) (ggs_cons (gg_name (i := 4) C.nd) ggs_nil))))))
      (gss_cons (gs_if (GW.gt (gw_or (gt_not (gt_val (ge_cb (cg_all C.calm) T.m_all bt_all (ga_cons (ge_lc (own := [("road", 6)]) C.calm C.nd (gi_tup (ge_tup (ga_cons (ge_var (i := 1)) (ga_cons (ge_var (i := 2)) (ga_cons (ge_var (i := 3)) ga_nil))))) (blkOk_by (N := ["thing", "goal", "first", "second", "moves", "ends", "road", "move"]) (sc := (defScope s_is_tangle_form)) (by decide +kernel)) (fun _ _ _ _ _ => (gb_name (i := 6) C.nd)) (fun _ _ _ _ _ => gts_nil) (fun _ _ _ _ _ => (ge_fn (Ctx.blk C) c_is_road (hr.mono (by decide)) (ga_cons (ge_gint T.c_MOST_ROADS) (ga_cons (ge_var (i := 6)) ga_nil))))) ga_nil)))) (gw_or1 (gt_cmp og_eqI (ge_var (i := 2)) (ge_var (i := 3)))))) (gss_one (gs_ret ge_bl)) gss_nil)
      (gss_cons (gs_if (gt_not (gt_val (ge_fn C c_are_moves (hr.mono (by decide)) (ga_cons (ge_var (i := 1)) (ga_cons (ge_var (i := 4)) ga_nil))))) (gss_one (gs_ret ge_bl)) gss_nil)
      (gss_cons (gs_setLc (i := 5) (own := [("move", 7)]) C.calm C.nd (gi_tup (ge_var (i := 4))) (blkOk_by (N := ["thing", "goal", "first", "second", "moves", "ends", "road", "move"]) (sc := (defScope s_is_tangle_form)) (by decide +kernel)) (fun _ _ _ _ _ => (gb_name (i := 7) C.nd)) (fun _ _ _ _ _ => gts_nil) (fun _ _ _ _ _ => (ge_ix ig_seq (ge_var (i := 7)) ge_int)) (sw_true rfl rfl rfl (by decide +kernel)))
      (gss_one (gs_ret (ge_and (ge_inO (i := 5) (ge_var (i := 2))) (ge_one (ge_inO (i := 5) (ge_var (i := 3))))))))))))) (fun as We R hl hp => ?_), hm, F.kp, F.bindsN (fun _ _ _ _ _ _ us hl => match us, hl with | [_], _ => rfl)⟩
  obtain ⟨goal, first, second, ms, rfl, hT, hR⟩ := hp
  refine isiP_i rfl (by decide) ?_
  refine br_F rfl ?_
  refine br_F rfl ?_
  refine ⟨rfl, ?_⟩
  refine lc_of (fun d => .bl (within d 0 39)) [.int goal, .int first, .int second] ?_ (sz (show 3 ≤ 1000 by decide)) ?_ fun p => ?_
  · exact fun Q q => ⟨sz (show 3 ≤ 1000 by decide), q⟩
  · intro i d Q Q0 hi hQ
    refine br_T rfl ?_
    have hd : D.ok d = true := all_ok_at (ds := [.int goal, .int first, .int second]) rfl hi
    exact ⟨rfl, by simp [bors], 40, d, rfl, hd, hQ⟩
  refine all_lc ?_
  have e1 : ([D.int goal, .int first, .int second].all fun d => within d 0 39) = true := by
    simp [within, hT.g, hT.f, hT.s]
  refine br_F (by rw [e1]; rfl) ?_
  refine br_F (decide_eq_false hT.ne) ?_
  refine ⟨rfl, by simp [bors], goal, ms, rfl, hT.ok, hT.len, ?_⟩
  refine br_F rfl ?_
  refine lc_of sndD (mvD ms) ?_ (sz (show (mvD ms).length ≤ 1000 by simpa [mvD] using hT.len)) ?_ fun p => ?_
  · exact fun Q q => q
  · intro i d Q Q0 hi hQ
    obtain ⟨m, _, rfl⟩ := mv_at hi
    exact br_T rfl hQ
  rw [ends_d ms sndD fun _ _ => rfl]
  refine in_own ?_
  refine br_T (decide_eq_true hT.fi) ?_
  refine in_own ?_
  have e : decide (second ∈ ms.map (·.2)) = true := decide_eq_true hT.si
  rw [← e] at hR
  exact hR
theorem ok_check_form {P : Program} {w : World} {K : PySem.W.Frag} {mg : Str → Option Value} {base : Heap} (T : Txt K mg) (F : Dfn K mg d_check_form) (c_is_tangle_form : Fn P w K mg base 7 "is_tangle_form" ["thing"] pm_is_tangle_form) : Fn P w K mg base 8 "check_form" ["tangle"] pm_check_form := by
  obtain ⟨fd, F, hm⟩ := F.ex
  refine ⟨_, fd, fn_G (k := 7) (pm := pm_check_form) F sc_check_form (fun cdv A outer s H E hr C => (gss_one (gs_if (gt_not (gt_val (ge_fn C c_is_tangle_form (hr.mono (by decide)) (ga_cons (ge_var (i := 0)) ga_nil)))) (gss_one gs_never) gss_nil))) (fun as We R hl hp => ?_), hm, F.kp, F.bindsN (fun _ _ _ _ _ _ us hl => match us, hl with | [_], _ => rfl)⟩
  obtain ⟨goal, first, second, ms, rfl, hT, hR⟩ := hp
  refine ⟨rfl, by simp [bors], goal, first, second, ms, rfl, hT, ?_⟩
  exact br_F rfl hR
theorem ok_part_of {P : Program} {w : World} {K : PySem.W.Frag} {mg : Str → Option Value} {base : Heap} (T : Txt K mg) (F : Dfn K mg d_part_of)  : Fn P w K mg base 1 "part_of" ["rate", "stock"] pm_part_of := by
  obtain ⟨fd, F, hm⟩ := F.ex
  refine ⟨_, fd, fn_G (k := 0) (pm := pm_part_of) F sc_part_of (fun cdv A outer s H E hr C => (gss_one (gs_ret (ge_op og_fdiv (ge_op og_mul (ge_ix ig_seq (ge_var (i := 0)) ge_int) (ge_var (i := 1))) (ge_ix ig_seq (ge_var (i := 0)) ge_int))))) (fun as We R hl hp => ?_), hm, F.kp, F.bindsN (fun _ _ _ _ _ _ us hl => match us, hl with | [_, _], _ => rfl)⟩
  obtain ⟨a, b, s, rfl, h0, h1, h2, h3, hR⟩ := hp
  exact ⟨.inl ⟨by omega, by omega⟩, ⟨h1, by omega⟩, hR⟩
theorem ok_told {P : Program} {w : World} {K : PySem.W.Frag} {mg : Str → Option Value} {base : Heap} (T : Txt K mg) (F : Dfn K mg d_told) (c_part_of : Fn P w K mg base 1 "part_of" ["rate", "stock"] pm_part_of) : Fn P w K mg base 2 "told" ["moves", "rate", "stock"] pm_told := by
  obtain ⟨fd, F, hm⟩ := F.ex
  refine ⟨_, fd, fn_G (k := 1) (pm := pm_told) F sc_told (fun cdv A outer s H E hr C => (gss_cons (gs_for C.po C.calm (gi_r1 T.m_range (ga_cons (ge_op og_add (ge_var (i := 0)) ge_int) ga_nil)) (gg_name (i := 3) C.nd) (gss_one (gs_set (i := 2) C.nd (ge_fn C c_part_of (hr.mono (by decide)) (ga_cons (ge_var (i := 1)) (ga_cons (ge_fn C c_part_of (hr.mono (by decide)) (ga_cons (ge_var (i := 1)) (ga_cons (ge_var (i := 2)) ga_nil))) ga_nil))))))
      (gss_one (gs_ret (ge_op og_add (ge_var (i := 2)) (ge_fn C c_part_of (hr.mono (by decide)) (ga_cons (ge_var (i := 1)) (ga_cons (ge_var (i := 2)) ga_nil)))))))) (fun as We R hl hp => ?_), hm, F.kp, F.bindsN (fun _ _ _ _ _ _ us hl => match us, hl with | [_, _, _], _ => rfl)⟩
  obtain ⟨k, a, b, s, rfl, hk, ⟨h0, h1, h2, hg⟩, hR⟩ := hp
  have P : ∀ (x : Int) (Q : O → Gam → Prop), Q (.pur (.int (part a b x))) [some (.pur (fr a b)), pi x] → pm_part_of [.pur (fr a b), .pur (.int x)] (fun _ _ => False) Q := fun x Q q => ⟨a, b, x, rfl, by omega, by omega, by omega, by omega, q⟩
  refine ⟨by omega, by omega, fun i g => ∃ x, g = [pi k, some (.pur (fr a b)), pi (parts a b (2 * i) s), x], ⟨none, rfl⟩, ?_, ?_⟩
  · rintro i d g e ⟨x, rfl⟩
    obtain ⟨rfl, hi⟩ := rng_at e
    refine ⟨rfl, by simp [bors], a, b, _, rfl, by omega, by omega, by omega, by omega, ?_⟩
    refine ⟨rfl, by simp [bors], a, b, _, rfl, by omega, by omega, by omega, by omega, ?_⟩
    refine ⟨some (.pur (.int (0 + (i : Nat)))), ?_⟩
    have e : parts a b (2 * (i + 1)) s = part a b (part a b (parts a b (2 * i) s)) := by
      rw [show 2 * (i + 1) = 2 * i + 1 + 1 from rfl, parts_succ, parts_succ]
    rw [e]
    rfl
  · rintro g ⟨x, rfl⟩
    have e : 2 * (rngD 0 ((k : Int) + 1).toNat).length = 2 * k + 2 := by rw [rng_len]; omega
    rw [e]
    refine ⟨rfl, by simp [bors], a, b, _, rfl, by omega, by omega, by omega, by omega, ?_⟩
    exact hR _

def growB (b : Int) (i : Nat) : Int := b * b ^ i
def growT (a b : Int) (i : Nat) : Int := (a + b) * a ^ i
theorem pow_bits {a : Int} (h0 : 0 ≤ a) (h : a ≤ 1000) : ∀ i : Nat, 0 ≤ a ^ i ∧ (a ^ i).natAbs < 2 ^ (10 * i + 1)
  | 0 => by simp
  | i + 1 => by
    obtain ⟨h1, h2⟩ := pow_bits h0 h i
    refine ⟨by rw [Int.pow_succ]; exact Int.mul_nonneg h1 h0, ?_⟩
    rw [Int.pow_succ, Int.natAbs_mul]
    have h3 : a.natAbs < 2 ^ 10 := by omega
    have e : 2 ^ (10 * (i + 1) + 1) = 2 ^ (10 * i + 1) * 2 ^ 10 := by rw [← Nat.pow_add]; exact congrArg (2 ^ ·) (by omega)
    rw [e]
    exact Nat.mul_lt_mul'' h2 h3
theorem mul_bits {x y : Int} {m n : Nat} (h1 : x.natAbs < 2 ^ m) (h2 : y.natAbs < 2 ^ n) : (x * y).natAbs < 2 ^ (m + n) := by
  rw [Int.natAbs_mul, Nat.pow_add]
  exact Nat.mul_lt_mul'' h1 h2
def lowD (t b : Int) : D := fr (t / gcdI t b) (b / gcdI t b)
def pm_growth : Pm := fun as We R => ∃ (goal first second : Int) (ms : List (Int × Int)) (a b : Int), as = [.pur (tgD goal first second ms), .pur (fr a b)] ∧ Tangle goal first second ms ∧ ms.length ≤ 40 ∧ rateOk a b ∧
  R (.pur (lowD (growT a b (2 * ms.length + 2)) (growB b (2 * ms.length + 2)))) [some (.pur (tgD goal first second ms)), some (.pur (fr a b))]
theorem ok_told_stock {P : Program} {w : World} {K : PySem.W.Frag} {mg : Str → Option Value} {base : Heap} (T : Txt K mg) (F : Dfn K mg d_told_stock) (c_check_form : Fn P w K mg base 8 "check_form" ["tangle"] pm_check_form) (c_check_rate : Fn P w K mg base 4 "check_rate" ["thing"] pm_check_rate) (c_told : Fn P w K mg base 2 "told" ["moves", "rate", "stock"] pm_told) (c_is_within : Fn P w K mg base 2 "is_within" ["thing", "least", "most"] pm_is_within) : Fn P w K mg base 9 "told_stock" ["tangle", "rate", "stock"] pm_told_stock := by
  obtain ⟨fd, F, hm⟩ := F.ex
  refine ⟨_, fd, fn_G (k := 8) (pm := pm_told_stock) F sc_told_stock (fun cdv A outer s H E hr C => (gss_cons (gs_expr (ge_fn C c_check_form (hr.mono (by decide)) (ga_cons (ge_var (i := 0)) ga_nil)))
      (gss_cons (gs_expr (ge_fn C c_check_rate (hr.mono (by decide)) (ga_cons (ge_var (i := 1)) ga_nil)))
      (gss_cons (gs_if (gt_not (gt_val (ge_fn C c_is_within (hr.mono (by decide)) (ga_cons (ge_var (i := 2)) (ga_cons ge_int (ga_cons (ge_gint T.c_MOST_TOLD_STOCK) ga_nil)))))) (gss_one gs_never) gss_nil)
      (gss_one (gs_ret (ge_fn C c_told (hr.mono (by decide)) (ga_cons (ge_cb cg_len T.m_len bt_len (ga_cons (ge_ix ig_seq (ge_var (i := 0)) ge_int) ga_nil)) (ga_cons (ge_var (i := 1)) (ga_cons (ge_var (i := 2)) ga_nil)))))))))) (fun as We R hl hp => ?_), hm, F.kp, F.bindsN (fun _ _ _ _ _ _ us hl => match us, hl with | [_, _, _], _ => rfl)⟩
  obtain ⟨goal, first, second, ms, a, b, s, rfl, hT, hr, hs0, hs1, hR⟩ := hp
  refine ⟨rfl, by simp [bors], goal, first, second, ms, rfl, hT, ?_⟩
  refine ⟨rfl, by simp [bors], a, b, rfl, hr, ?_⟩
  refine ⟨rfl, by simp [bors], .int s, 0, 1000000000, rfl, rfl, ?_⟩
  have e : within (.int s) 0 1000000000 = true := decide_eq_true ⟨hs0, hs1⟩
  refine br_F (by rw [e]; rfl) ?_
  have el : ((mvD ms).length : Int) = (ms.length : Int) := by simp [mvD]
  refine ⟨rfl, by simp [bors], ms.length, a, b, s, ?_, hT.len, hr, fun x => ?_⟩
  · rw [← el]
    rfl
  · exact hR
theorem ok_growth {P : Program} {w : World} {K : PySem.W.Frag} {mg : Str → Option Value} {base : Heap} (T : Txt K mg) (F : Dfn K mg d_growth) (c_check_form : Fn P w K mg base 8 "check_form" ["tangle"] pm_check_form) (c_check_rate : Fn P w K mg base 4 "check_rate" ["thing"] pm_check_rate) (c_made : Fn P w K mg base 2 "made" ["top", "bottom"] pm_made) : Fn P w K mg base 9 "growth" ["tangle", "rate"] pm_growth := by
  obtain ⟨fd, F, hm⟩ := F.ex
  refine ⟨_, fd, fn_G (k := 8) (pm := pm_growth) F sc_growth (fun cdv A outer s H E hr C => (gss_cons (gs_expr (ge_fn C c_check_form (hr.mono (by decide)) (ga_cons (ge_var (i := 0)) ga_nil)))
      (gss_cons (gs_expr (ge_fn C c_check_rate (hr.mono (by decide)) (ga_cons (ge_var (i := 1)) ga_nil)))
      (gss_cons (gs_asg (ge_var (i := 1)) (gg_tup C.calm (ggs_cons (gg_name (i := 2) C.nd) (ggs_cons (gg_name (i := 3) C.nd) ggs_nil))))
      (gss_cons (gs_set (i := 4) C.nd (ge_tup (ga_cons (ge_op og_add (ge_var (i := 2)) (ge_var (i := 3))) (ga_cons (ge_var (i := 3)) ga_nil))))
      (gss_cons (gs_for C.po C.calm (gi_r1 T.m_range (ga_cons (ge_op og_add (ge_op og_mul ge_int (ge_cb cg_len T.m_len bt_len (ga_cons (ge_ix ig_seq (ge_var (i := 0)) ge_int) ga_nil))) ge_int) ga_nil)) (gg_name (i := 5) C.nd) (gss_one (gs_set (i := 4) C.nd (ge_tup (ga_cons (ge_op og_mulW (ge_ix ig_seq (ge_var (i := 4)) ge_int) (ge_var (i := 2))) (ga_cons (ge_op og_mulW (ge_ix ig_seq (ge_var (i := 4)) ge_int) (ge_var (i := 3))) ga_nil))))))
      (gss_one (gs_ret (ge_fn C c_made (hr.mono (by decide)) (ga_cons (ge_ix ig_seq (ge_var (i := 4)) ge_int) (ga_cons (ge_ix ig_seq (ge_var (i := 4)) ge_int) ga_nil))))))))))) (fun as We R hl hp => ?_), hm, F.kp, F.bindsN (fun _ _ _ _ _ _ us hl => match us, hl with | [_, _], _ => rfl)⟩
  obtain ⟨goal, first, second, ms, a, b, rfl, hT, hk, ⟨h0, h1, h2, hg⟩, hR⟩ := hp
  refine ⟨rfl, by simp [bors], goal, first, second, ms, rfl, hT, ?_⟩
  refine ⟨rfl, by simp [bors], a, b, rfl, ⟨h0, h1, h2, hg⟩, ?_⟩
  refine ⟨rfl, ?_⟩
  refine ⟨sz (show 2 ≤ 1000 by decide), ?_⟩
  have el : ((mvD ms).length : Int) = (ms.length : Int) := by simp [mvD]
  have ha : (a + b).natAbs < 2 ^ 11 := by omega
  have ha1 : a.natAbs < 2 ^ 10 := by omega
  have hb1 : b.natAbs < 2 ^ 10 := by omega
  have bT : ∀ i, (growT a b i).natAbs < 2 ^ (11 + (10 * i + 1)) := fun i => mul_bits ha (pow_bits (by omega) (by omega) i).2
  have bB : ∀ i, (growB b i).natAbs < 2 ^ (10 + (10 * i + 1)) := fun i => mul_bits hb1 (pow_bits (by omega) (by omega) i).2
  refine ⟨.inl ⟨by decide, by decide⟩, by omega, by omega, fun i g => ∃ x, g = [some (.pur (tgD goal first second ms)), some (.pur (fr a b)), pi a, pi b, some (.pur (fr (growT a b i) (growB b i))), x], ⟨none, ?_⟩, ?_, ?_⟩
  · have e1 : growT a b 0 = a + b := by simp [growT]
    have e2 : growB b 0 = b := by simp [growB]
    rw [e1, e2]
    rfl
  · rintro i d g e ⟨x, rfl⟩
    obtain ⟨rfl, hi⟩ := rng_at e
    have e1 : growT a b (i + 1) = growT a b i * a := by simp only [growT, Int.pow_succ, Int.mul_assoc]
    have e2 : growB b (i + 1) = growB b i * b := by simp only [growB, Int.pow_succ, Int.mul_assoc]
    refine ⟨wide_mul (bT i) ha1 (by omega) (by omega) (by omega), wide_mul (bB i) hb1 (by omega) (by omega) (by omega), sz (show 2 ≤ 1000 by decide), some (.pur (.int (0 + (i : Nat)))), ?_⟩
    rw [e1, e2]
    rfl
  · rintro g ⟨x, rfl⟩
    have en : (rngD 0 (2 * ((mvD ms).length : Int) + 2).toNat).length = 2 * ms.length + 2 := by rw [rng_len, el]; omega
    have e3 : ∀ n, n = 2 * ms.length + 2 → n ≤ 82 := fun n e => by omega
    have pB : 0 < growB b (2 * ms.length + 2) := by
      have : 0 < b ^ (2 * ms.length + 2) := Int.pow_pos (by omega)
      exact Int.mul_pos (by omega) this
    have pT : 0 ≤ growT a b (2 * ms.length + 2) := Int.mul_nonneg (by omega) (pow_bits (by omega) (by omega) _).1
    have q := bB (2 * ms.length + 2)
    have q2 : (growB b (2 * ms.length + 2)).natAbs < 2 ^ 9000 := Nat.lt_of_lt_of_le q (Nat.pow_le_pow_right (by decide) (by omega))
    rw [en]
    refine ⟨rfl, by simp [bors], _, _, rfl, pT, pB, q2, ?_⟩
    exact hR

end K59
namespace K59
open PySem PySem.Spec PyProof.Rows L2 G

/-! ### the draw source -/
structure Src where
  rest : Int
  cells : List Int
  at_ : Int
  mixed : Int
  count : Int
def KS : List Key := [.inr "rest", .inr "cells", .inr "at", .inr "mixed", .inr "count"]
abbrev srcX (s : Src) : List O := [.pur (.int s.rest), .pur (.lst (s.cells.map .int)), .pur (.int s.at_), .pur (.int s.mixed), .pur (.int s.count)]
abbrev srcO (p : Addr) (s : Src) : O := .dK p KS (srcX s)
theorem f_rest : findK KS (.inr "rest") = some 0 := by decide +kernel
theorem f_cells : findK KS (.inr "cells") = some 1 := by decide +kernel
theorem f_at : findK KS (.inr "at") = some 2 := by decide +kernel
theorem f_mixed : findK KS (.inr "mixed") = some 3 := by decide +kernel
theorem f_count : findK KS (.inr "count") = some 4 := by decide +kernel
theorem KS_nd : KS.Nodup := by decide +kernel
theorem s5 {l : List O} (h : l.length = 5) : l.length < sizeLine := by rw [h]; decide
theorem cut_ints (ns : List Int) : ∃ l : List Int, G.cutD (ns.map D.int) none (some 63) = l.map D.int := by
  unfold G.cutD
  rw [← List.map_drop, ← List.map_take]
  exact ⟨_, rfl⟩
structure Src.Ok (s : Src) : Prop where
  r : 0 ≤ s.rest
  a : 0 ≤ s.at_
def pm__law_source : Pm := fun as We R => ∃ ns : List Int, as = [.pur (.lst (ns.map .int))] ∧ ns.length ≤ 63 ∧ ∀ p s, s.Ok → R (srcO p s) [some (.pur (.lst (ns.map .int)))]
def pm__law_draw : Pm := fun as We R => ∃ (p : Addr) (s : Src) (n : Int), as = [srcO p s, .pur (.int n)] ∧ 0 < n ∧ n < 1073741824 ∧ s.Ok ∧ ∀ v s', 0 ≤ v → v < n → s'.Ok → R (.pur (.int v)) [some (srcO p s'), pi n]
def pm__law_order : Pm := fun as We R => ∃ (p : Addr) (s : Src) (n : Nat), as = [srcO p s, .pur (.int n)] ∧ n ≤ 1000 ∧ s.Ok ∧ ∀ q (fs : List Int) s', fs.Perm ((List.range n).map Int.ofNat) → s'.Ok → R (.lst q ((fs.map D.int).map .pur)) [some (srcO p s'), pi n]
def pm__law_is_integer : Pm := fun as We R => ∃ d : D, as = [.pur d] ∧ D.ok d = true ∧ R (.pur (.bl (isIntD d))) [some (.pur d)]
def pm__law_stock : Pm := fun as We R => ∃ (p : Addr) (s : Src), as = [srcO p s] ∧ s.Ok ∧ ∀ v s', 0 ≤ v → v ≤ 1000000000 → s'.Ok → R (.pur (.int v)) [some (srcO p s')]
def pm__law_told : Pm := fun as We R => ∃ (k : Nat) (a b s : Int), as = [.pur (.int k), .pur (fr a b), .pur (.int s)] ∧ k ≤ 1000 ∧ rateOk a b ∧ (∀ x, R (.pur (.int (toldI k a b s))) [pi k, some (.pur (fr a b)), x])
def pm__law_power : Pm := fun as We R => ∃ (a : Int) (n : Nat), as = [.pur (.int a), .pur (.int n)] ∧ 0 ≤ a ∧ a ≤ 1000 ∧ n ≤ 100 ∧ R (.pur (.int (a ^ n))) [pi a, pi n]
def pm__law_lowest : Pm := fun as We R => ∃ a b : Int, as = [.pur (.int a), .pur (.int b)] ∧ 0 ≤ a ∧ 0 < b ∧ a.natAbs < 2 ^ 9000 ∧ b.natAbs < 2 ^ 9000 ∧ R (.pur (lowD a b)) [pi a, pi b]
theorem ok__law_source {P : Program} {w : World} {K : PySem.W.Frag} {mg : Str → Option Value} {base : Heap} (T : Txt K mg) (F : Dfn K mg d__law_source)  : Fn P w K mg base 1 "_law_source" ["_law_script"] pm__law_source := by
  obtain ⟨fd, F, hm⟩ := F.ex
  refine ⟨_, fd, fn_G (k := 0) (pm := pm__law_source) F sc__law_source (fun cdv A outer s H E hr C => (gss_one (gs_ret (ge_dict (gp_cons ge_int (gp_cons (ge_ct cg_list T.m_list bt_list (ga_cons (ge_slL (ge_var (i := 0)) go_none (go_some ge_int)) ga_nil)) (gp_cons ge_int (gp_cons ge_int (gp_cons ge_int gp_nil))))))))) (fun as We R hl hp => ?_), hm, F.kp, F.bindsN (fun _ _ _ _ _ _ us hl => match us, hl with | [_], _ => rfl)⟩
  obtain ⟨ns, rfl, hn, hR⟩ := hp
  intro p
  refine fun p2 => ⟨KS_nd, by decide, fun p3 => ?_⟩
  obtain ⟨l, el⟩ := cut_ints ns
  have e : O.dL ((O.dL ((G.cutD (ns.map D.int) none (some 63)).map O.pur)).map O.pur) = l.map D.int := by rw [dL_pur, dL_pur, el]
  have h := hR p3 ⟨0, l, 0, 1, 0⟩ ⟨Int.le_refl _, Int.le_refl _⟩
  show R (.dK p3 KS [.pur (.int 0), .pur (.lst (O.dL ((O.dL ((G.cutD (ns.map D.int) none (some 63)).map O.pur)).map O.pur))), .pur (.int 0), .pur (.int 1), .pur (.int 0)]) [some (.pur (.lst (ns.map .int)))]
  rw [e]
  exact h
theorem ok__law_draw {P : Program} {w : World} {K : PySem.W.Frag} {mg : Str → Option Value} {base : Heap} (T : Txt K mg) (F : Dfn K mg d__law_draw)  : Fn P w K mg base 1 "_law_draw" ["_law_source_here", "_law_many"] pm__law_draw := by
  obtain ⟨fd, F, hm⟩ := F.ex
  refine ⟨_, fd, fn_G (k := 0) (pm := pm__law_draw) F sc__law_draw (fun cdv A outer s H E hr C => (gss_cut (gs_if (GW.gt (gw_and (gt_cmp og_eqI (ge_dgetO (i := 0) (hu_of hr) ge_str) ge_int) (gw_and1 (gt_cmp og_lt (ge_dgetO (i := 0) (hu_of hr) ge_str) (ge_cb cg_len T.m_len bt_len (ga_cons (ge_dgetO (i := 0) (hu_of hr) ge_str) ga_nil)))))) (gss_cons (gs_set (i := 2) C.nd (ge_ix ig_seqV (ge_dgetO (i := 0) (hu_of hr) ge_str) (ge_dgetO (i := 0) (hu_of hr) ge_str)))
      (gss_cons (gs_daddO (i := 0) (hu_of hr) ge_str ge_int)
      (gss_one (gs_if (gt_cmp og_ge (ge_var (i := 2)) (ge_op og_pow ge_int ge_int)) (gss_one (gs_dputO (i := 0) (hu_of hr) (ge_var (i := 2)) ge_str (hs := by rfl))) (gss_one (gs_dputO (i := 0) (hu_of hr) (ge_op og_mod (ge_ct cg_int T.m_int bt_int (ga_cons (ge_op og_mul (ge_op og_add (ge_dgetO (i := 0) (hu_of hr) ge_str) (ge_op og_mod (ge_ct cg_int T.m_int bt_int (ga_cons (ge_var (i := 2)) ga_nil)) ge_int)) ge_int) ga_nil)) ge_int) ge_str (hs := by rfl))))))) gss_nil)
      (gss_cons (gs_if (gt_cmp og_gt (ge_dgetO (i := 0) (hu_of hr) ge_str) ge_int) (gss_cons (gs_set (i := 3) C.nd (ge_op og_mod (ge_ct cg_int T.m_int bt_int (ga_cons (ge_dgetO (i := 0) (hu_of hr) ge_str) ga_nil)) (ge_var (i := 1))))
      (gss_cons (gs_dputO (i := 0) (hu_of hr) (ge_op og_fdiv (ge_dgetO (i := 0) (hu_of hr) ge_str) (ge_var (i := 1))) ge_str (hs := by rfl))
      (gss_one (gs_ret (ge_var (i := 3)))))) gss_nil)
      (gss_cons (gs_daddO (i := 0) (hu_of hr) ge_str ge_int)
      (gss_cons (gs_set (i := 4) C.nd (ge_op og_mod (ge_ct cg_int T.m_int bt_int (ga_cons (ge_op og_mul (ge_op og_add (ge_dgetO (i := 0) (hu_of hr) ge_str) (ge_op og_mul ge_int (ge_dgetO (i := 0) (hu_of hr) ge_str))) ge_int) ga_nil)) ge_int))
      (gss_cons (gs_set (i := 4) C.nd (ge_op og_mod (ge_ct cg_int T.m_int bt_int (ga_cons (ge_op og_mul (ge_var (i := 4)) (ge_op og_add (ge_op og_fdiv (ge_var (i := 4)) ge_int) ge_int)) ga_nil)) ge_int))
      (gss_cons (gs_set (i := 4) C.nd (ge_op og_mod (ge_ct cg_int T.m_int bt_int (ga_cons (ge_op og_mul (ge_var (i := 4)) (ge_op og_add (ge_op og_fdiv (ge_var (i := 4)) ge_int) ge_int)) ga_nil)) ge_int))
      (gss_cons (gs_dputO (i := 0) (hu_of hr) (ge_op og_add (ge_var (i := 4)) ge_int) ge_str (hs := by rfl))
      (gss_one (gs_ret (ge_op og_mod (ge_ct cg_int T.m_int bt_int (ga_cons (ge_op og_fdiv (ge_var (i := 4)) ge_int) ga_nil)) (ge_var (i := 1))))))))))))) (fun as We R hl hp => ?_), hm, F.kp, F.bindsN (fun _ _ _ _ _ _ us hl => match us, hl with | [_, _], _ => rfl)⟩
  obtain ⟨p, s, n, rfl, hn0, hn1, hs, hR⟩ := hp
  refine ⟨fun g => ∃ (s1 : Src) (x : Option O), s1.Ok ∧ g = [some (srcO p s1), pi n, x, none, none], ?_, ?_⟩
  · refine dget_s rfl f_rest rfl ?_
    refine br_i (fun h1 => ?_) fun h1 => ?_
    · refine dget_s rfl f_at rfl ?_
      refine dget_s rfl f_cells rfl ?_
      refine br_i (fun h2 => ?_) fun h2 => ?_
      · have h2' : s.at_ < s.cells.length := by simpa using h2
        obtain ⟨c, _, _, ec⟩ := at_ints hs.a h2'
        refine dget_s rfl f_cells rfl ?_
        refine dget_s rfl f_at rfl ?_
        refine ix_l ec ?_
        refine dadd_s rfl f_at rfl KS_nd (s5 rfl) ?_
        refine ⟨⟨by decide, by decide, by decide⟩, ?_⟩
        refine br_i (fun h3 => ?_) fun h3 => ?_
        · have h3' : (10 : Int) ^ (18 : Int).toNat ≤ c := of_decide_eq_true h3
          refine dput_s rfl f_rest KS_nd (s5 rfl) ?_
          have hc : 0 ≤ c := Int.le_trans (by decide) h3'
          exact ⟨⟨c, s.cells, s.at_ + 1, s.mixed, s.count⟩, some (.pur (.int c)), ⟨hc, by have := hs.a; show 0 ≤ s.at_ + 1; omega⟩, rfl⟩
        · refine dget_s rfl f_mixed rfl ?_
          refine ⟨(by decide : (0 : Int) < 2147483629), .inr ⟨by decide, by decide⟩, (by decide : (0 : Int) < 2147483647), ?_⟩
          refine dput_s rfl f_mixed KS_nd (s5 rfl) ?_
          exact ⟨⟨s.rest, s.cells, s.at_ + 1, _, s.count⟩, some (.pur (.int c)), ⟨hs.r, by have := hs.a; show 0 ≤ s.at_ + 1; omega⟩, rfl⟩
      · exact ⟨s, none, hs, rfl⟩
    · exact br_F rfl ⟨s, none, hs, rfl⟩
  · rintro g ⟨s1, x, h1, rfl⟩
    refine dget_s rfl f_rest rfl ?_
    refine br_i (fun h => ?_) fun h => ?_
    · refine dget_s rfl f_rest rfl ?_
      refine ⟨hn0, ?_⟩
      refine dget_s rfl f_rest rfl ?_
      refine ⟨⟨hn0, hn1⟩, ?_⟩
      refine dput_s rfl f_rest KS_nd (s5 rfl) ?_
      refine rt_dK ?_
      exact hR _ ⟨s1.rest / n, s1.cells, s1.at_, s1.mixed, s1.count⟩ (Int.emod_nonneg _ (by omega)) (Int.emod_lt_of_pos _ hn0) ⟨Int.ediv_nonneg h1.r (by omega), h1.a⟩
    · refine dadd_s rfl f_count rfl KS_nd (s5 rfl) ?_
      refine dget_s rfl f_mixed rfl ?_
      refine dget_s rfl f_count rfl ?_
      refine ⟨.inl ⟨by decide, by decide⟩, .inr ⟨by decide, by decide⟩, (by decide : (0 : Int) < 2147483647), ?_⟩
      have m1 := Int.emod_nonneg ((s1.mixed + 7919 * (s1.count + 1)) * 48271) (show (2147483647 : Int) ≠ 0 by decide)
      have m2 := Int.emod_lt_of_pos ((s1.mixed + 7919 * (s1.count + 1)) * 48271) (show (0 : Int) < 2147483647 by decide)
      refine ⟨⟨by decide, by decide⟩, .inl ⟨by omega, by omega⟩, (by decide : (0 : Int) < 2147483647), ?_⟩
      have m3 := Int.emod_nonneg ((s1.mixed + 7919 * (s1.count + 1)) * 48271 % 2147483647 * ((s1.mixed + 7919 * (s1.count + 1)) * 48271 % 2147483647 / 1009 + 69621)) (show (2147483647 : Int) ≠ 0 by decide)
      have m4 := Int.emod_lt_of_pos ((s1.mixed + 7919 * (s1.count + 1)) * 48271 % 2147483647 * ((s1.mixed + 7919 * (s1.count + 1)) * 48271 % 2147483647 / 1009 + 69621)) (show (0 : Int) < 2147483647 by decide)
      refine ⟨⟨by decide, by decide⟩, .inl ⟨by omega, by omega⟩, (by decide : (0 : Int) < 2147483399), ?_⟩
      refine dput_s rfl f_mixed KS_nd (s5 rfl) ?_
      refine ⟨⟨by decide, by decide⟩, hn0, ?_⟩
      refine rt_dK ?_
      exact hR _ ⟨s1.rest, s1.cells, s1.at_, _, s1.count + 1⟩ (Int.emod_nonneg _ (by omega)) (Int.emod_lt_of_pos _ hn0) ⟨h1.r, h1.a⟩

end K59
namespace K59
open PySem PySem.Spec PyProof.Rows L2 G

theorem er_map {α β : Type} (f : α → β) : ∀ (l : List α) (n : Nat), (l.eraseIdx n).map f = (l.map f).eraseIdx n
  | [], _ => rfl
  | _ :: _, 0 => rfl
  | a :: l, n + 1 => congrArg (f a :: ·) (er_map f l n)
theorem perm_er : ∀ {l : List Int} {n : Nat} {c : Int}, l[n]? = some c → l.Perm (c :: l.eraseIdx n)
  | [], _, _, h => by simp at h
  | a :: l, 0, c, h => by
    have h : a = c := by simpa using h
    subst h
    exact .refl _
  | a :: l, n + 1, c, h => by
    have h' : l[n]? = some c := by simpa using h
    exact ((perm_er h').cons a).trans (.swap ..)
theorem perm_pop {l f : List Int} {n : Nat} {c : Int} (h : l[n]? = some c) : (l.eraseIdx n ++ (f ++ [c])).Perm (l ++ f) := by
  have h1 := perm_er h
  have h2 : (l.eraseIdx n ++ (f ++ [c])).Perm ((l.eraseIdx n ++ f) ++ [c]) := by rw [List.append_assoc]
  refine h2.trans ?_
  refine (List.perm_append_comm (l₁ := l.eraseIdx n ++ f) (l₂ := [c])).trans ?_
  exact (h1.append_right f).symm
theorem rng_ints (n : Nat) : rngD 0 n = ((List.range n).map Int.ofNat).map D.int := by
  unfold rngD
  rw [List.map_map]
  apply List.map_congr_left
  intro i _
  show D.int (0 + (i : Int)) = D.int (i : Int)
  rw [Int.zero_add]
theorem ok__law_order {P : Program} {w : World} {K : PySem.W.Frag} {mg : Str → Option Value} {base : Heap} (T : Txt K mg) (F : Dfn K mg d__law_order) (c__law_draw : Fn P w K mg base 1 "_law_draw" ["_law_source_here", "_law_many"] pm__law_draw) : Fn P w K mg base 2 "_law_order" ["_law_source_here", "_law_size"] pm__law_order := by
  obtain ⟨fd, F, hm⟩ := F.ex
  refine ⟨_, fd, fn_G (k := 1) (pm := pm__law_order) F sc__law_order (fun cdv A outer s H E hr C => (gss_cons (gs_set (i := 2) C.nd (ge_listR1 C.calm T.m_list T.m_range (ge_var (i := 1))))
      (gss_cons (gs_set (i := 3) C.nd (ge_lst ga_nil))
      (gss_cons (gs_for C.po C.calm (gi_r1 T.m_range (ga_cons (ge_var (i := 1)) ga_nil)) (gg_name (i := 4) C.nd) (gss_one (gs_app (i := 3) (ge_popAt (i := 2) (ge_fn C c__law_draw (hr.mono (by decide)) (ga_bor (i := 0) (ga_cons (ge_lenO (i := 2) T.m_len) ga_nil)))))))
      (gss_one (gs_ret (ge_mov (i := 3)))))))) (fun as We R hl hp => ?_), hm, F.kp, F.bindsN (fun _ _ _ _ _ _ us hl => match us, hl with | [_, _], _ => rfl)⟩
  obtain ⟨p, s, n, rfl, hn, hs, hR⟩ := hp
  refine ⟨?_, fun q1 => ⟨sz (show 0 ≤ 1000 by decide), fun q2 => ?_⟩⟩
  · exact .of_le (by omega) (by omega) (by omega) (by omega)
  rw [show ((n : Int)).toNat = n from rfl]
  refine ⟨by omega, by omega, fun i g => ∃ (s' : Src) (l f : List Int) (x : Option O), s'.Ok ∧ (l ++ f).Perm ((List.range n).map Int.ofNat) ∧ l.length = n - i ∧ f.length = i ∧
    g = [some (srcO p s'), pi n, some (.lst q1 ((l.map D.int).map .pur)), some (.lst q2 ((f.map D.int).map .pur)), x], ⟨s, (List.range n).map Int.ofNat, [], none, hs, by rw [List.append_nil], by simp, rfl, ?_⟩, ?_, ?_⟩
  · rw [← rng_ints]
    rfl
  · rintro i d g e ⟨s', l, f, x, hs', hp, hl, hf, rfl⟩
    obtain ⟨rfl, hi⟩ := rng_at e
    have hi : i < n := hi
    have hl' : ((l.map D.int).map O.pur).length = l.length := by simp
    refine ⟨trivial, trivial, trivial, rfl, by simp [bors], p, s', (((l.map D.int).map O.pur).length : Int), rfl, by omega, by omega, hs', fun v s2 h0 h1 hs2 => ?_⟩
    have hv : v.toNat < l.length := by omega
    refine pop_i rfl h0 (by omega) (d := .int l[v.toNat]) (by simp [hv]) ?_
    have ec : l[v.toNat]? = some l[v.toNat] := by simp [hv]
    refine ⟨szl (show _ ≤ 1000 by simp; omega), s2, l.eraseIdx v.toNat, f ++ [l[v.toNat]], some (.pur (.int (0 + (i : Nat)))), hs2, (perm_pop ec).trans hp, by rw [List.length_eraseIdx]; simp [hv]; omega, by simp [hf], ?_⟩
    rw [er_map, er_map, List.map_append, List.map_append]
    rfl
  · rintro g ⟨s', l, f, x, hs', hp, hl, hf, rfl⟩
    have en : (rngD 0 (n : Int).toNat).length = n := rng_len 0 n
    rw [en] at hl
    have e0 : l = [] := List.length_eq_zero_iff.mp (by omega)
    subst e0
    refine rt_dK ?_
    exact hR q2 f s' hp hs'
theorem ok__law_is_integer {P : Program} {w : World} {K : PySem.W.Frag} {mg : Str → Option Value} {base : Heap} (T : Txt K mg) (F : Dfn K mg d__law_is_integer)  : Fn P w K mg base 1 "_law_is_integer" ["_law_thing"] pm__law_is_integer := by
  obtain ⟨fd, F, hm⟩ := F.ex
  refine ⟨_, fd, fn_G (k := 0) (pm := pm__law_is_integer) F sc__law_is_integer (fun cdv A outer s H E hr C => (gss_one (gs_ret (ge_and (ge_cb cg_isi T.m_isinstance bt_isinstance (ga_cons (ge_var (i := 0)) (ga_cons (ge_ty T.m_int bt_int) ga_nil))) (ge_one (ge_not (ge_cb cg_isi T.m_isinstance bt_isinstance (ga_cons (ge_var (i := 0)) (ga_cons (ge_ty T.m_bool bt_bool) ga_nil))))))))) (fun as We R hl hp => ?_), hm, F.kp, F.bindsN (fun _ _ _ _ _ _ us hl => match us, hl with | [_], _ => rfl)⟩
  obtain ⟨d, rfl, hd, hR⟩ := hp
  refine isiP_i hd (by decide) ?_
  rw [← isD_int] at hR
  refine br_i (fun e => ?_) fun e => ?_
  · have e : isD d "int" = true := e
    rw [e] at hR
    exact isiP_i hd (by decide) hR
  · have e : isD d "int" = false := e
    rw [e] at hR
    exact hR
theorem ok__law_told {P : Program} {w : World} {K : PySem.W.Frag} {mg : Str → Option Value} {base : Heap} (T : Txt K mg) (F : Dfn K mg d__law_told)  : Fn P w K mg base 1 "_law_told" ["_law_many", "_law_rate", "_law_stock"] pm__law_told := by
  obtain ⟨fd, F, hm⟩ := F.ex
  refine ⟨_, fd, fn_G (k := 0) (pm := pm__law_told) F sc__law_told (fun cdv A outer s H E hr C => (gss_cons (gs_for C.po C.calm (gi_r1 T.m_range (ga_cons (ge_op og_add (ge_op og_mul ge_int (ge_var (i := 0))) ge_int) ga_nil)) (gg_name (i := 3) C.nd) (gss_one (gs_set (i := 2) C.nd (ge_op og_fdiv (ge_op og_mul (ge_ix ig_seq (ge_var (i := 1)) ge_int) (ge_var (i := 2))) (ge_ix ig_seq (ge_var (i := 1)) ge_int)))))
      (gss_one (gs_ret (ge_op og_add (ge_var (i := 2)) (ge_op og_fdiv (ge_op og_mul (ge_ix ig_seq (ge_var (i := 1)) ge_int) (ge_var (i := 2))) (ge_ix ig_seq (ge_var (i := 1)) ge_int))))))) (fun as We R hl hp => ?_), hm, F.kp, F.bindsN (fun _ _ _ _ _ _ us hl => match us, hl with | [_, _, _], _ => rfl)⟩
  obtain ⟨k, a, b, s, rfl, hk, ⟨h0, h1, h2, hg⟩, hR⟩ := hp
  have cm : ∀ x : Int, CMul a x := fun x => .inl ⟨by omega, by omega⟩
  have cd : ∀ x : Int, CDiv x b := fun x => ⟨by omega, by omega⟩
  refine ⟨.inl ⟨by decide, by decide⟩, by omega, by omega, fun i g => ∃ x, g = [pi k, some (.pur (fr a b)), pi (parts a b i s), x], ⟨none, rfl⟩, ?_, ?_⟩
  · rintro i d g e ⟨x, rfl⟩
    obtain ⟨rfl, hi⟩ := rng_at e
    refine ⟨cm _, cd _, some (.pur (.int (0 + (i : Nat)))), ?_⟩
    rw [parts_succ]
    rfl
  · rintro g ⟨x, rfl⟩
    have e : (rngD 0 (2 * (k : Int) + 2).toNat).length = 2 * k + 2 := by rw [rng_len]; omega
    rw [e]
    exact ⟨cm _, cd _, hR _⟩

theorem gcd_pred {n : Int} (h : 2 ≤ n) : gcdI (n - 1) n = 1 := by
  unfold gcdI
  obtain ⟨m, rfl⟩ : ∃ m : Nat, n = (m : Int) + 2 := ⟨(n - 2).toNat, by omega⟩
  have e1 : ((m : Int) + 2 - 1).toNat = m + 1 := by omega
  have e2 : ((m : Int) + 2).toNat = (m + 1) + 1 := by omega
  rw [e1, e2]
  have : Nat.gcd (m + 1) (m + 1 + 1) = 1 := by
    rw [Nat.gcd_comm, Nat.gcd_rec]
    cases m with
    | zero => rfl
    | succ m =>
      have : (m + 1 + 1) % (m + 1 + 1 + 1) = m + 1 + 1 := Nat.mod_eq_of_lt (by omega)
      rw [this, Nat.gcd_rec]
      have : (m + 1 + 1 + 1) % (m + 1 + 1) = 1 := by
        rw [Nat.add_comm (m + 1 + 1) 1, Nat.add_mod_right]
        exact Nat.mod_eq_of_lt (by omega)
      rw [this]
      simp
  rw [this]
  rfl
theorem rate_pred {n : Int} (h : 2 ≤ n) (h2 : n ≤ 1000) : rateOk (n - 1) n := ⟨by omega, by omega, h2, gcd_pred h⟩
theorem rate_low {t b : Int} (h0 : 0 < t) (h1 : t < b) (h2 : b ≤ 1000) : rateOk (t / gcdI t b) (b / gcdI t b) := by
  obtain ⟨m, rfl⟩ := Int.eq_ofNat_of_zero_le (Int.le_of_lt h0)
  obtain ⟨n, rfl⟩ := Int.eq_ofNat_of_zero_le (show 0 ≤ b by omega)
  have hm : 0 < m := by omega
  have hn : m < n := by omega
  have hg : 0 < Nat.gcd m n := Nat.gcd_pos_of_pos_left _ hm
  have e : gcdI (m : Int) (n : Int) = (Nat.gcd m n : Nat) := rfl
  rw [e]
  rw [← Int.natCast_ediv, ← Int.natCast_ediv]
  have p1 : 0 < m / Nat.gcd m n := Nat.div_pos (Nat.gcd_le_left _ hm) hg
  have p2 : m / Nat.gcd m n < n / Nat.gcd m n := by
    rw [Nat.div_lt_iff_lt_mul hg, Nat.div_mul_cancel (Nat.gcd_dvd_right m n)]
    exact hn
  have p3 : n / Nat.gcd m n ≤ n := Nat.div_le_self _ _
  refine ⟨by omega, by omega, by omega, ?_⟩
  show ((Nat.gcd ((m / Nat.gcd m n : Nat) : Int).toNat ((n / Nat.gcd m n : Nat) : Int).toNat : Nat) : Int) = 1
  have q : Nat.gcd (m / Nat.gcd m n) (n / Nat.gcd m n) = 1 := (Nat.gcd_div (Nat.gcd_dvd_left m n) (Nat.gcd_dvd_right m n)).trans (Nat.div_self hg)
  rw [Int.toNat_natCast, Int.toNat_natCast, q]
  rfl
def pm__law_rate : Pm := fun as We R => ∃ (p : Addr) (s : Src) (k : Nat), as = [srcO p s, .pur (.int k)] ∧ 2 ≤ k ∧ k ≤ 39 ∧ s.Ok ∧ ∀ a b s', rateOk a b → s'.Ok → R (.pur (fr a b)) [some (srcO p s'), pi k]
/-- the moves that a paper tells: each begins at an earlier name -/
def Made (nm : List Int) (ms : List (Int × Int)) : Prop := ∀ j m, ms[j]? = some m → ∃ b, b ≤ j ∧ nm[b]? = some m.1 ∧ nm[j + 1]? = some m.2
def pm__law_paper : Pm := fun as We R => ∃ (p : Addr) (s : Src) (nm : List Int) (k : Nat), as = [srcO p s, .pur (.lst (nm.map .int)), .pur (.int k)] ∧ 2 ≤ k ∧ k ≤ 39 ∧ nm.Perm ((List.range 40).map Int.ofNat) ∧ s.Ok ∧
  ∀ goal first second ms s', Tangle goal first second ms → ms.length = k → s'.Ok → R (.pur (tgD goal first second ms)) [some (srcO p s'), some (.pur (.lst (nm.map .int))), pi k]
theorem made_good {nm : List Int} (nd : nm.Nodup) (rg : ∀ x ∈ nm, 0 ≤ x ∧ x ≤ 39) : ∀ (ms : List (Int × Int)) (j : Nat), (∀ t m, ms[t]? = some m → ∃ b, b ≤ j + t ∧ nm[b]? = some m.1 ∧ nm[j + t + 1]? = some m.2) → goodM (nm.take (j + 1)) ms
  | [], _, _ => trivial
  | m :: ms, j, h => by
    obtain ⟨b, hb, e1, e2⟩ := h 0 m rfl
    have m1 := rg _ (List.mem_of_getElem? e1)
    have m2 := rg _ (List.mem_of_getElem? e2)
    refine ⟨m1.1, m1.2, m2.1, m2.2, ?_, ?_, ?_⟩
    · refine List.mem_of_getElem? (i := b) ?_
      rw [List.getElem?_take, if_pos (by omega)]
      exact e1
    · intro hm
      obtain ⟨i, hi, ei⟩ := List.mem_iff_getElem.mp hm
      have hi2 : i < j + 1 := by rw [List.length_take] at hi; omega
      rw [List.getElem_take] at ei
      have hj : j + 1 < nm.length := (List.getElem?_eq_some_iff.mp e2).1
      have ej : nm[j + 1] = m.2 := (List.getElem?_eq_some_iff.mp e2).2
      have hi3 : i < nm.length := by omega
      exact List.pairwise_iff_getElem.mp nd i (j + 1) hi3 hj hi2 (ei.trans ej.symm)
    · have hj : j + 1 < nm.length := (List.getElem?_eq_some_iff.mp e2).1
      have ej : nm[j + 1] = m.2 := (List.getElem?_eq_some_iff.mp e2).2
      have e3 : nm.take (j + 1) ++ [m.2] = nm.take (j + 1 + 1) := by rw [List.take_succ_eq_append_getElem hj, ej]
      rw [e3]
      refine made_good nd rg ms (j + 1) fun t m' em => ?_
      obtain ⟨b', hb', q1, q2⟩ := h (t + 1) m' (by simpa using em)
      exact ⟨b', by omega, q1, by rw [show j + 1 + t + 1 = j + (t + 1) + 1 by omega]; exact q2⟩
theorem ok__law_paper {P : Program} {w : World} {K : PySem.W.Frag} {mg : Str → Option Value} {base : Heap} (T : Txt K mg) (F : Dfn K mg d__law_paper) (c__law_draw : Fn P w K mg base 1 "_law_draw" ["_law_source_here", "_law_many"] pm__law_draw) : Fn P w K mg base 2 "_law_paper" ["_law_source_here", "_law_names", "_law_many"] pm__law_paper := by
  obtain ⟨fd, F, hm⟩ := F.ex
  refine ⟨_, fd, fn_G (k := 1) (pm := pm__law_paper) F sc__law_paper (fun cdv A outer s H E hr C => (gss_cons (gs_set (i := 3) C.nd (ge_fn C c__law_draw (hr.mono (by decide)) (ga_bor (i := 0) (ga_cons ge_int ga_nil))))
      (gss_cons (gs_set (i := 4) C.nd (ge_lst ga_nil))
      (gss_cons (gs_for C.po C.calm (gi_r2 T.m_range (ga_cons ge_int (ga_cons (ge_op og_add (ge_var (i := 2)) ge_int) ga_nil))) (gg_name (i := 5) C.nd) (gss_cons (gs_set (i := 6) C.nd (ge_fn C c__law_draw (hr.mono (by decide)) (ga_bor (i := 0) (ga_cons (ge_var (i := 5)) ga_nil))))
      (gss_cut (gs_if (gt_cmp og_eqI (ge_var (i := 3)) ge_int) (gss_one (gs_set (i := 6) C.nd (ge_op og_sub (ge_var (i := 5)) ge_int))) gss_nil)
      (gss_cut (gs_if (gt_cmp og_eqI (ge_var (i := 3)) ge_int) (gss_one (gs_set (i := 6) C.nd ge_int)) gss_nil)
      (gss_one (gs_app (i := 4) (ge_tup (ga_cons (ge_ix ig_seqV (ge_var (i := 1)) (ge_var (i := 6))) (ga_cons (ge_ix ig_seqV (ge_var (i := 1)) (ge_var (i := 5))) ga_nil)))))))))
      (gss_cons (gs_set (i := 7) C.nd (ge_fn C c__law_draw (hr.mono (by decide)) (ga_bor (i := 0) (ga_cons (ge_var (i := 2)) ga_nil))))
      (gss_cons (gs_set (i := 8) C.nd (ge_op og_mod (ge_ct cg_int T.m_int bt_int (ga_cons (ge_op og_add (ge_op og_add (ge_var (i := 7)) ge_int) (ge_fn C c__law_draw (hr.mono (by decide)) (ga_bor (i := 0) (ga_cons (ge_op og_sub (ge_var (i := 2)) ge_int) ga_nil)))) ga_nil)) (ge_var (i := 2))))
      (gss_one (gs_ret (ge_tup (ga_cons (ge_ix ig_seqV (ge_var (i := 1)) ge_int) (ga_cons (ge_ix ig_seqV (ge_var (i := 1)) (ge_op og_add ge_int (ge_var (i := 7)))) (ga_cons (ge_ix ig_seqV (ge_var (i := 1)) (ge_op og_add ge_int (ge_var (i := 8)))) (ga_cons (ge_ct cg_tuple T.m_tuple bt_tuple (ga_cons (ge_frz (i := 4)) ga_nil)) ga_nil))))))))))))) (fun as We R hl hp => ?_), hm, F.kp, F.bindsN (fun _ _ _ _ _ _ us hl => match us, hl with | [_, _, _], _ => rfl)⟩
  obtain ⟨p, s, nm, k, rfl, hk2, hk, hnm, hs, hR⟩ := hp
  have hl : nm.length = 40 := by rw [hnm.length_eq]; simp
  have nd : nm.Nodup := hnm.nodup_iff.mpr (by decide +kernel)
  have rg : ∀ x ∈ nm, 0 ≤ x ∧ x ≤ 39 := fun x hx => by
    obtain ⟨i, hi, rfl⟩ := List.mem_map.mp (hnm.mem_iff.mp hx)
    have := List.mem_range.mp hi
    exact ⟨by show (0 : Int) ≤ (i : Int); omega, by show (i : Int) ≤ 39; omega⟩
  have nmD : ∀ (x : Int), 0 ≤ x → x < 40 → ∃ c, nm[x.toNat]? = some c ∧ atI (nm.map D.int) x = some (.int c) := fun x h0 h1 => by
    obtain ⟨c, _, e1, e2⟩ := at_ints (ns := nm) h0 (by omega)
    exact ⟨c, e1, e2⟩
  refine ⟨trivial, rfl, by simp [bors], p, s, 5, rfl, by decide, by decide, hs, fun sh s1 h0 h1 hs1 => ?_⟩
  refine ⟨sz (show 0 ≤ 1000 by decide), fun q => ?_⟩
  refine ⟨⟨by decide, by decide, by omega, by omega⟩, fun i g => ∃ (s' : Src) (ms : List (Int × Int)) (x y : Option O), s'.Ok ∧ ms.length = i ∧ Made nm ms ∧
    g = [some (srcO p s'), some (.pur (.lst (nm.map .int))), pi k, pi sh, some (.lst q ((mvD ms).map .pur)), x, y, none, none], ⟨s1, [], none, none, hs1, rfl, fun j m e => by simp at e, rfl⟩, ?_, ?_⟩
  · rintro i d g e ⟨s', ms, x, y, hs', hm, hM, rfl⟩
    obtain ⟨rfl, hi⟩ := rng_at e
    refine ⟨trivial, rfl, by simp [bors], p, s', 1 + (i : Int), rfl, by omega, by omega, hs', fun b s2 h0 h1 hs2 => ?_⟩
    refine ⟨fun g => ∃ b : Int, 0 ≤ b ∧ b ≤ i ∧ g = [some (srcO p s2), some (.pur (.lst (nm.map .int))), pi k, pi sh, some (.lst q ((mvD ms).map .pur)), pi (1 + (i : Int)), pi b, none, none], ?_, ?_⟩
    · refine br_i (fun h => ?_) fun h => ?_
      · exact ⟨1 + (i : Int) - 1, by omega, by omega, rfl⟩
      · exact ⟨b, h0, by omega, rfl⟩
    rintro g ⟨b, h0, h1, rfl⟩
    refine ⟨fun g => ∃ b : Int, 0 ≤ b ∧ b ≤ i ∧ g = [some (srcO p s2), some (.pur (.lst (nm.map .int))), pi k, pi sh, some (.lst q ((mvD ms).map .pur)), pi (1 + (i : Int)), pi b, none, none], ?_, ?_⟩
    · refine br_i (fun h => ?_) fun h => ?_
      · exact ⟨0, by omega, by omega, rfl⟩
      · exact ⟨b, h0, by omega, rfl⟩
    rintro g ⟨b, h0, h1, rfl⟩
    obtain ⟨c1, e1, q1⟩ := nmD b h0 (by omega)
    obtain ⟨c2, e2, q2⟩ := nmD (1 + (i : Int)) (by omega) (by omega)
    refine ⟨trivial, ix_l q1 (ix_l q2 ⟨sz (show 2 ≤ 1000 by decide), szl (show _ ≤ 1000 by simp [mvD]; omega), s2, ms ++ [(c1, c2)], pi (1 + (i : Int)), pi b, hs2, by simp [hm], ?_, ?_⟩)⟩
    · intro j m em
      by_cases hj : j < ms.length
      · rw [List.getElem?_append_left hj] at em
        exact hM j m em
      · have hj2 : j = ms.length := by
          have := (List.getElem?_eq_some_iff.mp em).1
          simp at this
          omega
        subst hj2
        rw [List.getElem?_concat_length] at em
        cases em
        refine ⟨b.toNat, by omega, e1, ?_⟩
        rw [← e2]
        congr 1
        omega
    · rw [show mvD (ms ++ [(c1, c2)]) = mvD ms ++ [fr c1 c2] by simp [mvD], List.map_append]
      rfl
  · rintro g ⟨s', ms, x, y, hs', hm, hM, rfl⟩
    have hm : ms.length = k := by rw [hm, rng_len]; omega
    refine ⟨trivial, rfl, by simp [bors], p, s', k, rfl, by omega, by omega, hs', fun f s2 h0 h1 hs2 => ?_⟩
    refine ⟨trivial, rfl, by simp [bors], p, s2, (k : Int) - 1, rfl, by omega, by omega, hs2, fun t s3 h2 h3 hs3 => ?_⟩
    refine ⟨show (0 : Int) < k by omega, ?_⟩
    have hf0 := Int.emod_nonneg (f + 1 + t) (show (k : Int) ≠ 0 by omega)
    have hf1 := Int.emod_lt_of_pos (f + 1 + t) (show (0 : Int) < k by omega)
    have hne : (f + 1 + t) % (k : Int) ≠ f := by
      intro e
      have h4 : (f + 1 + t - f) % (k : Int) = 0 := by rw [Int.sub_emod, e, Int.emod_eq_of_lt h0 h1]; simp
      have h5 : f + 1 + t - f = 1 + t := by omega
      rw [h5, Int.emod_eq_of_lt (by omega) (by omega)] at h4
      omega
    obtain ⟨c0, e0, q0⟩ := nmD 0 (by omega) (by omega)
    obtain ⟨c1, e1, q1⟩ := nmD (1 + f) (by omega) (by omega)
    obtain ⟨c2, e2, q2⟩ := nmD (1 + (f + 1 + t) % (k : Int)) (by omega) (by omega)
    refine ix_l q0 (ix_l q1 (ix_l q2 ⟨sz (show 4 ≤ 1000 by decide), ?_⟩))
    refine rt_dK ?_
    have hT : Tangle c0 c1 c2 ms := by
      have mem : ∀ (x : Int) c, 0 ≤ x → x < k → nm[(1 + x).toNat]? = some c → c ∈ ms.map (·.2) := fun x c hx0 hx1 ec => by
        have hx : x.toNat < ms.length := by omega
        obtain ⟨b, hb, e1, e2⟩ := hM x.toNat ms[x.toNat] (by simp [hx])
        rw [show (1 + x).toNat = x.toNat + 1 by omega, e2] at ec
        cases ec
        exact List.mem_map.mpr ⟨ms[x.toNat], List.getElem_mem hx, rfl⟩
      refine ⟨rg _ (List.mem_of_getElem? e0), rg _ (List.mem_of_getElem? e1), rg _ (List.mem_of_getElem? e2), ?_, ?_, mem f c1 h0 h1 e1, mem _ c2 hf0 hf1 e2, by omega⟩
      · intro ec
        subst ec
        obtain ⟨l1, g1⟩ := List.getElem?_eq_some_iff.mp e1
        obtain ⟨l2, g2⟩ := List.getElem?_eq_some_iff.mp e2
        rcases Nat.lt_trichotomy (1 + f).toNat (1 + (f + 1 + t) % (k : Int)).toNat with h | h | h
        · exact List.pairwise_iff_getElem.mp nd _ _ l1 l2 h (g1.trans g2.symm)
        · omega
        · exact List.pairwise_iff_getElem.mp nd _ _ l2 l1 h (g2.trans g1.symm)
      · have := made_good nd rg ms 0 fun t m em => by
          obtain ⟨b, hb, q1, q2⟩ := hM t m em
          exact ⟨b, by omega, q1, by rw [show 0 + t + 1 = t + 1 by omega]; exact q2⟩
        have e3 : nm.take (0 + 1) = [c0] := by
          cases nm with
          | nil => simp at e0
          | cons a l => have : a = c0 := by simpa using e0
                        subst this; rfl
        rw [e3] at this
        exact this
    have e5 : O.dL ((mvD ms).map O.pur) = mvD ms := dL_pur _
    have h := hR c0 c1 c2 ms s3 hT hm hs3
    have e6 : tgD c0 c1 c2 ms = .tup [.int c0, .int c1, .int c2, .tup (O.dL ((mvD ms).map O.pur))] := by rw [e5]
    rw [e6] at h
    exact h

end K59
namespace K59
open PySem PySem.Spec PyProof.Rows L2 G

theorem part_le {a b s : Int} (h0 : 0 ≤ a) (h1 : a ≤ b) (hb : 0 < b) (hs : 0 ≤ s) : 0 ≤ part a b s ∧ part a b s ≤ s := by
  unfold part
  refine ⟨Int.ediv_nonneg (Int.mul_nonneg h0 hs) (by omega), ?_⟩
  refine Int.ediv_le_of_le_mul hb ?_
  rw [Int.mul_comm s b]
  exact Int.mul_le_mul_of_nonneg_right h1 hs
theorem parts_le {a b : Int} (h0 : 0 ≤ a) (h1 : a ≤ b) (hb : 0 < b) : ∀ (n : Nat) {s : Int}, 0 ≤ s → 0 ≤ parts a b n s ∧ parts a b n s ≤ s
  | 0, s, hs => ⟨hs, Int.le_refl _⟩
  | n + 1, s, hs => by
    obtain ⟨q1, q2⟩ := part_le h0 h1 hb hs
    obtain ⟨q3, q4⟩ := parts_le h0 h1 hb n q1
    exact ⟨q3, Int.le_trans q4 q2⟩
theorem part_mono {a b s t : Int} (h0 : 0 ≤ a) (hb : 0 < b) (h : s ≤ t) : part a b s ≤ part a b t := Int.ediv_le_ediv hb (Int.mul_le_mul_of_nonneg_left h h0)
theorem parts_mono {a b : Int} (h0 : 0 ≤ a) (hb : 0 < b) : ∀ (n : Nat) {s t : Int}, s ≤ t → parts a b n s ≤ parts a b n t
  | 0, _, _, h => h
  | n + 1, _, _, h => parts_mono h0 hb n (part_mono h0 hb h)
theorem told_mono {a b s t : Int} {k : Nat} (r : rateOk a b) (h : s ≤ t) : toldI k a b s ≤ toldI k a b t := by
  have h0 : 0 ≤ a := by have := r.1; omega
  have hb : 0 < b := by have := r.1; have := r.2.1; omega
  have h1 := parts_mono h0 hb (2 * k + 2) h
  have h2 := part_mono h0 hb h1
  unfold toldI
  omega
theorem told_le {a b s : Int} {k : Nat} (r : rateOk a b) (h : 0 ≤ s) : 0 ≤ toldI k a b s ∧ toldI k a b s ≤ 2 * s := by
  obtain ⟨r0, r1, _⟩ := r
  obtain ⟨q1, q2⟩ := parts_le (a := a) (b := b) (by omega) (by omega) (by omega) (2 * k + 2) h
  obtain ⟨q3, q4⟩ := part_le (a := a) (b := b) (by omega) (by omega) (by omega) q1
  unfold toldI
  omega
theorem part_mul {a b s : Int} (hb : 0 < b) : b * part a b s ≤ a * s ∧ a * s + 1 ≤ b * part a b s + b := by
  unfold part
  have h1 := Int.mul_ediv_add_emod (a * s) b
  have h2 := Int.emod_nonneg (a * s) (show b ≠ 0 by omega)
  have h3 := Int.emod_lt_of_pos (a * s) hb
  constructor <;> omega
theorem parts_up {a b : Int} (h0 : 0 ≤ a) (hb : 0 < b) (s : Int) : ∀ n : Nat, parts a b n s * b ^ n ≤ a ^ n * s
  | 0 => by simp [parts]
  | n + 1 => by
    rw [parts_succ]
    have ih := parts_up h0 hb s n
    have h1 := (part_mul (a := a) (b := b) (s := parts a b n s) hb).1
    have hbn : 0 ≤ b ^ n := Int.le_of_lt (Int.pow_pos hb)
    calc part a b (parts a b n s) * b ^ (n + 1) = (b * part a b (parts a b n s)) * b ^ n := by rw [Int.pow_succ]; ac_rfl
      _ ≤ (a * parts a b n s) * b ^ n := Int.mul_le_mul_of_nonneg_right h1 hbn
      _ = a * (parts a b n s * b ^ n) := by ac_rfl
      _ ≤ a * (a ^ n * s) := Int.mul_le_mul_of_nonneg_left ih h0
      _ = a ^ (n + 1) * s := by rw [Int.pow_succ]; ac_rfl
theorem parts_lo {a b : Int} (h0 : 0 ≤ a) (h1 : a ≤ b) (hb : 0 < b) (s : Int) : ∀ n : Nat, a ^ n * s ≤ (parts a b n s + n) * b ^ n
  | 0 => by simp [parts]
  | n + 1 => by
    rw [parts_succ]
    have ih := parts_lo h0 h1 hb s n
    have h2 := (part_mul (a := a) (b := b) (s := parts a b n s) hb).2
    have hbn : 0 ≤ b ^ n := Int.le_of_lt (Int.pow_pos hb)
    have h3 : a * (n : Int) ≤ b * (n : Int) := Int.mul_le_mul_of_nonneg_right h1 (Int.natCast_nonneg n)
    have h4 : a * (parts a b n s + n) ≤ b * (part a b (parts a b n s) + ((n + 1 : Nat) : Int)) := by
      have e1 : a * (parts a b n s + n) = a * parts a b n s + a * (n : Int) := Int.mul_add ..
      have e2 : b * (part a b (parts a b n s) + ((n + 1 : Nat) : Int)) = b * part a b (parts a b n s) + (b * (n : Int) + b) := by
        rw [Int.mul_add]
        congr 1
        rw [show ((n + 1 : Nat) : Int) = (n : Int) + 1 from rfl, Int.mul_add, Int.mul_one]
      omega
    calc a ^ (n + 1) * s = a * (a ^ n * s) := by rw [Int.pow_succ]; ac_rfl
      _ ≤ a * ((parts a b n s + n) * b ^ n) := Int.mul_le_mul_of_nonneg_left ih h0
      _ = (a * (parts a b n s + n)) * b ^ n := by ac_rfl
      _ ≤ (b * (part a b (parts a b n s) + ((n + 1 : Nat) : Int))) * b ^ n := Int.mul_le_mul_of_nonneg_right h4 hbn
      _ = (part a b (parts a b n s) + ((n + 1 : Nat) : Int)) * b ^ (n + 1) := by rw [Int.pow_succ]; ac_rfl
theorem told_up {a b s : Int} {k : Nat} (r : rateOk a b) : toldI k a b s * growB b (2 * k + 2) ≤ growT a b (2 * k + 2) * s := by
  obtain ⟨r0, r1, _⟩ := r
  have hb : 0 < b := by omega
  have h0 : 0 ≤ a := by omega
  have hN := parts_up h0 hb s (2 * k + 2)
  generalize hx : parts a b (2 * k + 2) s = x at hN
  have h1 := (part_mul (a := a) (b := b) (s := x) hb).1
  unfold toldI growB growT
  rw [hx]
  generalize part a b x = y at h1 ⊢
  generalize hB : b ^ (2 * k + 2) = B at hN ⊢
  generalize a ^ (2 * k + 2) = A at hN ⊢
  have hB0 : 0 ≤ B := by rw [← hB]; exact Int.le_of_lt (Int.pow_pos hb)
  calc (x + y) * (b * B) = (b * x + b * y) * B := by rw [← Int.mul_add]; ac_rfl
    _ ≤ (b * x + a * x) * B := Int.mul_le_mul_of_nonneg_right (by omega) hB0
    _ = (a + b) * (x * B) := by rw [← Int.add_mul, Int.add_comm b a]; ac_rfl
    _ ≤ (a + b) * (A * s) := Int.mul_le_mul_of_nonneg_left hN (by omega)
    _ = (a + b) * A * s := by ac_rfl
theorem told_lo {a b s : Int} {k : Nat} (r : rateOk a b) : growT a b (2 * k + 2) * s < (toldI k a b s + 4 * k + 5) * growB b (2 * k + 2) := by
  obtain ⟨r0, r1, _⟩ := r
  have hb : 0 < b := by omega
  have h0 : 0 ≤ a := by omega
  have hN := parts_lo h0 (by omega) hb s (2 * k + 2)
  generalize hx : parts a b (2 * k + 2) s = x at hN
  have h1 := (part_mul (a := a) (b := b) (s := x) hb).2
  unfold toldI growB growT
  rw [hx]
  generalize part a b x = y at h1 ⊢
  have hn : ((2 * k + 2 : Nat) : Int) = 2 * (k : Int) + 2 := by omega
  rw [hn] at hN
  generalize hB : b ^ (2 * k + 2) = B at hN ⊢
  generalize a ^ (2 * k + 2) = A at hN ⊢
  have hB0 : 0 < B := by rw [← hB]; exact Int.pow_pos hb
  have hk : 0 ≤ (k : Int) := Int.natCast_nonneg k
  generalize (k : Int) = c at hN hk ⊢
  have h2 : (a + b) * (x + (2 * c + 2)) < b * (x + y + 4 * c + 5) := by
    have e1 : (a + b) * (x + (2 * c + 2)) = a * x + b * x + (a * (2 * c + 2) + b * (2 * c + 2)) := by rw [Int.mul_add, Int.add_mul, Int.add_mul]
    have e2 : b * (x + y + 4 * c + 5) = b * x + b * y + b * (2 * c + 2) + b * (2 * c + 2) + b := by
      rw [show x + y + 4 * c + 5 = x + y + (2 * c + 2) + (2 * c + 2) + 1 by omega, Int.mul_add, Int.mul_add, Int.mul_add, Int.mul_add, Int.mul_one]
    have h3 : a * (2 * c + 2) ≤ b * (2 * c + 2) := Int.mul_le_mul_of_nonneg_right (by omega) (by omega)
    omega
  calc (a + b) * A * s = (a + b) * (A * s) := by ac_rfl
    _ ≤ (a + b) * ((x + (2 * c + 2)) * B) := Int.mul_le_mul_of_nonneg_left hN (by omega)
    _ = (a + b) * (x + (2 * c + 2)) * B := by ac_rfl
    _ < b * (x + y + 4 * c + 5) * B := Int.mul_lt_mul_of_pos_right h2 hB0
    _ = (x + y + 4 * c + 5) * (b * B) := by ac_rfl
theorem roEq_fr {neg : Bool} {a b : Int} {P : O → Prop} (h : P (.pur (.bl (if neg then !true else true)))) : roEq neg (fr a b) (fr a b) P := by
  unfold roEq
  have e : (fr a b).py = some (.tuple [.int a, .int b]) := rfl
  rw [e]
  refine ⟨rfl, rfl, ?_⟩
  have e2 : PyData.eqv (.tuple [.int a, .int b]) (.tuple [.int a, .int b]) = true := by simp [PyData.eqv, PyData.eqvAll]
  rw [e2]
  exact h

/-! ### growth at 1 - 1 / (20 M) -/
theorem part_pred {b c x : Int} (hb : 0 < b) (h : x ≤ b * c) : x - c ≤ part (b - 1) b x := by
  unfold part
  refine Int.le_ediv_of_mul_le hb ?_
  rw [Int.sub_mul, Int.sub_mul, Int.one_mul, Int.mul_comm x b, Int.mul_comm c b]
  omega
theorem parts_pred {b c : Int} (hb : 1 < b) : ∀ (n : Nat) {x : Int}, 0 ≤ x → x ≤ b * c → x - n * c ≤ parts (b - 1) b n x
  | 0, x, _, _ => by show x - ((0 : Nat) : Int) * c ≤ x; simp
  | n + 1, x, h0, h => by
    have h1 := part_pred (by omega) h
    obtain ⟨h2, h3⟩ := part_le (a := b - 1) (b := b) (by omega) (by omega) (by omega) h0
    have h4 := parts_pred (c := c) hb n h2 (by omega)
    have e : ((n + 1 : Nat) : Int) * c = n * c + c := by rw [show ((n + 1 : Nat) : Int) = (n : Int) + 1 from rfl, Int.add_mul, Int.one_mul]
    show x - ((n + 1 : Nat) : Int) * c ≤ parts (b - 1) b n (part (b - 1) b x)
    rw [e]
    omega
theorem told_big {k : Nat} {x : Int} (h : 6 * (k : Int) + 6 ≤ x) (hk : 1 ≤ k) : x < toldI k (20 * k + 19) (20 * k + 20) x := by
  obtain ⟨b, hb⟩ : ∃ b : Int, b = 20 * k + 20 := ⟨_, rfl⟩
  obtain ⟨c, hc⟩ : ∃ c : Int, c = (x + b - 1) / b := ⟨_, rfl⟩
  have hb0 : 1 < b := by omega
  have q1 := Int.mul_ediv_add_emod (x + b - 1) b
  have q2 := Int.emod_nonneg (x + b - 1) (show b ≠ 0 by omega)
  have q3 := Int.emod_lt_of_pos (x + b - 1) (show 0 < b by omega)
  rw [← hc] at q1
  have hx1 : x ≤ b * c := by omega
  have hx2 : b * c - b < x := by omega
  have e : (20 * (k : Int) + 19) = b - 1 := by omega
  have e2 : (20 * (k : Int) + 20) = b := hb.symm
  rw [e, e2]
  have h1 := parts_pred hb0 (2 * k + 2) (show 0 ≤ x by omega) hx1
  obtain ⟨h2, h3⟩ := parts_le (a := b - 1) (b := b) (by omega) (by omega) (by omega) (2 * k + 2) (show 0 ≤ x by omega)
  have h4 := part_pred (b := b) (c := c) (by omega) (Int.le_trans h3 hx1)
  unfold toldI
  have e3 : ((2 * k + 2 : Nat) : Int) * c = 2 * (k * c) + 2 * c := by
    rw [show ((2 * k + 2 : Nat) : Int) = 2 * (k : Int) + 2 by omega, Int.add_mul, Int.mul_assoc]
  rw [e3] at h1
  have e4 : b * c = 20 * (k * c) + 20 * c := by rw [hb, Int.add_mul, Int.mul_assoc]
  rw [e4] at hx1 hx2
  have hc1 : 1 ≤ c := by
    rcases Int.lt_or_le c 1 with h | h
    · have h5 : b * c ≤ 0 := Int.mul_nonpos_of_nonneg_of_nonpos (by omega) (by omega)
      omega
    · exact h
  rcases Int.lt_or_le c 2 with h6 | h6
  · have : c = 1 := by omega
    subst this
    omega
  · have h7 : 1 * (16 * c - 20) ≤ (k : Int) * (16 * c - 20) := Int.mul_le_mul_of_nonneg_right (by omega) (by omega)
    have e5 : (k : Int) * (16 * c - 20) = 16 * (k * c) - 20 * k := by
      rw [Int.mul_sub, Int.mul_left_comm, Int.mul_comm (k : Int) 20]
    rw [e5] at h7
    omega
theorem told_zero {k : Nat} {a b : Int} (r : rateOk a b) : toldI k a b 0 = 0 := by
  have := told_le (k := k) r (Int.le_refl 0)
  omega
theorem bern {b : Int} (hb : 1 ≤ b) : ∀ n : Nat, (n : Int) ≤ b → (b - n) * b ^ n ≤ b * (b - 1) ^ n
  | 0, _ => by simp
  | n + 1, h => by
    have ih := bern hb n (by omega)
    have p : 0 ≤ b ^ n := Int.le_of_lt (Int.pow_pos (by omega))
    have e : (b - ((n + 1 : Nat) : Int)) * b ≤ (b - 1) * (b - n) := by
      have e1 : (b - ((n + 1 : Nat) : Int)) * b = b * b - n * b - b := by
        rw [show ((n + 1 : Nat) : Int) = (n : Int) + 1 from rfl, Int.sub_mul, Int.add_mul, Int.one_mul]
        omega
      have e2 : (b - 1) * (b - n) = b * b - n * b - b + n := by
        rw [Int.sub_mul, Int.mul_sub, Int.one_mul, Int.mul_comm b n]
        omega
      omega
    calc (b - ((n + 1 : Nat) : Int)) * b ^ (n + 1) = ((b - ((n + 1 : Nat) : Int)) * b) * b ^ n := by rw [Int.pow_succ]; ac_rfl
      _ ≤ ((b - 1) * (b - n)) * b ^ n := Int.mul_le_mul_of_nonneg_right e p
      _ = (b - 1) * ((b - n) * b ^ n) := by ac_rfl
      _ ≤ (b - 1) * (b * (b - 1) ^ n) := Int.mul_le_mul_of_nonneg_left ih (by omega)
      _ = b * (b - 1) ^ (n + 1) := by rw [Int.pow_succ]; ac_rfl
theorem grow_gt {k : Nat} : growB (20 * k + 20) (2 * k + 2) < growT (20 * k + 19) (20 * k + 20) (2 * k + 2) := by
  obtain ⟨b, hb⟩ : ∃ b : Int, b = 20 * k + 20 := ⟨_, rfl⟩
  rw [show (20 * (k : Int) + 19) = b - 1 by omega, ← hb]
  have h := bern (b := b) (by omega) (2 * k + 2) (by omega)
  have hp : 0 < b ^ (2 * k + 2) := Int.pow_pos (by omega)
  unfold growB growT
  generalize b ^ (2 * k + 2) = B at h hp ⊢
  generalize (b - 1) ^ (2 * k + 2) = A at h ⊢
  have e : b - ((2 * k + 2 : Nat) : Int) = 18 * k + 18 := by omega
  rw [e] at h
  have h1 : (b - 1 + b) * ((18 * k + 18) * B) ≤ (b - 1 + b) * (b * A) := Int.mul_le_mul_of_nonneg_left h (by omega)
  have h2 : b * (b * B) < (b - 1 + b) * ((18 * k + 18) * B) := by
    have e1 : b * (b * B) = (b * b) * B := by ac_rfl
    have e2 : (b - 1 + b) * ((18 * k + 18) * B) = ((b - 1 + b) * (18 * k + 18)) * B := by ac_rfl
    rw [e1, e2]
    refine Int.mul_lt_mul_of_pos_right ?_ hp
    have h3 : b * (20 * k + 20) < (b - 1 + b) * (18 * k + 18) := by
      have e3 : (b - 1 + b) * (18 * (k : Int) + 18) = 2 * (b * (18 * k + 18)) - (18 * k + 18) := by
        rw [show b - 1 + b = 2 * b - 1 by omega, Int.sub_mul, Int.one_mul, Int.mul_assoc]
      have e4 : b * (18 * (k : Int) + 18) = 18 * (b * (k + 1)) := by rw [show 18 * (k : Int) + 18 = 18 * (k + 1) by omega, Int.mul_left_comm]
      have e5 : b * (20 * (k : Int) + 20) = 20 * (b * (k + 1)) := by rw [show 20 * (k : Int) + 20 = 20 * (k + 1) by omega, Int.mul_left_comm]
      have h4 : 20 * (k + 1 : Int) ≤ b * (k + 1) := Int.mul_le_mul_of_nonneg_right (by omega) (by omega)
      omega
    rw [← hb] at h3
    exact h3
  have h3 : b * (b * B) < b * ((b - 1 + b) * A) := by
    have e1 : b * ((b - 1 + b) * A) = (b - 1 + b) * (b * A) := by ac_rfl
    rw [e1]
    exact Int.lt_of_lt_of_le h2 h1
  exact Int.lt_of_mul_lt_mul_left h3 (by omega)
theorem low_gt {t b : Int} (h0 : 0 < b) (h : b < t) : b / gcdI t b < t / gcdI t b := by
  obtain ⟨m, rfl⟩ := Int.eq_ofNat_of_zero_le (show 0 ≤ t by omega)
  obtain ⟨n, rfl⟩ := Int.eq_ofNat_of_zero_le (show 0 ≤ b by omega)
  have e : gcdI (m : Int) (n : Int) = (Nat.gcd m n : Nat) := rfl
  rw [e, ← Int.natCast_ediv, ← Int.natCast_ediv]
  have hg : 0 < Nat.gcd m n := Nat.gcd_pos_of_pos_right _ (by omega)
  have : n / Nat.gcd m n < m / Nat.gcd m n := by
    rw [Nat.div_lt_iff_lt_mul hg, Nat.div_mul_cancel (Nat.gcd_dvd_left m n)]
    omega
  omega
/-- what grown tells -/
structure Grown (k : Nat) (s : Int) : Prop where
  lo : 1 ≤ s
  hi : s ≤ 6 * k + 6
  out : toldI k (20 * k + 19) (20 * k + 20) (s - 1) ≤ s - 1
  up : ∀ y, s ≤ y → y < 6 * k + 6 → y < toldI k (20 * k + 19) (20 * k + 20) y
abbrev ratK (k : Nat) : D := fr (20 * k + 19) (20 * k + 20)
theorem rat_ok {k : Nat} (hk : k ≤ 40) : rateOk (20 * k + 19) (20 * k + 20) := by
  have r := rate_pred (n := 20 * (k : Int) + 20) (by omega) (by omega)
  rw [show 20 * (k : Int) + 20 - 1 = 20 * (k : Int) + 19 by omega] at r
  exact r
def pm_grown : Pm := fun as We R => ∃ k : Nat, as = [.pur (.int k)] ∧ k ≤ 40 ∧ ∀ s, Grown k s → R (.pur (.tup [ratK k, .int s])) [pi k]
def pm_growing : Pm := fun as We R => ∃ (goal first second : Int) (ms : List (Int × Int)), as = [.pur (tgD goal first second ms)] ∧ Tangle goal first second ms ∧ ms.length ≤ 40 ∧ ∀ s, Grown ms.length s → R (.pur (.tup [ratK ms.length, .int s])) [some (.pur (tgD goal first second ms))]
def pm__law_is_pair : Pm := fun as We R => ∃ d : D, as = [.pur d] ∧ D.ok d = true ∧ R (.pur (.bl (isPairD d))) [some (.pur d)]
def pm_law : Pm := fun as We R => ∃ ns : List Int, as = [.pur (.lst (ns.map .int))] ∧ ns.length ≤ 63 ∧ R (.pur (.bl true)) [some (.pur (.lst (ns.map .int)))]
theorem ok_grown {P : Program} {w : World} {K : PySem.W.Frag} {mg : Str → Option Value} {base : Heap} (T : Txt K mg) (F : Dfn K mg d_grown) (c_made : Fn P w K mg base 2 "made" ["top", "bottom"] pm_made) (c_told : Fn P w K mg base 2 "told" ["moves", "rate", "stock"] pm_told) : Fn P w K mg base 3 "grown" ["moves"] pm_grown := by
  obtain ⟨fd, F, hm⟩ := F.ex
  refine ⟨_, fd, fn_G (k := 2) (pm := pm_grown) F sc_grown (fun cdv A outer s H E hr C => (gss_cons (gs_set (i := 1) C.nd (ge_fn C c_made (hr.mono (by decide)) (ga_cons (ge_op og_sub (ge_op og_mul ge_int (ge_op og_add (ge_var (i := 0)) ge_int)) ge_int) (ga_cons (ge_op og_mul ge_int (ge_op og_add (ge_var (i := 0)) ge_int)) ga_nil))))
      (gss_cons (gs_set (i := 2) C.nd (ge_op og_mul ge_int (ge_op og_add (ge_var (i := 0)) ge_int)))
      (gss_cons (gs_while C.po (gt_cmp og_gt (ge_fn C c_told (hr.mono (by decide)) (ga_cons (ge_var (i := 0)) (ga_cons (ge_var (i := 1)) (ga_cons (ge_op og_sub (ge_var (i := 2)) ge_int) ga_nil)))) (ge_op og_sub (ge_var (i := 2)) ge_int)) (gss_one (gs_aug (i := 2) C.nd og_isub ge_int)))
      (gss_one (gs_ret (ge_tup (ga_cons (ge_var (i := 1)) (ga_cons (ge_var (i := 2)) ga_nil))))))))) (fun as We R hl hp => ?_), hm, F.kp, F.bindsN (fun _ _ _ _ _ _ us hl => match us, hl with | [_], _ => rfl)⟩
  obtain ⟨k, rfl, hk, hR⟩ := hp
  have r := rat_ok hk
  have g1 : gcdI (20 * ((k : Int) + 1) - 1) (20 * ((k : Int) + 1)) = 1 := gcd_pred (by omega)
  refine ⟨.inl ⟨by decide, by decide⟩, .inl ⟨by decide, by decide⟩, rfl, by simp [bors], 20 * ((k : Int) + 1) - 1, 20 * ((k : Int) + 1), rfl, by omega, by omega, ?_, ?_⟩
  · exact Nat.lt_of_lt_of_le (show (20 * ((k : Int) + 1)).natAbs < 2 ^ 10 by omega) (Nat.pow_le_pow_right (by decide) (by decide))
  rw [g1, Int.ediv_one, Int.ediv_one, show 20 * ((k : Int) + 1) - 1 = 20 * k + 19 by omega, show 20 * ((k : Int) + 1) = 20 * k + 20 by omega]
  refine ⟨.inl ⟨by decide, by decide⟩, fun m g => ∃ s : Int, m = s.toNat ∧ 1 ≤ s ∧ s ≤ 6 * k + 6 ∧ (∀ y, s ≤ y → y < 6 * k + 6 → y < toldI k (20 * k + 19) (20 * k + 20) y) ∧ g = [pi k, some (.pur (ratK k)), pi s], ⟨_, 6 * k + 6, rfl, by omega, by omega, fun y h1 h2 => by omega, ?_⟩, ?_⟩
  · rw [show (6 * (k : Int) + 6) = 6 * (k + 1) by omega]
    rfl
  rintro m g ⟨s, rfl, h1, h2, hu, rfl⟩
  refine ⟨rfl, by simp [bors], k, _, _, s - 1, rfl, by omega, r, fun x => ?_⟩
  refine br_i (fun h => ?_) fun h => ?_
  · have h' : s - 1 < toldI k (20 * k + 19) (20 * k + 20) (s - 1) := of_decide_eq_true h
    have h1' : s ≠ 1 := by
      intro e
      subst e
      have := told_zero (k := k) r
      rw [show (1 : Int) - 1 = 0 from rfl, this] at h'
      omega
    refine ⟨(s - 1).toNat, by omega, s - 1, rfl, by omega, by omega, fun y hy1 hy2 => ?_, rfl⟩
    rcases Int.lt_or_le y s with h3 | h3
    · have : y = s - 1 := by omega
      rw [this]
      exact h'
    · exact hu y h3 hy2
  · have h' : ¬ s - 1 < toldI k (20 * k + 19) (20 * k + 20) (s - 1) := of_decide_eq_false h
    exact ⟨sz (show 2 ≤ 1000 by decide), hR s ⟨h1, h2, by omega, hu⟩⟩
theorem ok_growing {P : Program} {w : World} {K : PySem.W.Frag} {mg : Str → Option Value} {base : Heap} (T : Txt K mg) (F : Dfn K mg d_growing) (c_check_form : Fn P w K mg base 8 "check_form" ["tangle"] pm_check_form) (c_grown : Fn P w K mg base 3 "grown" ["moves"] pm_grown) : Fn P w K mg base 9 "growing" ["tangle"] pm_growing := by
  obtain ⟨fd, F, hm⟩ := F.ex
  refine ⟨_, fd, fn_G (k := 8) (pm := pm_growing) F sc_growing (fun cdv A outer s H E hr C => (gss_cons (gs_expr (ge_fn C c_check_form (hr.mono (by decide)) (ga_cons (ge_var (i := 0)) ga_nil)))
      (gss_one (gs_ret (ge_fn C c_grown (hr.mono (by decide)) (ga_cons (ge_cb cg_len T.m_len bt_len (ga_cons (ge_ix ig_seq (ge_var (i := 0)) ge_int) ga_nil)) ga_nil)))))) (fun as We R hl hp => ?_), hm, F.kp, F.bindsN (fun _ _ _ _ _ _ us hl => match us, hl with | [_], _ => rfl)⟩
  obtain ⟨goal, first, second, ms, rfl, hT, hk, hR⟩ := hp
  refine ⟨rfl, by simp [bors], goal, first, second, ms, rfl, hT, ?_⟩
  have el : ((mvD ms).length : Int) = (ms.length : Int) := by simp [mvD]
  refine ⟨rfl, by simp [bors], ms.length, ?_, hk, fun s hs => ?_⟩
  · rw [← el]
    rfl
  · exact hR s hs
theorem ok__law_is_pair {P : Program} {w : World} {K : PySem.W.Frag} {mg : Str → Option Value} {base : Heap} (T : Txt K mg) (F : Dfn K mg d__law_is_pair)  : Fn P w K mg base 1 "_law_is_pair" ["_law_thing"] pm__law_is_pair := by
  obtain ⟨fd, F, hm⟩ := F.ex
  refine ⟨_, fd, fn_G (k := 0) (pm := pm__law_is_pair) F sc__law_is_pair (fun cdv A outer s H E hr C => (gss_one (gs_ret (ge_and (ge_cb cg_isi T.m_isinstance bt_isinstance (ga_cons (ge_var (i := 0)) (ga_cons (ge_ty T.m_tuple bt_tuple) ga_nil))) (ge_one (ge_cmp og_eqI (ge_cb cg_len T.m_len bt_len (ga_cons (ge_var (i := 0)) ga_nil)) ge_int)))))) (fun as We R hl hp => ?_), hm, F.kp, F.bindsN (fun _ _ _ _ _ _ us hl => match us, hl with | [_], _ => rfl)⟩
  obtain ⟨d, rfl, hd, hR⟩ := hp
  refine isiP_i hd (by decide) ?_
  rw [isD_tup]
  cases d with
  | tup ds =>
    refine br_T rfl ?_
    have e : decide ((ds.length : Int) = 2) = isPairD (.tup ds) := by
      match ds with
      | [] => rfl
      | [_] => rfl
      | [_, _] => rfl
      | _ :: _ :: _ :: r =>
        have : ¬ (((r.length + 1 + 1 + 1 : Nat) : Int) = 2) := by omega
        simpa [isPairD] using this
    rw [← e] at hR
    exact hR
  | _ =>
    exact br_F rfl hR
theorem okg_law {P : Program} {w : World} {K : PySem.W.Frag} {mg : Str → Option Value} {base : Heap} {f : Addr} {fd : FuncData} (T : Txt K mg) (F : FunD K d_law.name d_law.qual d_law.params d_law.body d_law.scope [] [] f fd) (c__law_source : Fn P w K mg base 1 "_law_source" ["_law_script"] pm__law_source) (c__law_paper : Fn P w K mg base 2 "_law_paper" ["_law_source_here", "_law_names", "_law_many"] pm__law_paper) (c_growing : Fn P w K mg base 9 "growing" ["tangle"] pm_growing) (c_growth : Fn P w K mg base 9 "growth" ["tangle", "rate"] pm_growth) (c__law_draw : Fn P w K mg base 1 "_law_draw" ["_law_source_here", "_law_many"] pm__law_draw) (c__law_order : Fn P w K mg base 2 "_law_order" ["_law_source_here", "_law_size"] pm__law_order) (c_told_stock : Fn P w K mg base 9 "told_stock" ["tangle", "rate", "stock"] pm_told_stock) (c__law_told : Fn P w K mg base 1 "_law_told" ["_law_many", "_law_rate", "_law_stock"] pm__law_told) (c__law_is_pair : Fn P w K mg base 1 "_law_is_pair" ["_law_thing"] pm__law_is_pair) (c__law_is_integer : Fn P w K mg base 1 "_law_is_integer" ["_law_thing"] pm__law_is_integer) : FnG P w K mg base 10 f fd ["_law_script"] pm_law := by
  refine fn_G (k := 9) (pm := pm_law) F sc_law (fun cdv A outer s H E hr C => (gss_cons (gs_set (i := 1) C.nd (ge_fn C c__law_source (hr.mono (by decide)) (ga_cons (ge_var (i := 0)) ga_nil)))
      (gss_cut (gs_set (i := 2) C.nd (ge_op og_add ge_int (ge_fn C c__law_draw (hr.mono (by decide)) (ga_bor (i := 1) (ga_cons ge_int ga_nil)))))
      (gss_cons (gs_set (i := 3) C.nd (ge_op og_add ge_int (ge_fn C c__law_draw (hr.mono (by decide)) (ga_bor (i := 1) (ga_cons ge_int ga_nil)))))
      (gss_cons (gs_set (i := 4) C.nd (ge_fn C c__law_paper (hr.mono (by decide)) (ga_bor (i := 1) (ga_cons (ge_fn C c__law_order (hr.mono (by decide)) (ga_bor (i := 1) (ga_cons ge_int ga_nil))) (ga_cons (ge_var (i := 2)) ga_nil)))))
      (gss_cons (gs_set (i := 5) C.nd (ge_fn C c_growing (hr.mono (by decide)) (ga_cons (ge_var (i := 4)) ga_nil)))
      (gss_cons (gs_set (i := 6) C.nd (ge_tup (ga_cons (ge_op og_add (ge_op og_mul ge_int (ge_var (i := 2))) ge_int) (ga_cons (ge_op og_add (ge_op og_mul ge_int (ge_var (i := 2))) ge_int) ga_nil))))
      (gss_cons (gs_if (GW.gt (gw_or (gt_not (gt_val (ge_fn C c__law_is_pair (hr.mono (by decide)) (ga_cons (ge_var (i := 5)) ga_nil)))) (gw_or (gt_not (gt_val (ge_fn C c__law_is_pair (hr.mono (by decide)) (ga_cons (ge_ix ig_seq (ge_var (i := 5)) ge_int) ga_nil)))) (gw_or1 (gt_not (gt_val (ge_cb (cg_all C.calm) T.m_all bt_all (ga_cons (ge_lc (own := [("_law_part", 12)]) C.calm C.nd (gi_tup (ge_ix ig_seq (ge_var (i := 5)) ge_int)) (blkOk_by (N := ["_law_script", "_law_source_here", "_law_many", "_law_steps", "_law_paper_here", "_law_found", "_law_rate", "_law_stock", "_law_more", "_law_k", "_law_due", "_law_factor", "_law_part"]) (sc := (defScope s_law)) (by decide +kernel)) (fun _ _ _ _ _ => (gb_name (i := 12) C.nd)) (fun _ _ _ _ _ => gts_nil) (fun _ _ _ _ _ => (ge_fn (Ctx.blk C) c__law_is_integer (hr.mono (by decide)) (ga_cons (ge_var (i := 12)) ga_nil)))) ga_nil)))))))) (gss_one (gs_ret ge_bl)) gss_nil)
      (gss_cons (gs_if (GW.gt (gw_or (gt_cmp (og_ne hr.units) (ge_ix ig_seq (ge_var (i := 5)) ge_int) (ge_var (i := 6))) (gw_or (gt_not (gt_val (ge_fn C c__law_is_integer (hr.mono (by decide)) (ga_cons (ge_ix ig_seq (ge_var (i := 5)) ge_int) ga_nil)))) (gw_or1 (gt_not (gt_chain og_le og_le ge_int (ge_ix ig_seq (ge_var (i := 5)) ge_int) (ge_op og_add (ge_op og_mul ge_int (ge_var (i := 2))) ge_int))))))) (gss_one (gs_ret ge_bl)) gss_nil)
      (gss_cons (gs_set (i := 7) C.nd (ge_ix ig_seq (ge_var (i := 5)) ge_int))
      (gss_cut (gs_if (GW.gt (gw_and (gt_cmp og_gt (ge_var (i := 7)) ge_int) (gw_and1 (gt_cmp og_gt (ge_fn C c__law_told (hr.mono (by decide)) (ga_cons (ge_var (i := 2)) (ga_cons (ge_var (i := 6)) (ga_cons (ge_op og_sub (ge_var (i := 7)) ge_int) ga_nil)))) (ge_op og_sub (ge_var (i := 7)) ge_int))))) (gss_one (gs_ret ge_bl)) gss_nil)
      (gss_cons (gs_if (gt_cmp og_neI (ge_fn C c_told_stock (hr.mono (by decide)) (ga_cons (ge_var (i := 4)) (ga_cons (ge_var (i := 6)) (ga_cons (ge_op og_sub (ge_var (i := 7)) ge_int) ga_nil)))) (ge_fn C c__law_told (hr.mono (by decide)) (ga_cons (ge_var (i := 2)) (ga_cons (ge_var (i := 6)) (ga_cons (ge_op og_sub (ge_var (i := 7)) ge_int) ga_nil))))) (gss_one (gs_ret ge_bl)) gss_nil)
      (gss_cons (gs_for C.po C.calm (gi_r2 T.m_range (ga_cons (ge_var (i := 7)) (ga_cons (ge_op og_add (ge_op og_mul ge_int (ge_var (i := 2))) ge_int) ga_nil))) (gg_name (i := 8) C.nd) (gss_one (gs_if (gt_cmp og_le (ge_fn C c__law_told (hr.mono (by decide)) (ga_cons (ge_var (i := 2)) (ga_cons (ge_var (i := 6)) (ga_cons (ge_var (i := 8)) ga_nil)))) (ge_var (i := 8))) (gss_one (gs_ret ge_bl)) gss_nil)))
      (gss_cons (gs_for C.po C.calm (gi_r1 T.m_range (ga_cons (ge_var (i := 3)) ga_nil)) (gg_name (i := 9) C.nd) (gss_cons (gs_set (i := 10) C.nd (ge_fn C c__law_told (hr.mono (by decide)) (ga_cons (ge_var (i := 2)) (ga_cons (ge_var (i := 6)) (ga_cons (ge_var (i := 7)) ga_nil)))))
      (gss_cons (gs_if (GW.gt (gw_or (gt_cmp og_neI (ge_fn C c_told_stock (hr.mono (by decide)) (ga_cons (ge_var (i := 4)) (ga_cons (ge_var (i := 6)) (ga_cons (ge_var (i := 7)) ga_nil)))) (ge_var (i := 10))) (gw_or1 (gt_cmp og_le (ge_var (i := 10)) (ge_var (i := 7)))))) (gss_one (gs_ret ge_bl)) gss_nil)
      (gss_one (gs_set (i := 7) C.nd (ge_cb (cg_min2 C.calm) T.m_min bt_min (ga_cons (ge_op og_pow ge_int ge_int) (ga_cons (ge_op og_add (ge_op og_add (ge_var (i := 7)) (ge_fn C c__law_draw (hr.mono (by decide)) (ga_bor (i := 1) (ga_cons ge_int ga_nil)))) (ge_op og_mul (ge_op og_mul (ge_op og_mul (ge_op og_mul (ge_fn C c__law_draw (hr.mono (by decide)) (ga_bor (i := 1) (ga_cons ge_int ga_nil))) (ge_var (i := 9))) (ge_var (i := 9))) (ge_var (i := 9))) (ge_var (i := 9)))) ga_nil))))))))
      (gss_cons (gs_set (i := 11) C.nd (ge_fn C c_growth (hr.mono (by decide)) (ga_cons (ge_var (i := 4)) (ga_cons (ge_var (i := 6)) ga_nil))))
      (gss_one (gs_ret (ge_and (ge_fn C c__law_is_pair (hr.mono (by decide)) (ga_cons (ge_var (i := 11)) ga_nil)) (ge_one (ge_cmp og_gt (ge_ix ig_seq (ge_var (i := 11)) ge_int) (ge_ix ig_seq (ge_var (i := 11)) ge_int))))))))))))))))))))) (fun as We R hl hp => ?_)
  obtain ⟨ns, rfl, hn, hR⟩ := hp
  refine ⟨rfl, by simp [bors], ns, rfl, hn, fun p s0 hs0 => ?_⟩
  refine ⟨fun g => ∃ (s : Src) (k : Nat), s.Ok ∧ 2 ≤ k ∧ k ≤ 39 ∧ g = [some (.pur (.lst (ns.map .int))), some (srcO p s), pi k, none, none, none, none, none, none, none, none, none, none], ?_, ?_⟩
  · refine ⟨trivial, rfl, by simp [bors], p, s0, 38, rfl, by decide, by decide, hs0, fun v s1 h0 h1 hs1 => ?_⟩
    refine ⟨s1, (2 + v).toNat, hs1, by omega, by omega, ?_⟩
    rw [show (((2 + v).toNat : Nat) : Int) = 2 + v by omega]
    rfl
  rintro g ⟨s1, k, hs1, hk2, hk, rfl⟩
  refine ⟨trivial, rfl, by simp [bors], p, s1, 8, rfl, by decide, by decide, hs1, fun w1 s2 hw0 hw1 hs2 => ?_⟩
  refine ⟨trivial, trivial, rfl, by simp [bors], p, s2, 40, rfl, by decide, hs2, fun q fs s3 hp3 hs3 => ?_⟩
  refine ⟨rfl, by simp [bors], p, s3, fs, k, ?_, hk2, hk, hp3, hs3, fun g1 f1 c1 ms1 s4 hT1 hm1 hs4 => ?_⟩
  · show [srcO p s3, .pur (.lst (O.dL ((fs.map D.int).map .pur))), .pur (.int k)] = _
    rw [dL_pur]
  refine ⟨rfl, by simp [bors], g1, f1, c1, ms1, rfl, hT1, by omega, ?_⟩
  rw [hm1]
  intro s hG
  have r := rat_ok (k := k) (by omega)
  have key : ∀ y, s ≤ y → y < toldI k (20 * k + 19) (20 * k + 20) y := fun y hy => by
    rcases Int.lt_or_le y (6 * k + 6) with h | h
    · exact hG.up y hy h
    · exact told_big h (by omega)
  have := hG.lo
  have := hG.hi
  refine ⟨.inl ⟨by decide, by decide⟩, .inl ⟨by decide, by decide⟩, sz (show 2 ≤ 1000 by decide), ?_⟩
  refine ⟨rfl, by simp [bors], _, rfl, rfl, ?_⟩
  refine br_F rfl ?_
  refine ⟨rfl, by simp [bors], _, rfl, rfl, ?_⟩
  refine br_F rfl ?_
  refine lc_of (fun d => .bl (isIntD d)) [.int (20 * k + 19), .int (20 * k + 20)] ?_ (sz (show 2 ≤ 1000 by decide)) ?_ fun p2 => ?_
  · exact fun Q q => q
  · intro i d Q Q0 hi hQ
    refine br_T rfl ?_
    exact ⟨rfl, by simp [bors], d, rfl, all_ok_at (ds := [.int (20 * k + 19), .int (20 * k + 20)]) rfl hi, hQ⟩
  refine all_lc ?_
  refine br_F rfl ?_
  refine roEq_fr ?_
  refine br_F rfl ?_
  refine ⟨rfl, by simp [bors], .int s, rfl, rfl, ?_⟩
  refine br_F rfl ?_
  refine br_T (decide_eq_true hG.lo) ?_
  refine ⟨.inl ⟨by decide, by decide⟩, ?_⟩
  refine br_F (by rw [decide_eq_true hG.hi]; rfl) ?_
  refine ⟨fun g => g = [some (.pur (.lst (ns.map .int))), some (srcO p s4), pi k, pi (1 + w1), some (.pur (tgD g1 f1 c1 ms1)), some (.pur (.tup [ratK k, .int s])), some (.pur (ratK k)), pi s, none, none, none, none, none], ?_, ?_⟩
  · refine br_i (fun h => ?_) fun h => ?_
    · refine ⟨rfl, by simp [bors], k, _, _, s - 1, rfl, by omega, r, fun x => ?_⟩
      have := hG.out
      exact br_F (decide_eq_false (by omega)) rfl
    · exact br_F rfl rfl
  rintro g rfl
  refine ⟨rfl, by simp [bors], g1, f1, c1, ms1, _, _, s - 1, rfl, hT1, r, by omega, by omega, ?_⟩
  refine ⟨rfl, by simp [bors], k, _, _, s - 1, rfl, by omega, r, fun x => ?_⟩
  refine br_F (by simp [hm1]) ?_
  refine ⟨.inl ⟨by decide, by decide⟩, ⟨by omega, by omega, by omega, by omega⟩, fun i g => ∃ x, g = [some (.pur (.lst (ns.map .int))), some (srcO p s4), pi k, pi (1 + w1), some (.pur (tgD g1 f1 c1 ms1)), some (.pur (.tup [ratK k, .int s])), some (.pur (ratK k)), pi s, x, none, none, none, none], ⟨none, rfl⟩, ?_, ?_⟩
  · rintro i d g e ⟨x, rfl⟩
    obtain ⟨rfl, hi⟩ := rng_at e
    refine ⟨rfl, by simp [bors], k, _, _, s + (i : Nat), rfl, by omega, r, fun x => ?_⟩
    have := key (s + (i : Nat)) (by omega)
    exact br_F (decide_eq_false (by omega)) ⟨pi (s + (i : Nat)), rfl⟩
  rintro g ⟨x0, rfl⟩
  refine ⟨by omega, by omega, fun i g => ∃ (st : Int) (s' : Src) (x y : Option O), s ≤ st ∧ st ≤ 1000000000 ∧ s'.Ok ∧ g = [some (.pur (.lst (ns.map .int))), some (srcO p s'), pi k, pi (1 + w1), some (.pur (tgD g1 f1 c1 ms1)), some (.pur (.tup [ratK k, .int s])), some (.pur (ratK k)), pi st, x0, x, y, none, none],
    ⟨s, s4, none, none, Int.le_refl _, by omega, hs4, rfl⟩, ?_, ?_⟩
  · rintro i d g e ⟨st, s', x, y, hst0, hst1, hs', rfl⟩
    obtain ⟨rfl, hi⟩ := rng_at e
    have hk' := key st hst0
    refine ⟨rfl, by simp [bors], k, _, _, st, rfl, by omega, r, fun x => ?_⟩
    refine ⟨rfl, by simp [bors], g1, f1, c1, ms1, _, _, st, rfl, hT1, r, by omega, by omega, ?_⟩
    refine br_F (by simp [hm1]) ?_
    refine br_F (decide_eq_false (by omega)) ?_
    refine ⟨⟨by decide, by decide, by decide⟩, ?_⟩
    refine ⟨trivial, rfl, by simp [bors], p, s', 3, rfl, by decide, by decide, hs', fun v s5 hv0 hv1 hs5 => ?_⟩
    refine ⟨trivial, rfl, by simp [bors], p, s5, 1000, rfl, by decide, by decide, hs5, fun u s6 hu0 hu1 hs6 => ?_⟩
    refine ⟨.inr ⟨by omega, by omega⟩, .inr ⟨by omega, by omega⟩, .inr ⟨by omega, by omega⟩, .inr ⟨by omega, by omega⟩, ?_⟩
    have hz : 0 ≤ u * (0 + (i : Int)) * (0 + (i : Int)) * (0 + (i : Int)) * (0 + (i : Int)) := by
      have hi0 : 0 ≤ 0 + (i : Int) := by omega
      exact Int.mul_nonneg (Int.mul_nonneg (Int.mul_nonneg (Int.mul_nonneg hu0 hi0) hi0) hi0) hi0
    have e9 : (10 : Int) ^ (9 : Int).toNat = 1000000000 := rfl
    refine ⟨if st + v + u * (0 + (i : Int)) * (0 + (i : Int)) * (0 + (i : Int)) * (0 + (i : Int)) < 10 ^ (9 : Int).toNat then st + v + u * (0 + (i : Int)) * (0 + (i : Int)) * (0 + (i : Int)) * (0 + (i : Int)) else 10 ^ (9 : Int).toNat, s6, pi (0 + (i : Nat)), pi _, ?_, ?_, hs6, rfl⟩
    · rw [e9]
      split <;> omega
    · rw [e9]
      split <;> omega
  rintro g ⟨st, s', x, y, hst0, hst1, hs', rfl⟩
  refine ⟨rfl, by simp [bors], g1, f1, c1, ms1, _, _, rfl, hT1, by omega, r, ?_⟩
  rw [hm1]
  refine ⟨rfl, by simp [bors], _, rfl, rfl, ?_⟩
  refine br_T rfl ?_
  have gB : 0 < growB (20 * k + 20) (2 * k + 2) := Int.mul_pos (by omega) (Int.pow_pos (by omega))
  have e := decide_eq_true (low_gt gB (grow_gt (k := k)))
  rw [← e] at hR
  exact hR

end K59
namespace K59
open PySem PySem.Spec PyProof.Rows L2 G

theorem pm_true (ns : List Int) (hl : ns.length ≤ 63) (_ : ∀ z ∈ ns, Builtin.Int.intBits z ≤ 1048576) : pm_law [.pur (.lst (ns.map .int))] (fun _ _ => False) (fun o _ => o = .pur (.bl true)) := ⟨ns, rfl, hl, rfl⟩
def lo0 : List PySem.Str := ["common_divisor", "made", "is_integer", "is_within", "is_pair", "is_road", "is_way", "is_roads_pair", "is_fraction", "is_rate", "check_rate", "are_moves", "is_tangle_form", "part_of", "check_form", "told", "told_stock", "growth", "grown", "growing", "_law_source", "_law_draw", "_law_order", "_law_is_integer", "_law_paper", "_law_told", "_law_is_pair", "MOST_ROADS", "MOST_WAY", "MOST_BOTTOM"]
def lo1 : List PySem.Str := ["MOST_TOLD_STOCK", "ThrongError", "NoRate", "NoTangle", "NoStock"]
abbrev loose : List PySem.Str := lo0 ++ lo1
def fn : List He.DefD := [d_common_divisor, d_made, d_is_integer, d_is_within, d_is_pair, d_is_road, d_is_way, d_is_roads_pair, d_is_fraction, d_is_rate, d_check_rate, d_are_moves, d_is_tangle_form, d_part_of, d_check_form, d_told, d_told_stock, d_growth, d_grown, d_growing, d__law_source, d__law_draw, d__law_order, d__law_is_integer, d__law_paper, d__law_told, d__law_is_pair, d_law]
def fa : List He.Fa := [.glo "common_divisor", .glo "made", .glo "is_integer", .glo "is_within", .glo "is_pair", .glo "is_road", .glo "is_way", .glo "is_roads_pair", .glo "is_fraction", .glo "is_rate", .glo "check_rate", .glo "are_moves", .glo "is_tangle_form", .glo "part_of", .glo "check_form", .glo "told", .glo "told_stock", .glo "growth", .glo "grown", .glo "growing", .glo "_law_source", .glo "_law_draw", .glo "_law_order", .glo "_law_is_integer", .glo "_law_paper", .glo "_law_told", .glo "_law_is_pair", .glo "law", .free "ValueError", .free "abs", .free "all", .free "bool", .free "int", .free "isinstance", .free "len", .free "list", .free "min", .free "range", .free "set", .free "tuple", .int "MOST_ROADS" 40, .int "MOST_WAY" 8, .int "MOST_BOTTOM" 1000, .int "MOST_TOLD_STOCK" 1000000000]
abbrev R : PySem.W.OpenRow := PySem.W.OpenLaw.row PySem.Challenge.rw_throngways_k59_whole_growing
abbrev hk : PySem.W.Hook := He.hookD 4 fa fn
def ob (s : PySem.W.SharedT) : He.AlD := He.obsDG 4 fa fn (HandSHeadRun.getT s)
theorem ob_eq (s : PySem.W.SharedT) : ob s = hk.obs s.abs := He.obsDG_eq (HandSHeadRun.getT_eq s)
theorem run (w : World) : HandSHeadRun.RunEq R (PySem.W.view R.prog [41]) hk ob 6000 loose w := by
  intro os
  kernel_rfl
theorem facts {P : Program} {w : World} {K : PySem.W.Frag} {h : Heap} {mg : Str → Option Value} {f : Addr} (X : K.In h) (G : h.Ns mainGlobals mg) (hfa : mg ("law" : Str) = some (.ref f)) (c : He.SaysD fa fn K) :
    ∃ fd : FuncData, (∀ (s : Shared) (v : Value), BindsTo s fd ⟨[v], []⟩ [("_law_script", v)]) ∧ ∀ base : Heap, K.In base → base.Ns mainGlobals mg → FnG P w K mg base 10 f fd ["_law_script"] pm_law := by
  have T : Txt K mg := ⟨He.free_ok X G (c.fact 28 (f := .free "ValueError") rfl), He.free_ok X G (c.fact 29 (f := .free "abs") rfl), He.free_ok X G (c.fact 30 (f := .free "all") rfl), He.free_ok X G (c.fact 31 (f := .free "bool") rfl), He.free_ok X G (c.fact 32 (f := .free "int") rfl), He.free_ok X G (c.fact 33 (f := .free "isinstance") rfl), He.free_ok X G (c.fact 34 (f := .free "len") rfl), He.free_ok X G (c.fact 35 (f := .free "list") rfl), He.free_ok X G (c.fact 36 (f := .free "min") rfl), He.free_ok X G (c.fact 37 (f := .free "range") rfl), He.free_ok X G (c.fact 38 (f := .free "set") rfl), He.free_ok X G (c.fact 39 (f := .free "tuple") rfl), He.int_ok X G (c.fact 40 (f := .int "MOST_ROADS" 40) rfl), He.int_ok X G (c.fact 41 (f := .int "MOST_WAY" 8) rfl), He.int_ok X G (c.fact 42 (f := .int "MOST_BOTTOM" 1000) rfl), He.int_ok X G (c.fact 43 (f := .int "MOST_TOLD_STOCK" 1000000000) rfl)⟩
  have D_common_divisor : Dfn K mg d_common_divisor := ⟨by
    obtain ⟨fd, F⟩ := c.def_ 0 (d := d_common_divisor) rfl
    exact ⟨fd, F, He.glo_ok X G (c.fact 0 (f := .glo "common_divisor") rfl)⟩⟩
  have D_made : Dfn K mg d_made := ⟨by
    obtain ⟨fd, F⟩ := c.def_ 1 (d := d_made) rfl
    exact ⟨fd, F, He.glo_ok X G (c.fact 1 (f := .glo "made") rfl)⟩⟩
  have D_is_integer : Dfn K mg d_is_integer := ⟨by
    obtain ⟨fd, F⟩ := c.def_ 2 (d := d_is_integer) rfl
    exact ⟨fd, F, He.glo_ok X G (c.fact 2 (f := .glo "is_integer") rfl)⟩⟩
  have D_is_within : Dfn K mg d_is_within := ⟨by
    obtain ⟨fd, F⟩ := c.def_ 3 (d := d_is_within) rfl
    exact ⟨fd, F, He.glo_ok X G (c.fact 3 (f := .glo "is_within") rfl)⟩⟩
  have D_is_pair : Dfn K mg d_is_pair := ⟨by
    obtain ⟨fd, F⟩ := c.def_ 4 (d := d_is_pair) rfl
    exact ⟨fd, F, He.glo_ok X G (c.fact 4 (f := .glo "is_pair") rfl)⟩⟩
  have D_is_road : Dfn K mg d_is_road := ⟨by
    obtain ⟨fd, F⟩ := c.def_ 5 (d := d_is_road) rfl
    exact ⟨fd, F, He.glo_ok X G (c.fact 5 (f := .glo "is_road") rfl)⟩⟩
  have D_is_way : Dfn K mg d_is_way := ⟨by
    obtain ⟨fd, F⟩ := c.def_ 6 (d := d_is_way) rfl
    exact ⟨fd, F, He.glo_ok X G (c.fact 6 (f := .glo "is_way") rfl)⟩⟩
  have D_is_roads_pair : Dfn K mg d_is_roads_pair := ⟨by
    obtain ⟨fd, F⟩ := c.def_ 7 (d := d_is_roads_pair) rfl
    exact ⟨fd, F, He.glo_ok X G (c.fact 7 (f := .glo "is_roads_pair") rfl)⟩⟩
  have D_is_fraction : Dfn K mg d_is_fraction := ⟨by
    obtain ⟨fd, F⟩ := c.def_ 8 (d := d_is_fraction) rfl
    exact ⟨fd, F, He.glo_ok X G (c.fact 8 (f := .glo "is_fraction") rfl)⟩⟩
  have D_is_rate : Dfn K mg d_is_rate := ⟨by
    obtain ⟨fd, F⟩ := c.def_ 9 (d := d_is_rate) rfl
    exact ⟨fd, F, He.glo_ok X G (c.fact 9 (f := .glo "is_rate") rfl)⟩⟩
  have D_check_rate : Dfn K mg d_check_rate := ⟨by
    obtain ⟨fd, F⟩ := c.def_ 10 (d := d_check_rate) rfl
    exact ⟨fd, F, He.glo_ok X G (c.fact 10 (f := .glo "check_rate") rfl)⟩⟩
  have D_are_moves : Dfn K mg d_are_moves := ⟨by
    obtain ⟨fd, F⟩ := c.def_ 11 (d := d_are_moves) rfl
    exact ⟨fd, F, He.glo_ok X G (c.fact 11 (f := .glo "are_moves") rfl)⟩⟩
  have D_is_tangle_form : Dfn K mg d_is_tangle_form := ⟨by
    obtain ⟨fd, F⟩ := c.def_ 12 (d := d_is_tangle_form) rfl
    exact ⟨fd, F, He.glo_ok X G (c.fact 12 (f := .glo "is_tangle_form") rfl)⟩⟩
  have D_part_of : Dfn K mg d_part_of := ⟨by
    obtain ⟨fd, F⟩ := c.def_ 13 (d := d_part_of) rfl
    exact ⟨fd, F, He.glo_ok X G (c.fact 13 (f := .glo "part_of") rfl)⟩⟩
  have D_check_form : Dfn K mg d_check_form := ⟨by
    obtain ⟨fd, F⟩ := c.def_ 14 (d := d_check_form) rfl
    exact ⟨fd, F, He.glo_ok X G (c.fact 14 (f := .glo "check_form") rfl)⟩⟩
  have D_told : Dfn K mg d_told := ⟨by
    obtain ⟨fd, F⟩ := c.def_ 15 (d := d_told) rfl
    exact ⟨fd, F, He.glo_ok X G (c.fact 15 (f := .glo "told") rfl)⟩⟩
  have D_told_stock : Dfn K mg d_told_stock := ⟨by
    obtain ⟨fd, F⟩ := c.def_ 16 (d := d_told_stock) rfl
    exact ⟨fd, F, He.glo_ok X G (c.fact 16 (f := .glo "told_stock") rfl)⟩⟩
  have D_growth : Dfn K mg d_growth := ⟨by
    obtain ⟨fd, F⟩ := c.def_ 17 (d := d_growth) rfl
    exact ⟨fd, F, He.glo_ok X G (c.fact 17 (f := .glo "growth") rfl)⟩⟩
  have D_grown : Dfn K mg d_grown := ⟨by
    obtain ⟨fd, F⟩ := c.def_ 18 (d := d_grown) rfl
    exact ⟨fd, F, He.glo_ok X G (c.fact 18 (f := .glo "grown") rfl)⟩⟩
  have D_growing : Dfn K mg d_growing := ⟨by
    obtain ⟨fd, F⟩ := c.def_ 19 (d := d_growing) rfl
    exact ⟨fd, F, He.glo_ok X G (c.fact 19 (f := .glo "growing") rfl)⟩⟩
  have D__law_source : Dfn K mg d__law_source := ⟨by
    obtain ⟨fd, F⟩ := c.def_ 20 (d := d__law_source) rfl
    exact ⟨fd, F, He.glo_ok X G (c.fact 20 (f := .glo "_law_source") rfl)⟩⟩
  have D__law_draw : Dfn K mg d__law_draw := ⟨by
    obtain ⟨fd, F⟩ := c.def_ 21 (d := d__law_draw) rfl
    exact ⟨fd, F, He.glo_ok X G (c.fact 21 (f := .glo "_law_draw") rfl)⟩⟩
  have D__law_order : Dfn K mg d__law_order := ⟨by
    obtain ⟨fd, F⟩ := c.def_ 22 (d := d__law_order) rfl
    exact ⟨fd, F, He.glo_ok X G (c.fact 22 (f := .glo "_law_order") rfl)⟩⟩
  have D__law_is_integer : Dfn K mg d__law_is_integer := ⟨by
    obtain ⟨fd, F⟩ := c.def_ 23 (d := d__law_is_integer) rfl
    exact ⟨fd, F, He.glo_ok X G (c.fact 23 (f := .glo "_law_is_integer") rfl)⟩⟩
  have D__law_paper : Dfn K mg d__law_paper := ⟨by
    obtain ⟨fd, F⟩ := c.def_ 24 (d := d__law_paper) rfl
    exact ⟨fd, F, He.glo_ok X G (c.fact 24 (f := .glo "_law_paper") rfl)⟩⟩
  have D__law_told : Dfn K mg d__law_told := ⟨by
    obtain ⟨fd, F⟩ := c.def_ 25 (d := d__law_told) rfl
    exact ⟨fd, F, He.glo_ok X G (c.fact 25 (f := .glo "_law_told") rfl)⟩⟩
  have D__law_is_pair : Dfn K mg d__law_is_pair := ⟨by
    obtain ⟨fd, F⟩ := c.def_ 26 (d := d__law_is_pair) rfl
    exact ⟨fd, F, He.glo_ok X G (c.fact 26 (f := .glo "_law_is_pair") rfl)⟩⟩
  obtain ⟨fd, F⟩ := c.def_ 27 (d := d_law) rfl
  have e := hfa.symm.trans (He.glo_ok X G (c.fact 27 (f := .glo "law") rfl))
  cases e
  have b := FunD.bindsA (ps := ["_law_script"]) F fun _ _ _ _ _ _ us hl => match us, hl with | [_], _ => rfl
  refine ⟨fd, fun s v => b s [v] rfl, fun base _ _ => ?_⟩
  have c_common_divisor : Fn P w K mg base 1 "common_divisor" ["one", "other"] pm_common_divisor := ok_common_divisor T D_common_divisor 
  have c_is_integer : Fn P w K mg base 1 "is_integer" ["thing"] pm_is_integer := ok_is_integer T D_is_integer 
  have c_is_pair : Fn P w K mg base 1 "is_pair" ["thing"] pm_is_pair := ok_is_pair T D_is_pair 
  have c_part_of : Fn P w K mg base 1 "part_of" ["rate", "stock"] pm_part_of := ok_part_of T D_part_of 
  have c__law_source : Fn P w K mg base 1 "_law_source" ["_law_script"] pm__law_source := ok__law_source T D__law_source 
  have c__law_draw : Fn P w K mg base 1 "_law_draw" ["_law_source_here", "_law_many"] pm__law_draw := ok__law_draw T D__law_draw 
  have c__law_is_integer : Fn P w K mg base 1 "_law_is_integer" ["_law_thing"] pm__law_is_integer := ok__law_is_integer T D__law_is_integer 
  have c__law_told : Fn P w K mg base 1 "_law_told" ["_law_many", "_law_rate", "_law_stock"] pm__law_told := ok__law_told T D__law_told 
  have c__law_is_pair : Fn P w K mg base 1 "_law_is_pair" ["_law_thing"] pm__law_is_pair := ok__law_is_pair T D__law_is_pair 
  have c_made : Fn P w K mg base 2 "made" ["top", "bottom"] pm_made := ok_made T D_made c_common_divisor
  have c_is_within : Fn P w K mg base 2 "is_within" ["thing", "least", "most"] pm_is_within := ok_is_within T D_is_within c_is_integer
  have c_is_fraction : Fn P w K mg base 2 "is_fraction" ["thing"] pm_is_fraction := ok_is_fraction T D_is_fraction c_common_divisor c_is_pair c_is_integer
  have c_told : Fn P w K mg base 2 "told" ["moves", "rate", "stock"] pm_told := ok_told T D_told c_part_of
  have c__law_order : Fn P w K mg base 2 "_law_order" ["_law_source_here", "_law_size"] pm__law_order := ok__law_order T D__law_order c__law_draw
  have c__law_paper : Fn P w K mg base 2 "_law_paper" ["_law_source_here", "_law_names", "_law_many"] pm__law_paper := ok__law_paper T D__law_paper c__law_draw
  have c_is_road : Fn P w K mg base 3 "is_road" ["roads", "thing"] pm_is_road := ok_is_road T D_is_road c_is_within
  have c_is_rate : Fn P w K mg base 3 "is_rate" ["thing"] pm_is_rate := ok_is_rate T D_is_rate c_is_fraction
  have c_grown : Fn P w K mg base 3 "grown" ["moves"] pm_grown := ok_grown T D_grown c_made c_told
  have c_is_way : Fn P w K mg base 4 "is_way" ["roads", "thing"] pm_is_way := ok_is_way T D_is_way c_is_road
  have c_check_rate : Fn P w K mg base 4 "check_rate" ["thing"] pm_check_rate := ok_check_rate T D_check_rate c_is_rate
  have c_is_roads_pair : Fn P w K mg base 5 "is_roads_pair" ["roads", "thing"] pm_is_roads_pair := ok_is_roads_pair T D_is_roads_pair c_is_pair c_is_way
  have c_are_moves : Fn P w K mg base 6 "are_moves" ["goal", "thing"] pm_are_moves := ok_are_moves T D_are_moves c_is_roads_pair
  have c_is_tangle_form : Fn P w K mg base 7 "is_tangle_form" ["thing"] pm_is_tangle_form := ok_is_tangle_form T D_is_tangle_form c_are_moves c_is_road
  have c_check_form : Fn P w K mg base 8 "check_form" ["tangle"] pm_check_form := ok_check_form T D_check_form c_is_tangle_form
  have c_told_stock : Fn P w K mg base 9 "told_stock" ["tangle", "rate", "stock"] pm_told_stock := ok_told_stock T D_told_stock c_check_form c_check_rate c_told c_is_within
  have c_growth : Fn P w K mg base 9 "growth" ["tangle", "rate"] pm_growth := ok_growth T D_growth c_check_form c_check_rate c_made
  have c_growing : Fn P w K mg base 9 "growing" ["tangle"] pm_growing := ok_growing T D_growing c_check_form c_grown
  exact okg_law T F c__law_source c__law_paper c_growing c_growth c__law_draw c__law_order c_told_stock c__law_told c__law_is_pair c__law_is_integer
end K59
open PySem PySem.W PySem.Calls PyProof.Rows
theorem PySem.Challenge.cw_throngways_k59_whole_growing_holds : PySem.Challenge.rw_throngways_k59_whole_growing.Holds := by
  w_on; o_law
  refine HandSHeadRun.head_any (r := OpenLaw.row PySem.Challenge.rw_throngways_k59_whole_growing) (q := view (OpenLaw.row PySem.Challenge.rw_throngways_k59_whole_growing).prog [41]) (H := K59.hk) (ob := K59.ob) (M := 6000) (loose := K59.loose) (d := HandSHeadRun.topDef (OpenLaw.row PySem.Challenge.rw_throngways_k59_whole_growing).prog 41) (kwd := []) K59.ob_eq
    (by kernel_rfl) (fun s => by kernel_rfl) K59.run (by kernel_rfl) (by kernel_rfl) (by kernel_rfl) (by rfl) (by first | assumption | decide +kernel) (by decide +kernel) ⟨rfl, rfl, rfl, rfl, rfl, by decide +kernel⟩ ?hw ?hc
  case hw => w_witness2
  case hc =>
    refine LamX.walk_ofTsE (l := PySem.Challenge.rw_throngways_k59_whole_growing) (n := 63) (k := 10) (x := "_law_script") (CX := fun w => L2.CX (PySem.Challenge.rw_throngways_k59_whole_growing).prog w) rfl (by decide) (by kernel_rfl) ⟨rfl, by decide, by decide⟩ ?F ?C
    case C => exact fun w H s e s' z => G.cx_false z
    intro w mg fa h Y GN hmg0
    obtain ⟨K, KX, c⟩ := Y
    have hmg : mg ("law" : PySem.Str) = some (.ref fa) := by
      have e : (HandSHeadRun.topDef (OpenLaw.row PySem.Challenge.rw_throngways_k59_whole_growing).prog 41).name = ("law" : PySem.Str) := by kernel_rfl
      rw [← e]
      exact hmg0
    obtain ⟨fd, hb, hF⟩ := K59.facts (P := (PySem.Challenge.rw_throngways_k59_whole_growing).prog) (w := w) KX GN hmg c
    refine ⟨K, KX, fd, [], G.spOf K 1 K59.pm_law, fun p z => (List.not_mem_nil z).elim, fun p z => (List.not_mem_nil z).elim, fun p z => (List.not_mem_nil z).elim, hb, fun H a ns hl hz _ hS => ?_, fun base h1 h2 _ => hF base h1 h2⟩
    exact G.law_start hS (K59.pm_true ns hl hz)
